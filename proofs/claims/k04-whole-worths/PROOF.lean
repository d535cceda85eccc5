import PyProof.Rows.All
import Wide.All
import OpenK.AllK
import Wide.FinOn
import HandS.ForMost
import HandS.Codes
import HandS.IsInst
import HandS.DictComp
import HandS.Conv
import HandS.More
import HandS.Wide
import HandS.Zip
import HandS.Style
import HandS.Evl
import PySem.Challenge.RW_gameworths_k04_whole_worths
section
set_option Elab.async false
set_option linter.all false
set_option maxHeartbeats 4000000
/-! the plain law: fractions, worths, plans -/
namespace Gw
open PySem

/-! ### fractions -/
def fr (t b : Int) : Rat := mkRat t b.toNat
theorem fr_eq {t b : Int} (hb : 0 < b) : fr t b = (t : Rat) / (b : Rat) := by
  unfold fr
  rw [Rat.mkRat_eq_div]
  have e : ((b.toNat : Nat) : Rat) = (b : Rat) := by
    obtain ⟨n, rfl⟩ : ∃ n : Nat, b = (n : Int) := ⟨b.toNat, (Int.toNat_of_nonneg (by omega)).symm⟩
    rw [Int.toNat_natCast]
    rfl
  rw [e]
theorem fr_num {t b : Int} (hb : 0 < b) : (fr t b).num = t / ((Nat.gcd t.natAbs b.toNat : Nat) : Int) := by
  unfold fr
  rw [Rat.num_mkRat, if_neg (by omega), Nat.gcd_comm]
theorem fr_den {t b : Int} (hb : 0 < b) : ((fr t b).den : Int) = b / ((Nat.gcd t.natAbs b.toNat : Nat) : Int) := by
  unfold fr
  rw [Rat.den_mkRat, if_neg (by omega), Nat.gcd_comm]
  have : b = ((b.toNat : Nat) : Int) := (Int.toNat_of_nonneg (by omega)).symm
  conv => rhs; rw [this]
  rfl
theorem fr_self (q : Rat) : fr q.num (q.den : Int) = q := by
  unfold fr
  rw [Int.toNat_natCast, Rat.mkRat_self]
theorem den0 (q : Rat) : (0 : Int) < (q.den : Int) := by have := q.den_pos; omega
theorem rne {b : Int} (hb : 0 < b) : (b : Rat) ≠ 0 := fun h => by
  have : b = 0 := by
    apply Rat.intCast_inj.mp
    rw [h]; rfl
  omega
theorem rpos {b : Int} (hb : 0 < b) : (0 : Rat) < (b : Rat) := by
  have : ((0 : Int) : Rat) < (b : Rat) := Rat.intCast_lt_intCast.mpr hb
  simpa using this
theorem rnn {b : Int} (hb : 0 ≤ b) : (0 : Rat) ≤ (b : Rat) := by
  have : ((0 : Int) : Rat) ≤ (b : Rat) := Rat.intCast_le_intCast.mpr hb
  simpa using this
theorem num_den (q : Rat) : q = (q.num : Rat) / ((q.den : Int) : Rat) := by
  conv => lhs; rw [← fr_self q]
  exact fr_eq (den0 q)
theorem fr_less (p q : Rat) : decide (p.num * (q.den : Int) < q.num * (p.den : Int)) = decide (p < q) := decide_eq_decide.mpr (Rat.lt_iff p q).symm
/-- one more row of a mean -/
theorem fr_step {T B w : Int} (q : Rat) (hB : 0 < B) : fr (T * q.den + w * q.num * B) (B * q.den) = fr T B + (w : Rat) * q := by
  have hq := den0 q
  rw [fr_eq (Int.mul_pos hB hq), fr_eq hB, Rat.intCast_add, Rat.intCast_mul, Rat.intCast_mul, Rat.intCast_mul, Rat.intCast_mul]
  have e := num_den q
  have n1 := rne hB
  have n2 := rne hq
  generalize ((q.den : Int) : Rat) = d at *
  generalize (q.num : Rat) = n at *
  generalize (B : Rat) = B at *
  generalize (T : Rat) = T at *
  generalize (w : Rat) = w at *
  grind
theorem fr_div {T B w : Int} (hB : 0 < B) (hw : 0 < w) : fr T (B * w) = fr T B / (w : Rat) := by
  rw [fr_eq (Int.mul_pos hB hw), fr_eq hB, Rat.intCast_mul]
  have n1 := rne hB
  have n2 := rne hw
  generalize (B : Rat) = B at *
  generalize (T : Rat) = T at *
  generalize (w : Rat) = w at *
  grind

/-! ### means -/
def wsum : List (Int × Rat) → Rat
  | [] => 0
  | r :: l => (r.1 : Rat) * r.2 + wsum l
def wts : List (Int × Rat) → Int
  | [] => 0
  | r :: l => r.1 + wts l
def mean (l : List (Int × Rat)) : Rat := wsum l / (wts l : Rat)
theorem wsum_snoc (l : List (Int × Rat)) (r : Int × Rat) : wsum (l ++ [r]) = wsum l + (r.1 : Rat) * r.2 := by
  induction l with
  | nil => simp only [wsum, List.nil_append]; grind
  | cons a l ih => simp only [wsum, List.cons_append, ih]; grind
theorem wts_snoc (l : List (Int × Rat)) (r : Int × Rat) : wts (l ++ [r]) = wts l + r.1 := by
  induction l with
  | nil => simp only [wts, List.nil_append]; omega
  | cons a l ih => simp only [wts, List.cons_append, ih]; omega
theorem wts_sum (l : List (Int × Rat)) : wts l = (l.map (·.1)).sum := by
  induction l with
  | nil => rfl
  | cons a l ih => rw [List.map_cons, List.sum_cons, ← ih]; rfl
theorem wts_pos {l : List (Int × Rat)} (h : ∀ r ∈ l, 0 < r.1) (hn : l ≠ []) : 0 < wts l := by
  cases l with
  | nil => exact absurd rfl hn
  | cons a l =>
    have hl : ∀ m : List (Int × Rat), (∀ r ∈ m, 0 < r.1) → 0 ≤ wts m := by
      intro m
      induction m with
      | nil => intro _; exact Int.le_refl 0
      | cons b m ih =>
        intro hm
        have h1 := hm b (List.mem_cons_self ..)
        have h2 := ih fun r hr => hm r (List.mem_cons_of_mem _ hr)
        show 0 ≤ b.1 + wts m
        omega
    have h1 := h a (List.mem_cons_self ..)
    have h2 := hl l fun r hr => h r (List.mem_cons_of_mem _ hr)
    show 0 < a.1 + wts l
    omega
theorem wsum_mono (ws : List (Str × Int)) (f g : Str → Rat) (hw : ∀ l ∈ ws, 0 < l.2) (h : ∀ l ∈ ws, f l.1 ≤ g l.1) : wsum (ws.map fun l => (l.2, f l.1)) ≤ wsum (ws.map fun l => (l.2, g l.1)) := by
  induction ws with
  | nil => exact Rat.le_refl
  | cons a l ih =>
    have h1 := ih (fun r hr => hw r (List.mem_cons_of_mem _ hr)) fun r hr => h r (List.mem_cons_of_mem _ hr)
    have h2 : (a.2 : Rat) * f a.1 ≤ (a.2 : Rat) * g a.1 := Rat.mul_le_mul_of_nonneg_left (h a (List.mem_cons_self ..)) (rnn (by have := hw a (List.mem_cons_self ..); omega))
    show (a.2 : Rat) * f a.1 + wsum (l.map fun l => (l.2, f l.1)) ≤ (a.2 : Rat) * g a.1 + wsum (l.map fun l => (l.2, g l.1))
    grind
theorem div_mono {a b w : Rat} (h : a ≤ b) (hw : 0 < w) : a / w ≤ b / w := by
  rw [Rat.div_def, Rat.div_def, Rat.mul_comm a, Rat.mul_comm b]
  refine Rat.mul_le_mul_of_nonneg_left h ?_
  exact Rat.le_of_lt (Rat.inv_pos.mpr hw)
theorem wts_map (ws : List (Str × Int)) (f g : Str → Rat) : wts (ws.map fun l => (l.2, f l.1)) = wts (ws.map fun l => (l.2, g l.1)) := by
  induction ws with
  | nil => rfl
  | cons a l ih =>
    show a.2 + wts (l.map fun l => (l.2, f l.1)) = a.2 + wts (l.map fun l => (l.2, g l.1))
    rw [ih]
theorem wts_posS {ws : List (Str × Int)} (f : Str → Rat) (hw : ∀ l ∈ ws, 0 < l.2) (hn : ws ≠ []) : 0 < wts (ws.map fun l => (l.2, f l.1)) := by
  refine wts_pos (fun r hr => ?_) (by intro e; exact hn (List.map_eq_nil_iff.mp e))
  obtain ⟨l, hl, rfl⟩ := List.mem_map.mp hr
  exact hw l hl
theorem mean_mono (ws : List (Str × Int)) (f g : Str → Rat) (hn : ws ≠ []) (hw : ∀ l ∈ ws, 0 < l.2) (h : ∀ l ∈ ws, f l.1 ≤ g l.1) : mean (ws.map fun l => (l.2, f l.1)) ≤ mean (ws.map fun l => (l.2, g l.1)) := by
  unfold mean
  rw [wts_map ws f g]
  exact div_mono (wsum_mono ws f g hw h) (rpos (wts_posS g hw hn))

/-! ### the best of some -/
def stp (o : Bool) (a b : Rat) : Rat := if (if o then decide (a < b) else decide (b < a)) = true then b else a
def bst (o : Bool) : List Rat → Rat
  | [] => 0
  | x :: l => (x :: l).foldl (stp o) x
def leO (o : Bool) (a b : Rat) : Prop := if o then a ≤ b else b ≤ a
theorem leO_refl (o : Bool) (a : Rat) : leO o a a := by cases o <;> exact Rat.le_refl
theorem leO_trans {o : Bool} {a b c : Rat} (h : leO o a b) (k : leO o b c) : leO o a c := by
  cases o with
  | true => exact Rat.le_trans h k
  | false => exact Rat.le_trans k h
theorem stp_ge1 (o : Bool) (a b : Rat) : leO o a (stp o a b) := by
  unfold stp leO
  cases o with
  | true =>
    simp only [if_true, decide_eq_true_eq]
    split
    · rename_i h; exact Rat.le_of_lt h
    · exact Rat.le_refl
  | false =>
    simp only [Bool.false_eq_true, if_false, decide_eq_true_eq]
    split
    · rename_i h; exact Rat.le_of_lt h
    · exact Rat.le_refl
theorem stp_ge2 (o : Bool) (a b : Rat) : leO o b (stp o a b) := by
  unfold stp leO
  cases o with
  | true =>
    simp only [if_true, decide_eq_true_eq]
    split
    · exact Rat.le_refl
    · rename_i h; exact Rat.not_lt.mp h
  | false =>
    simp only [Bool.false_eq_true, if_false, decide_eq_true_eq]
    split
    · exact Rat.le_refl
    · rename_i h; exact Rat.not_lt.mp h
theorem stp_or (o : Bool) (a b : Rat) : stp o a b = a ∨ stp o a b = b := by
  unfold stp
  by_cases h : (if o then decide (a < b) else decide (b < a)) = true
  · exact .inr (if_pos h)
  · exact .inl (if_neg h)
theorem fold_ge (o : Bool) : ∀ (l : List Rat) (a : Rat), leO o a (l.foldl (stp o) a) ∧ ∀ y ∈ l, leO o y (l.foldl (stp o) a)
  | [], a => ⟨leO_refl o a, fun _ h => nomatch h⟩
  | x :: l, a => by
    obtain ⟨h1, h2⟩ := fold_ge o l (stp o a x)
    refine ⟨leO_trans (stp_ge1 o a x) h1, fun y hy => ?_⟩
    rcases List.mem_cons.mp hy with rfl | hy
    · exact leO_trans (stp_ge2 o a y) h1
    · exact h2 y hy
theorem fold_mem (o : Bool) : ∀ (l : List Rat) (a : Rat), l.foldl (stp o) a = a ∨ l.foldl (stp o) a ∈ l
  | [], a => .inl rfl
  | x :: l, a => by
    rcases fold_mem o l (stp o a x) with h | h
    · rcases stp_or o a x with e | e
      · left
        show l.foldl (stp o) (stp o a x) = a
        rw [h, e]
      · right
        show l.foldl (stp o) (stp o a x) ∈ x :: l
        rw [h, e]
        exact List.mem_cons_self ..
    · exact .inr (List.mem_cons_of_mem _ h)
theorem bst_ge {o : Bool} {l : List Rat} {y : Rat} (h : y ∈ l) : leO o y (bst o l) := by
  cases l with
  | nil => cases h
  | cons x l => exact (fold_ge o (x :: l) x).2 y h
theorem bst_mem {o : Bool} {l : List Rat} (h : l ≠ []) : bst o l ∈ l := by
  cases l with
  | nil => exact absurd rfl h
  | cons x l =>
    rcases fold_mem o (x :: l) x with e | e
    · show (x :: l).foldl (stp o) x ∈ x :: l
      rw [e]
      exact List.mem_cons_self ..
    · exact e

/-! ### games -/
inductive Pl where
  | mv (o : Bool) (ms : List (Str × Str))
  | chance (ls : List (Str × Int))
  | fin (t b : Int)
abbrev Gm := List (Str × Pl)
def look {α : Type} : List (Str × α) → Str → Option α
  | [], _ => none
  | p :: r, n => if p.1 = n then some p.2 else look r n
theorem look_mem {α : Type} : ∀ {g : List (Str × α)} {n : Str} {p : α}, look g n = some p → (n, p) ∈ g
  | [], n, p, h => nomatch h
  | q :: r, n, p, h => by
    unfold look at h
    split at h
    · rename_i e
      cases h
      rw [← e]
      exact List.mem_cons_self ..
    · exact List.mem_cons_of_mem _ (look_mem h)
theorem look_of {α : Type} : ∀ {g : List (Str × α)} {n : Str} {p : α}, (g.map (·.1)).Nodup → (n, p) ∈ g → look g n = some p
  | [], n, p, _, h => nomatch h
  | q :: r, n, p, hn, h => by
    rw [List.map_cons, List.nodup_cons] at hn
    unfold look
    rcases List.mem_cons.mp h with e | h
    · subst e; rw [if_pos rfl]
    · have : q.1 ≠ n := fun e => hn.1 (by rw [e]; exact List.mem_map.mpr ⟨(n, p), h, rfl⟩)
      rw [if_neg this]
      exact look_of hn.2 h
theorem look_some {α : Type} : ∀ {g : List (Str × α)} {n : Str}, n ∈ g.map (·.1) → ∃ p, look g n = some p
  | [], n, h => nomatch h
  | q :: r, n, h => by
    unfold look
    by_cases e : q.1 = n
    · exact ⟨q.2, by rw [if_pos e]⟩
    · rw [if_neg e]
      rw [List.map_cons] at h
      rcases List.mem_cons.mp h with h | h
      · exact absurd h.symm e
      · exact look_some h
theorem look_in {α : Type} {g : List (Str × α)} {n : Str} {p : α} (h : look g n = some p) : n ∈ g.map (·.1) := List.mem_map.mpr ⟨(n, p), look_mem h, rfl⟩
/-- the places to which a place leads -/
def Pl.dests : Pl → List Str
  | .mv _ ms => ms.map (·.2)
  | .chance ls => ls.map (·.1)
  | .fin _ _ => []
/-- a drawn tree: names, ranks that fall along moves and lots -/
structure Tree (g : Gm) (rk : Str → Nat) : Prop where
  nd : (g.map (·.1)).Nodup
  le : g.length ≤ 9
  top : ∀ n ∈ g.map (·.1), rk n < g.length
  down : ∀ n p, look g n = some p → ∀ d ∈ p.dests, d ∈ g.map (·.1) ∧ rk d < rk n
  mv : ∀ n o ms, look g n = some (.mv o ms) → ms ≠ [] ∧ ms.length ≤ 3 ∧ (ms.map (·.1)).Nodup
  ch : ∀ n ls, look g n = some (.chance ls) → ls ≠ [] ∧ ls.length ≤ 3 ∧ (ls.map (·.1)).Nodup ∧ ∀ l ∈ ls, 1 ≤ l.2 ∧ l.2 ≤ 3
  fn : ∀ n t b, look g n = some (.fin t b) → 1 ≤ b ∧ b ≤ 4 ∧ -6 ≤ t ∧ t ≤ 6
/-- plans that sides follow, if any -/
abbrev Pol := Bool → Option (Str → Str)
def ev (pol : Pol) (f : Str → Rat) (n : Str) : Pl → Rat
  | .fin t b => fr t b
  | .chance ls => mean (ls.map fun l => (l.2, f l.1))
  | .mv o ms => match pol o with
    | some p => f ((look ms (p n)).getD n)
    | none => bst o (ms.map fun m => f m.2)
def valF (g : Gm) (pol : Pol) : Nat → Str → Rat
  | 0, _ => 0
  | k + 1, n => match look g n with
    | some p => ev pol (valF g pol k) n p
    | none => 0
def val (g : Gm) (pol : Pol) : Str → Rat := valF g pol 9
/-- a plan keeps to the moves -/
def Keeps (g : Gm) (o : Bool) (p : Str → Str) : Prop := ∀ n ms, look g n = some (.mv o ms) → p n ∈ ms.map (·.1)
def PolOk (g : Gm) (pol : Pol) : Prop := ∀ o p, pol o = some p → Keeps g o p
theorem ev_none {pol : Pol} {f : Str → Rat} {n : Str} {o : Bool} {ms : List (Str × Str)} (h : pol o = none) : ev pol f n (.mv o ms) = bst o (ms.map fun m => f m.2) := by
  simp only [ev, h]
theorem ev_some {pol : Pol} {f : Str → Rat} {n : Str} {o : Bool} {ms : List (Str × Str)} {p : Str → Str} (h : pol o = some p) : ev pol f n (.mv o ms) = f ((look ms (p n)).getD n) := by
  simp only [ev, h]
theorem ev_congr {g : Gm} {rk : Str → Nat} {pol : Pol} {f h : Str → Rat} {n : Str} {p : Pl} (hp : PolOk g pol) (hl : look g n = some p) (e : ∀ d ∈ p.dests, f d = h d) : ev pol f n p = ev pol h n p := by
  cases p with
  | fin t b => rfl
  | chance ls =>
    show mean _ = mean _
    congr 1
    refine List.map_congr_left fun l hl => ?_
    rw [e l.1 (List.mem_map.mpr ⟨l, hl, rfl⟩)]
  | mv o ms =>
    cases hq : pol o with
    | none =>
      rw [ev_none hq, ev_none hq]
      congr 1
      refine List.map_congr_left fun m hm => ?_
      exact e m.2 (List.mem_map.mpr ⟨m, hm, rfl⟩)
    | some q =>
      have h1 := hp o q hq n ms hl
      obtain ⟨d, hd⟩ := look_some h1
      rw [ev_some hq, ev_some hq, hd]
      exact e d (List.mem_map.mpr ⟨(q n, d), look_mem hd, rfl⟩)
theorem valF_stable {g : Gm} {rk : Str → Nat} {pol : Pol} (T : Tree g rk) (hp : PolOk g pol) : ∀ (k : Nat) (n : Str), n ∈ g.map (·.1) → rk n < k → valF g pol k n = valF g pol (k + 1) n
  | 0, _, _, h => absurd h (Nat.not_lt_zero _)
  | k + 1, n, hn, h => by
    obtain ⟨p, hl⟩ := look_some hn
    show (match look g n with | some p => ev pol (valF g pol k) n p | none => 0) = (match look g n with | some p => ev pol (valF g pol (k + 1)) n p | none => 0)
    rw [hl]
    refine ev_congr (rk := rk) hp hl fun d hd => ?_
    obtain ⟨h1, h2⟩ := T.down n p hl d hd
    exact valF_stable T hp k d h1 (by omega)
/-- the worths' equation -/
theorem val_eq {g : Gm} {rk : Str → Nat} {pol : Pol} {n : Str} {p : Pl} (T : Tree g rk) (hp : PolOk g pol) (hl : look g n = some p) : val g pol n = ev pol (val g pol) n p := by
  have h : rk n < 9 := by
    have h1 := T.top n (look_in hl)
    have h2 := T.le
    omega
  unfold val
  rw [valF_stable T hp 9 n (look_in hl) h]
  show (match look g n with | some p => ev pol (valF g pol 9) n p | none => 0) = _
  rw [hl]
theorem tree_ind {g : Gm} {rk : Str → Nat} (T : Tree g rk) {P : Str → Prop} (h : ∀ n p, look g n = some p → (∀ d ∈ p.dests, P d) → P n) : ∀ n ∈ g.map (·.1), P n := by
  have key : ∀ (k : Nat) (n : Str), n ∈ g.map (·.1) → rk n < k → P n := by
    intro k
    induction k with
    | zero => intro n _ h; exact absurd h (Nat.not_lt_zero _)
    | succ k ih =>
      intro n hn hk
      obtain ⟨p, hl⟩ := look_some hn
      refine h n p hl fun d hd => ?_
      obtain ⟨h1, h2⟩ := T.down n p hl d hd
      exact ih d h1 (by omega)
  exact fun n hn => key (rk n + 1) n hn (Nat.lt_succ_self _)

/-! ### plans against plans -/
abbrev free : Pol := fun _ => none
/-- a side's plan made a policy -/
def both (a b : Str → Str) : Pol := fun o => some (if o then a else b)
theorem free_ok (g : Gm) : PolOk g free := fun _ _ h => nomatch h
theorem both_ok {g : Gm} {a b : Str → Str} (ha : Keeps g true a) (hb : Keeps g false b) : PolOk g (both a b) := fun o p h => by
  unfold both at h
  cases h
  cases o
  · exact hb
  · exact ha
/-- a plan that leads to the worth -/
def Opt (g : Gm) (o : Bool) (p : Str → Str) : Prop := ∀ n ms, look g n = some (.mv o ms) → val g free ((look ms (p n)).getD n) = val g free n
theorem opt_side {g : Gm} {rk : Str → Nat} (T : Tree g rk) (o : Bool) {a b : Str → Str} (ha : Keeps g true a) (hb : Keeps g false b) (ho : Opt g o (if o then a else b)) :
    ∀ n ∈ g.map (·.1), leO o (val g free n) (val g (both a b) n) := by
  refine tree_ind T fun n p hl ih => ?_
  have e1 := val_eq T (free_ok g) hl
  have e2 := val_eq T (both_ok ha hb) hl
  cases p with
  | fin t b' =>
    rw [e1, e2]
    exact leO_refl o _
  | chance ls =>
    rw [e1, e2]
    obtain ⟨c1, c2, c3, c4⟩ := T.ch n ls hl
    have hw : ∀ l ∈ ls, 0 < l.2 := fun l hl => by have := (c4 l hl).1; omega
    have ih' : ∀ l ∈ ls, leO o (val g free l.1) (val g (both a b) l.1) := fun l hl => ih l.1 (List.mem_map.mpr ⟨l, hl, rfl⟩)
    cases o with
    | true => exact mean_mono ls _ _ c1 hw ih'
    | false => exact mean_mono ls _ _ c1 hw ih'
  | mv o' ms =>
    have key : ∀ q : Str → Str, q n ∈ ms.map (·.1) → ∃ d, look ms (q n) = some d ∧ d ∈ ms.map (·.2) := fun q h1 => by
      obtain ⟨d, hd⟩ := look_some h1
      exact ⟨d, hd, List.mem_map.mpr ⟨(q n, d), look_mem hd, rfl⟩⟩
    have hk : (if o' then a else b) n ∈ ms.map (·.1) := by
      cases o' with
      | true => exact ha n ms hl
      | false => exact hb n ms hl
    obtain ⟨d, hd, hm⟩ := key (if o' then a else b) hk
    have e3 : val g (both a b) n = val g (both a b) d := by
      rw [e2]
      show val g (both a b) ((look ms ((if o' then a else b) n)).getD n) = _
      rw [hd]
      rfl
    rw [e3]
    by_cases eo : o' = o
    · subst eo
      have e4 := ho n ms hl
      rw [hd] at e4
      rw [← e4]
      exact ih d hm
    · refine leO_trans ?_ (ih d hm)
      obtain ⟨m, hm1, hm2⟩ := List.mem_map.mp hm
      have e5 : leO o' (val g free m.2) (val g free n) := by
        rw [e1]
        exact bst_ge (List.mem_map.mpr ⟨m, hm1, rfl⟩)
      rw [hm2] at e5
      revert eo e5
      cases o <;> cases o' <;> intro eo e5
      · exact absurd rfl eo
      · exact e5
      · exact e5
      · exact absurd rfl eo
theorem opt_ex {g : Gm} {rk : Str → Nat} (T : Tree g rk) {n : Str} {o : Bool} {ms : List (Str × Str)} (hl : look g n = some (.mv o ms)) : ∃ m ∈ ms, val g free m.2 = val g free n := by
  have e1 := val_eq T (free_ok g) hl
  obtain ⟨h1, _⟩ := T.mv n o ms hl
  have h2 : bst o (ms.map fun m => val g free m.2) ∈ ms.map fun m => val g free m.2 := bst_mem (by intro e; exact h1 (List.map_eq_nil_iff.mp e))
  obtain ⟨m, hm, e⟩ := List.mem_map.mp h2
  refine ⟨m, hm, ?_⟩
  rw [e1]
  exact e
theorem leO_anti {o : Bool} {a b : Rat} (h : leO o a b) (k : leO (!o) a b) : a = b := by
  cases o with
  | true => exact Rat.le_antisymm h k
  | false => exact Rat.le_antisymm k h
theorem leO_not {o : Bool} {a b : Rat} : leO (!o) a b ↔ leO o b a := by cases o <;> exact Iff.rfl
/-- the greatest of the least, over rows that hold a good one -/
theorem maxmin {o : Bool} {v : Rat} {rows : List (List Rat)} (hn : ∀ r ∈ rows, r ≠ []) (h1 : ∃ r ∈ rows, ∀ x ∈ r, leO o v x) (h2 : ∀ r ∈ rows, ∃ x ∈ r, leO (!o) v x) : bst o (rows.map (bst (!o))) = v := by
  obtain ⟨r, hr, hg⟩ := h1
  have hne : rows.map (bst (!o)) ≠ [] := by
    intro e
    rw [List.map_eq_nil_iff.mp e] at hr
    cases hr
  refine (leO_anti (o := o) ?_ ?_).symm
  · exact leO_trans (hg _ (bst_mem (hn r hr))) (bst_ge (List.mem_map.mpr ⟨r, hr, rfl⟩))
  · obtain ⟨r', hr', e⟩ := List.mem_map.mp (bst_mem (o := o) hne)
    rw [← e]
    obtain ⟨x, hx, hv⟩ := h2 r' hr'
    exact leO_trans hv (bst_ge hx)

/-! ### sizes -/
def L (k : Nat) : Int := 12 * 2520 ^ k
theorem L_pos (k : Nat) : 0 < L k := Int.mul_pos (by decide) (Int.pow_pos (by decide))
theorem L_succ (k : Nat) : L (k + 1) = L k * 2520 := by unfold L; rw [Int.pow_succ, Int.mul_assoc]
def Okq (k : Nat) (q : Rat) : Prop := ∃ z : Int, q * (L k : Rat) = (z : Rat) ∧ -(6 * L k) ≤ z ∧ z ≤ 6 * L k
theorem okq_succ {k : Nat} {q : Rat} (h : Okq k q) : Okq (k + 1) q := by
  obtain ⟨z, e, h1, h2⟩ := h
  refine ⟨z * 2520, ?_, ?_, ?_⟩
  · rw [L_succ, Rat.intCast_mul, Rat.intCast_mul, ← e]
    grind
  · rw [L_succ]; omega
  · rw [L_succ]; omega
theorem okq_mono {k j : Nat} {q : Rat} (h : Okq k q) (hk : k ≤ j) : Okq j q := by
  induction hk with
  | refl => exact h
  | step _ ih => exact okq_succ ih
theorem okq_fr {t b : Int} (h1 : 1 ≤ b) (h2 : b ≤ 4) (h3 : -6 ≤ t) (h4 : t ≤ 6) : Okq 0 (fr t b) := by
  have hb : b = 1 ∨ b = 2 ∨ b = 3 ∨ b = 4 := by omega
  have L0 : L 0 = 12 := rfl
  have key : ∀ c : Int, b * c = 12 → Okq 0 (fr t b) := fun c hc => by
    have hcp : 0 < c := by
      rcases hb with rfl | rfl | rfl | rfl <;> omega
    refine ⟨t * c, ?_, ?_, ?_⟩
    · rw [fr_eq (by omega), L0, ← hc, Rat.intCast_mul, Rat.intCast_mul]
      have := rne (b := b) (by omega)
      generalize (b : Rat) = b at *
      generalize (t : Rat) = t at *
      generalize (c : Rat) = c at *
      grind
    · have a1 := Int.mul_le_mul_of_nonneg_right h3 (Int.le_of_lt hcp)
      have : c ≤ 12 := by rcases hb with rfl | rfl | rfl | rfl <;> omega
      rw [L0]
      omega
    · have a1 := Int.mul_le_mul_of_nonneg_right h4 (Int.le_of_lt hcp)
      have : c ≤ 12 := by rcases hb with rfl | rfl | rfl | rfl <;> omega
      rw [L0]
      omega
  rcases hb with rfl | rfl | rfl | rfl
  · exact key 12 (by decide)
  · exact key 6 (by decide)
  · exact key 4 (by decide)
  · exact key 3 (by decide)
theorem wsum_ok {k : Nat} : ∀ (l : List (Int × Rat)), (∀ r ∈ l, 0 < r.1 ∧ Okq k r.2) → ∃ z : Int, wsum l * (L k : Rat) = (z : Rat) ∧ -(6 * L k * wts l) ≤ z ∧ z ≤ 6 * L k * wts l
  | [], _ => ⟨0, by simp [wsum], by simp [wts], by simp [wts]⟩
  | r :: l, h => by
    obtain ⟨z, e, h1, h2⟩ := wsum_ok l fun x hx => h x (List.mem_cons_of_mem _ hx)
    obtain ⟨hw, y, e', h3, h4⟩ := h r (List.mem_cons_self ..)
    refine ⟨r.1 * y + z, ?_, ?_, ?_⟩
    · show ((r.1 : Rat) * r.2 + wsum l) * (L k : Rat) = _
      rw [Rat.intCast_add, Rat.intCast_mul, ← e, ← e']
      grind
    · show -(6 * L k * (r.1 + wts l)) ≤ r.1 * y + z
      have a1 : r.1 * (-(6 * L k)) ≤ r.1 * y := Int.mul_le_mul_of_nonneg_left h3 (by omega)
      have a2 : 6 * L k * (r.1 + wts l) = r.1 * (6 * L k) + 6 * L k * wts l := by rw [Int.mul_add, Int.mul_comm r.1]
      rw [Int.mul_neg] at a1
      omega
    · show r.1 * y + z ≤ 6 * L k * (r.1 + wts l)
      have a1 : r.1 * y ≤ r.1 * (6 * L k) := Int.mul_le_mul_of_nonneg_left h4 (by omega)
      have a2 : 6 * L k * (r.1 + wts l) = r.1 * (6 * L k) + 6 * L k * wts l := by rw [Int.mul_add, Int.mul_comm r.1]
      omega
theorem okq_mean {k : Nat} {l : List (Int × Rat)} (h : ∀ r ∈ l, 0 < r.1 ∧ Okq k r.2) (hn : l ≠ []) (h9 : wts l ≤ 9) : Okq (k + 1) (mean l) := by
  obtain ⟨z, e, h1, h2⟩ := wsum_ok l h
  have hp := wts_pos (fun r hr => (h r hr).1) hn
  obtain ⟨c, hc⟩ : ∃ c : Int, wts l * c = 2520 := by
    generalize hw : wts l = w at *
    have : w = 1 ∨ w = 2 ∨ w = 3 ∨ w = 4 ∨ w = 5 ∨ w = 6 ∨ w = 7 ∨ w = 8 ∨ w = 9 := by omega
    rcases this with rfl | rfl | rfl | rfl | rfl | rfl | rfl | rfl | rfl
    · exact ⟨2520, by decide⟩
    · exact ⟨1260, by decide⟩
    · exact ⟨840, by decide⟩
    · exact ⟨630, by decide⟩
    · exact ⟨504, by decide⟩
    · exact ⟨420, by decide⟩
    · exact ⟨360, by decide⟩
    · exact ⟨315, by decide⟩
    · exact ⟨280, by decide⟩
  have hcp : 0 < c := by
    rcases Int.lt_or_le 0 c with q | q
    · exact q
    · have := Int.mul_nonpos_of_nonneg_of_nonpos (Int.le_of_lt hp) q
      omega
  refine ⟨z * c, ?_, ?_, ?_⟩
  · unfold mean
    rw [L_succ, ← hc, Rat.intCast_mul, Rat.intCast_mul, Rat.intCast_mul, ← e]
    have := rne hp
    generalize ((wts l : Int) : Rat) = W at *
    generalize (c : Rat) = c at *
    generalize wsum l = S at *
    generalize (L k : Rat) = K at *
    grind
  · rw [L_succ, ← hc]
    have a1 := Int.mul_le_mul_of_nonneg_right h1 (Int.le_of_lt hcp)
    have : -(6 * (L k * (wts l * c))) = -(6 * L k * wts l) * c := by
      rw [Int.neg_mul, ← Int.mul_assoc, ← Int.mul_assoc]
    omega
  · rw [L_succ, ← hc]
    have a1 := Int.mul_le_mul_of_nonneg_right h2 (Int.le_of_lt hcp)
    have : 6 * (L k * (wts l * c)) = 6 * L k * wts l * c := by
      rw [← Int.mul_assoc, ← Int.mul_assoc]
    omega
theorem okq_den {k : Nat} {q : Rat} (h : Okq k q) : (q.den : Int) ≤ L k ∧ q.num.natAbs ≤ 6 * q.den := by
  obtain ⟨z, e, h1, h2⟩ := h
  have e2 : q.num * L k = z * (q.den : Int) := by
    apply Rat.intCast_inj.mp
    rw [Rat.intCast_mul, Rat.intCast_mul, ← e]
    have e3 := num_den q
    have := rne (den0 q)
    generalize ((q.den : Int) : Rat) = d at *
    generalize (q.num : Rat) = n at *
    grind
  have dv : q.den ∣ (L k).natAbs := by
    have : q.den ∣ q.num.natAbs * (L k).natAbs := by
      rw [← Int.natAbs_mul, e2, Int.natAbs_mul, Int.natAbs_natCast]
      exact Nat.dvd_mul_left _ _
    exact (Nat.Coprime.symm q.reduced).dvd_of_dvd_mul_left this
  have hL := L_pos k
  refine ⟨?_, ?_⟩
  · have := Nat.le_of_dvd (by omega) dv
    omega
  · have a1 : q.num.natAbs * (L k).natAbs = z.natAbs * q.den := by
      rw [← Int.natAbs_mul, e2, Int.natAbs_mul, Int.natAbs_natCast]
    have a2 : z.natAbs ≤ 6 * (L k).natAbs := by omega
    have a3 : q.num.natAbs * (L k).natAbs ≤ (6 * q.den) * (L k).natAbs := by
      rw [a1]
      calc z.natAbs * q.den ≤ 6 * (L k).natAbs * q.den := Nat.mul_le_mul_right _ a2
        _ = 6 * q.den * (L k).natAbs := by rw [Nat.mul_assoc, Nat.mul_assoc, Nat.mul_comm (L k).natAbs]
    exact Nat.le_of_mul_le_mul_right a3 (by omega)
/-- a fraction of moderate size -/
def Small (q : Rat) : Prop := q.num.natAbs < 2 ^ 100 ∧ q.den < 2 ^ 100
theorem small_of {k : Nat} {q : Rat} (h : Okq k q) (hk : k ≤ 8) : Small q := by
  obtain ⟨h1, h2⟩ := okq_den (okq_mono h hk)
  have e : L 8 < 2 ^ 95 := by decide +kernel
  have h3 : (q.den : Int) < 2 ^ 95 := by omega
  have h4 : q.den < 2 ^ 95 := by omega
  exact ⟨by omega, by omega⟩
theorem val_ok {g : Gm} {rk : Str → Nat} {pol : Pol} (T : Tree g rk) (hp : PolOk g pol) : ∀ n ∈ g.map (·.1), Okq (rk n) (val g pol n) := by
  refine tree_ind T fun n p hl ih => ?_
  rw [val_eq T hp hl]
  have dn := T.down n p hl
  cases p with
  | fin t b =>
    obtain ⟨h1, h2, h3, h4⟩ := T.fn n t b hl
    exact okq_mono (okq_fr h1 h2 h3 h4) (Nat.zero_le _)
  | chance ls =>
    obtain ⟨c1, c2, c3, c4⟩ := T.ch n ls hl
    have hk : 0 < rk n := by
      cases ls with
      | nil => exact absurd rfl c1
      | cons l r => exact Nat.lt_of_le_of_lt (Nat.zero_le _) (dn l.1 (List.mem_map.mpr ⟨l, List.mem_cons_self .., rfl⟩)).2
    have e : rk n = (rk n - 1) + 1 := by omega
    rw [e]
    refine okq_mean (fun r hr => ?_) (by intro z; exact c1 (List.map_eq_nil_iff.mp z)) ?_
    · obtain ⟨l, hl', rfl⟩ := List.mem_map.mp hr
      have hd : l.1 ∈ ls.map (·.1) := List.mem_map.mpr ⟨l, hl', rfl⟩
      exact ⟨by have := (c4 l hl').1; show 0 < l.2; omega, okq_mono (ih l.1 hd) (by have := (dn l.1 hd).2; omega)⟩
    · have key : ∀ (m : List (Str × Int)) (f : Str → Rat), (∀ l ∈ m, l.2 ≤ 3) → wts (m.map fun l => (l.2, f l.1)) ≤ 3 * m.length := by
        intro m f
        induction m with
        | nil => intro _; exact Int.le_refl 0
        | cons a m ih =>
          intro h
          have h1 := h a (List.mem_cons_self ..)
          have h2 := ih fun l hl => h l (List.mem_cons_of_mem _ hl)
          show a.2 + wts (m.map fun l => (l.2, f l.1)) ≤ 3 * ((m.length + 1 : Nat) : Int)
          omega
      have := key ls (val g pol) fun l hl => (c4 l hl).2
      omega
  | mv o ms =>
    obtain ⟨m1, m2, m3⟩ := T.mv n o ms hl
    cases hq : pol o with
    | some q =>
      have h1 := hp o q hq n ms hl
      obtain ⟨d, hd⟩ := look_some h1
      rw [ev_some hq, hd]
      have hm : d ∈ ms.map (·.2) := List.mem_map.mpr ⟨(q n, d), look_mem hd, rfl⟩
      exact okq_mono (ih d hm) (Nat.le_of_lt (dn d hm).2)
    | none =>
      rw [ev_none hq]
      obtain ⟨m, hm, e⟩ := List.mem_map.mp (bst_mem (o := o) (l := ms.map fun m => val g pol m.2) (by intro z; exact m1 (List.map_eq_nil_iff.mp z)))
      rw [← e]
      have hd : m.2 ∈ ms.map (·.2) := List.mem_map.mpr ⟨m, hm, rfl⟩
      exact okq_mono (ih m.2 hd) (Nat.le_of_lt (dn m.2 hd).2)
theorem val_small {g : Gm} {rk : Str → Nat} {pol : Pol} (T : Tree g rk) (hp : PolOk g pol) {n : Str} (hn : n ∈ g.map (·.1)) : Small (val g pol n) :=
  small_of (val_ok T hp n hn) (by have := T.top n hn; have := T.le; omega)
end Gw
end

section
set_option Elab.async false
set_option linter.all false
set_option maxRecDepth 100000
set_option maxHeartbeats 4000000
/-! the row's own text by places, facts of builtins, some further rules of the layer -/
namespace Gw
open PySem PySem.Spec PyProof.Rows L2
def top (i : Nat) : Stmt := PySem.Challenge.pw_gameworths_k04_whole_worths.main.body.getD i (.Pass ⟨0, 0, 0, 0⟩)

theorem bt_len : bootBuiltins "len" = some (.builtin "len") := by decide +kernel
theorem bt_abs : bootBuiltins "abs" = some (.builtin "abs") := by decide +kernel
theorem bt_all : bootBuiltins "all" = some (.builtin "all") := by decide +kernel
theorem bt_sum : bootBuiltins "sum" = some (.builtin "sum") := by decide +kernel
theorem bt_isinstance : bootBuiltins "isinstance" = some (.builtin "isinstance") := by decide +kernel
theorem bt_list : bootBuiltins "list" = some (.type "list") := by decide +kernel
theorem bt_dict : bootBuiltins "dict" = some (.type "dict") := by decide +kernel
theorem bt_tuple : bootBuiltins "tuple" = some (.type "tuple") := by decide +kernel
theorem bt_int : bootBuiltins "int" = some (.type "int") := by decide +kernel
theorem bt_bool : bootBuiltins "bool" = some (.type "bool") := by decide +kernel
theorem bt_str : bootBuiltins "str" = some (.type "str") := by decide +kernel

def SIGNS : Str := "abcdefghijklmnopqrstuvwxyz0123456789."
/-- the module's names that the defs read -/
structure Bi (mg : Str → Option Value) : Prop where
  len_ : mg "len" = none
  abs_ : mg "abs" = none
  all_ : mg "all" = none
  sum_ : mg "sum" = none
  isinstance_ : mg "isinstance" = none
  list_ : mg "list" = none
  dict_ : mg "dict" = none
  tuple_ : mg "tuple" = none
  int_ : mg "int" = none
  bool_ : mg "bool" = none
  str_ : mg "str" = none
  range_ : mg "range" = none
  enumerate_ : mg "enumerate" = none
  zip_ : mg "zip" = none
  signs : ∃ u, mg "SIGNS" = some u ∧ RelV (.str SIGNS) u
  most_signs : ∃ u, mg "MOST_SIGNS" = some u ∧ RelV (.int 60) u

/-! ### further rules -/
section
variable {X : Cx}
/-- len of a dict that may be walked just then -/
theorem call_lenR : CallR X (.builtin "len") (fun xs H Q => ∃ a kvs, xs = [V.ref a] ∧ Rd H a (.dK kvs) ∧ Q (.int kvs.length) H) := by
  intro pins s σ H xs us Q I r h
  obtain ⟨a, kvs, rfl, ha, q⟩ := h
  obtain ⟨u, rfl, ru⟩ := vals1 r
  cases ru
  exact d_len I ha fun t s' I' => ⟨.int kvs.length, H, I', ⟨t, rfl⟩, q⟩
theorem call_lenS : CallR X (.builtin "len") (fun xs H Q => ∃ z, xs = [.str z] ∧ z.length ≤ sizeLine ∧ Q (.int z.length) H) := call_len_str
/-- len of a list, a tuple or a text -/
theorem call_lenA : CallR X (.builtin "len") (fun xs H Q => (∃ p ys, xs = [.ref p] ∧ (SqL X.K H p ys ∨ SqT X.K H p ys) ∧ Q (.int ys.length) H) ∨ (∃ z, xs = [.str z] ∧ z.length ≤ sizeLine ∧ Q (.int z.length) H)) :=
  CallR.or call_len_seq call_len_str
/-! within a comprehension's block the written part is named outright -/
theorem ix_listK (K : PySem.W.Frag) (h : X.K = K) : IxR X (rIxL K) := by subst h; exact ix_list
theorem ix_tupK (K : PySem.W.Frag) (h : X.K = K) : IxR X (rIxT K) := by subst h; exact ix_tup
theorem sl_listK (K : PySem.W.Frag) (h : X.K = K) : SlR X (rSlL K) := by subst h; exact sl_list
theorem op_in_seqK (K : PySem.W.Frag) (h : X.K = K) : OpR X (compareOp .In) (rIn K false) := by subst h; exact op_in_seq
theorem op_notIn_seqK (K : PySem.W.Frag) (h : X.K = K) : OpR X (compareOp .NotIn) (rIn K true) := by subst h; exact op_notIn_seq
theorem call_len_seqK (K : PySem.W.Frag) (h : X.K = K) : CallR X (.builtin "len") (fun xs H Q => ∃ p ys, xs = [.ref p] ∧ (SqL K H p ys ∨ SqT K H p ys) ∧ Q (.int ys.length) H) := by subst h; exact call_len_seq
theorem call_tuple_ofK (K : PySem.W.Frag) (h : X.K = K) : CallR X (.type "tuple") (fun xs H Q => ∃ p ys, xs = [.ref p] ∧ ((SqL K H p ys ∧ ∀ l, H l = none → Q (.ref l) (upd H l (.tup ys))) ∨ (SqT K H p ys ∧ Q (.ref p) H))) := by subst h; exact call_tuple_of
theorem pe_bmK (K : PySem.W.Frag) {e : Expr} {T : String} {r : V → List V → Hp → VK → Prop} {to : TE} {t : TA} (h : X.K = K) (p : PE X e (tBM X.K T r to t)) : PE X e (tBM K T r to t) := by subst h; exact p
theorem pi_listK (K : PySem.W.Frag) {tg e : Expr} {te : TE} (h : X.K = K) (p : PI X tg e (iList X.K te)) : PI X tg e (iList K te) := by subst h; exact p
/-- a if c else b, as a test -/
def tIfT (c t u : TT) : TT := fun σ H Q => c σ H fun b H1 => if b = true then t σ H1 Q else u σ H1 Q
theorem pt_ifExp {c a b : Expr} {pos : Pos} {tc ta tb : TT} (hc : PT X c tc) (ha : PT X a ta) (hb : PT X b tb) : PT X (.IfExp c a b pos) (tIfT tc ta tb) := by
  refine ⟨fun pins s σ H Q I h => ?_⟩
  refine isTrue_IfExp (thn (hc.run pins s σ H _ I h) fun d s1 ⟨H1, I1, q1⟩ => ?_)
  cases d with
  | true => exact ha.run pins s1 σ H1 Q I1 q1
  | false => exact hb.run pins s1 σ H1 Q I1 q1
/-- two dicts of unlike sizes -/
def rEqLen : R2 := fun x y H Q => ∃ a b ks ls, x = .ref a ∧ y = .ref b ∧ H a = some (.dK ks) ∧ H b = some (.dK ls) ∧ ks.length ≠ ls.length ∧ Q (.bl false) H
theorem op_eqLen (hu : X.A.units < cLine) : OpR X (compareOp .Eq) rEqLen := by
  intro pins s σ H x y v u Q I rx ry h
  obtain ⟨a, b, ks, ls, rfl, rfl, ea, eb, hlen, q⟩ := h
  obtain rfl : v = Value.ref a := rx
  obtain rfl : u = Value.ref b := ry
  obtain ⟨_, ya, va, ra, da⟩ := (show ObjOk X.prog X.w H s.heap a (.dK ks) from I.hok a _ ea)
  obtain ⟨_, yb, vb, rb, db⟩ := (show ObjOk X.prog X.w H s.heap b (.dK ls) from I.hok b _ eb)
  have hl : va.length ≠ vb.length := by rw [← ra.length, ← rb.length]; exact hlen
  exact PySem.W.keq_eq (knd := mixKind X.prog X.w) (r := true) ya yb da db hu (fun e => absurd e hl) (fin_bl I q (by simp [hl]))

/-- list(d.values()) -/
def tListVals (te : TE) : TE := fun σ H Q => te σ H fun x H1 => ∃ d kvs, x = .ref d ∧ H1 d = some (.dK kvs) ∧ ∀ p, H1 p = none → Q (.ref p) (upd H1 p (.lst (kvs.map (·.2))))
theorem pe_listVals {e : Expr} {te : TE} {p apos cpos pos : Pos} (hc : X.calm = true) (he : PE X e te) (hg : Gl X "list") (hm : X.mg "list" = none) (hv : bootBuiltins "list" = some (.type "list"))
    (hbase : attributeBase e "values" X.env (eval e X.env) = eval e X.env := by rfl) (hline : (apos.endLine == cpos.line) = true := by rfl)
    (hs : starEach [.Call (.Attribute e "values" apos) [] [] cpos] X.env = (false, eval (.Call (.Attribute e "values" apos) [] [] cpos) X.env) :: starEach [] X.env := by rfl) :
    PE X (.Call (.Name "list" p) [.Call (.Attribute e "values" apos) [] [] cpos] [] pos) (tListVals te) := by
  refine ⟨fun pins s σ H Q I hq => ?_⟩
  refine wpAny_Call_Name_kw (ld_blt I hg hm hv ?_)
  refine PyProof.Rows.callWith_type1 ?_ hs rfl
  rw [hs]
  show wpAny _ _ (spliced ((false, eval (.Call (.Attribute e "values" apos) [] [] cpos) X.env) :: backTo pos (starEach [] X.env))) _ _ s
  refine Calls.spliced_cons ?_
  refine wpAny_Call_method (T := "dict") (id := "dict.values") hbase rfl hline F.plainAttrs_dict F.slot_dict_values F.type_dict_values (thn (he.run pins s σ H _ I hq) fun u s1 ⟨x, H1, I1, rx, d, kvs, ex, hd, q⟩ => ?_)
  subst ex
  obtain rfl : u = Value.ref d := rx
  obtain ⟨hz, hs0, vs, kv, hdo⟩ := I1.hok d _ hd
  obtain ⟨ep, hat⟩ := hdo.dictAt
  have lk : kvs.length = vs.length := Paired.length kv
  have I2 : Inv X pins σ H1 { s1 with heap := s1.heap.push { cls := .type "dict_values", data := .fields #[.ref d] } } := I1.kept (t' := s1.toks) fun b ob q => Heap.get?_push_of_some _ q
  refine ⟨hdo.typeIs, hdo.mapOf.noDict, ?_⟩
  show wpAny _ _ (callWith cpos (.builtin "dict.values") [.ref d] [] []) _ X.xe s1
  refine method_meetsIn F.slot_dict_values F.entry_dict_values rfl (PySem.evalArgs_none ⟨rfl, hdo.typeIs, F.args_dict_values_1 _, _, meets_dict_values (mixKind X.prog X.w) d hs0, ⟨vs, hdo⟩, ?_⟩)
  refine Calls.spliced_nil ?_
  have vw : (s1.heap.push { cls := .type "dict_values", data := .fields #[.ref d] }).IsValuesView s1.heap.objs.size d := ⟨_, Heap.get?_push_size _ rfl, rfl, rfl⟩
  refine PySem.W.kdl_call (PySem.W.kdl_values (knd := mixKind X.prog X.w) (kvs := vs) (ep := ep)) (I1.ok.hd hc) ⟨vw, hat.push _⟩ (by omega) fun h' tk acc c hk hS hacc => ?_
  have ev : acc.toList = vs.map (·.2) := PySem.W.kdl_vals_eq acc.toList (by rw [Array.length_toList]; exact hacc.1) fun j v e => hacc.2 j v (by rw [← Array.getElem?_toList]; exact e)
  have rv : Vals (kvs.map (·.2)) acc.toList := by
    rw [ev]
    clear hq q hd hat hdo hacc hS ev lk hz
    induction kv with
    | nil => exact .nil
    | cons h t ih => exact .cons h.2 ih
  have I3 : Inv X pins σ (upd H1 (s1.heap.push { cls := .type "dict_values", data := .fields #[.ref d] }).objs.size (.lst (kvs.map (·.2)))) { s1 with heap := h', toks := tk } := by
    refine I2.laid (t' := tk) hk (Nat.le_refl _) ?_
    refine ⟨by rw [List.length_map]; omega, acc.toList, c, rv, ?_⟩
    rw [Array.toArray_toList]
    exact hS
  exact ⟨.ref _, _, I3, rfl, q _ (I2.hok.fresh (Nat.le_refl _))⟩
end
end Gw
end

section
set_option Elab.async false
set_option linter.all false
set_option maxRecDepth 100000
set_option maxHeartbeats 4000000
/-! walks: fractions -/
namespace Gw
open PySem PySem.Spec PyProof.Rows L2
open C8 (Cal Mak Met pe_c pe_mk pe_mt pe_mt0 pe_gc)
open RZ (pi_zipA ItzT)

theorem same_upd {H : Hp} {p : Addr} {o : HO} (h : H p = none) : Same H (upd H p o) := fun b x e => by
  rw [upd_ne (ne_of_none e h)]
  exact e
theorem same_mut {H H' : Hp} {p : Addr} {o : HO} (s : Same H H') (h : H p = none) : Same H (upd H' p o) := fun b x e => by
  rw [upd_ne (ne_of_none e h)]
  exact s b x e
/-- a fraction stands there -/
def Fr (H : Hp) (v : V) (q : Rat) : Prop := ∃ a, v = .ref a ∧ H a = some (.tup [.int q.num, .int (q.den : Int)])
theorem Fr.mono {H H' : Hp} {v : V} {q : Rat} (h : Fr H v q) (s : Same H H') : Fr H' v q := by
  obtain ⟨a, e, h⟩ := h
  exact ⟨a, e, s _ _ h⟩
/-- what a call hands back -/
def Ret (P : V → Hp → Prop) (H : Hp) (Q : VK) : Prop := ∀ v H', Same H H' → P v H' → Q v H'

section
variable {P : Program} {w : World} {K : PySem.W.Frag} {mg : Str → Option Value} {base : Heap}
/-! ### lowest -/
def spLow : Sp := fun vs H Q _ => ∃ t b : Int, vs = [.int t, .int b] ∧ 0 < b ∧ b.natAbs < 2 ^ 8000 ∧ Ret (fun v H' => Fr H' v (fr t b)) H Q
theorem sc_lowest : FnScope ["top", "bottom", "one", "other"] ["top", "bottom"] (defScope (top 7)) :=
  ⟨rfl, rfl, rfl, by decide +kernel, rfl, by decide +kernel, by decide +kernel⟩
theorem gcd_step {x y : Int} (hx : 0 ≤ x) (hy : 0 < y) : Nat.gcd y.natAbs (x % y).natAbs = Nat.gcd x.natAbs y.natAbs := by
  obtain ⟨a, rfl⟩ : ∃ a : Nat, x = (a : Int) := ⟨x.toNat, (Int.toNat_of_nonneg hx).symm⟩
  obtain ⟨b, rfl⟩ : ∃ b : Nat, y = (b : Int) := ⟨y.toNat, (Int.toNat_of_nonneg (by omega)).symm⟩
  rw [← Int.natCast_emod, Int.natAbs_natCast, Int.natAbs_natCast, Int.natAbs_natCast, Nat.gcd_comm a b, Nat.gcd_rec b a, Nat.gcd_comm]
def LowW (t b : Int) (H0 : Hp) (m : Nat) (σ : L2.St) (H : Hp) : Prop := ∃ x y : Int, σ = [some (.int t), some (.int b), some (.int x), some (.int y)] ∧ 0 ≤ x ∧ 0 ≤ y ∧ Nat.gcd x.natAbs y.natAbs = Nat.gcd t.natAbs b.toNat ∧ m = y.toNat ∧ H = H0
theorem ok_lowest {f : Addr} {fd : FuncData} (F : Fun K "lowest" "lowest" (top 7) f fd) (B : Bi mg) : FnOk P w K mg base CX0 1 f fd ["top", "bottom"] spLow := by
  refine F.ok sc_lowest (fun vs H Q E h => ?_) (fun cdv A outer s H vs Q E hr h => ?_)
  · obtain ⟨t, b, rfl, _⟩ := h
    rfl
  · obtain ⟨t, b, rfl, hb, hz, k⟩ := h
    refine ⟨_, (pss_cons (ps_par (i := 2) (j := 3) rfl sc_lowest.nd rfl rfl (by decide) rfl rfl (pa_cons (pe_callB call_abs (by rfl) B.abs_ bt_abs (pa_cons (pv 0) pa_nil)) (pa_cons (pv 1) pa_nil)) (by rfl))
      (pss_cons (ps_while PassesOwn.never (pt_cmpR op_gt (pv 3) pe_int (nomark _)) (pss_one (ps_par (i := 2) (j := 3) rfl sc_lowest.nd rfl rfl (by decide) rfl rfl (pa_cons (pv 3) (pa_cons (pe_op op_mod (pv 2) (pv 3)) pa_nil)) (by rfl))))
      (pss_one (ps_ret (pe_tup (pa_cons (pe_op op_fdivW (pv 0) (pv 2)) (pa_cons (pe_op op_fdivW (pv 1) (pv 2)) pa_nil))))))), ?_⟩
    refine ⟨_, rfl, _, rfl, _, rfl, _, _, rfl, ?_⟩
    refine ⟨LowW t b H, ⟨b.toNat, _, b, rfl, ?_, by omega, ?_, rfl, rfl⟩, ?_⟩
    · split <;> omega
    · have e1 : (if t < 0 then -t else t).natAbs = t.natAbs := by split <;> omega
      have e2 : b.natAbs = b.toNat := by omega
      rw [e1, e2]
    rintro m σ H1 ⟨x, y, rfl, hx, hy, hg, rfl, rfl⟩
    refine ⟨_, rfl, _, _, rfl, rfl, _, rfl, ?_⟩
    refine ite2 (fun e => ?_) (fun e => ?_)
    · have hp : 0 < y := of_decide_eq_true e
      refine ⟨fun σ' H' => LowW t b H1 (x % y).toNat σ' H', fun σ' H' n => ⟨_, ?_, n⟩, ?_⟩
      · have := Int.emod_lt_of_pos x hp
        have := Int.emod_nonneg x (show y ≠ 0 by omega)
        omega
      refine ⟨_, rfl, _, rfl, _, rfl, _, _, rfl, rfl, hp, _, _, rfl, ?_⟩
      exact ⟨y, x % y, rfl, hy, Int.emod_nonneg x (by omega), (gcd_step hx hp).trans hg, rfl, rfl⟩
    · have h0 : y = 0 := by
        have : ¬ 0 < y := fun z => e (decide_eq_true z)
        omega
      subst h0
      have hg2 : x.natAbs = Nat.gcd t.natAbs b.toNat := by
        rw [← hg]
        show x.natAbs = Nat.gcd x.natAbs 0
        rw [Nat.gcd_zero_right]
      have gp : 0 < Nat.gcd t.natAbs b.toNat := Nat.gcd_pos_of_pos_right _ (by omega)
      have gl : Nat.gcd t.natAbs b.toNat ≤ b.toNat := Nat.le_of_dvd (by omega) (Nat.gcd_dvd_right _ _)
      have ex : x = ((Nat.gcd t.natAbs b.toNat : Nat) : Int) := by omega
      have cd : CDivW (0 : Int) x := wide_div (b := 8000) (by omega) (by omega) (by decide) (by decide)
      refine ⟨_, rfl, _, rfl, _, _, rfl, rfl, cd, _, rfl, _, rfl, _, _, rfl, rfl, cd, by show 2 ≤ sizeLine; decide, fun p hp => ?_⟩
      refine k _ _ (same_upd hp) ⟨p, rfl, ?_⟩
      rw [upd_same, fr_num hb, fr_den hb, ex]

/-! ### is_less -/
def spLess : Sp := fun vs H Q _ => ∃ (v u : V) (p q : Rat), vs = [v, u] ∧ Fr H v p ∧ Fr H u q ∧ Small p ∧ Small q ∧ Q (.bl (decide (p < q))) H
theorem mulSS {i j : Int} (hi : i.natAbs < 2 ^ 2000) (hj : j.natAbs < 2 ^ 2000) : CMulW i j := wide_mul (a := 2000) (b := 2000) hi hj (by decide) (by decide) (by decide)
theorem pw_100 : (2 : Nat) ^ 100 ≤ 2 ^ 2000 := Nat.pow_le_pow_right (by decide) (by decide)
theorem sn {q : Rat} (h : Small q) : q.num.natAbs < 2 ^ 2000 := Nat.lt_of_lt_of_le h.1 pw_100
theorem sd {q : Rat} (h : Small q) : ((q.den : Int)).natAbs < 2 ^ 2000 := by
  rw [Int.natAbs_natCast]
  exact Nat.lt_of_lt_of_le h.2 pw_100
theorem at0 {xs : List V} {v : V} (h : xs[0]? = some v) : atI xs 0 = some v := atI_nat (j := 0) h
theorem at1 {xs : List V} {v : V} (h : xs[1]? = some v) : atI xs 1 = some v := atI_nat (j := 1) h
theorem sc_is_less : FnScope ["one", "other"] ["one", "other"] (defScope (top 8)) :=
  ⟨rfl, rfl, rfl, by decide +kernel, rfl, by decide +kernel, by decide +kernel⟩
theorem ok_is_less {f : Addr} {fd : FuncData} (F : Fun K "is_less" "is_less" (top 8) f fd) (B : Bi mg) : FnOk P w K mg base CX0 1 f fd ["one", "other"] spLess := by
  refine F.ok sc_is_less (fun vs H Q E h => ?_) (fun cdv A outer s H vs Q E hr h => ?_)
  · obtain ⟨v, u, p, q, rfl, _⟩ := h
    rfl
  · obtain ⟨v, u, p, q, rfl, ⟨a, rfl, ha⟩, ⟨b, rfl, hb⟩, sp, sq, k⟩ := h
    refine ⟨_, (pss_one (ps_ret (pe_cmpR op_lt (pe_op op_mulW (pe_ix ix_tup (pv 0) pe_int (fun _ _ => rfl)) (pe_ix ix_tup (pv 1) pe_int (fun _ _ => rfl))) (pe_op op_mulW (pe_ix ix_tup (pv 1) pe_int (fun _ _ => rfl)) (pe_ix ix_tup (pv 0) pe_int (fun _ _ => rfl))) (nomark _)))), ?_⟩
    refine ⟨_, rfl, _, _, _, _, rfl, rfl, SqT.of ha, at0 rfl, _, rfl, _, _, _, _, rfl, rfl, SqT.of hb, at1 rfl, _, _, rfl, rfl, mulSS (sn sp) (sd sq), ?_⟩
    refine ⟨_, rfl, _, _, _, _, rfl, rfl, SqT.of hb, at0 rfl, _, rfl, _, _, _, _, rfl, rfl, SqT.of ha, at1 rfl, _, _, rfl, rfl, mulSS (sn sq) (sd sp), ?_⟩
    refine ⟨_, _, rfl, rfl, ?_⟩
    rw [← fr_less] at k
    exact k

/-! ### the greatest, the least -/
theorem Paired.nth {α β : Type} {F : α → β → Prop} : ∀ {l : List α} {m : List β} {i : Nat} {a : α}, Paired F l m → l[i]? = some a → ∃ b, m[i]? = some b ∧ F a b
  | _, _, _, _, .nil, e => by simp at e
  | _, _, 0, _, .cons r _, e => by
    simp at e
    subst e
    exact ⟨_, rfl, r⟩
  | _, _, i + 1, a, .cons _ t, e => by
    obtain ⟨b, h1, h2⟩ := Paired.nth (i := i) (a := a) t (by simpa using e)
    exact ⟨b, by simpa using h1, h2⟩
theorem Paired.nth2 {α β : Type} {F : α → β → Prop} : ∀ {l : List α} {m : List β} {i : Nat} {b : β}, Paired F l m → m[i]? = some b → ∃ a, l[i]? = some a ∧ F a b
  | _, _, _, _, .nil, e => by simp at e
  | _, _, 0, _, .cons r _, e => by
    simp at e
    subst e
    exact ⟨_, rfl, r⟩
  | _, _, i + 1, a, .cons _ t, e => by
    obtain ⟨b, h1, h2⟩ := Paired.nth2 (i := i) t (by simpa using e)
    exact ⟨b, by simpa using h1, h2⟩
theorem Paired.mp {α β : Type} {F G : α → β → Prop} (f : ∀ a b, F a b → G a b) : ∀ {l : List α} {m : List β}, Paired F l m → Paired G l m
  | _, _, .nil => .nil
  | _, _, .cons r t => .cons (f _ _ r) (Paired.mp f t)
theorem Paired.snoc {α β : Type} {F : α → β → Prop} {a : α} {b : β} (h : F a b) : ∀ {l : List α} {m : List β}, Paired F l m → Paired F (l ++ [a]) (m ++ [b])
  | _, _, .nil => .cons h .nil
  | _, _, .cons r t => .cons r (Paired.snoc h t)
theorem take_snoc {α : Type} {l : List α} {i : Nat} {a : α} (h : l[i]? = some a) : l.take (i + 1) = l.take i ++ [a] := by
  rw [List.take_add_one, h]
  rfl
theorem stp_yes {o : Bool} {a b : Rat} (h : (if o then decide (a < b) else decide (b < a)) = true) : stp o a b = b := if_pos h
theorem stp_no {o : Bool} {a b : Rat} (h : ¬ (if o then decide (a < b) else decide (b < a)) = true) : stp o a b = a := if_neg h
theorem fold_snoc {o : Bool} {l : List Rat} {i : Nat} {a q : Rat} (h : l[i]? = some q) : (l.take (i + 1)).foldl (stp o) a = stp o ((l.take i).foldl (stp o) a) q := by
  rw [take_snoc h, List.foldl_append]
  rfl
/-- the list's fractions -/
def Frs (H : Hp) (l : Addr) (qs : List Rat) : Prop := ∃ vs, H l = some (.lst vs) ∧ Paired (Fr H) vs qs
theorem Frs.mono {H H' : Hp} {l : Addr} {qs : List Rat} (h : Frs H l qs) (s : Same H H') : Frs H' l qs := by
  obtain ⟨vs, h1, h2⟩ := h
  exact ⟨vs, s _ _ h1, Paired.mp (fun _ _ z => z.mono s) h2⟩
def spBst (o : Bool) : Sp := fun vs H Q _ => ∃ (l : Addr) (qs : List Rat), vs = [.ref l] ∧ Frs H l qs ∧ qs ≠ [] ∧ (∀ q ∈ qs, Small q) ∧ Ret (fun v H' => Fr H' v (bst o qs)) H Q
theorem fold_small {o : Bool} : ∀ {l : List Rat} {a : Rat}, Small a → (∀ q ∈ l, Small q) → Small (l.foldl (stp o) a)
  | [], a, h, _ => h
  | x :: l, a, h, hl => by
    refine fold_small (l := l) (a := stp o a x) ?_ fun q hq => hl q (List.mem_cons_of_mem _ hq)
    rcases stp_or o a x with e | e
    · rw [e]; exact h
    · rw [e]; exact hl x (List.mem_cons_self ..)
theorem sc_top_of : FnScope ["fractions", "best", "one"] ["fractions"] (defScope (top 9)) :=
  ⟨rfl, rfl, rfl, by decide +kernel, rfl, by decide +kernel, by decide +kernel⟩
def TopW (H0 : Hp) (l : Addr) (o : Bool) (qs : List Rat) (i : Nat) (σ : L2.St) (H : Hp) : Prop := ∃ bv y, σ = [some (.ref l), some bv, y] ∧ Same H0 H ∧ Fr H bv ((qs.take i).foldl (stp o) (qs.headD 0))
theorem ok_top_of {f : Addr} {fd : FuncData} (F : Fun K "top_of" "top_of" (top 9) f fd) (B : Bi mg) (c_is_less : Cal P w K mg base 1 "is_less" spLess []) : FnOk P w K mg base CX0 2 f fd ["fractions"] (spBst true) := by
  refine F.ok sc_top_of (fun vs H Q E h => ?_) (fun cdv A outer s H vs Q E hr h => ?_)
  · obtain ⟨l, qs, rfl, _⟩ := h
    rfl
  · obtain ⟨l, qs, rfl, ⟨us, hl, hp⟩, hne, hsm, k⟩ := h
    refine ⟨_, (pss_cons (ps_set (i := 1) sc_top_of.nd rfl (Or.inl rfl) (pe_ix ix_list (pv 0) pe_int (fun _ _ => rfl)))
      (pss_cons (ps_for PassesOwn.never rfl (pi_list (pv 0)) (pg_name (i := 2) sc_top_of.nd rfl (Or.inl rfl))
      (pss_one (ps_if (pt_val (pe_c c_is_less hr (by decide) (by rfl) (pa_cons (pv 1) (pa_cons (pv 2) pa_nil)))) (pss_one (ps_set (i := 1) sc_top_of.nd rfl (Or.inl rfl) (pv 2))) pss_nil)))
      (pss_one (ps_ret (pv 1))))), ?_⟩
    obtain ⟨q0, qr, rfl⟩ : ∃ q r, qs = q :: r := by
      cases qs with
      | nil => exact absurd rfl hne
      | cons q r => exact ⟨q, r, rfl⟩
    obtain ⟨v0, e0, f0⟩ := Paired.nth2 (i := 0) hp rfl
    have ln := hp.length
    refine ⟨_, rfl, _, _, _, _, rfl, rfl, SqL.of hl, at0 e0, ?_⟩
    refine ⟨_, rfl, l, rfl, ⟨_, SqL.of hl⟩, for_list (xs := us) (TopW H l true (q0 :: qr)) ⟨v0, none, rfl, Same.refl H, f0⟩ (fun i σ H' _ ⟨_, _, _, s, _⟩ => SqL.of (s _ _ hl)) ?_ ?_⟩
    · rintro i x σ H' hx ⟨bv, y, rfl, s, hb⟩
      obtain ⟨q, hq, fq⟩ := Paired.nth hp hx
      have sb : Small ((((q0 :: qr).take i).foldl (stp true) q0)) := fold_small (hsm q0 (List.mem_cons_self ..)) fun z hz => hsm z (List.mem_of_mem_take hz)
      have sq : Small q := hsm q (List.mem_of_getElem? hq)
      refine ⟨_, rfl, _, rfl, bv, x, _, q, rfl, hb, fq.mono s, sb, sq, _, rfl, ?_⟩
      refine ite2 (fun e => ?_) (fun e => ?_)
      · refine ⟨_, rfl, x, some x, rfl, s, ?_⟩
        rw [fold_snoc hq, stp_yes (o := true) e]
        exact fq.mono s
      · refine ⟨bv, some x, rfl, s, ?_⟩
        rw [fold_snoc hq, stp_no (o := true) e]
        exact hb
    · rintro σ H' ⟨bv, y, rfl, s, hb⟩
      refine ⟨_, rfl, k _ _ s ?_⟩
      rw [ln, List.take_length] at hb
      exact hb
theorem sc_bottom_of : FnScope ["fractions", "best", "one"] ["fractions"] (defScope (top 10)) :=
  ⟨rfl, rfl, rfl, by decide +kernel, rfl, by decide +kernel, by decide +kernel⟩
theorem ok_bottom_of {f : Addr} {fd : FuncData} (F : Fun K "bottom_of" "bottom_of" (top 10) f fd) (B : Bi mg) (c_is_less : Cal P w K mg base 1 "is_less" spLess []) : FnOk P w K mg base CX0 2 f fd ["fractions"] (spBst false) := by
  refine F.ok sc_bottom_of (fun vs H Q E h => ?_) (fun cdv A outer s H vs Q E hr h => ?_)
  · obtain ⟨l, qs, rfl, _⟩ := h
    rfl
  · obtain ⟨l, qs, rfl, ⟨us, hl, hp⟩, hne, hsm, k⟩ := h
    refine ⟨_, (pss_cons (ps_set (i := 1) sc_bottom_of.nd rfl (Or.inl rfl) (pe_ix ix_list (pv 0) pe_int (fun _ _ => rfl)))
      (pss_cons (ps_for PassesOwn.never rfl (pi_list (pv 0)) (pg_name (i := 2) sc_bottom_of.nd rfl (Or.inl rfl))
      (pss_one (ps_if (pt_val (pe_c c_is_less hr (by decide) (by rfl) (pa_cons (pv 2) (pa_cons (pv 1) pa_nil)))) (pss_one (ps_set (i := 1) sc_bottom_of.nd rfl (Or.inl rfl) (pv 2))) pss_nil)))
      (pss_one (ps_ret (pv 1))))), ?_⟩
    obtain ⟨q0, qr, rfl⟩ : ∃ q r, qs = q :: r := by
      cases qs with
      | nil => exact absurd rfl hne
      | cons q r => exact ⟨q, r, rfl⟩
    obtain ⟨v0, e0, f0⟩ := Paired.nth2 (i := 0) hp rfl
    have ln := hp.length
    refine ⟨_, rfl, _, _, _, _, rfl, rfl, SqL.of hl, at0 e0, ?_⟩
    refine ⟨_, rfl, l, rfl, ⟨_, SqL.of hl⟩, for_list (xs := us) (TopW H l false (q0 :: qr)) ⟨v0, none, rfl, Same.refl H, f0⟩ (fun i σ H' _ ⟨_, _, _, s, _⟩ => SqL.of (s _ _ hl)) ?_ ?_⟩
    · rintro i x σ H' hx ⟨bv, y, rfl, s, hb⟩
      obtain ⟨q, hq, fq⟩ := Paired.nth hp hx
      have sb : Small ((((q0 :: qr).take i).foldl (stp false) q0)) := fold_small (hsm q0 (List.mem_cons_self ..)) fun z hz => hsm z (List.mem_of_mem_take hz)
      have sq : Small q := hsm q (List.mem_of_getElem? hq)
      refine ⟨_, rfl, _, rfl, x, bv, q, _, rfl, fq.mono s, hb, sq, sb, _, rfl, ?_⟩
      refine ite2 (fun e => ?_) (fun e => ?_)
      · refine ⟨_, rfl, x, some x, rfl, s, ?_⟩
        rw [fold_snoc hq, stp_yes (o := false) e]
        exact fq.mono s
      · refine ⟨bv, some x, rfl, s, ?_⟩
        rw [fold_snoc hq, stp_no (o := false) e]
        exact hb
    · rintro σ H' ⟨bv, y, rfl, s, hb⟩
      refine ⟨_, rfl, k _ _ s ?_⟩
      rw [ln, List.take_length] at hb
      exact hb
end
end Gw
end

section
set_option Elab.async false
set_option linter.all false
set_option maxRecDepth 100000
set_option maxHeartbeats 4000000
set_option exponentiation.threshold 10000
/-! walks: means, the law's own fractions -/
namespace Gw
open PySem PySem.Spec PyProof.Rows L2
open C8 (Cal Mak Met pe_c pe_mk pe_mt pe_mt0 pe_gc)
open RZ (pi_zipA ItzT)

theorem fr_le {t b : Int} (hb : 0 < b) : (fr t b).num.natAbs ≤ t.natAbs ∧ ((fr t b).den : Int) ≤ b := by
  have gp : 0 < Nat.gcd t.natAbs b.toNat := Nat.gcd_pos_of_pos_right _ (by omega)
  have d1 : ((Nat.gcd t.natAbs b.toNat : Nat) : Int) ∣ t := by
    exact Int.ofNat_dvd_left.mpr (Nat.gcd_dvd_left _ _)
  constructor
  · rw [fr_num hb]
    have e := Int.ediv_mul_cancel d1
    have e2 : (t / ((Nat.gcd t.natAbs b.toNat : Nat) : Int)).natAbs * Nat.gcd t.natAbs b.toNat = t.natAbs := by
      conv => rhs; rw [← e]
      rw [Int.natAbs_mul, Int.natAbs_natCast]
    calc _ ≤ (t / ((Nat.gcd t.natAbs b.toNat : Nat) : Int)).natAbs * Nat.gcd t.natAbs b.toNat := Nat.le_mul_of_pos_right _ gp
      _ = _ := e2
  · rw [fr_den hb]
    exact Int.ediv_le_self _ (by omega)
theorem size_step {T B w : Int} {q : Rat} {M : Nat} (hT : T.natAbs < M) (hB : B.natAbs < M) (h1 : 0 < w) (h2 : w ≤ 3) (sq : Small q) :
    (T * (q.den : Int) + w * q.num * B).natAbs < M * 2 ^ 300 ∧ (B * (q.den : Int)).natAbs < M * 2 ^ 300 := by
  obtain ⟨s1, s2⟩ := sq
  have a1 : T.natAbs * q.den ≤ M * 2 ^ 100 := Nat.mul_le_mul (Nat.le_of_lt hT) (Nat.le_of_lt s2)
  have a2 : w.natAbs * q.num.natAbs * B.natAbs ≤ 3 * 2 ^ 100 * M := Nat.mul_le_mul (Nat.mul_le_mul (by omega) (Nat.le_of_lt s1)) (Nat.le_of_lt hB)
  have a3 : B.natAbs * q.den ≤ M * 2 ^ 100 := Nat.mul_le_mul (Nat.le_of_lt hB) (Nat.le_of_lt s2)
  have e1 : (T * (q.den : Int)).natAbs = T.natAbs * q.den := by rw [Int.natAbs_mul, Int.natAbs_natCast]
  have e2 : (w * q.num * B).natAbs = w.natAbs * q.num.natAbs * B.natAbs := by rw [Int.natAbs_mul, Int.natAbs_mul]
  have e3 : (B * (q.den : Int)).natAbs = B.natAbs * q.den := by rw [Int.natAbs_mul, Int.natAbs_natCast]
  have c : (2 : Nat) ^ 100 * 4 < 2 ^ 300 := by decide +kernel
  have m0 : 0 < M := by omega
  have c2 : M * (2 ^ 100 * 4) < M * 2 ^ 300 := Nat.mul_lt_mul_of_pos_left c m0
  have c3 : M * (2 ^ 100 * 4) = M * 2 ^ 100 + 3 * 2 ^ 100 * M := by
    generalize (2 : Nat) ^ 100 = z
    rw [Nat.mul_comm (3 * z) M, ← Nat.mul_add]
    congr 1
    omega
  have t := Int.natAbs_add_le (T * (q.den : Int)) (w * q.num * B)
  constructor
  · omega
  · rw [e3]
    have : M * 2 ^ 100 ≤ M * (2 ^ 100 * 4) := Nat.mul_le_mul_left _ (by omega)
    omega
theorem pw_step (i : Nat) : 2 ^ (300 * (i + 1)) * 2 ^ 300 = 2 ^ (300 * (i + 1 + 1)) := by
  rw [← Nat.pow_add]
  congr 1
theorem pw_max {i : Nat} (h : i ≤ 4) : 2 ^ (300 * (i + 1)) ≤ 2 ^ 2000 := Nat.pow_le_pow_right (by decide) (by omega)
theorem pw_max2 {i : Nat} (h : i ≤ 4) : 2 ^ (300 * (i + 1)) ≤ 2 ^ 7000 := Nat.pow_le_pow_right (by decide) (by omega)
theorem w_small {w : Int} (h1 : 0 < w) (h2 : w ≤ 3) : w.natAbs < 2 ^ 2000 := by
  have : (3 : Nat) < 2 ^ 2000 := by decide +kernel
  omega
theorem wn_small {w : Int} {q : Rat} (h1 : 0 < w) (h2 : w ≤ 3) (s : Small q) : (w * q.num).natAbs < 2 ^ 2000 := by
  rw [Int.natAbs_mul]
  have a1 : w.natAbs * q.num.natAbs ≤ 3 * 2 ^ 100 := Nat.mul_le_mul (by omega) (Nat.le_of_lt s.1)
  have : (3 : Nat) * 2 ^ 100 < 2 ^ 2000 := by decide +kernel
  omega
theorem fr_01 : fr 0 1 = 0 := by
  rw [fr_eq (by decide)]
  have e : ((0 : Int) : Rat) = 0 := rfl
  rw [e]
  grind
/-- rows of a mean -/
def RowAt (H : Hp) (t : V) (r : Int × Rat) : Prop := ∃ a v, t = .ref a ∧ H a = some (.tup [.int r.1, v]) ∧ Fr H v r.2
def Rows (H : Hp) (l : Addr) (rows : List (Int × Rat)) : Prop := ∃ ts, H l = some (.lst ts) ∧ Paired (RowAt H) ts rows
theorem RowAt.mono {H H' : Hp} {t : V} {r : Int × Rat} (h : RowAt H t r) (s : Same H H') : RowAt H' t r := by
  obtain ⟨a, v, e, h, f⟩ := h
  exact ⟨a, v, e, s _ _ h, f.mono s⟩
def spMean : Sp := fun vs H Q _ => ∃ (l : Addr) (rows : List (Int × Rat)), vs = [.ref l] ∧ Rows H l rows ∧ rows ≠ [] ∧ rows.length ≤ 3 ∧ (∀ r ∈ rows, 0 < r.1 ∧ r.1 ≤ 3 ∧ Small r.2) ∧ Ret (fun v H' => Fr H' v (mean rows)) H Q
theorem wts_le {rows : List (Int × Rat)} (h : ∀ r ∈ rows, r.1 ≤ 3) : wts rows ≤ 3 * rows.length := by
  induction rows with
  | nil => exact Int.le_refl 0
  | cons a l ih =>
    have h1 := h a (List.mem_cons_self ..)
    have h2 := ih fun r hr => h r (List.mem_cons_of_mem _ hr)
    show a.1 + wts l ≤ 3 * ((l.length + 1 : Nat) : Int)
    omega

section
variable {P : Program} {w : World} {K : PySem.W.Frag} {mg : Str → Option Value} {base : Heap}
theorem sc_weighed : FnScope ["rows", "top", "bottom", "whole", "weight", "one"] ["rows"] (defScope (top 11)) :=
  ⟨rfl, rfl, rfl, by decide +kernel, rfl, by decide +kernel, by decide +kernel⟩
def WeiW (H0 : Hp) (l : Addr) (rows : List (Int × Rat)) (i : Nat) (σ : L2.St) (H : Hp) : Prop := ∃ (T B : Int) (y z : Option V), σ = [some (.ref l), some (.int T), some (.int B), some (.int (wts (rows.take i))), y, z] ∧ Same H0 H ∧ 0 < B ∧
  fr T B = wsum (rows.take i) ∧ T.natAbs < 2 ^ (300 * (i + 1)) ∧ B.natAbs < 2 ^ (300 * (i + 1))
theorem ok_weighed {f : Addr} {fd : FuncData} (F : Fun K "weighed" "weighed" (top 11) f fd) (B : Bi mg) (c_lowest : Cal P w K mg base 1 "lowest" spLow []) : FnOk P w K mg base CX0 2 f fd ["rows"] spMean := by
  refine F.ok sc_weighed (fun vs H Q E h => ?_) (fun cdv A outer s H vs Q E hr h => ?_)
  · obtain ⟨l, rows, rfl, _⟩ := h
    rfl
  · obtain ⟨l, rows, rfl, ⟨ts, hl, hp⟩, hne, hlen, hok, k⟩ := h
    refine ⟨_, (pss_cons (ps_asg (pe_tup (pa_cons pe_int (pa_cons pe_int (pa_cons pe_int pa_nil)))) (pg_tup rfl (pgs_cons (pg_name (i := 1) sc_weighed.nd rfl (Or.inl rfl)) (pgs_cons (pg_name (i := 2) sc_weighed.nd rfl (Or.inl rfl)) (pgs_cons (pg_name (i := 3) sc_weighed.nd rfl (Or.inl rfl)) pgs_nil)))))
      (pss_cons (ps_for PassesOwn.never rfl (pi_list (pv 0)) (pg_tup rfl (pgs_cons (pg_name (i := 4) sc_weighed.nd rfl (Or.inl rfl)) (pgs_cons (pg_name (i := 5) sc_weighed.nd rfl (Or.inl rfl)) pgs_nil)))
      (pss_cons (ps_asg (pe_c c_lowest hr (by decide) (by rfl) (pa_cons (pe_op op_add (pe_op op_mulW (pv 1) (pe_ix ix_tup (pv 5) pe_int (fun _ _ => rfl))) (pe_op op_mulW (pe_op op_mulW (pv 4) (pe_ix ix_tup (pv 5) pe_int (fun _ _ => rfl))) (pv 2))) (pa_cons (pe_op op_mulW (pv 2) (pe_ix ix_tup (pv 5) pe_int (fun _ _ => rfl))) pa_nil))) (pg_tup rfl (pgs_cons (pg_name (i := 1) sc_weighed.nd rfl (Or.inl rfl)) (pgs_cons (pg_name (i := 2) sc_weighed.nd rfl (Or.inl rfl)) pgs_nil))))
      (pss_one (ps_set (i := 3) sc_weighed.nd rfl (Or.inl rfl) (pe_op op_add (pv 3) (pv 4))))))
      (pss_one (ps_ret (pe_c c_lowest hr (by decide) (by rfl) (pa_cons (pv 1) (pa_cons (pe_op op_mulW (pv 2) (pv 3)) pa_nil))))))), ?_⟩
    have ln := hp.length
    refine ⟨by show 3 ≤ sizeLine; decide, fun p np => ?_⟩
    have s1 : Same H (upd H p (.tup [.int 0, .int 1, .int 0])) := same_upd np
    refine ⟨p, _, rfl, SqT.of upd_same, rfl, _, _, rfl, _, _, rfl, _, _, rfl, rfl, ?_⟩
    refine ⟨_, rfl, l, rfl, ⟨_, SqL.of (s1 _ _ hl)⟩, for_list (xs := ts) (WeiW H l rows) ⟨0, 1, none, none, rfl, s1, by decide, ?_, by decide, by decide⟩ (fun i σ H' _ ⟨_, _, _, _, _, s, _⟩ => SqL.of (s _ _ hl)) ?_ ?_⟩
    · exact fr_01
    · rintro i x σ H' hx ⟨T, B', y, z, rfl, s, hB, hf, sT, sB⟩
      obtain ⟨r, hr', a, v, rfl, ha, b, rfl, hv⟩ := Paired.nth hp hx
      have hi : i < rows.length := (List.getElem?_eq_some_iff.mp hr').1
      obtain ⟨r1, r2, r3⟩ := hok r (List.mem_of_getElem? hr')
      have hv' : SqT K H' b _ := SqT.of (s _ _ hv)
      have bT : T.natAbs < 2 ^ 2000 := Nat.lt_of_lt_of_le sT (pw_max (by omega))
      have bB : B'.natAbs < 2 ^ 2000 := Nat.lt_of_lt_of_le sB (pw_max (by omega))
      obtain ⟨n1, n2⟩ := size_step sT sB r1 r2 r3
      rw [pw_step] at n1 n2
      have hBd : 0 < B' * (r.2.den : Int) := Int.mul_pos hB (den0 r.2)
      refine ⟨a, _, rfl, SqT.of (s _ _ ha), rfl, _, _, rfl, _, _, rfl, rfl, ?_⟩
      refine ⟨_, rfl, _, rfl, _, _, _, _, rfl, rfl, hv', at1 rfl, _, _, rfl, rfl, mulSS bT (sd r3), _, rfl, _, rfl, _, _, _, _, rfl, rfl, hv', at0 rfl, _, _, rfl, rfl, mulSS (w_small r1 r2) (sn r3), _, rfl, _, _, rfl, rfl, mulSS (wn_small r1 r2 r3) bB, _, _, rfl, rfl, ?_⟩
      refine ⟨_, rfl, _, rfl, _, _, _, _, rfl, rfl, hv', at1 rfl, _, _, rfl, rfl, mulSS bB (sd r3), _, _, rfl, hBd, Nat.lt_of_lt_of_le n2 (Nat.le_trans (pw_max2 (by omega)) (by decide +kernel)), fun u H2 s2 fu => ?_⟩
      obtain ⟨c, rfl, hc⟩ := fu
      refine ⟨c, _, rfl, SqT.of hc, rfl, _, _, rfl, _, _, rfl, rfl, ?_⟩
      refine ⟨_, rfl, _, rfl, _, _, rfl, rfl, ?_⟩
      obtain ⟨l1, l2⟩ := fr_le (t := T * (r.2.den : Int) + r.1 * r.2.num * B') hBd
      unfold WeiW
      rw [take_snoc hr', wts_snoc, wsum_snoc]
      refine ⟨_, _, _, _, rfl, s.trans s2, den0 _, ?_, Nat.lt_of_le_of_lt l1 n1, ?_⟩
      · rw [fr_self, fr_step r.2 hB, hf]
      · omega
    · rintro σ H' ⟨T, B', y, z, rfl, s, hB, hf, sT, sB⟩
      rw [ln, List.take_length] at hf
      rw [ln] at sT sB
      have hw : 0 < wts rows := wts_pos (fun r hr => (hok r hr).1) hne
      have hw2 := wts_le fun r hr => (hok r hr).2.1
      have e : (rows.take ts.length) = rows := by rw [ln, List.take_length]
      rw [e]
      have bB : B'.natAbs < 2 ^ 2000 := Nat.lt_of_lt_of_le sB (pw_max (by omega))
      have bw : (wts rows).natAbs < 2 ^ 2000 := by
        have : (100 : Nat) < 2 ^ 2000 := by decide +kernel
        omega
      have bBw : (B' * wts rows).natAbs < 2 ^ 8000 := by
        rw [Int.natAbs_mul]
        have q1 := Nat.mul_lt_mul'' bB bw
        have q2 : (2 : Nat) ^ 2000 * 2 ^ 2000 ≤ 2 ^ 8000 := by rw [← Nat.pow_add]; exact Nat.pow_le_pow_right (by decide) (by decide)
        exact Nat.lt_of_lt_of_le q1 q2
      refine ⟨_, rfl, _, rfl, _, rfl, _, _, rfl, rfl, mulSS bB bw, _, _, rfl, Int.mul_pos hB hw, bBw, fun u H2 s2 fu => ?_⟩
      refine k _ _ (s.trans s2) ?_
      have e2 : fr T (B' * wts rows) = mean rows := by
        rw [fr_div hB hw, hf]
        rfl
      rw [← e2]
      exact fu
/-! ### the law's own -/
theorem sc_law_t_lowest : FnScope ["_law_top", "_law_bottom", "_law_one", "_law_other"] ["_law_top", "_law_bottom"] (defScope (top 34)) :=
  ⟨rfl, rfl, rfl, by decide +kernel, rfl, by decide +kernel, by decide +kernel⟩
theorem ok_law_t_lowest {f : Addr} {fd : FuncData} (F : Fun K "_law_t_lowest" "_law_t_lowest" (top 34) f fd) (B : Bi mg) : FnOk P w K mg base CX0 1 f fd ["_law_top", "_law_bottom"] spLow := by
  refine F.ok sc_law_t_lowest (fun vs H Q E h => ?_) (fun cdv A outer s H vs Q E hr h => ?_)
  · obtain ⟨t, b, rfl, _⟩ := h
    rfl
  · obtain ⟨t, b, rfl, hb, hz, k⟩ := h
    refine ⟨_, (pss_cons (ps_par (i := 2) (j := 3) rfl sc_law_t_lowest.nd rfl rfl (by decide) rfl rfl (pa_cons (pe_callB call_abs (by rfl) B.abs_ bt_abs (pa_cons (pv 0) pa_nil)) (pa_cons (pv 1) pa_nil)) (by rfl))
      (pss_cons (ps_while PassesOwn.never (pt_cmpR op_gt (pv 3) pe_int (nomark _)) (pss_one (ps_par (i := 2) (j := 3) rfl sc_law_t_lowest.nd rfl rfl (by decide) rfl rfl (pa_cons (pv 3) (pa_cons (pe_op op_mod (pe_callTy call_int1 (by rfl) B.int_ bt_int (pa_cons (pv 2) pa_nil)) (pv 3)) pa_nil)) (by rfl))))
      (pss_one (ps_ret (pe_tup (pa_cons (pe_op op_fdivW (pv 0) (pv 2)) (pa_cons (pe_op op_fdivW (pv 1) (pv 2)) pa_nil))))))), ?_⟩
    refine ⟨_, rfl, _, rfl, _, rfl, _, _, rfl, ?_⟩
    refine ⟨LowW t b H, ⟨b.toNat, _, b, rfl, ?_, by omega, ?_, rfl, rfl⟩, ?_⟩
    · split <;> omega
    · have e1 : (if t < 0 then -t else t).natAbs = t.natAbs := by split <;> omega
      have e2 : b.natAbs = b.toNat := by omega
      rw [e1, e2]
    rintro m σ H1 ⟨x, y, rfl, hx, hy, hg, rfl, rfl⟩
    refine ⟨_, rfl, _, _, rfl, rfl, _, rfl, ?_⟩
    refine ite2 (fun e => ?_) (fun e => ?_)
    · have hp : 0 < y := of_decide_eq_true e
      refine ⟨fun σ' H' => LowW t b H1 (x % y).toNat σ' H', fun σ' H' n => ⟨_, ?_, n⟩, ?_⟩
      · have := Int.emod_lt_of_pos x hp
        have := Int.emod_nonneg x (show y ≠ 0 by omega)
        omega
      refine ⟨_, rfl, _, rfl, Or.inl ⟨_, rfl, _, rfl, _, _, rfl, rfl, hp, _, _, rfl, ?_⟩⟩
      exact ⟨y, x % y, rfl, hy, Int.emod_nonneg x (by omega), (gcd_step hx hp).trans hg, rfl, rfl⟩
    · have h0 : y = 0 := by
        have : ¬ 0 < y := fun z => e (decide_eq_true z)
        omega
      subst h0
      have hg2 : x.natAbs = Nat.gcd t.natAbs b.toNat := by
        rw [← hg]
        show x.natAbs = Nat.gcd x.natAbs 0
        rw [Nat.gcd_zero_right]
      have gp : 0 < Nat.gcd t.natAbs b.toNat := Nat.gcd_pos_of_pos_right _ (by omega)
      have gl : Nat.gcd t.natAbs b.toNat ≤ b.toNat := Nat.le_of_dvd (by omega) (Nat.gcd_dvd_right _ _)
      have ex : x = ((Nat.gcd t.natAbs b.toNat : Nat) : Int) := by omega
      have cd : CDivW (0 : Int) x := wide_div (b := 8000) (by omega) (by omega) (by decide) (by decide)
      refine ⟨_, rfl, _, rfl, _, _, rfl, rfl, cd, _, rfl, _, rfl, _, _, rfl, rfl, cd, by show 2 ≤ sizeLine; decide, fun p hp => ?_⟩
      refine k _ _ (same_upd hp) ⟨p, rfl, ?_⟩
      rw [upd_same, fr_num hb, fr_den hb, ex]
theorem sc_law_t_less : FnScope ["_law_one", "_law_other"] ["_law_one", "_law_other"] (defScope (top 35)) :=
  ⟨rfl, rfl, rfl, by decide +kernel, rfl, by decide +kernel, by decide +kernel⟩
theorem ok_law_t_less {f : Addr} {fd : FuncData} (F : Fun K "_law_t_less" "_law_t_less" (top 35) f fd) (B : Bi mg) : FnOk P w K mg base CX0 1 f fd ["_law_one", "_law_other"] spLess := by
  refine F.ok sc_law_t_less (fun vs H Q E h => ?_) (fun cdv A outer s H vs Q E hr h => ?_)
  · obtain ⟨v, u, p, q, rfl, _⟩ := h
    rfl
  · obtain ⟨v, u, p, q, rfl, ⟨a, rfl, ha⟩, ⟨b, rfl, hb⟩, sp, sq, k⟩ := h
    refine ⟨_, (pss_one (ps_ret (pe_cmpR op_lt (pe_op op_mulW (pe_ix ix_tup (pv 0) pe_int (fun _ _ => rfl)) (pe_ix ix_tup (pv 1) pe_int (fun _ _ => rfl))) (pe_op op_mulW (pe_ix ix_tup (pv 1) pe_int (fun _ _ => rfl)) (pe_ix ix_tup (pv 0) pe_int (fun _ _ => rfl))) (nomark _)))), ?_⟩
    refine ⟨_, rfl, _, _, _, _, rfl, rfl, SqT.of ha, at0 rfl, _, rfl, _, _, _, _, rfl, rfl, SqT.of hb, at1 rfl, _, _, rfl, rfl, mulSS (sn sp) (sd sq), ?_⟩
    refine ⟨_, rfl, _, _, _, _, rfl, rfl, SqT.of hb, at0 rfl, _, rfl, _, _, _, _, rfl, rfl, SqT.of ha, at1 rfl, _, _, rfl, rfl, mulSS (sn sq) (sd sp), ?_⟩
    refine ⟨_, _, rfl, rfl, ?_⟩
    rw [← fr_less] at k
    exact k
def spBest : Sp := fun vs H Q _ => ∃ (l : Addr) (o : Bool) (qs : List Rat), vs = [.ref l, .bl o] ∧ Frs H l qs ∧ qs ≠ [] ∧ (∀ q ∈ qs, Small q) ∧ Ret (fun v H' => Fr H' v (bst o qs)) H Q
def BestW (H0 : Hp) (l : Addr) (o : Bool) (qs : List Rat) (i : Nat) (σ : L2.St) (H : Hp) : Prop := ∃ bv y, σ = [some (.ref l), some (.bl o), some bv, y] ∧ Same H0 H ∧ Fr H bv ((qs.take i).foldl (stp o) (qs.headD 0))
theorem sc_law_t_best : FnScope ["_law_some", "_law_is_ours", "_law_found", "_law_one"] ["_law_some", "_law_is_ours"] (defScope (top 37)) :=
  ⟨rfl, rfl, rfl, by decide +kernel, rfl, by decide +kernel, by decide +kernel⟩
theorem ok_law_t_best {f : Addr} {fd : FuncData} (F : Fun K "_law_t_best" "_law_t_best" (top 37) f fd) (B : Bi mg) (c_law_t_less : Cal P w K mg base 1 "_law_t_less" spLess []) : FnOk P w K mg base CX0 2 f fd ["_law_some", "_law_is_ours"] spBest := by
  refine F.ok sc_law_t_best (fun vs H Q E h => ?_) (fun cdv A outer s H vs Q E hr h => ?_)
  · obtain ⟨l, o, qs, rfl, _⟩ := h
    rfl
  · obtain ⟨l, o, qs, rfl, ⟨us, hl, hp⟩, hne, hsm, k⟩ := h
    refine ⟨_, (pss_cons (ps_set (i := 2) sc_law_t_best.nd rfl (Or.inl rfl) (pe_ix ix_list (pv 0) pe_int (fun _ _ => rfl)))
      (pss_cons (ps_for PassesOwn.never rfl (pi_list (pv 0)) (pg_name (i := 3) sc_law_t_best.nd rfl (Or.inl rfl))
      (pss_one (ps_if (pt_ifExp (pt_val (pv 1)) (pt_val (pe_c c_law_t_less hr (by decide) (by rfl) (pa_cons (pv 2) (pa_cons (pv 3) pa_nil)))) (pt_val (pe_c c_law_t_less hr (by decide) (by rfl) (pa_cons (pv 3) (pa_cons (pv 2) pa_nil))))) (pss_one (ps_set (i := 2) sc_law_t_best.nd rfl (Or.inl rfl) (pv 3))) pss_nil)))
      (pss_one (ps_ret (pv 2))))), ?_⟩
    obtain ⟨q0, qr, rfl⟩ : ∃ q r, qs = q :: r := by
      cases qs with
      | nil => exact absurd rfl hne
      | cons q r => exact ⟨q, r, rfl⟩
    obtain ⟨v0, e0, f0⟩ := Paired.nth2 (i := 0) hp rfl
    have ln := hp.length
    refine ⟨_, rfl, _, _, _, _, rfl, rfl, SqL.of hl, at0 e0, ?_⟩
    refine ⟨_, rfl, l, rfl, ⟨_, SqL.of hl⟩, for_list (xs := us) (BestW H l o (q0 :: qr)) ⟨v0, none, rfl, Same.refl H, f0⟩ (fun i σ H' _ ⟨_, _, _, s, _⟩ => SqL.of (s _ _ hl)) ?_ ?_⟩
    · rintro i x σ H' hx ⟨bv, y, rfl, s, hb⟩
      obtain ⟨q, hq, fq⟩ := Paired.nth hp hx
      have sb : Small ((((q0 :: qr).take i).foldl (stp o) q0)) := fold_small (hsm q0 (List.mem_cons_self ..)) fun z hz => hsm z (List.mem_of_mem_take hz)
      have sq : Small q := hsm q (List.mem_of_getElem? hq)
      have yes : (if o then decide (((q0 :: qr).take i).foldl (stp o) ((q0 :: qr).headD 0) < q) else decide (q < ((q0 :: qr).take i).foldl (stp o) ((q0 :: qr).headD 0))) = true → BestW H l o (q0 :: qr) (i + 1) [some (.ref l), some (.bl o), some x, some x] H' := fun e =>
        ⟨x, some x, rfl, s, by
          rw [fold_snoc hq, stp_yes e]
          exact fq.mono s⟩
      have no : ¬ (if o then decide (((q0 :: qr).take i).foldl (stp o) ((q0 :: qr).headD 0) < q) else decide (q < ((q0 :: qr).take i).foldl (stp o) ((q0 :: qr).headD 0))) = true → BestW H l o (q0 :: qr) (i + 1) [some (.ref l), some (.bl o), some bv, some x] H' := fun e =>
        ⟨bv, some x, rfl, s, by
          rw [fold_snoc hq, stp_no e]
          exact hb⟩
      refine ⟨_, rfl, _, rfl, ?_⟩
      cases o with
      | true =>
        refine iteT ⟨_, rfl, _, rfl, bv, x, _, q, rfl, hb, fq.mono s, sb, sq, _, rfl, ?_⟩
        exact ite2 (fun e => ⟨_, rfl, yes e⟩) (fun e => no e)
      | false =>
        refine iteF ⟨_, rfl, _, rfl, x, bv, q, _, rfl, fq.mono s, hb, sq, sb, _, rfl, ?_⟩
        exact ite2 (fun e => ⟨_, rfl, yes e⟩) (fun e => no e)
    · rintro σ H' ⟨bv, y, rfl, s, hb⟩
      refine ⟨_, rfl, k _ _ s ?_⟩
      rw [ln, List.take_length] at hb
      exact hb
end
end Gw
end

section
set_option Elab.async false
set_option linter.all false
set_option maxRecDepth 100000
set_option maxHeartbeats 4000000
/-! loops and comprehensions over anything that is walked -/
namespace Gw
open PySem PySem.Spec PyProof.Rows L2
open C8 (Cal Mak Met pe_c pe_mk pe_mt pe_mt0 pe_gc)
open RZ (pi_zipA ItzT)

/-- a for over n turns of anything that is walked -/
theorem forg {J : It} {n : Nat} {g : TG} {tb : TS} {D : Ends} {σ : L2.St} {H : Hp} (Pv : Nat → L2.St → Hp → Prop) (h0 : Pv 0 σ H) (hgo : ∀ i σ H, i < n → Pv i σ H → J.go i H) (hstop : ∀ σ H, Pv n σ H → J.stop n H)
    (hs : ∀ i x σ H H', i < n → Pv i σ H → J.yld i H x H' → g x σ H' fun σ2 H2 => tb { D with nx := Pv (i + 1), ct := Pv (i + 1), bk := D.nx } σ2 H2) (hd : ∀ σ H, Pv n σ H → D.nx σ H) :
    ∃ W : Nat → Nat → L2.St → Hp → Prop, (∃ m, W 0 m σ H) ∧ ∀ i m σ H, W i m σ H →
      (J.stop i H ∧ D.nx σ H) ∨ (J.go i H ∧ ∃ N : L2.St → Hp → Prop, (∀ σ' H', N σ' H' → ∃ m', m' < m ∧ W (i + 1) m' σ' H') ∧ ∀ x H', J.yld i H x H' → g x σ H' fun σ2 H2 => tb { D with nx := N, ct := N, bk := D.nx } σ2 H2) := by
  refine ⟨fun i m σ H => m = n - i ∧ i ≤ n ∧ Pv i σ H, ⟨n, by simp, Nat.zero_le _, h0⟩, ?_⟩
  rintro i m σ H ⟨rfl, hi, p⟩
  by_cases hlt : i < n
  · exact .inr ⟨hgo i σ H hlt p, Pv (i + 1), fun σ' H' p' => ⟨n - (i + 1), by omega, rfl, hlt, p'⟩, fun x H' y => hs i x σ H H' hlt p y⟩
  · have e : i = n := by omega
    subst e
    exact .inl ⟨hstop σ H p, hd σ H p⟩
/-- a comprehension's turns, a word of the heap between them -/
theorem lcg {J : It} {n : Nat} {g : TG} {tt : TT} {te : TE} {vs : List Nat} {σ : L2.St} {H1 : Hp} {D : Addr} {Qd : Hp → Prop} (Pv : Nat → Hp → Prop) (h0 : Pv 0 (upd H1 D (.lst []))) (hgo : ∀ i H, i < n → Pv i H → J.go i H) (hstop : ∀ H, Pv n H → J.stop n H)
    (hs : ∀ i x H H', i < n → Pv i H → J.yld i H x H' → g x (wipe σ vs) H' fun σ2 H2 => wipe σ2 vs = wipe σ vs ∧ tt σ2 H2 fun b H3 =>
      if b = true then te σ2 H3 fun y H4 => ∃ acc, H4 D = some (.lst acc) ∧ acc.length < sizeLine ∧ Pv (i + 1) (upd H4 D (.lst (acc ++ [y]))) else Pv (i + 1) H3) (hd : ∀ H, Pv n H → Qd H) :
    ∃ W : Nat → Nat → Hp → Prop, (∃ m, W 0 m (upd H1 D (.lst []))) ∧ ∀ i m H, W i m H →
      (J.stop i H ∧ Qd H) ∨ (J.go i H ∧ ∃ Nx : Hp → Prop, (∀ H', Nx H' → ∃ m', m' < m ∧ W (i + 1) m' H') ∧ ∀ x H', J.yld i H x H' → g x (wipe σ vs) H' fun σ2 H2 => wipe σ2 vs = wipe σ vs ∧ tt σ2 H2 fun b H3 =>
        if b = true then te σ2 H3 fun y H4 => ∃ acc, H4 D = some (.lst acc) ∧ acc.length < sizeLine ∧ Nx (upd H4 D (.lst (acc ++ [y]))) else Nx H3) := by
  refine ⟨fun i m H => m = n - i ∧ i ≤ n ∧ Pv i H, ⟨n, by simp, Nat.zero_le _, h0⟩, ?_⟩
  rintro i m H ⟨rfl, hi, p⟩
  by_cases hlt : i < n
  · exact .inr ⟨hgo i H hlt p, Pv (i + 1), fun H' p' => ⟨n - (i + 1), by omega, rfl, hlt, p'⟩, fun x H' y => hs i x H H' hlt p y⟩
  · have e : i = n := by omega
    subst e
    exact .inl ⟨hstop H p, hd H p⟩
/-- all but D is kept -/
def Off (D : Addr) (H H' : Hp) : Prop := ∀ b o, b ≠ D → H b = some o → H' b = some o
theorem Off.of {D : Addr} {H H' : Hp} (s : Same H H') : Off D H H' := fun b o _ e => s b o e
theorem Off.put {D : Addr} {H H' : Hp} {o : HO} (s : Off D H H') : Off D H (upd H' D o) := fun b u n e => by
  rw [upd_ne n]
  exact s b u n e
def LcP (D : Addr) (H1 : Hp) (F : Nat → V → Hp → Prop) (i : Nat) (H' : Hp) : Prop := Same H1 H' ∧ ∃ ys, H' D = some (.lst ys) ∧ ys.length = i ∧ ∀ j y, ys[j]? = some y → F j y H'
theorem sz_lt {n : Nat} (h : n < 100000) : n < sizeLine := Nat.lt_of_lt_of_le h (by decide)
theorem lcp_step {D : Addr} {H1 H' H4 : Hp} {F : Nat → V → Hp → Prop} {i : Nat} {y : V} (hD : H1 D = none) (mono : ∀ i y H H', Off D H H' → (∃ acc, H D = some (.lst acc)) → F i y H → F i y H') (p : LcP D H1 F i H') (hi : i < 100000) (s : Same H' H4) (f : F i y H4) :
    ∃ acc, H4 D = some (.lst acc) ∧ acc.length < sizeLine ∧ LcP D H1 F (i + 1) (upd H4 D (.lst (acc ++ [y]))) := by
  obtain ⟨s1, ys, h1, h2, h3⟩ := p
  refine ⟨ys, s _ _ h1, sz_lt (by omega), same_mut (s1.trans s) hD, ys ++ [y], upd_same, by simp [h2], fun j z hz => ?_⟩
  by_cases hj : j < ys.length
  · rw [List.getElem?_append_left hj] at hz
    exact mono j z H' _ (Off.put (Off.of s)) ⟨_, h1⟩ (h3 j z hz)
  · have : j = ys.length := by
      have := (List.getElem?_eq_some_iff.mp hz).1
      simp at this
      omega
    subst this
    rw [List.getElem?_append_right (Nat.le_refl _), Nat.sub_self] at hz
    have e : y = z := by simpa using hz
    subst e
    rw [h2]
    exact mono i y H4 _ (Off.put (Off.of (Same.refl _))) ⟨_, s _ _ h1⟩ f
/-- a comprehension without a test: one item a turn -/
theorem lcm {J : It} {n : Nat} {g : TG} {te : TE} {vs : List Nat} {σ : L2.St} {H1 : Hp} {D : Addr} {Qd : Hp → Prop} (F : Nat → V → Hp → Prop) (hD : H1 D = none) (hn : n < 100000) (mono : ∀ i y H H', Off D H H' → (∃ acc, H D = some (.lst acc)) → F i y H → F i y H')
    (hgo : ∀ i H, i < n → Same H1 H → J.go i H) (hstop : ∀ H, Same H1 H → J.stop n H)
    (hs : ∀ i x H H' (Kt : VK), i < n → Same H1 H → (∃ acc, H D = some (.lst acc)) → J.yld i H x H' → (∀ y H4, Same H H4 → F i y H4 → Kt y H4) → g x (wipe σ vs) H' fun σ2 H2 => wipe σ2 vs = wipe σ vs ∧ te σ2 H2 Kt)
    (hd : ∀ ys H', Same H1 H' → H' D = some (.lst ys) → ys.length = n → (∀ j y, ys[j]? = some y → F j y H') → Qd H') (gm : ∀ x σ H (A B : L2.St → Hp → Prop), (∀ σ H, A σ H → B σ H) → g x σ H A → g x σ H B) :
    ∃ W : Nat → Nat → Hp → Prop, (∃ m, W 0 m (upd H1 D (.lst []))) ∧ ∀ i m H, W i m H →
      (J.stop i H ∧ Qd H) ∨ (J.go i H ∧ ∃ Nx : Hp → Prop, (∀ H', Nx H' → ∃ m', m' < m ∧ W (i + 1) m' H') ∧ ∀ x H', J.yld i H x H' → g x (wipe σ vs) H' fun σ2 H2 => wipe σ2 vs = wipe σ vs ∧ tYes σ2 H2 fun b H3 =>
        if b = true then te σ2 H3 fun y H4 => ∃ acc, H4 D = some (.lst acc) ∧ acc.length < sizeLine ∧ Nx (upd H4 D (.lst (acc ++ [y]))) else Nx H3) := by
  refine lcg (tt := tYes) (LcP D H1 F) ⟨same_upd hD, [], upd_same, rfl, fun j y h => by simp at h⟩ (fun i H hi p => hgo i H hi p.1) (fun H p => hstop H p.1) (fun i x H H' hi p y => ?_) (fun H p => ?_)
  · refine gm _ _ _ _ _ (fun σ2 H2 z => ⟨z.1, z.2⟩) (hs i x H H' _ hi p.1 ?_ y fun y H4 s f => lcp_step hD mono p (by omega) s f)
    obtain ⟨_, ys, h, _⟩ := p
    exact ⟨ys, h⟩
  · obtain ⟨s, ys, h1, h2, h3⟩ := p
    exact hd ys H s h1 h2 h3
theorem gm_name {j : Nat} : ∀ x σ H (A B : L2.St → Hp → Prop), (∀ σ H, A σ H → B σ H) → gName j x σ H A → gName j x σ H B := fun _ _ _ _ _ h z => h _ _ z
theorem gm_tup2 {K : PySem.W.Frag} {i j : Nat} : ∀ x σ H (A B : L2.St → Hp → Prop), (∀ σ H, A σ H → B σ H) → gTup K 2 (gCons (gName i) (gCons (gName j) gNil)) x σ H A → gTup K 2 (gCons (gName i) (gCons (gName j) gNil)) x σ H B := fun x σ H A B h z => by
  obtain ⟨a, xs, e, hq, hl, v, r, e1, v2, r2, e2, e3, q⟩ := z
  exact ⟨a, xs, e, hq, hl, v, r, e1, v2, r2, e2, e3, h _ _ q⟩
/-- lists -/
theorem go_l {K : PySem.W.Frag} {H1 : Hp} {a : Addr} {xs : List V} (h : H1 a = some (.lst xs)) : ∀ i H, i < xs.length → Same H1 H → (Itl K a).go i H := fun i H hi s => ⟨xs, xs[i], SqL.of (s _ _ h), by simp [hi]⟩
theorem stop_l {K : PySem.W.Frag} {H1 : Hp} {a : Addr} {xs : List V} (h : H1 a = some (.lst xs)) : ∀ H, Same H1 H → (Itl K a).stop xs.length H := fun H s => ⟨xs, SqL.of (s _ _ h), Nat.le_refl _⟩
theorem yl_l {K : PySem.W.Frag} {H1 H H' : Hp} {a : Addr} {xs : List V} {i : Nat} {x : V} (h : H1 a = some (.lst xs)) (s : Same H1 H) (y : (Itl K a).yld i H x H') : H' = H ∧ xs[i]? = some x := ⟨y.1, y.2 xs (SqL.of (s _ _ h))⟩
/-- keys of a locked dict -/
theorem go_k {H1 : Hp} {d : Addr} {o : Obj} {kvs : List (Key × V)} (h : H1 d = some (.frz o (.dK kvs))) : ∀ i H, i < kvs.length → Same H1 H → (Itk d o kvs).go i H := fun i H hi s => ⟨s _ _ h, hi⟩
theorem stop_k {H1 : Hp} {d : Addr} {o : Obj} {kvs : List (Key × V)} (h : H1 d = some (.frz o (.dK kvs))) : ∀ H, Same H1 H → (Itk d o kvs).stop kvs.length H := fun H s => ⟨s _ _ h, Nat.le_refl _⟩
/-- values of a locked dict -/
theorem go_d {H1 : Hp} {d : Addr} {o : Obj} {kvs : List (Key × V)} (h : H1 d = some (.frz o (.dK kvs))) : ∀ i H, i < kvs.length → Same H1 H → (Itd d o kvs).go i H := fun i H hi s => ⟨s _ _ h, hi⟩
theorem stop_d {H1 : Hp} {d : Addr} {o : Obj} {kvs : List (Key × V)} (h : H1 d = some (.frz o (.dK kvs))) : ∀ H, Same H1 H → (Itd d o kvs).stop kvs.length H := fun H s => ⟨s _ _ h, Nat.le_refl _⟩

section
variable {P : Program} {w : World} {K : PySem.W.Frag} {mg : Str → Option Value} {base : Heap}
theorem sc_law_t_mean : FnScope ["_law_rows", "_law_top", "_law_bottom", "_law_weight", "_law_one"] ["_law_rows"] (defScope (top 36)) :=
  ⟨rfl, rfl, rfl, by decide +kernel, rfl, by decide +kernel, by decide +kernel⟩
def MeaW (H0 : Hp) (l : Addr) (rows : List (Int × Rat)) (i : Nat) (σ : L2.St) (H : Hp) : Prop := ∃ (T B : Int) (y z : Option V), σ = [some (.ref l), some (.int T), some (.int B), y, z] ∧ Same H0 H ∧ 0 < B ∧
  fr T B = wsum (rows.take i) ∧ T.natAbs < 2 ^ (300 * (i + 1)) ∧ B.natAbs < 2 ^ (300 * (i + 1))
theorem ok_law_t_mean {f : Addr} {fd : FuncData} (F : Fun K "_law_t_mean" "_law_t_mean" (top 36) f fd) (B : Bi mg) (c_law_t_lowest : Cal P w K mg base 1 "_law_t_lowest" spLow []) : FnOk P w K mg base CX0 2 f fd ["_law_rows"] spMean := by
  refine F.ok sc_law_t_mean (fun vs H Q E h => ?_) (fun cdv A outer s H vs Q E hr h => ?_)
  · obtain ⟨l, rows, rfl, _⟩ := h
    rfl
  · obtain ⟨l, rows, rfl, ⟨ts, hl, hp⟩, hne, hlen, hok, k⟩ := h
    refine ⟨_, (pss_cons (ps_asg (pe_tup (pa_cons pe_int (pa_cons pe_int pa_nil))) (pg_tup rfl (pgs_cons (pg_name (i := 1) sc_law_t_mean.nd rfl (Or.inl rfl)) (pgs_cons (pg_name (i := 2) sc_law_t_mean.nd rfl (Or.inl rfl)) pgs_nil))))
      (pss_cons (ps_for PassesOwn.never rfl (pi_list (pv 0)) (pg_tup rfl (pgs_cons (pg_name (i := 3) sc_law_t_mean.nd rfl (Or.inl rfl)) (pgs_cons (pg_name (i := 4) sc_law_t_mean.nd rfl (Or.inl rfl)) pgs_nil)))
      (pss_cons (ps_set (i := 1) sc_law_t_mean.nd rfl (Or.inl rfl) (pe_op op_add (pe_op op_mulW (pv 1) (pe_ix ix_tup (pv 4) pe_int (fun _ _ => rfl))) (pe_op op_mulW (pe_op op_mulW (pv 3) (pe_ix ix_tup (pv 4) pe_int (fun _ _ => rfl))) (pv 2))))
      (pss_one (ps_set (i := 2) sc_law_t_mean.nd rfl (Or.inl rfl) (pe_op op_mulW (pv 2) (pe_ix ix_tup (pv 4) pe_int (fun _ _ => rfl)))))))
      (pss_one (ps_ret (pe_c c_law_t_lowest hr (by decide) (by rfl) (pa_cons (pv 1) (pa_cons (pe_op op_mulW (pv 2) (pe_callB (cr_sum rfl) (by rfl) B.sum_ bt_sum (pa_cons (pe_lc (own := [("_law_weight", 3), ("_law_one", 4)]) (g := gTup K 2 (gCons (gName 3) (gCons (gName 4) gNil))) rfl sc_law_t_mean.nd (pi_list (pv 0)) (blkOk_by (by kernel_rfl)) (fun _ _ _ _ _ => (pg_tup rfl (pgs_cons (pg_name (i := 3) sc_law_t_mean.nd rfl (Or.inl rfl)) (pgs_cons (pg_name (i := 4) sc_law_t_mean.nd rfl (Or.inl rfl)) pgs_nil)))) (fun _ _ _ _ _ => pts_nil) (fun _ _ _ _ _ => (pv 3))) pa_nil))) pa_nil))))))), ?_⟩
    have ln := hp.length
    refine ⟨by show 2 ≤ sizeLine; decide, fun p np => ?_⟩
    have s1 : Same H (upd H p (.tup [.int 0, .int 1])) := same_upd np
    refine ⟨p, _, rfl, SqT.of upd_same, rfl, _, _, rfl, _, _, rfl, rfl, ?_⟩
    refine ⟨_, rfl, l, rfl, ⟨_, SqL.of (s1 _ _ hl)⟩, for_list (xs := ts) (MeaW H l rows) ⟨0, 1, none, none, rfl, s1, by decide, fr_01, by decide, by decide⟩ (fun i σ H' _ ⟨_, _, _, _, _, s, _⟩ => SqL.of (s _ _ hl)) ?_ ?_⟩
    · rintro i x σ H' hx ⟨T, B', y, z, rfl, s, hB, hf, sT, sB⟩
      obtain ⟨r, hr', a, v, rfl, ha, b, rfl, hv⟩ := Paired.nth hp hx
      have hi : i < rows.length := (List.getElem?_eq_some_iff.mp hr').1
      obtain ⟨r1, r2, r3⟩ := hok r (List.mem_of_getElem? hr')
      have hv' : SqT K H' b _ := SqT.of (s _ _ hv)
      have bT : T.natAbs < 2 ^ 2000 := Nat.lt_of_lt_of_le sT (pw_max (by omega))
      have bB : B'.natAbs < 2 ^ 2000 := Nat.lt_of_lt_of_le sB (pw_max (by omega))
      obtain ⟨n1, n2⟩ := size_step sT sB r1 r2 r3
      rw [pw_step] at n1 n2
      refine ⟨a, _, rfl, SqT.of (s _ _ ha), rfl, _, _, rfl, _, _, rfl, rfl, ?_⟩
      refine ⟨_, rfl, _, rfl, _, _, _, _, rfl, rfl, hv', at1 rfl, _, _, rfl, rfl, mulSS bT (sd r3), _, rfl, _, rfl, _, _, _, _, rfl, rfl, hv', at0 rfl, _, _, rfl, rfl, mulSS (w_small r1 r2) (sn r3), _, rfl, _, _, rfl, rfl, mulSS (wn_small r1 r2 r3) bB, _, _, rfl, rfl, ?_⟩
      refine ⟨_, rfl, _, rfl, _, _, _, _, rfl, rfl, hv', at1 rfl, _, _, rfl, rfl, mulSS bB (sd r3), ?_⟩
      refine ⟨_, _, _, _, rfl, s, Int.mul_pos hB (den0 r.2), ?_, n1, n2⟩
      rw [fr_step r.2 hB, hf, take_snoc hr', wsum_snoc]
    · rintro σ H' ⟨T, B', y, z, rfl, s, hB, hf, sT, sB⟩
      rw [ln, List.take_length] at hf
      rw [ln] at sT sB
      have hw : 0 < wts rows := wts_pos (fun r hr => (hok r hr).1) hne
      have hw2 := wts_le fun r hr => (hok r hr).2.1
      have bB : B'.natAbs < 2 ^ 2000 := Nat.lt_of_lt_of_le sB (pw_max (by omega))
      have bw : (wts rows).natAbs < 2 ^ 2000 := by
        have : (100 : Nat) < 2 ^ 2000 := by decide +kernel
        omega
      have bBw : (B' * wts rows).natAbs < 2 ^ 8000 := by
        rw [Int.natAbs_mul]
        have q1 := Nat.mul_lt_mul'' bB bw
        have q2 : (2 : Nat) ^ 2000 * 2 ^ 2000 ≤ 2 ^ 8000 := by rw [← Nat.pow_add]; exact Nat.pow_le_pow_right (by decide) (by decide)
        exact Nat.lt_of_lt_of_le q1 q2
      refine ⟨_, rfl, _, rfl, _, rfl, l, rfl, ⟨_, SqL.of (s _ _ hl)⟩, fun D hD => lcm (n := ts.length) (fun j y _ => ∃ r, rows[j]? = some r ∧ y = .int r.1) hD (by omega) (fun _ _ _ _ _ _ z => z) (go_l (s _ _ hl)) (stop_l (s _ _ hl)) ?_ ?_ gm_tup2⟩
      · intro i x H2 H3 Kt hi s2 _ hy kt
        obtain ⟨rfl, hx⟩ := yl_l (s _ _ hl) s2 hy
        obtain ⟨r, hr', a, v, rfl, ha, fv⟩ := Paired.nth hp hx
        exact ⟨a, _, rfl, SqT.of (s2 _ _ (s _ _ ha)), rfl, _, _, rfl, _, _, rfl, rfl, rfl, _, rfl, kt _ _ (Same.refl _) ⟨r, hr', rfl⟩⟩
      · intro ys H2 s2 hD2 hl2 hy
        have e : ys = (rows.map (·.1)).map V.int := by
          refine List.ext_getElem? fun j => ?_
          rw [List.getElem?_map, List.getElem?_map]
          by_cases hj : j < ys.length
          · obtain ⟨r, h1, h2⟩ := hy j _ (List.getElem?_eq_getElem hj)
            rw [List.getElem?_eq_getElem hj, h1, h2]
            rfl
          · rw [List.getElem?_eq_none (by omega), List.getElem?_eq_none (by omega)]
            rfl
        refine ⟨D, rows.map (·.1), rfl, SqL.of (by rw [hD2, e]), ?_⟩
        rw [← wts_sum]
        refine ⟨_, _, rfl, rfl, mulSS bB bw, _, _, rfl, Int.mul_pos hB hw, bBw, fun u H3 s3 fu => ?_⟩
        refine k _ _ (s.trans (s2.trans s3)) ?_
        have e2 : fr T (B' * wts rows) = mean rows := by
          rw [fr_div hB hw, hf]
          rfl
        rw [← e2]
        exact fu
end
end Gw
end

section
set_option Elab.async false
set_option linter.all false
set_option maxRecDepth 100000
set_option maxHeartbeats 4000000
/-! walks: kinds, what a place is -/
namespace Gw
open PySem PySem.Spec PyProof.Rows L2
open C8 (Cal Mak Met pe_c pe_mk pe_mt pe_mt0 pe_gc)
open RZ (pi_zipA ItzT)

theorem kb_ii : kitB "int" "int" = some true := by decide +kernel
theorem kb_ib : kitB "int" "bool" = some false := by decide +kernel
theorem kb_ss : kitB "str" "str" = some true := by decide +kernel
theorem kb_dd : kitB "dict" "dict" = some true := by decide +kernel
theorem kb_ll : kitB "list" "list" = some true := by decide +kernel
theorem kb_tl : kitB "tuple" "list" = some false := by decide +kernel
theorem kb_tt : kitB "tuple" "tuple" = some true := by decide +kernel
theorem kb_lt : kitB "list" "tuple" = some false := by decide +kernel
theorem kb_il : kitB "int" "list" = some false := by decide +kernel
theorem kb_it : kitB "int" "tuple" = some false := by decide +kernel
theorem ka_l {K : PySem.W.Frag} : PySem.W.kitAny K (.type "list") [.type "list", .type "tuple"] = some true := kitAny_cons (kit_ty kb_ll) (fun z => nomatch z) (fun _ => rfl)
theorem ka_t {K : PySem.W.Frag} : PySem.W.kitAny K (.type "tuple") [.type "list", .type "tuple"] = some true :=
  kitAny_cons (kit_ty kb_tl) (fun _ => kitAny_cons (kit_ty kb_tt) (fun z => nomatch z) (fun _ => rfl)) (fun z => nomatch z)
theorem ka_i {K : PySem.W.Frag} : PySem.W.kitAny K (.type "int") [.type "list", .type "tuple"] = some false :=
  kitAny_cons (kit_ty kb_il) (fun _ => kitAny_cons (kit_ty kb_it) (fun _ => rfl) (fun z => nomatch z)) (fun z => nomatch z)
/-- a list or a tuple -/
def Seq (H : Hp) (a : Addr) (xs : List V) : Prop := H a = some (.lst xs) ∨ H a = some (.tup xs)
theorem Seq.ty {K : PySem.W.Frag} {H : Hp} {a : Addr} {xs : List V} (h : Seq H a xs) : ∃ t, TyX K H (.ref a) t ∧ PySem.W.kitAny K t [.type "list", .type "tuple"] = some true := by
  rcases h with h | h
  · exact ⟨_, .base (.lst h), ka_l⟩
  · exact ⟨_, .base (.tup h), ka_t⟩
theorem Seq.mono {H H' : Hp} {a : Addr} {xs : List V} (h : Seq H a xs) (s : Same H H') : Seq H' a xs := by
  rcases h with h | h
  · exact .inl (s _ _ h)
  · exact .inr (s _ _ h)
theorem Seq.sq {K : PySem.W.Frag} {H : Hp} {a : Addr} {xs : List V} (h : Seq H a xs) : SqL K H a xs ∨ SqT K H a xs := by
  rcases h with h | h
  · exact .inl (SqL.of h)
  · exact .inr (SqT.of h)
/-- what a name is -/
def Name (n : Str) : Prop := 0 < n.length ∧ n.length ≤ 60 ∧ ∀ c ∈ n.cps.toList, c ∈ SIGNS.cps.toList

section
variable {P : Program} {w : World} {K : PySem.W.Frag} {mg : Str → Option Value} {base : Heap}
def spInt : Sp := fun vs H Q _ => ∃ i : Int, vs = [.int i] ∧ Q (.bl true) H
theorem sc_is_integer : FnScope ["thing"] ["thing"] (defScope (top 15)) :=
  ⟨rfl, rfl, rfl, by decide +kernel, rfl, by decide +kernel, by decide +kernel⟩
theorem ok_is_integer {f : Addr} {fd : FuncData} (F : Fun K "is_integer" "is_integer" (top 15) f fd) (B : Bi mg) : FnOk P w K mg base CX0 1 f fd ["thing"] spInt := by
  refine F.ok sc_is_integer (fun vs H Q E h => ?_) (fun cdv A outer s H vs Q E hr h => ?_)
  · obtain ⟨i, rfl, _⟩ := h
    rfl
  · obtain ⟨i, rfl, k⟩ := h
    refine ⟨_, (pss_one (ps_ret (pe_and (pe_callB call_isi (by rfl) B.isinstance_ bt_isinstance (pa_cons (pv 0) (pa_cons (pe_bltn (v := .ty "int") (by rfl) B.int_ bt_int rfl) pa_nil))) (pe_one (pe_not (pe_callB call_isi (by rfl) B.isinstance_ bt_isinstance (pa_cons (pv 0) (pa_cons (pe_bltn (v := .ty "bool") (by rfl) B.bool_ bt_bool rfl) pa_nil)))))))), ?_⟩
    refine ⟨_, rfl, _, _, _, _, _, rfl, .ty "int", .base (.int i), kit_ty kb_ii, _, rfl, iteT ?_⟩
    exact ⟨_, rfl, _, _, _, _, _, rfl, .ty "bool", .base (.int i), kit_ty kb_ib, _, rfl, k⟩
def spIsl : Sp := fun vs H Q _ => ∃ (a : Addr) (xs : List V), vs = [.ref a] ∧ Seq H a xs ∧ Ret (fun v _ => v = .bl true) H Q
theorem sc_is_list : FnScope ["thing"] ["thing"] (defScope (top 16)) :=
  ⟨rfl, rfl, rfl, by decide +kernel, rfl, by decide +kernel, by decide +kernel⟩
theorem pcls {a b : String} : Paired ClsV [.ty a, .ty b] [.type a, .type b] := .cons (.ty _) (.cons (.ty _) .nil)
theorem ok_is_list {f : Addr} {fd : FuncData} (F : Fun K "is_list" "is_list" (top 16) f fd) (B : Bi mg) : FnOk P w K mg base CX0 1 f fd ["thing"] spIsl := by
  refine F.ok sc_is_list (fun vs H Q E h => ?_) (fun cdv A outer s H vs Q E hr h => ?_)
  · obtain ⟨a, xs, rfl, _⟩ := h
    rfl
  · obtain ⟨a, xs, rfl, hs, k⟩ := h
    refine ⟨_, (pss_one (ps_ret (pe_callB call_isiT (by rfl) B.isinstance_ bt_isinstance (pa_cons (pv 0) (pa_cons (pe_tup (pa_cons (pe_bltn (v := .ty "list") (by rfl) B.list_ bt_list rfl) (pa_cons (pe_bltn (v := .ty "tuple") (by rfl) B.tuple_ bt_tuple rfl) pa_nil))) pa_nil))))), ?_⟩
    refine ⟨_, rfl, (by show 2 ≤ sizeLine; decide), fun tp ht => ?_⟩
    have s1 := same_upd (o := .tup [.ty "list", .ty "tuple"]) ht
    obtain ⟨t, h1, h2⟩ := (hs.mono s1).ty (K := K)
    exact ⟨_, tp, _, t, _, _, rfl, upd_same, pcls, h1, h2, k _ _ s1 rfl⟩
def spNm : Sp := fun vs H Q _ => ∃ n : Str, vs = [.str n] ∧ Name n ∧ Ret (fun v _ => v = .bl true) H Q
theorem sc_is_name : FnScope ["thing", "sign"] ["thing"] (defScope (top 17)) :=
  ⟨rfl, rfl, rfl, by decide +kernel, rfl, by decide +kernel, by decide +kernel⟩
theorem all_true {bs : List Bool} (h : ∀ b ∈ bs, b = true) : bs.all id = true := List.all_eq_true.mpr fun b hb => h b hb
theorem all_bl {ys : List V} (h : ∀ (j : Nat) (y : V), ys[j]? = some y → y = V.bl true) : ys = (ys.map fun _ => true).map V.bl := by
  refine List.ext_getElem? fun j => ?_
  rw [List.getElem?_map, List.getElem?_map]
  cases e : ys[j]? with
  | none => rfl
  | some y => rw [h j y e]; rfl
theorem all_map {ys : List V} : (ys.map fun _ => true).all id = true := List.all_eq_true.mpr fun b hb => by
  obtain ⟨_, _, rfl⟩ := List.mem_map.mp hb
  rfl
theorem ok_is_name {f : Addr} {fd : FuncData} (F : Fun K "is_name" "is_name" (top 17) f fd) (B : Bi mg) : FnOk P w K mg base CX0 1 f fd ["thing"] spNm := by
  refine F.ok sc_is_name (fun vs H Q E h => ?_) (fun cdv A outer s H vs Q E hr h => ?_)
  · obtain ⟨n, rfl, _⟩ := h
    rfl
  · obtain ⟨n, rfl, ⟨n1, n2, n3⟩, k⟩ := h
    refine ⟨_, (pss_cons (ps_if (pw_or (pt_not (pt_val (pe_callB call_isi (by rfl) B.isinstance_ bt_isinstance (pa_cons (pv 0) (pa_cons (pe_bltn (v := .ty "str") (by rfl) B.str_ bt_str rfl) pa_nil))))) (pw_or1 (pt_not (pt_chain op_lt op_le pe_int (pe_callB call_lenS (by rfl) B.len_ bt_len (pa_cons (pv 0) pa_nil)) (pe_gc (by rfl) B.most_signs))))).pt (pss_one (ps_ret pe_bl)) pss_nil)
      (pss_one (ps_ret (pe_callB (cr_all rfl) (by rfl) B.all_ bt_all (pa_cons (pe_lc (own := [("sign", 1)]) (g := gName 1) rfl sc_is_name.nd (pi_str (pv 0)) (blkOk_by (by kernel_rfl)) (fun _ _ _ _ _ => (pg_name (i := 1) sc_is_name.nd rfl (Or.inl rfl))) (fun _ _ _ _ _ => pts_nil) (fun _ _ _ _ _ => (pe_cmpR op_in_sign (pv 1) (pe_gc (by rfl) B.signs) rfl))) pa_nil))))), ?_⟩
    refine ⟨_, rfl, _, _, _, _, _, rfl, .ty "str", .base (.str n), kit_ty kb_ss, _, rfl, iteF ?_⟩
    refine ⟨_, rfl, _, rfl, Nat.le_trans n2 (by decide), _, _, rfl, rfl, _, rfl, ?_⟩
    have d1 : decide ((0 : Int) < (n.length : Int)) = true := decide_eq_true (by omega)
    have d2 : decide ((n.length : Int) ≤ 60) = true := decide_eq_true (by omega)
    rw [d1]
    refine iteT ⟨_, _, rfl, rfl, _, rfl, ?_⟩
    rw [d2]
    refine iteF ?_
    refine ⟨_, rfl, n, rfl, fun D hD => lcm (n := n.cps.size) (fun _ y _ => y = .bl true) hD (by have : n.length = n.cps.size := rfl; omega) (fun _ _ _ _ _ _ z => z) (fun i H hi _ => hi) (fun _ _ => Nat.le_refl _) ?_ ?_ gm_name⟩
    · rintro i x H2 H3 Kt hi s2 _ ⟨rfl, c, hc, rfl⟩ kt
      refine ⟨rfl, _, rfl, c, SIGNS, rfl, rfl, ?_⟩
      refine kt _ _ (Same.refl _) ?_
      rw [decide_eq_true (n3 c (by rw [← Array.getElem?_toList] at hc; exact List.mem_of_getElem? hc))]
    · intro ys H2 s2 h2 hl2 hy
      refine ⟨D, _, rfl, SqL.of (by rw [h2, all_bl hy]), ?_⟩
      rw [all_map]
      exact k _ _ s2 rfl
def spFrc : Sp := fun vs H Q _ => ∃ (a : Addr) (t b : Int), vs = [.ref a] ∧ H a = some (.tup [.int t, .int b]) ∧ 0 < b ∧ Ret (fun v _ => v = .bl true) H Q
theorem sc_is_fraction : FnScope ["thing"] ["thing"] (defScope (top 18)) :=
  ⟨rfl, rfl, rfl, by decide +kernel, rfl, by decide +kernel, by decide +kernel⟩
theorem ok_is_fraction {f : Addr} {fd : FuncData} (F : Fun K "is_fraction" "is_fraction" (top 18) f fd) (B : Bi mg) (c_is_list : Cal P w K mg base 1 "is_list" spIsl []) (c_is_integer : Cal P w K mg base 1 "is_integer" spInt []) :
    FnOk P w K mg base CX0 2 f fd ["thing"] spFrc := by
  refine F.ok sc_is_fraction (fun vs H Q E h => ?_) (fun cdv A outer s H vs Q E hr h => ?_)
  · obtain ⟨a, t, b, rfl, _⟩ := h
    rfl
  · obtain ⟨a, t, b, rfl, ha, hb, k⟩ := h
    refine ⟨_, (pss_one (ps_ret (pe_and (pe_c c_is_list hr (by decide) (by rfl) (pa_cons (pv 0) pa_nil)) (pe_and (pe_cmpR op_eq (pe_callB call_len_seq (by rfl) B.len_ bt_len (pa_cons (pv 0) pa_nil)) pe_int (nomark _)) (pe_and (pe_c c_is_integer hr (by decide) (by rfl) (pa_cons (pe_ix ix_tup (pv 0) pe_int (fun _ _ => rfl)) pa_nil)) (pe_and (pe_c c_is_integer hr (by decide) (by rfl) (pa_cons (pe_ix ix_tup (pv 0) pe_int (fun _ _ => rfl)) pa_nil)) (pe_one (pe_cmpR op_gt (pe_ix ix_tup (pv 0) pe_int (fun _ _ => rfl)) pe_int (nomark _))))))))), ?_⟩
    refine ⟨_, rfl, a, _, rfl, .inr ha, ?_⟩
    rintro v H1 s1 rfl
    have h1 := s1 _ _ ha
    refine ⟨_, rfl, iteT ⟨_, rfl, _, _, rfl, .inr (SqT.of h1), rfl, _, rfl, iteT ?_⟩⟩
    refine ⟨_, rfl, _, _, _, _, rfl, rfl, SqT.of h1, at0 rfl, _, rfl, _, rfl, iteT ?_⟩
    refine ⟨_, rfl, _, _, _, _, rfl, rfl, SqT.of h1, at1 rfl, _, rfl, _, rfl, iteT ?_⟩
    refine ⟨_, rfl, _, _, _, _, rfl, rfl, SqT.of h1, at1 rfl, _, _, rfl, rfl, ?_⟩
    exact k _ _ s1 (congrArg V.bl (decide_eq_true hb))
end
end Gw
end

section
set_option Elab.async false
set_option linter.all false
set_option maxRecDepth 100000
set_option maxHeartbeats 4000000
/-! walks: what a place is -/
namespace Gw
open PySem PySem.Spec PyProof.Rows L2
open C8 (Cal Mak Met pe_c pe_mk pe_mt pe_mt0 pe_gc)
open RZ (pi_zipA ItzT)

/-! ### games in the heap -/
def word : Pl → Str
  | .mv true _ => "ours"
  | .mv false _ => "theirs"
  | .chance _ => "chance"
  | .fin _ _ => "end"
def mvKv (ms : List (Str × Str)) : List (Key × V) := ms.map fun m => (Sum.inr m.1, V.str m.2)
def LotAt (H : Hp) (v : V) (l : Str × Int) : Prop := ∃ a, v = .ref a ∧ H a = some (.tup [.str l.1, .int l.2])
def RestAt (H : Hp) (r : Addr) : Pl → Prop
  | .mv _ ms => H r = some (.dK (mvKv ms))
  | .chance ls => ∃ as, H r = some (.lst as) ∧ Paired (LotAt H) as ls
  | .fin t b => H r = some (.tup [.int t, .int b])
def PlAt (H : Hp) (v : V) (p : Pl) : Prop := ∃ t r, v = .ref t ∧ H t = some (.tup [.str (word p), .ref r]) ∧ RestAt H r p
def GmKv (H : Hp) (kvs : List (Key × V)) (g : Gm) : Prop := Paired (fun (kv : Key × V) (q : Str × Pl) => kv.1 = Sum.inr q.1 ∧ PlAt H kv.2 q.2) kvs g
def GmAt (H : Hp) (d : Addr) (g : Gm) : Prop := ∃ kvs, H d = some (.dK kvs) ∧ GmKv H kvs g
theorem LotAt.mono {H H' : Hp} {v : V} {l : Str × Int} (h : LotAt H v l) (s : Same H H') : LotAt H' v l := by
  obtain ⟨a, e, h⟩ := h
  exact ⟨a, e, s _ _ h⟩
theorem RestAt.mono {H H' : Hp} {r : Addr} {p : Pl} (h : RestAt H r p) (s : Same H H') : RestAt H' r p := by
  cases p with
  | mv o ms => exact s _ _ h
  | chance ls =>
    obtain ⟨as, h1, h2⟩ := h
    exact ⟨as, s _ _ h1, Paired.mp (fun _ _ z => z.mono s) h2⟩
  | fin t b => exact s _ _ h
theorem PlAt.mono {H H' : Hp} {v : V} {p : Pl} (h : PlAt H v p) (s : Same H H') : PlAt H' v p := by
  obtain ⟨t, r, e, h1, h2⟩ := h
  exact ⟨t, r, e, s _ _ h1, h2.mono s⟩
theorem GmKv.mono {H H' : Hp} {kvs : List (Key × V)} {g : Gm} (h : GmKv H kvs g) (s : Same H H') : GmKv H' kvs g := Paired.mp (fun _ _ z => ⟨z.1, z.2.mono s⟩) h
theorem GmAt.mono {H H' : Hp} {d : Addr} {g : Gm} (h : GmAt H d g) (s : Same H H') : GmAt H' d g := by
  obtain ⟨kvs, h1, h2⟩ := h
  exact ⟨kvs, s _ _ h1, h2.mono s⟩
theorem inr_inj {a b : Str} (h : (Sum.inr a : Key) = Sum.inr b) : a = b := by
  injection h
theorem gm_look {H : Hp} {n : Str} : ∀ {kvs : List (Key × V)} {g : Gm}, GmKv H kvs g → (∀ p, look g n = some p → ∃ v, valV kvs (Sum.inr n) = some v ∧ PlAt H v p) ∧ (look g n = none → valV kvs (Sum.inr n) = none)
  | _, _, .nil => ⟨(fun _ h => nomatch h), fun _ => rfl⟩
  | kv :: kvs, q :: g, .cons r t => by
    obtain ⟨i1, i2⟩ := gm_look t
    by_cases e : q.1 = n
    · have e' : kv.1 = Sum.inr n := by rw [r.1, e]
      constructor
      · intro p h
        unfold look at h
        rw [if_pos e] at h
        cases h
        exact ⟨kv.2, valV_pos e', r.2⟩
      · intro h
        unfold look at h
        rw [if_pos e] at h
        cases h
    · have e' : ¬ kv.1 = Sum.inr n := fun z => e (inr_inj (r.1.symm.trans z))
      constructor
      · intro p h
        unfold look at h
        rw [if_neg e] at h
        obtain ⟨v, h1, h2⟩ := i1 p h
        exact ⟨v, by rw [valV_neg e']; exact h1, h2⟩
      · intro h
        unfold look at h
        rw [if_neg e] at h
        rw [valV_neg e']
        exact i2 h
theorem mv_look (ms : List (Str × Str)) (n : Str) : valV (mvKv ms) (Sum.inr n) = (look ms n).map V.str := by
  induction ms with
  | nil => rfl
  | cons m ms ih =>
    show valV ((Sum.inr m.1, V.str m.2) :: mvKv ms) _ = _
    unfold look
    by_cases e : m.1 = n
    · rw [if_pos e, valV_pos (by rw [e])]
      rfl
    · rw [if_neg e, valV_neg (fun z => e (inr_inj z)), ih]
/-- the outer dict holds places, a dict of moves holds names -/
theorem gm_ne {H : Hp} {d r : Addr} {kvs : List (Key × V)} {g : Gm} {ms : List (Str × Str)} (hd : H d = some (.dK kvs)) (hg : GmKv H kvs g) (hn : g ≠ []) (hr : H r = some (.dK (mvKv ms))) : r ≠ d := by
  intro e
  subst e
  rw [hd] at hr
  have ek : kvs = mvKv ms := by
    have h1 := Option.some.inj hr
    injection h1
  cases kvs with
  | nil =>
    cases hg
    exact hn rfl
  | cons kv kvs =>
    cases hg with
    | cons r t =>
      obtain ⟨_, a, b, e, _⟩ := r
      cases ms with
      | nil => cases ek
      | cons m ms =>
        have h2 := (List.cons.inj ek).1
        rw [h2] at e
        cases e
theorem upd_off {H : Hp} {d : Addr} {o u : HO} {b : Addr} {x : HO} (hd : H d = some o) (h : H b = some x) (n : o ≠ x) : upd H d u b = some x := by
  rw [upd_ne (ne_of h hd (fun e => n e.symm))]
  exact h
theorem PlAt.lock {H : Hp} {d : Addr} {kvs : List (Key × V)} {g : Gm} {o : HO} (hd : H d = some (.dK kvs)) (hg : GmKv H kvs g) (hn : g ≠ []) {v : V} {p : Pl} (h : PlAt H v p) : PlAt (upd H d o) v p := by
  obtain ⟨t, r, e, h1, h2⟩ := h
  refine ⟨t, r, e, upd_off hd h1 (fun z => nomatch z), ?_⟩
  cases p with
  | mv q ms =>
    show upd H d o r = _
    rw [upd_ne (gm_ne hd hg hn h2)]
    exact h2
  | chance ls =>
    obtain ⟨as, a1, a2⟩ := h2
    refine ⟨as, upd_off hd a1 (fun z => nomatch z), Paired.mp (fun _ _ z => ?_) a2⟩
    obtain ⟨a, e, z⟩ := z
    exact ⟨a, e, upd_off hd z (fun z => nomatch z)⟩
  | fin t b => exact upd_off hd h2 (fun z => nomatch z)
theorem GmKv.lock {H : Hp} {d : Addr} {kvs : List (Key × V)} {g : Gm} {o : HO} (hd : H d = some (.dK kvs)) (hg : GmKv H kvs g) (hn : g ≠ []) : GmKv (upd H d o) kvs g := Paired.mp (fun _ _ z => ⟨z.1, z.2.lock hd hg hn⟩) hg
/-- unlocked again, all stands as ahead of the lock -/
theorem same_unlock {H H' : Hp} {d : Addr} {u o : HO} (hd : H d = some u) (s : Same (upd H d o) H') : Same H (upd H' d u) := fun b x e => by
  by_cases hb : b = d
  · subst hb
    rw [hd] at e
    cases e
    exact upd_same
  · rw [upd_ne hb]
    exact s b x (by rw [upd_ne hb]; exact e)
theorem mut_dK {kvs : List (Key × V)} : Mut (some (.dK kvs)) := True.intro

section
variable {P : Program} {w : World} {K : PySem.W.Frag} {mg : Str → Option Value} {base : Heap}
/-- the names that stand in a dict -/
def KeyIn (H : Hp) (d : Addr) (kvs : List (Key × V)) : Prop := Rd H d (.dK kvs)
theorem dget {H : Hp} {d : Addr} {kvs : List (Key × V)} (h : Rd H d (.dK kvs)) (n : Str) : DGet H d (.str n) (valV kvs (Sum.inr n)) := .inl ⟨kvs, Sum.inr n, h, rfl, rfl⟩
theorem dgetS {H : Hp} {d : Addr} {kvs : List (Key × V)} {n : Str} {v : V} (h : Rd H d (.dK kvs)) (e : valV kvs (Sum.inr n) = some v) : DGet H d (.str n) (some v) := e ▸ dget h n
def spMoves : Sp := fun vs H Q _ => ∃ (r d : Addr) (ms : List (Str × Str)) (kvs : List (Key × V)), vs = [.ref r, .ref d] ∧ H r = some (.dK (mvKv ms)) ∧ Rd H d (.dK kvs) ∧ r ≠ d ∧ ms ≠ [] ∧ ms.length ≤ 3 ∧ (ms.map (·.1)).Nodup ∧
  (∀ m ∈ ms, Name m.1 ∧ Name m.2 ∧ ∃ v, valV kvs (Sum.inr m.2) = some v) ∧ Ret (fun v _ => v = .bl true) H Q
theorem mvKv_at {ms : List (Str × Str)} {i : Nat} {k : Key} {v : V} (h : (mvKv ms)[i]? = some (k, v)) : ∃ m, ms[i]? = some m ∧ k = Sum.inr m.1 ∧ v = V.str m.2 := by
  unfold mvKv at h
  rw [List.getElem?_map] at h
  cases e : ms[i]? with
  | none => rw [e] at h; cases h
  | some m =>
    rw [e] at h
    cases h
    exact ⟨m, rfl, rfl, rfl⟩
theorem mvKv_len (ms : List (Str × Str)) : (mvKv ms).length = ms.length := by unfold mvKv; rw [List.length_map]
theorem sc_are_moves : FnScope ["thing", "names", "move"] ["thing", "names"] (defScope (top 21)) :=
  ⟨rfl, rfl, rfl, by decide +kernel, rfl, by decide +kernel, by decide +kernel⟩
theorem ok_are_moves {f : Addr} {fd : FuncData} (F : Fun K "are_moves" "are_moves" (top 21) f fd) (B : Bi mg) (c_is_name : Cal P w K mg base 1 "is_name" spNm []) : FnOk P w K mg base CX0 2 f fd ["thing", "names"] spMoves := by
  refine F.ok sc_are_moves (fun vs H Q E h => ?_) (fun cdv A outer s H vs Q E hr h => ?_)
  · obtain ⟨r, d, ms, kvs, rfl, _⟩ := h
    rfl
  · obtain ⟨r, d, ms, kvs, rfl, hr0, hd, hne, hms, hl3, hnd, hok, k⟩ := h
    refine ⟨_, (pss_cons (ps_if (pw_or (pt_not (pt_val (pe_callB call_isi (by rfl) B.isinstance_ bt_isinstance (pa_cons (pv 0) (pa_cons (pe_bltn (v := .ty "dict") (by rfl) B.dict_ bt_dict rfl) pa_nil))))) (pw_or1 (pt_cmpR op_eq (pe_callB call_lenR (by rfl) B.len_ bt_len (pa_cons (pv 0) pa_nil)) pe_int (nomark _)))).pt (pss_one (ps_ret pe_bl)) pss_nil)
      (pss_one (ps_ret (pe_callB (cr_all rfl) (by rfl) B.all_ bt_all (pa_cons (pe_lock (pe_lc (own := [("move", 2)]) (g := gName 2) rfl sc_are_moves.nd (pi_keys (pv 0)) (blkOk_by (by kernel_rfl)) (fun _ _ _ _ _ => (pg_name (i := 2) sc_are_moves.nd rfl (Or.inl rfl))) (fun _ _ _ _ _ => pts_nil) (fun _ _ _ _ _ => (pe_and (pe_c c_is_name hr (by decide) (by rfl) (pa_cons (pv 2) pa_nil)) (pe_and (pe_c c_is_name hr (by decide) (by rfl) (pa_cons (pe_dget (hu_of hr) (pv 0) (pv 2) (fun _ _ => rfl)) pa_nil)) (pe_one (pe_cmp (pc_din (hu_of hr) (pe_dget (hu_of hr) (pv 0) (pv 2) (fun _ _ => rfl)) (pv 1))))))))) pa_nil))))), ?_⟩
    refine ⟨_, rfl, _, _, _, _, _, rfl, .ty "dict", .base (.dK hr0), kit_ty kb_dd, _, rfl, iteF ?_⟩
    refine ⟨_, rfl, r, _, rfl, .inl hr0, rfl, _, rfl, ?_⟩
    have n0 : ms.length ≠ 0 := fun e => hms (List.length_eq_zero_iff.mp e)
    have d0 : decide (V.int ((mvKv ms).length : Int) = V.int 0) = false := decide_eq_false fun e => by
      injection e with e
      rw [mvKv_len] at e
      omega
    rw [d0]
    refine iteF ?_
    refine ⟨r, _, hr0, mut_dK, fun od => ?_⟩
    have hr1 : upd H r (.frz od (.dK (mvKv ms))) r = some (.frz od (.dK (mvKv ms))) := upd_same
    have hd1 : Rd (upd H r (.frz od (.dK (mvKv ms)))) d (.dK kvs) := by
      unfold Rd
      rw [upd_ne hne.symm]
      exact hd
    refine ⟨_, rfl, r, od, rfl, .inl ⟨_, hr1, fun D hD => lcm (n := (mvKv ms).length) (fun _ y _ => y = .bl true) hD (by rw [mvKv_len]; omega) (fun _ _ _ _ _ _ z => z) (go_k hr1) (stop_k hr1) ?_ ?_ gm_name⟩⟩
    · rintro i x H2 H3 Kt hi s2 _ ⟨rfl, ky, v, hkv, rfl⟩ kt
      obtain ⟨m, hm, rfl, rfl⟩ := mvKv_at hkv
      obtain ⟨a1, a2, v, a3⟩ := hok m (List.mem_of_getElem? hm)
      have hm2 : look ms m.1 = some m.2 := look_of hnd (List.mem_of_getElem? hm)
      have hv : valV (mvKv ms) (Sum.inr m.1) = some (.str m.2) := by rw [mv_look, hm2]; rfl
      have rd2 : Rd H3 r (.dK (mvKv ms)) := .inr ⟨od, s2 _ _ hr1⟩
      have rdd : Rd H3 d (.dK kvs) := Evl.ex_rd s2 hd1
      refine ⟨rfl, _, rfl, m.1, rfl, a1, ?_⟩
      rintro v1 H4 s4 rfl
      refine ⟨_, rfl, iteT ⟨_, rfl, _, rfl, _, _, rfl, dgetS (Evl.ex_rd s4 rd2) hv, m.2, rfl, a2, ?_⟩⟩
      rintro v2 H5 s5 rfl
      refine ⟨_, rfl, iteT ⟨_, rfl, _, rfl, _, _, rfl, dgetS (Evl.ex_rd (s4.trans s5) rd2) hv, _, rfl, _, _, rfl, dgetS (Evl.ex_rd (s4.trans s5) rdd) a3, ?_⟩⟩
      exact kt _ _ (s4.trans s5) rfl
    · intro ys H2 s2 h2 hl2 hy
      refine ⟨s2 _ _ hr1, ?_⟩
      have s3 := same_unlock hr0 s2
      have hDr : D ≠ r := fun e => by rw [e, upd_same] at hD; cases hD
      refine ⟨D, _, rfl, SqL.of (by rw [upd_ne hDr, h2, all_bl hy]), ?_⟩
      rw [all_map]
      exact k _ _ s3 rfl
end
end Gw
end

section
set_option Elab.async false
set_option linter.all false
set_option maxRecDepth 100000
set_option maxHeartbeats 4000000
/-! walks: what a place is, further -/
namespace Gw
open PySem PySem.Spec PyProof.Rows L2
open C8 (Cal Mak Met pe_c pe_mk pe_mt pe_mt0 pe_gc)
open RZ (pi_zipA ItzT)

theorem inV_str (n : Str) (l : List Str) : inV (.str n) (l.map V.str) = decide (n ∈ l) := by
  unfold inV
  rw [List.any_map]
  by_cases h : n ∈ l
  · rw [decide_eq_true h]
    exact List.any_eq_true.mpr ⟨n, h, by show (n == n) = true; exact beq_self_eq_true n⟩
  · rw [decide_eq_false h]
    refine List.any_eq_false.mpr fun x hx => ?_
    show ¬ (x == n) = true
    intro e
    have e' : x = n := by simpa using e
    rw [e'] at hx
    exact h hx
theorem flat_strs (l : List Str) : (l.map V.str).all flatV = true := by
  rw [List.all_map]
  exact List.all_eq_true.mpr fun x _ => rfl
theorem cutV_take (xs : List V) (i : Nat) : cutV xs none (some (i : Int)) = xs.take i := by
  unfold cutV
  rw [HT.sIx_none, HT.sIx_nat, List.drop_zero, Nat.sub_zero]
  by_cases h : i ≤ xs.length
  · rw [Nat.min_eq_left h]
  · rw [Nat.min_eq_right (by omega), List.take_length, List.take_of_length_le (by omega)]
theorem LotAt.nth {H : Hp} {as : List V} {ls : List (Str × Int)} {i : Nat} {x : V} (h : Paired (LotAt H) as ls) (e : as[i]? = some x) : ∃ l a, ls[i]? = some l ∧ x = .ref a ∧ H a = some (.tup [.str l.1, .int l.2]) := by
  obtain ⟨l, h1, a, h2, h3⟩ := Paired.nth h e
  exact ⟨l, a, h1, h2, h3⟩

section
variable {P : Program} {w : World} {K : PySem.W.Frag} {mg : Str → Option Value} {base : Heap}
def LotsOk (kvs : List (Key × V)) (ls : List (Str × Int)) : Prop := ls ≠ [] ∧ ls.length ≤ 3 ∧ (ls.map (·.1)).Nodup ∧ ∀ l ∈ ls, Name l.1 ∧ (∃ v, valV kvs (Sum.inr l.1) = some v) ∧ 1 ≤ l.2
def spLots : Sp := fun vs H Q _ => ∃ (r d : Addr) (as : List V) (ls : List (Str × Int)) (kvs : List (Key × V)), vs = [.ref r, .ref d] ∧ H r = some (.lst as) ∧ Paired (LotAt H) as ls ∧ Rd H d (.dK kvs) ∧ LotsOk kvs ls ∧ Ret (fun v _ => v = .bl true) H Q
def LotsW (H0 : Hp) (r d m : Addr) (ls : List (Str × Int)) (i : Nat) (σ : L2.St) (H : Hp) : Prop := ∃ y, σ = [some (.ref r), some (.ref d), some (.ref m), y] ∧ Same H0 H ∧ H m = some (.lst (((ls.take i).map (·.1)).map V.str))
theorem nodup_take {l : List Str} {i : Nat} {x : Str} (h : l.Nodup) (e : l[i]? = some x) : x ∉ l.take i := by
  intro hx
  obtain ⟨j, hj⟩ := List.mem_iff_getElem?.mp hx
  rw [List.getElem?_take] at hj
  split at hj
  · have := nd_ix h hj e
    omega
  · cases hj
theorem sc_are_lots : FnScope ["thing", "names", "met", "lot"] ["thing", "names"] (defScope (top 22)) :=
  ⟨rfl, rfl, rfl, by decide +kernel, rfl, by decide +kernel, by decide +kernel⟩
theorem ok_are_lots {f : Addr} {fd : FuncData} (F : Fun K "are_lots" "are_lots" (top 22) f fd) (B : Bi mg) (c_is_list : Cal P w K mg base 1 "is_list" spIsl []) (c_is_name : Cal P w K mg base 1 "is_name" spNm []) (c_is_integer : Cal P w K mg base 1 "is_integer" spInt []) :
    FnOk P w K mg base CX0 2 f fd ["thing", "names"] spLots := by
  refine F.ok sc_are_lots (fun vs H Q E h => ?_) (fun cdv A outer s H vs Q E hr h => ?_)
  · obtain ⟨r, d, as, ls, kvs, rfl, _⟩ := h
    rfl
  · obtain ⟨r, d, as, ls, kvs, rfl, hr0, hp, hd, ⟨hne, hl3, hnd, hok⟩, k⟩ := h
    refine ⟨_, (pss_cons (ps_if (pw_or (pt_not (pt_val (pe_c c_is_list hr (by decide) (by rfl) (pa_cons (pv 0) pa_nil)))) (pw_or1 (pt_cmpR op_eq (pe_callB call_len_seq (by rfl) B.len_ bt_len (pa_cons (pv 0) pa_nil)) pe_int (nomark _)))).pt (pss_one (ps_ret pe_bl)) pss_nil)
      (pss_cons (ps_set (i := 2) sc_are_lots.nd rfl (Or.inl rfl) (pe_lst pa_nil))
      (pss_cons (ps_for PassesOwn.never rfl (pi_list (pv 0)) (pg_name (i := 3) sc_are_lots.nd rfl (Or.inl rfl))
      (pss_cons (ps_if (pw_or (pt_not (pt_val (pe_c c_is_list hr (by decide) (by rfl) (pa_cons (pv 3) pa_nil)))) (pw_or (pt_cmpR op_ne (pe_callB call_len_seq (by rfl) B.len_ bt_len (pa_cons (pv 3) pa_nil)) pe_int (nomark _)) (pw_or (pt_not (pt_val (pe_c c_is_name hr (by decide) (by rfl) (pa_cons (pe_ix ix_tup (pv 3) pe_int (fun _ _ => rfl)) pa_nil)))) (pw_or (pt_cmp (pc_dnotin (hu_of hr) (pe_ix ix_tup (pv 3) pe_int (fun _ _ => rfl)) (pv 1))) (pw_or1 (pt_cmpR op_in_seq (pe_ix ix_tup (pv 3) pe_int (fun _ _ => rfl)) (pv 2) rfl)))))).pt (pss_one (ps_ret pe_bl)) pss_nil)
      (pss_cons (ps_if (pw_or (pt_not (pt_val (pe_c c_is_integer hr (by decide) (by rfl) (pa_cons (pe_ix ix_tup (pv 3) pe_int (fun _ _ => rfl)) pa_nil)))) (pw_or1 (pt_cmpR op_lt (pe_ix ix_tup (pv 3) pe_int (fun _ _ => rfl)) pe_int (nomark _)))).pt (pss_one (ps_ret pe_bl)) pss_nil)
      (pss_one (ps_expr (pe_bm PySem.F.plainAttrs_list PySem.F.slot_list_append PySem.F.type_list_append mt_append (pv 2) (pa_cons (pe_ix ix_tup (pv 3) pe_int (fun _ _ => rfl)) pa_nil)))))))
      (pss_one (ps_ret pe_bl))))), ?_⟩
    have ln := hp.length
    refine ⟨_, rfl, r, _, rfl, .inl hr0, ?_⟩
    rintro v H1 s1 rfl
    refine ⟨_, rfl, iteF ⟨_, rfl, r, _, rfl, .inl (SqL.of (s1 _ _ hr0)), rfl, _, rfl, ?_⟩⟩
    have n0 : ls.length ≠ 0 := fun e => hne (List.length_eq_zero_iff.mp e)
    rw [decide_eq_false (fun e => by injection e with e; omega)]
    refine iteF ⟨Nat.zero_le _, fun m hm => ?_⟩
    have s2 := s1.trans (same_upd (o := .lst []) hm)
    have m0 : H m = none := s1.free hm
    refine ⟨_, rfl, r, rfl, ⟨_, SqL.of (s2 _ _ hr0)⟩, for_list (xs := as) (LotsW H r d m ls) ⟨none, rfl, s2, upd_same⟩ (fun i σ H' _ ⟨_, _, s, _⟩ => SqL.of (s _ _ hr0)) ?_ ?_⟩
    · rintro i x σ H' hx ⟨y, rfl, s, hm'⟩
      obtain ⟨l, a, hl, rfl, ha⟩ := LotAt.nth hp hx
      obtain ⟨a1, ⟨v, a2⟩, a3⟩ := hok l (List.mem_of_getElem? hl)
      have hi : i < ls.length := (List.getElem?_eq_some_iff.mp hl).1
      refine ⟨_, rfl, a, _, rfl, .inr (s _ _ ha), ?_⟩
      rintro v1 H2 t1 rfl
      have s3 := s.trans t1
      have hT := SqT.of (K := K) (s3 _ _ ha)
      refine ⟨_, rfl, iteF ⟨_, rfl, a, _, rfl, .inr hT, rfl, _, rfl, iteF ?_⟩⟩
      refine ⟨_, rfl, _, _, _, _, rfl, rfl, hT, at0 rfl, l.1, rfl, a1, ?_⟩
      rintro v2 H3 t2 rfl
      have s4 := s3.trans t2
      have hT2 := SqT.of (K := K) (s4 _ _ ha)
      refine ⟨_, rfl, iteF ⟨_, rfl, _, _, _, _, rfl, rfl, hT2, at0 rfl, _, rfl, _, _, rfl, dgetS (Evl.ex_rd s4 hd) a2, _, rfl, iteF ?_⟩⟩
      have hm3 := t2 _ _ (t1 _ _ hm')
      refine ⟨_, rfl, _, _, _, _, rfl, rfl, hT2, at0 rfl, _, rfl, m, _, rfl, .inl (SqL.of hm3), rfl, flat_strs _, _, rfl, ?_⟩
      have hnot : l.1 ∉ (ls.take i).map (·.1) := by
        rw [List.map_take]
        exact nodup_take hnd (by rw [List.getElem?_map, hl]; rfl)
      rw [if_neg Bool.false_ne_true, inV_str, decide_eq_false hnot]
      refine iteF ⟨_, rfl, _, _, _, _, rfl, rfl, hT2, at1 rfl, _, rfl, _, rfl, iteF ?_⟩
      refine ⟨_, rfl, _, _, _, _, rfl, rfl, hT2, at1 rfl, _, _, rfl, rfl, _, rfl, ?_⟩
      rw [decide_eq_false (show ¬ l.2 < 1 by omega)]
      refine iteF ⟨_, rfl, .inl ⟨rfl, _, SqL.of hm3⟩, _, rfl, _, _, _, _, rfl, rfl, hT2, at0 rfl, m, _, _, rfl, rfl, hm3, ?_, ?_⟩
      · refine sz_lt ?_
        rw [List.length_map, List.length_map, List.length_take]
        omega
      · refine ⟨_, rfl, same_mut s4 m0, ?_⟩
        rw [upd_same, take_snoc hl, List.map_append, List.map_append]
        rfl
    · rintro σ H' ⟨y, rfl, s, _⟩
      exact k _ _ s rfl

def PlOk (kvs : List (Key × V)) : Pl → Prop
  | .mv _ ms => ms ≠ [] ∧ ms.length ≤ 3 ∧ (ms.map (·.1)).Nodup ∧ ∀ m ∈ ms, Name m.1 ∧ Name m.2 ∧ ∃ v, valV kvs (Sum.inr m.2) = some v
  | .chance ls => LotsOk kvs ls
  | .fin t b => 0 < b ∧ b ≤ 4
def spPlace : Sp := fun vs H Q _ => ∃ (v : V) (d : Addr) (p : Pl) (kvs : List (Key × V)) (od : Obj), vs = [v, .ref d] ∧ PlAt H v p ∧ H d = some (.frz od (.dK kvs)) ∧ PlOk kvs p ∧ Ret (fun v _ => v = .bl true) H Q
theorem sc_is_place : FnScope ["thing", "names"] ["thing", "names"] (defScope (top 23)) :=
  ⟨rfl, rfl, rfl, by decide +kernel, rfl, by decide +kernel, by decide +kernel⟩
theorem in2 {K : PySem.W.Frag} {H : Hp} {p : Addr} {a b : Str} {n : Str} (h : H p = some (.tup [.str a, .str b])) (neg : Bool) {Q : VK} (k : Q (.bl (if neg then !decide (n = a ∨ n = b) else decide (n = a ∨ n = b))) H) : rIn K neg (.str n) (.ref p) H Q := by
  refine ⟨p, _, rfl, .inr (SqT.of h), rfl, rfl, ?_⟩
  have e : inV (.str n) [.str a, .str b] = decide (n = a ∨ n = b) := by
    have := inV_str n [a, b]
    simp only [List.map_cons, List.map_nil] at this
    rw [this]
    simp
  rw [e]
  exact k
theorem w_ours : word (.mv true []) = "ours" := rfl
theorem in_sides (p : Pl) : decide (word p = "ours" ∨ word p = "theirs") = (match p with | .mv _ _ => true | _ => false) := by
  cases p with
  | mv o ms =>
    cases o with
    | true => show decide (("ours" : Str) = "ours" ∨ ("ours" : Str) = "theirs") = true; decide +kernel
    | false => show decide (("theirs" : Str) = "ours" ∨ ("theirs" : Str) = "theirs") = true; decide +kernel
  | chance ls => show decide ((("chance" : Str)) = "ours" ∨ (("chance" : Str)) = "theirs") = false; decide +kernel
  | fin t b => show decide ((("end" : Str)) = "ours" ∨ (("end" : Str)) = "theirs") = false; decide +kernel
theorem eq_chance (p : Pl) : decide (V.str (word p) = V.str "chance") = (match p with | .chance _ => true | _ => false) := by
  cases p with
  | mv o ms =>
    cases o with
    | true => show decide (V.str "ours" = V.str "chance") = false; decide +kernel
    | false => show decide (V.str "theirs" = V.str "chance") = false; decide +kernel
  | chance ls => show decide (V.str "chance" = V.str "chance") = true; decide +kernel
  | fin t b => show decide (V.str "end" = V.str "chance") = false; decide +kernel
theorem eq_end (p : Pl) : decide (V.str (word p) = V.str "end") = (match p with | .fin _ _ => true | _ => false) := by
  cases p with
  | mv o ms =>
    cases o with
    | true => show decide (V.str "ours" = V.str "end") = false; decide +kernel
    | false => show decide (V.str "theirs" = V.str "end") = false; decide +kernel
  | chance ls => show decide (V.str "chance" = V.str "end") = false; decide +kernel
  | fin t b => show decide (V.str "end" = V.str "end") = true; decide +kernel
theorem ok_is_place {f : Addr} {fd : FuncData} (F : Fun K "is_place" "is_place" (top 23) f fd) (B : Bi mg) (c_is_list : Cal P w K mg base 1 "is_list" spIsl []) (c_are_moves : Cal P w K mg base 2 "are_moves" spMoves []) (c_are_lots : Cal P w K mg base 2 "are_lots" spLots []) (c_is_fraction : Cal P w K mg base 2 "is_fraction" spFrc []) :
    FnOk P w K mg base CX0 3 f fd ["thing", "names"] spPlace := by
  refine F.ok sc_is_place (fun vs H Q E h => ?_) (fun cdv A outer s H vs Q E hr h => ?_)
  · obtain ⟨v, d, p, kvs, od, rfl, _⟩ := h
    rfl
  · obtain ⟨v, d, p, kvs, od, rfl, ⟨t, r, rfl, ht, hp⟩, hd, hok, k⟩ := h
    refine ⟨_, (pss_cons (ps_if (pw_or (pt_not (pt_val (pe_c c_is_list hr (by decide) (by rfl) (pa_cons (pv 0) pa_nil)))) (pw_or (pt_cmpR op_ne (pe_callB call_len_seq (by rfl) B.len_ bt_len (pa_cons (pv 0) pa_nil)) pe_int (nomark _)) (pw_or1 (pt_not (pt_val (pe_callB call_isi (by rfl) B.isinstance_ bt_isinstance (pa_cons (pe_ix ix_tup (pv 0) pe_int (fun _ _ => rfl)) (pa_cons (pe_bltn (v := .ty "str") (by rfl) B.str_ bt_str rfl) pa_nil)))))))).pt (pss_one (ps_ret pe_bl)) pss_nil)
      (pss_cons (ps_if (pt_cmpR op_in_seq (pe_ix ix_tup (pv 0) pe_int (fun _ _ => rfl)) (pe_tup (pa_cons pe_str (pa_cons pe_str pa_nil))) rfl) (pss_one (ps_ret (pe_c c_are_moves hr (by decide) (by rfl) (pa_cons (pe_ix ix_tup (pv 0) pe_int (fun _ _ => rfl)) (pa_cons (pv 1) pa_nil))))) pss_nil)
      (pss_one (ps_ret (pe_ifExp (pt_cmpR op_eq (pe_ix ix_tup (pv 0) pe_int (fun _ _ => rfl)) pe_str (nomark _)) (pe_c c_are_lots hr (by decide) (by rfl) (pa_cons (pe_ix ix_tup (pv 0) pe_int (fun _ _ => rfl)) (pa_cons (pv 1) pa_nil))) (pe_and (pe_cmpR op_eq (pe_ix ix_tup (pv 0) pe_int (fun _ _ => rfl)) pe_str (nomark _)) (pe_one (pe_c c_is_fraction hr (by decide) (by rfl) (pa_cons (pe_ix ix_tup (pv 0) pe_int (fun _ _ => rfl)) pa_nil))))))))), ?_⟩
    refine ⟨_, rfl, t, _, rfl, .inr ht, ?_⟩
    rintro v1 H1 s1 rfl
    have hT := SqT.of (K := K) (s1 _ _ ht)
    refine ⟨_, rfl, iteF ⟨_, rfl, t, _, rfl, .inr hT, rfl, _, rfl, iteF ?_⟩⟩
    refine ⟨_, rfl, _, _, _, _, rfl, rfl, hT, at0 rfl, _, _, _, _, _, rfl, .ty "str", .base (.str _), kit_ty kb_ss, _, rfl, iteF ?_⟩
    refine ⟨_, rfl, _, _, _, _, rfl, rfl, hT, at0 rfl, by show 2 ≤ sizeLine; decide, fun q hq => in2 upd_same false ⟨_, rfl, ?_⟩⟩
    have s2 := s1.trans (same_upd (o := .tup [.str "ours", .str "theirs"]) hq)
    have hT2 := SqT.of (K := K) (s2 _ _ ht)
    have hd2 := s2 _ _ hd
    rw [if_neg Bool.false_ne_true, in_sides]
    cases p with
    | mv o ms =>
      obtain ⟨o1, o2, o3, o4⟩ := hok
      have hr2 := s2 _ _ (show H r = some (.dK (mvKv ms)) from hp)
      refine iteT ⟨_, rfl, _, _, _, _, rfl, rfl, hT2, at1 rfl, _, rfl, r, d, ms, kvs, rfl, hr2, .inr ⟨od, hd2⟩, ne_of hr2 hd2 (fun z => nomatch z), o1, o2, o3, o4, fun v3 H3 s3 e => ?_⟩
      exact k _ _ (s2.trans s3) e
    | chance ls =>
      obtain ⟨as, h1, h2⟩ := hp
      refine iteF ⟨_, rfl, _, _, _, _, rfl, rfl, hT2, at0 rfl, rfl, _, rfl, ?_⟩
      rw [eq_chance]
      refine iteT ⟨_, rfl, _, _, _, _, rfl, rfl, hT2, at1 rfl, _, rfl, r, d, as, ls, kvs, rfl, s2 _ _ h1, Paired.mp (fun _ _ z => LotAt.mono z s2) h2, .inr ⟨od, hd2⟩, hok, fun v3 H3 s3 e => ?_⟩
      exact k _ _ (s2.trans s3) e
    | fin x y =>
      refine iteF ⟨_, rfl, _, _, _, _, rfl, rfl, hT2, at0 rfl, rfl, _, rfl, ?_⟩
      rw [eq_chance]
      refine iteF ⟨_, rfl, _, _, _, _, rfl, rfl, hT2, at0 rfl, rfl, _, rfl, ?_⟩
      rw [eq_end]
      refine iteT ⟨_, rfl, _, _, _, _, rfl, rfl, hT2, at1 rfl, r, x, y, rfl, s2 _ _ hp, hok.1, fun v3 H3 s3 e => ?_⟩
      exact k _ _ (s2.trans s3) e

/-! ### kept_place -/
def nrm : Pl → Pl
  | .fin t b => .fin (fr t b).num (fr t b).den
  | p => p
def spKept : Sp := fun vs H Q _ => ∃ (v : V) (p : Pl), vs = [v] ∧ PlAt H v p ∧ (∀ t b, p = .fin t b → 0 < b ∧ b ≤ 4) ∧ (∀ ls, p = .chance ls → ls.length ≤ 3) ∧ Ret (fun v H' => PlAt H' v (nrm p)) H Q
theorem sc_kept_place : FnScope ["thing", "lot"] ["thing"] (defScope (top 24)) :=
  ⟨rfl, rfl, rfl, by decide +kernel, rfl, by decide +kernel, by decide +kernel⟩
theorem ok_kept_place {f : Addr} {fd : FuncData} (F : Fun K "kept_place" "kept_place" (top 24) f fd) (B : Bi mg) (c_lowest : Cal P w K mg base 1 "lowest" spLow []) :
    FnOk P w K mg base CX0 2 f fd ["thing"] spKept := by
  refine F.ok sc_kept_place (fun vs H Q E h => ?_) (fun cdv A outer s H vs Q E hr h => ?_)
  · obtain ⟨v, p, rfl, _⟩ := h
    rfl
  · obtain ⟨v, p, rfl, ⟨t, r, rfl, ht, hp⟩, hb, h3, k⟩ := h
    refine ⟨_, (pss_cons (ps_if (pt_cmpR op_in_seq (pe_ix ix_tup (pv 0) pe_int (fun _ _ => rfl)) (pe_tup (pa_cons pe_str (pa_cons pe_str pa_nil))) rfl) (pss_one (ps_ret (pe_tup (pa_cons (pe_ix ix_tup (pv 0) pe_int (fun _ _ => rfl)) (pa_cons (pe_callTy call_dictD (by rfl) B.dict_ bt_dict (pa_cons (pe_ix ix_tup (pv 0) pe_int (fun _ _ => rfl)) pa_nil)) pa_nil))))) pss_nil)
      (pss_cons (ps_if (pt_cmpR op_eq (pe_ix ix_tup (pv 0) pe_int (fun _ _ => rfl)) pe_str (nomark _)) (pss_one (ps_ret (pe_tup (pa_cons pe_str (pa_cons (pe_lc (own := [("lot", 1)]) (g := gName 1) rfl sc_kept_place.nd (pi_list (pe_ix ix_tup (pv 0) pe_int (fun _ _ => rfl))) (blkOk_by (by kernel_rfl)) (fun _ _ _ _ _ => (pg_name (i := 1) sc_kept_place.nd rfl (Or.inl rfl))) (fun _ _ _ _ _ => pts_nil) (fun _ _ _ _ _ => (pe_callTy (call_tuple_ofK K rfl) (by rfl) B.tuple_ bt_tuple (pa_cons (pv 1) pa_nil)))) pa_nil))))) pss_nil)
      (pss_one (ps_ret (pe_tup (pa_cons pe_str (pa_cons (pe_c c_lowest hr (by decide) (by rfl) (pa_cons (pe_ix ix_tup (pe_ix ix_tup (pv 0) pe_int (fun _ _ => rfl)) pe_int (fun _ _ => rfl)) (pa_cons (pe_ix ix_tup (pe_ix ix_tup (pv 0) pe_int (fun _ _ => rfl)) pe_int (fun _ _ => rfl)) pa_nil))) pa_nil))))))), ?_⟩
    have hT := SqT.of (K := K) ht
    refine ⟨_, rfl, _, _, _, _, rfl, rfl, hT, at0 rfl, by show 2 ≤ sizeLine; decide, fun q hq => in2 upd_same false ⟨_, rfl, ?_⟩⟩
    have s2 := (same_upd (o := .tup [.str "ours", .str "theirs"]) hq)
    have hT2 := SqT.of (K := K) (s2 _ _ ht)
    rw [if_neg Bool.false_ne_true, in_sides]
    cases p with
    | mv o ms =>
      have hr2 := s2 _ _ (show H r = some (.dK (mvKv ms)) from hp)
      refine iteT ⟨_, rfl, _, _, _, _, rfl, rfl, hT2, at0 rfl, _, rfl, _, _, _, _, rfl, rfl, hT2, at1 rfl, r, _, rfl, .inl hr2, fun e he => ?_⟩
      refine ⟨by show 2 ≤ sizeLine; decide, fun z hz => ?_⟩
      have s3 := s2.trans ((same_upd (o := .dK (mvKv ms)) he).trans (same_upd (o := .tup [.str (word (.mv o ms)), .ref e]) hz))
      refine k _ _ s3 ⟨z, e, rfl, upd_same, ?_⟩
      show upd _ _ _ e = _
      rw [upd_ne (ne_of_none upd_same hz)]
      exact upd_same
    | chance ls =>
      obtain ⟨as, h1, h2⟩ := hp
      have ln := h2.length
      have l3 := h3 ls rfl
      refine iteF ⟨_, rfl, _, _, _, _, rfl, rfl, hT2, at0 rfl, rfl, _, rfl, ?_⟩
      rw [eq_chance]
      refine iteT ⟨_, rfl, _, _, _, _, rfl, rfl, hT2, at1 rfl, r, rfl, ⟨_, SqL.of (s2 _ _ h1)⟩, fun D hD => lcm (n := as.length) (fun j y H' => as[j]? = some y) hD (by omega) (fun _ _ _ _ _ _ z => z) (go_l (s2 _ _ h1)) (stop_l (s2 _ _ h1)) ?_ ?_ gm_name⟩
      · intro i x H2 H3 Kt hi s3 _ hy kt
        obtain ⟨rfl, hx⟩ := yl_l (s2 _ _ h1) s3 hy
        obtain ⟨l, a, hl, rfl, ha⟩ := LotAt.nth h2 hx
        exact ⟨rfl, _, rfl, a, _, rfl, .inr ⟨SqT.of (s3 _ _ (s2 _ _ ha)), kt _ _ (Same.refl _) hx⟩⟩
      · intro ys H2 s3 h4 hl2 hy
        have e : ys = as := by
          refine List.ext_getElem? fun j => ?_
          by_cases hj : j < ys.length
          · rw [hy j _ (List.getElem?_eq_getElem hj), List.getElem?_eq_getElem hj]
          · rw [List.getElem?_eq_none (by omega), List.getElem?_eq_none (by omega)]
        subst e
        refine ⟨by show 2 ≤ sizeLine; decide, fun z hz => ?_⟩
        have s4 := same_upd (o := .tup [.str "chance", .ref D]) hz
        have s5 := s2.trans (s3.trans s4)
        exact k _ _ s5 ⟨z, D, rfl, upd_same, ys, s4 _ _ h4, Paired.mp (fun _ _ z => LotAt.mono z s5) h2⟩
    | fin x y =>
      obtain ⟨b1, b2⟩ := hb x y rfl
      have hr2 := SqT.of (K := K) (s2 _ _ (show H r = some (.tup [.int x, .int y]) from hp))
      refine iteF ⟨_, rfl, _, _, _, _, rfl, rfl, hT2, at0 rfl, rfl, _, rfl, ?_⟩
      rw [eq_chance]
      refine iteF ⟨_, rfl, _, _, _, _, rfl, rfl, hT2, at1 rfl, _, _, _, _, rfl, rfl, hr2, at0 rfl, _, rfl, _, _, _, _, rfl, rfl, hT2, at1 rfl, _, _, _, _, rfl, rfl, hr2, at1 rfl, x, y, rfl, b1, ?_, ?_⟩
      · have : (4 : Nat) < 2 ^ 8000 := by decide +kernel
        omega
      · rintro u H3 s3 ⟨e, rfl, he⟩
        refine ⟨by show 2 ≤ sizeLine; decide, fun z hz => ?_⟩
        have s4 := same_upd (o := .tup [.str "end", .ref e]) hz
        exact k _ _ (s2.trans (s3.trans s4)) ⟨z, e, rfl, upd_same, s4 _ _ he⟩
end
end Gw
end

section
set_option Elab.async false
set_option linter.all false
set_option maxRecDepth 100000
set_option maxHeartbeats 4000000
/-! walks: led_from, the class Game -/
namespace Gw
open PySem PySem.Spec PyProof.Rows L2
open C8 (Cal Mak Met pe_c pe_mk pe_mt pe_mt0 pe_gc)
open RZ (pi_zipA ItzT)

/-! ### lists of names compared -/
def SOk (x : Str) : Prop := PyData.strOk x = true
theorem name_ok {n : Str} (h : Name n) : SOk n := by
  show n.cps.all (fun c => decide (c < 0x110000)) = true
  rw [← Array.all_toList, List.all_eq_true]
  intro c hc
  have h1 := h.2.2 c hc
  have h2 : ∀ c ∈ SIGNS.cps.toList, c < 0x110000 := by decide +kernel
  exact decide_eq_true (h2 c h1)
theorem dpall_strs {K : PySem.W.Frag} {H : Hp} : ∀ l : List Str, DpAll K H (l.map V.str) (l.map PyData.str)
  | [] => .nil
  | x :: l => .cons (.str x) (dpall_strs l)
theorem lay_strs : ∀ l : List Str, (∀ x ∈ l, SOk x) → PyData.canLayAll0 (l.map PyData.str) = true
  | [], _ => rfl
  | x :: l, h => by
    have h1 : PyData.strOk x = true := h x (List.mem_cons_self ..)
    simp [PyData.canLayAll0, PyData.canLay0, lay_strs l fun y hy => h y (List.mem_cons_of_mem _ hy), h1]
theorem depth_strs : ∀ l : List Str, PyData.depthAll (l.map PyData.str) = 0
  | [] => rfl
  | x :: l => by simp [PyData.depthAll, PyData.depth, depth_strs l]
theorem shaped_strs {l : List Str} (h : ∀ x ∈ l, SOk x) : SeqAt.shaped (.list (l.map PyData.str)) = true := by
  simp [SeqAt.shaped, PyData.canLay0, PyData.depth, lay_strs l h, depth_strs]
theorem eqvAll_strs : ∀ l m : List Str, PyData.eqvAll (l.map PyData.str) (m.map PyData.str) = decide (l = m)
  | [], [] => by simp [PyData.eqvAll]
  | [], _ :: _ => by simp [PyData.eqvAll]
  | _ :: _, [] => by simp [PyData.eqvAll]
  | a :: r, b :: t => by
    simp only [List.map_cons, PyData.eqvAll, PyData.eqv, eqvAll_strs r t]
    by_cases h : a = b <;> by_cases h' : r = t <;> simp [h, h']
theorem eqv_strs (l m : List Str) : PyData.eqv (.list (l.map PyData.str)) (.list (m.map PyData.str)) = decide (l = m) := by
  simp only [PyData.eqv]
  exact eqvAll_strs l m
theorem neD {K : PySem.W.Frag} {H : Hp} {a b : Addr} {l m : List Str} {Q : VK} (ha : H a = some (.lst (l.map V.str))) (hb : H b = some (.lst (m.map V.str))) (ol : ∀ x ∈ l, SOk x) (om : ∀ x ∈ m, SOk x) (k : Q (.bl (!decide (l = m))) H) : rNeD K (.ref a) (.ref b) H Q :=
  ⟨_, _, .lst (SqL.of ha) (dpall_strs l), .lst (SqL.of hb) (dpall_strs m), shaped_strs ol, shaped_strs om, by rw [eqv_strs]; exact k⟩
theorem eqD {K : PySem.W.Frag} {H : Hp} {a b : Addr} {l m : List Str} {Q : VK} (ha : H a = some (.lst (l.map V.str))) (hb : H b = some (.lst (m.map V.str))) (ol : ∀ x ∈ l, SOk x) (om : ∀ x ∈ m, SOk x) (k : Q (.bl (decide (l = m))) H) : rEqD K (.ref a) (.ref b) H Q :=
  ⟨_, _, .lst (SqL.of ha) (dpall_strs l), .lst (SqL.of hb) (dpall_strs m), shaped_strs ol, shaped_strs om, by rw [eqv_strs]; exact k⟩

/-! ### good games -/
structure GOk (g : Gm) (rk : Str → Nat) : Prop where
  tree : Tree g rk
  ne : g ≠ []
  nm : ∀ n ∈ g.map (·.1), Name n
  mn : ∀ n o ms, look g n = some (.mv o ms) → ∀ m ∈ ms, Name m.1
theorem gm_key {H : Hp} {kvs : List (Key × V)} {g : Gm} (h : GmKv H kvs g) {n : Str} (hn : n ∈ g.map (·.1)) : ∃ p v, look g n = some p ∧ valV kvs (Sum.inr n) = some v ∧ PlAt H v p := by
  obtain ⟨p, hp⟩ := look_some hn
  obtain ⟨v, h1, h2⟩ := (gm_look h).1 p hp
  exact ⟨p, v, hp, h1, h2⟩
theorem gm_keys {H : Hp} : ∀ {kvs : List (Key × V)} {g : Gm}, GmKv H kvs g → kvs.map (·.1) = g.map fun q => Sum.inr q.1
  | _, _, .nil => rfl
  | _, _, .cons r t => by rw [List.map_cons, List.map_cons, r.1, gm_keys t]
theorem gm_at {H : Hp} {kvs : List (Key × V)} {g : Gm} (h : GmKv H kvs g) {i : Nat} {k : Key} {v : V} (e : kvs[i]? = some (k, v)) : ∃ q, g[i]? = some q ∧ k = Sum.inr q.1 ∧ PlAt H v q.2 := by
  obtain ⟨q, h1, h2, h3⟩ := Paired.nth h e
  exact ⟨q, h1, h2, h3⟩
theorem GOk.plok {g : Gm} {rk : Str → Nat} (G : GOk g rk) {H : Hp} {kvs : List (Key × V)} (h : GmKv H kvs g) {n : Str} {p : Pl} (hl : look g n = some p) : PlOk kvs p := by
  have key : ∀ d ∈ p.dests, Name d ∧ ∃ v, valV kvs (Sum.inr d) = some v := fun d hd => by
    obtain ⟨h1, _⟩ := G.tree.down n p hl d hd
    obtain ⟨_, v, _, h2, _⟩ := gm_key h h1
    exact ⟨G.nm d h1, v, h2⟩
  cases p with
  | mv o ms =>
    obtain ⟨h1, h2, h3⟩ := G.tree.mv n o ms hl
    refine ⟨h1, h2, h3, fun m hm => ⟨G.mn n o ms hl m hm, key m.2 (List.mem_map.mpr ⟨m, hm, rfl⟩)⟩⟩
  | chance ls =>
    obtain ⟨h1, h2, h3, h4⟩ := G.tree.ch n ls hl
    refine ⟨h1, h2, h3, fun l hl' => ?_⟩
    obtain ⟨a, b⟩ := key l.1 (List.mem_map.mpr ⟨l, hl', rfl⟩)
    exact ⟨a, b, (h4 l hl').1⟩
  | fin t b =>
    obtain ⟨h1, h2, _⟩ := G.tree.fn n t b hl
    exact ⟨by omega, h2⟩
theorem GOk.dests {g : Gm} {rk : Str → Nat} (G : GOk g rk) {n : Str} {p : Pl} (hl : look g n = some p) : p.dests.length ≤ 3 := by
  cases p with
  | mv o ms =>
    obtain ⟨h1, h2, h3⟩ := G.tree.mv n o ms hl
    show (ms.map (·.2)).length ≤ 3
    rw [List.length_map]
    exact h2
  | chance ls =>
    obtain ⟨h1, h2, h3, h4⟩ := G.tree.ch n ls hl
    show (ls.map (·.1)).length ≤ 3
    rw [List.length_map]
    exact h2
  | fin t b => exact Nat.zero_le _
/-! the kept table's game -/
def nrmG (g : Gm) : Gm := g.map fun q => (q.1, nrm q.2)
theorem look_nrm (g : Gm) (n : Str) : look (nrmG g) n = (look g n).map nrm := by
  induction g with
  | nil => rfl
  | cons q g ih =>
    show look ((q.1, nrm q.2) :: nrmG g) n = _
    unfold look
    by_cases e : q.1 = n
    · rw [if_pos e, if_pos e]; rfl
    · rw [if_neg e, if_neg e]; exact ih
theorem keys_nrm (g : Gm) : (nrmG g).map (·.1) = g.map (·.1) := by
  unfold nrmG
  rw [List.map_map]
  rfl
theorem dests_nrm (p : Pl) : (nrm p).dests = p.dests := by cases p <;> rfl
theorem GOk.nrm {g : Gm} {rk : Str → Nat} (G : GOk g rk) : GOk (nrmG g) rk := by
  have lk : ∀ {n p}, look (nrmG g) n = some p → ∃ q, look g n = some q ∧ p = Gw.nrm q := fun {n p} h => by
    rw [look_nrm] at h
    cases e : look g n with
    | none => rw [e] at h; cases h
    | some q => rw [e] at h; cases h; exact ⟨q, rfl, rfl⟩
  have len : (nrmG g).length = g.length := by unfold nrmG; rw [List.length_map]
  refine ⟨⟨by rw [keys_nrm]; exact G.tree.nd, by rw [len]; exact G.tree.le, ?_, ?_, ?_, ?_, ?_⟩, ?_, by rw [keys_nrm]; exact G.nm, ?_⟩
  · rw [keys_nrm, len]; exact G.tree.top
  · intro n p h d hd
    obtain ⟨q, h1, rfl⟩ := lk h
    rw [dests_nrm] at hd
    rw [keys_nrm]
    exact G.tree.down n q h1 d hd
  · intro n o ms h
    obtain ⟨q, h1, h2⟩ := lk h
    cases q with
    | mv o' ms' => cases h2; exact G.tree.mv n _ _ h1
    | chance ls => cases h2
    | fin t b => cases h2
  · intro n ls h
    obtain ⟨q, h1, h2⟩ := lk h
    cases q with
    | mv o' ms' => cases h2
    | chance ls => cases h2; exact G.tree.ch n _ h1
    | fin t b => cases h2
  · intro n t b h
    obtain ⟨q, h1, h2⟩ := lk h
    cases q with
    | mv o' ms' => cases h2
    | chance ls => cases h2
    | fin t' b' =>
      obtain ⟨a1, a2, a3, a4⟩ := G.tree.fn n _ _ h1
      obtain ⟨l1, l2⟩ := fr_le (t := t') (b := b') (by omega)
      have := den0 (fr t' b')
      injection h2 with e1 e2
      subst e1 e2
      exact ⟨by omega, by omega, by omega, by omega⟩
  · intro e
    apply G.ne
    unfold nrmG at e
    exact List.map_eq_nil_iff.mp e
  · intro n o ms h
    obtain ⟨q, h1, h2⟩ := lk h
    cases q with
    | mv o' ms' => cases h2; exact G.mn n _ _ h1
    | chance ls => cases h2
    | fin t b => cases h2
theorem val_nrm {g : Gm} {rk : Str → Nat} (G : GOk g rk) (pol : Pol) : ∀ (k : Nat) (n : Str), valF (nrmG g) pol k n = valF g pol k n := by
  intro k
  induction k with
  | zero => intro n; rfl
  | succ k ih =>
    intro n
    show (match look (nrmG g) n with | some p => ev pol (valF (nrmG g) pol k) n p | none => 0) = (match look g n with | some p => ev pol (valF g pol k) n p | none => 0)
    rw [look_nrm, show valF (nrmG g) pol k = valF g pol k from funext ih]
    cases look g n with
    | none => rfl
    | some p =>
      show ev pol _ n (nrm p) = ev pol _ n p
      cases p with
      | fin t b => show fr _ _ = fr t b; rw [fr_self]
      | mv o ms => rfl
      | chance ls => rfl

section
variable {P : Program} {w : World} {K : PySem.W.Frag} {mg : Str → Option Value} {base : Heap}
/-! ### led_from -/
def DedP (D : Addr) (H1 : Hp) (l : List Str) (i : Nat) (H : Hp) : Prop := Same H1 H ∧ ∃ es : List Str, H D = some (.lst (es.map V.str)) ∧ es.length ≤ i ∧ ∀ x, x ∈ es ↔ x ∈ l.take i
def spLed : Sp := fun vs H Q _ => ∃ (v : V) (p : Pl), vs = [v] ∧ PlAt H v p ∧ p.dests.length ≤ 3 ∧
  ∀ l H' es, Same H H' → H l = none → H' l = some (.lst ((es : List Str).map V.str)) → (∀ x, x ∈ es ↔ x ∈ p.dests) → es.length ≤ 3 → Q (.ref l) H'
theorem ded_start {H1 : Hp} {D : Addr} {l : List Str} (hD : H1 D = none) : DedP D H1 l 0 (upd H1 D (.lst [])) := ⟨same_upd hD, [], upd_same, Nat.le_refl _, fun x => by simp⟩
theorem ded_yes {H1 H H2 : Hp} {D : Addr} {l : List Str} {i : Nat} {x : Str} (hD : H1 D = none) (p : DedP D H1 l i H) (s : Same H H2) (hx : l[i]? = some x) (h3 : i < 100000) :
    ∃ acc, H2 D = some (.lst acc) ∧ acc.length < sizeLine ∧ DedP D H1 l (i + 1) (upd H2 D (.lst (acc ++ [.str x]))) := by
  obtain ⟨s1, es, h1, h2, hm⟩ := p
  refine ⟨_, s _ _ h1, sz_lt (by rw [List.length_map]; omega), same_mut (s1.trans s) hD, es ++ [x], by rw [upd_same, List.map_append]; rfl, by rw [List.length_append]; simp; omega, fun y => ?_⟩
  rw [take_snoc hx, List.mem_append, List.mem_append, hm]
theorem ded_no {H1 H H2 : Hp} {D : Addr} {l : List Str} {i : Nat} {x : Str} (p : DedP D H1 l i H) (s : Same H H2) (hx : l[i]? = some x) (h : x ∈ l.take i) : DedP D H1 l (i + 1) H2 := by
  obtain ⟨s1, es, h1, h2, hm⟩ := p
  refine ⟨s1.trans s, es, s _ _ h1, by omega, fun y => ?_⟩
  rw [take_snoc hx, List.mem_append, hm]
  constructor
  · exact .inl
  · rintro (h' | h')
    · exact h'
    · rw [List.mem_singleton] at h'
      subst h'
      exact h
theorem go_e {H1 : Hp} {a : Addr} {xs : List V} (h : H1 a = some (.lst xs)) : ∀ i H, i < xs.length → Same H1 H → (Ite K a).go i H := fun i H hi s => ⟨xs, xs[i], SqL.of (s _ _ h), by simp [hi]⟩
theorem stop_e {H1 : Hp} {a : Addr} {xs : List V} (h : H1 a = some (.lst xs)) : ∀ H, Same H1 H → (Ite K a).stop xs.length H := fun H s => ⟨xs, SqL.of (s _ _ h), Nat.le_refl _⟩
theorem yl_e {H1 H H' : Hp} {a : Addr} {xs : List V} {i : Nat} {v : V} (h : H1 a = some (.lst xs)) (s : Same H1 H) (y : (Ite K a).yld i H v H') : ∃ T x, v = .ref T ∧ H T = none ∧ H' = upd H T (.tup [.int (i : Nat), x]) ∧ xs[i]? = some x := by
  obtain ⟨T, x, h1, h2, h3, h4⟩ := y
  exact ⟨T, x, h1, h2, h3, h4 xs (SqL.of (s _ _ h))⟩
theorem strs_at {l : List Str} {i : Nat} {x : V} (h : (l.map V.str)[i]? = some x) : ∃ y, l[i]? = some y ∧ x = V.str y := by
  rw [List.getElem?_map] at h
  cases e : l[i]? with
  | none => rw [e] at h; cases h
  | some y => rw [e] at h; cases h; exact ⟨y, rfl, rfl⟩
theorem mvKv_vals (ms : List (Str × Str)) : (mvKv ms).map (·.2) = (ms.map (·.2)).map V.str := by
  unfold mvKv
  rw [List.map_map, List.map_map]
  rfl
theorem sc_led_from : FnScope ["thing", "places", "at", "place", "lot"] ["thing"] (defScope (top 25)) :=
  ⟨rfl, rfl, rfl, by decide +kernel, rfl, by decide +kernel, by decide +kernel⟩
theorem ok_led_from {f : Addr} {fd : FuncData} (F : Fun K "led_from" "led_from" (top 25) f fd) (B : Bi mg) : FnOk P w K mg base CX0 1 f fd ["thing"] spLed := by
  refine F.ok sc_led_from (fun vs H Q E h => ?_) (fun cdv A outer s H vs Q E hr h => ?_)
  · obtain ⟨v, p, rfl, _⟩ := h
    rfl
  · obtain ⟨v, p, rfl, ⟨t, r, rfl, ht, hp⟩, h3, k⟩ := h
    refine ⟨_, (pss_cons (ps_if (pt_cmpR op_eq (pe_ix ix_tup (pv 0) pe_int (fun _ _ => rfl)) pe_str (nomark _)) (pss_one (ps_ret (pe_lst pa_nil))) pss_nil)
      (pss_cons (ps_set (i := 1) sc_led_from.nd rfl (Or.inr rfl) (pe_ifExp (pt_cmpR op_eq (pe_ix ix_tup (pv 0) pe_int (fun _ _ => rfl)) pe_str (nomark _)) (pe_lc (own := [("lot", 4)]) (g := gName 4) rfl sc_led_from.nd (pi_list (pe_ix ix_tup (pv 0) pe_int (fun _ _ => rfl))) (blkOk_by (by kernel_rfl)) (fun _ _ _ _ _ => (pg_name (i := 4) sc_led_from.nd rfl (Or.inl rfl))) (fun _ _ _ _ _ => pts_nil) (fun _ _ _ _ _ => (pe_ix (ix_tupK K rfl) (pv 4) pe_int (fun _ _ => rfl)))) (pe_listVals rfl (pe_ix ix_tup (pv 0) pe_int (fun _ _ => rfl)) (by rfl) B.list_ bt_list)))
      (pss_one (ps_ret (pe_lc (own := [("at", 2), ("place", 3)]) (g := gTup K 2 (gCons (gName 2) (gCons (gName 3) gNil))) rfl sc_led_from.nd (pi_enum (by rfl) B.enumerate_ (pa_cons (pv 1) pa_nil)) (blkOk_by (by kernel_rfl)) (fun _ _ _ _ _ => (pg_tup rfl (pgs_cons (pg_name (i := 2) sc_led_from.nd rfl (Or.inl rfl)) (pgs_cons (pg_name (i := 3) sc_led_from.nd rfl (Or.inl rfl)) pgs_nil)))) (fun _ _ _ _ _ => (pts_one (pt_cmpR (op_notIn_seqK K rfl) (pv 3) (pe_slice (sl_listK K rfl) (pv 1) po_none (po_some (pv 2))) rfl))) (fun _ _ _ _ _ => (pv 3))))))), ?_⟩
    have hT := SqT.of (K := K) ht
    refine ⟨_, rfl, _, _, _, _, rfl, rfl, hT, at0 rfl, rfl, _, rfl, ?_⟩
    rw [eq_end]
    cases p with
    | fin x y =>
      exact iteT ⟨Nat.zero_le _, fun l hl => k l _ [] (same_upd hl) hl upd_same (fun x => Iff.rfl) (Nat.zero_le _)⟩
    | chance ls =>
      obtain ⟨as, h1, h2⟩ := hp
      have ln := h2.length
      have l3 : ls.length ≤ 3 := by
        have : (ls.map (·.1)).length ≤ 3 := h3
        rwa [List.length_map] at this
      refine iteF ⟨_, rfl, _, _, _, _, rfl, rfl, hT, at0 rfl, rfl, _, rfl, ?_⟩
      rw [eq_chance]
      refine iteT ⟨_, rfl, _, _, _, _, rfl, rfl, hT, at1 rfl, r, rfl, ⟨_, SqL.of h1⟩, fun a ha => lcm (n := as.length) (fun j y H' => ∃ l, ls[j]? = some l ∧ y = .str l.1) ha (by omega) (fun _ _ _ _ _ _ z => z) (go_l h1) (stop_l h1) ?_ ?_ gm_name⟩
      · intro i x H2 H3 Kt hi s3 _ hy kt
        obtain ⟨rfl, hx⟩ := yl_l h1 s3 hy
        obtain ⟨l, b, hl, rfl, hb⟩ := LotAt.nth h2 hx
        exact ⟨rfl, _, rfl, _, _, _, _, rfl, rfl, SqT.of (s3 _ _ hb), at0 rfl, kt _ _ (Same.refl _) ⟨l, hl, rfl⟩⟩
      · intro ys H2 s3 h4 hl2 hy
        have e : ys = (ls.map (·.1)).map V.str := by
          refine List.ext_getElem? fun j => ?_
          rw [List.getElem?_map, List.getElem?_map]
          by_cases hj : j < ys.length
          · obtain ⟨l, e1, e2⟩ := hy j _ (List.getElem?_eq_getElem hj)
            rw [List.getElem?_eq_getElem hj, e1, e2]
            rfl
          · rw [List.getElem?_eq_none (by omega), List.getElem?_eq_none (by omega)]
            rfl
        subst e
        refine ⟨_, rfl, a, _, rfl, SqL.of h4, fun D hD => lcg (n := ((ls.map (·.1)).map V.str).length) (DedP D H2 (ls.map (·.1))) (ded_start hD) (fun i H hi p => go_e h4 i H hi p.1) (fun H p => stop_e h4 H p.1) ?_ ?_⟩
        · intro i x H3 H4 hi p hy
          obtain ⟨T, y, rfl, nT, rfl, hxy⟩ := yl_e h4 p.1 hy
          obtain ⟨z, hz, rfl⟩ := strs_at hxy
          have s5 := same_upd (o := .tup [.int (i : Nat), .str z]) nT
          refine ⟨T, _, rfl, SqT.of upd_same, rfl, _, _, rfl, _, _, rfl, rfl, rfl, _, rfl, _, rfl, _, rfl, _, rfl, a, _, rfl, SqL.of (s5 _ _ (p.1 _ _ h4)), fun q hq => ?_⟩
          refine ⟨q, _, rfl, .inl (SqL.of upd_same), rfl, ?_, _, rfl, ?_⟩
          · rw [cutV_take, ← List.map_take]
            exact flat_strs _
          · rw [if_pos rfl, cutV_take, ← List.map_take, inV_str]
            have s6 := s5.trans (same_upd (o := .lst ((List.take i (ls.map (·.1))).map V.str)) hq)
            by_cases hm : z ∈ (ls.map (·.1)).take i
            · rw [decide_eq_true hm]
              exact iteF (ded_no p s6 hz hm)
            · rw [decide_eq_false hm]
              exact iteT ⟨_, rfl, ded_yes hD p s6 hz (by rw [List.length_map, List.length_map] at hi; omega)⟩
        · rintro H3 ⟨s7, es, e1, e2, e3⟩
          rw [List.length_map, List.take_length] at e3
          rw [List.length_map, List.length_map] at e2
          exact k D H3 es (s3.trans s7) (s3.free hD) e1 e3 (by omega)
    | mv o ms =>
      have l3 : ms.length ≤ 3 := by
        have : (ms.map (·.2)).length ≤ 3 := h3
        rwa [List.length_map] at this
      refine iteF ⟨_, rfl, _, _, _, _, rfl, rfl, hT, at0 rfl, rfl, _, rfl, ?_⟩
      rw [eq_chance]
      refine iteF ⟨_, rfl, _, _, _, _, rfl, rfl, hT, at1 rfl, r, _, rfl, hp, fun a ha => ?_⟩
      rw [mvKv_vals]
      have s3 := same_upd (o := .lst ((ms.map (·.2)).map V.str)) ha
      have h4 : upd H a (.lst ((ms.map (·.2)).map V.str)) a = some (.lst ((ms.map (·.2)).map V.str)) := upd_same
      generalize upd H a (.lst ((ms.map (·.2)).map V.str)) = H2 at s3 h4
      refine ⟨_, rfl, a, _, rfl, SqL.of h4, fun D hD => lcg (n := ((ms.map (·.2)).map V.str).length) (DedP D H2 (ms.map (·.2))) (ded_start hD) (fun i H hi p => go_e h4 i H hi p.1) (fun H p => stop_e h4 H p.1) ?_ ?_⟩
      · intro i x H3 H4 hi p hy
        obtain ⟨T, y, rfl, nT, rfl, hxy⟩ := yl_e h4 p.1 hy
        obtain ⟨z, hz, rfl⟩ := strs_at hxy
        have s5 := same_upd (o := .tup [.int (i : Nat), .str z]) nT
        refine ⟨T, _, rfl, SqT.of upd_same, rfl, _, _, rfl, _, _, rfl, rfl, rfl, _, rfl, _, rfl, _, rfl, _, rfl, a, _, rfl, SqL.of (s5 _ _ (p.1 _ _ h4)), fun q hq => ?_⟩
        refine ⟨q, _, rfl, .inl (SqL.of upd_same), rfl, ?_, _, rfl, ?_⟩
        · rw [cutV_take, ← List.map_take]
          exact flat_strs _
        · rw [if_pos rfl, cutV_take, ← List.map_take, inV_str]
          have s6 := s5.trans (same_upd (o := .lst ((List.take i (ms.map (·.2))).map V.str)) hq)
          by_cases hm : z ∈ (ms.map (·.2)).take i
          · rw [decide_eq_true hm]
            exact iteF (ded_no p s6 hz hm)
          · rw [decide_eq_false hm]
            exact iteT ⟨_, rfl, ded_yes hD p s6 hz (by rw [List.length_map, List.length_map] at hi; omega)⟩
      · rintro H3 ⟨s7, es, e1, e2, e3⟩
        rw [List.length_map, List.take_length] at e3
        rw [List.length_map, List.length_map] at e2
        exact k D H3 es (s3.trans s7) (s3.free hD) e1 e3 (by omega)
end
end Gw
end

section
set_option Elab.async false
set_option linter.all false
set_option maxRecDepth 100000
set_option maxHeartbeats 4000000
/-! walks: the class Game -/
namespace Gw
open PySem PySem.Spec PyProof.Rows L2
open C8 (Cal Mak Met pe_c pe_mk pe_mt pe_mt0 pe_gc)
open RZ (pi_zipA ItzT)

/-! ### dict comprehensions -/
theorem dcg {J : It} {n : Nat} {g : TG} {tt : TT} {tk tv : TE} {vs : List Nat} {σ : L2.St} {H1 : Hp} {D : Addr} {Qd : Hp → Prop} (Pv : Nat → Hp → Prop) (h0 : Pv 0 (upd H1 D (.dK []))) (hgo : ∀ i H, i < n → Pv i H → J.go i H) (hstop : ∀ H, Pv n H → J.stop n H)
    (hs : ∀ i x H H', i < n → Pv i H → J.yld i H x H' → g x (wipe σ vs) H' fun σ2 H2 => wipe σ2 vs = wipe σ vs ∧ tt σ2 H2 fun b H3 =>
      if b = true then tk σ2 H3 fun y H4 => tv σ2 H4 fun z H5 => ∃ kvs k, y = kV k ∧ H5 D = some (.dK kvs) ∧ kvs.length < sizeLine ∧ Pv (i + 1) (upd H5 D (.dK (putK kvs k z))) else Pv (i + 1) H3) (hd : ∀ H, Pv n H → Qd H) :
    ∃ W : Nat → Nat → Hp → Prop, (∃ m, W 0 m (upd H1 D (.dK []))) ∧ ∀ i m H, W i m H →
      (J.stop i H ∧ Qd H) ∨ (J.go i H ∧ ∃ Nx : Hp → Prop, (∀ H', Nx H' → ∃ m', m' < m ∧ W (i + 1) m' H') ∧ ∀ x H', J.yld i H x H' → g x (wipe σ vs) H' fun σ2 H2 => wipe σ2 vs = wipe σ vs ∧ tt σ2 H2 fun b H3 =>
        if b = true then tk σ2 H3 fun y H4 => tv σ2 H4 fun z H5 => ∃ kvs k, y = kV k ∧ H5 D = some (.dK kvs) ∧ kvs.length < sizeLine ∧ Nx (upd H5 D (.dK (putK kvs k z))) else Nx H3) := by
  refine ⟨fun i m H => m = n - i ∧ i ≤ n ∧ Pv i H, ⟨n, by simp, Nat.zero_le _, h0⟩, ?_⟩
  rintro i m H ⟨rfl, hi, p⟩
  by_cases hlt : i < n
  · exact .inr ⟨hgo i H hlt p, Pv (i + 1), fun H' p' => ⟨n - (i + 1), by omega, rfl, hlt, p'⟩, fun x H' y => hs i x H H' hlt p y⟩
  · have e : i = n := by omega
    subst e
    exact .inl ⟨hstop H p, hd H p⟩
/-- what a dict comprehension over names has made so far: F of each name's value -/
def DcP (D : Addr) (H1 : Hp) (ns : List Str) (F : Str → V → Hp → Prop) (i : Nat) (H' : Hp) : Prop := Same H1 H' ∧ ∃ kvs : List (Key × V), H' D = some (.dK kvs) ∧ Paired (fun (kv : Key × V) n => kv.1 = Sum.inr n ∧ F n kv.2 H') kvs (ns.take i)
theorem paired_no {H' : Hp} {F : Str → V → Hp → Prop} {n : Str} : ∀ {kvs : List (Key × V)} {ns : List Str}, Paired (fun (kv : Key × V) n => kv.1 = Sum.inr n ∧ F n kv.2 H') kvs ns → n ∉ ns → valV kvs (Sum.inr n) = none
  | _, _, .nil, _ => rfl
  | _, _, .cons r t, h => by
    rw [valV_neg (fun z => h (by rw [inr_inj (r.1.symm.trans z)]; exact List.mem_cons_self ..))]
    exact paired_no t fun hm => h (List.mem_cons_of_mem _ hm)
theorem paired_yes {H' : Hp} {F : Str → V → Hp → Prop} {n : Str} : ∀ {kvs : List (Key × V)} {ns : List Str}, Paired (fun (kv : Key × V) n => kv.1 = Sum.inr n ∧ F n kv.2 H') kvs ns → n ∈ ns → ∃ v, valV kvs (Sum.inr n) = some v ∧ F n v H'
  | _, _, .nil, h => nomatch h
  | kv :: kvs, m :: ns, .cons r t, h => by
    by_cases e : m = n
    · subst e
      exact ⟨kv.2, valV_pos r.1, r.2⟩
    · rw [valV_neg (fun z => e (inr_inj (r.1.symm.trans z)))]
      exact paired_yes t ((List.mem_cons.mp h).resolve_left fun z => e z.symm)
theorem paired_refs {H' : Hp} {F : Str → V → Hp → Prop} (href : ∀ n v H, F n v H → ∃ t, v = V.ref t) : ∀ {kvs : List (Key × V)} {ns : List Str}, Paired (fun (kv : Key × V) n => kv.1 = Sum.inr n ∧ F n kv.2 H') kvs ns → ∀ kv ∈ kvs, ∃ t, kv.2 = V.ref t
  | _, _, .nil, _, h => nomatch h
  | kv :: kvs, m :: ns, .cons r t, a, h => by
    rcases List.mem_cons.mp h with e | h
    · rw [e]; exact href _ _ _ r.2
    · exact paired_refs href t a h
theorem dcp_step {D : Addr} {H1 H' H4 : Hp} {ns : List Str} {F : Str → V → Hp → Prop} {i : Nat} {n : Str} {z : V} (hD : H1 D = none) (nd : ns.Nodup) (hl : ns.length < 100000) (href : ∀ n v H, F n v H → ∃ t, v = V.ref t)
    (mono : ∀ n y H H' acc, Off D H H' → H D = some (.dK acc) → (∀ kv ∈ acc, ∃ t, kv.2 = V.ref t) → F n y H → F n y H') (p : DcP D H1 ns F i H') (hn : ns[i]? = some n)
    (s : Same H' H4) (f : F n z H4) : ∃ kvs k, V.str n = kV k ∧ H4 D = some (.dK kvs) ∧ kvs.length < sizeLine ∧ DcP D H1 ns F (i + 1) (upd H4 D (.dK (putK kvs k z))) := by
  obtain ⟨s1, kvs, h1, h2⟩ := p
  have hlen := h2.length
  rw [List.length_take] at hlen
  have hno := paired_no (n := n) h2 (nodup_take nd hn)
  refine ⟨kvs, Sum.inr n, rfl, s _ _ h1, sz_lt (by omega), same_mut (s1.trans s) hD, _, upd_same, ?_⟩
  rw [putK_new z hno, take_snoc hn]
  have rf := paired_refs href h2
  refine Paired.snoc ?_ ?_
  · exact ⟨rfl, mono _ _ H4 _ _ (Off.put (Off.of (Same.refl _))) (s _ _ h1) rf f⟩
  · exact Paired.mp (fun _ _ q => ⟨q.1, mono _ _ H' _ _ (Off.put (Off.of s)) h1 rf q.2⟩) h2
theorem dcp_start {D : Addr} {H1 : Hp} {ns : List Str} {F : Str → V → Hp → Prop} (hD : H1 D = none) : DcP D H1 ns F 0 (upd H1 D (.dK [])) := ⟨same_upd hD, [], upd_same, .nil⟩

/-! ### the class -/
structure GT (K : PySem.W.Frag) (C : Addr) : Prop where
  cl : Cls K C
  nP : NoAttr K C "place_table"
/-- a Game object that holds the game g -/
def Obj0 (H : Hp) (C x pt : Addr) : Prop := ∃ dx, H x = some (.ins C dx [("place_table", .ref pt)])
def ObjG (H : Hp) (C x : Addr) (g : Gm) : Prop := ∃ pt, Obj0 H C x pt ∧ GmAt H pt g
theorem ObjG.mono {H H' : Hp} {C x : Addr} {g : Gm} (h : ObjG H C x g) (s : Same H H') : ObjG H' C x g := by
  obtain ⟨pt, ⟨dx, h⟩, h2⟩ := h
  exact ⟨pt, ⟨dx, s _ _ h⟩, h2.mono s⟩
theorem lk_pt {v : V} : List.lookup ("place_table" : Str) ([(("place_table" : Str), v)] : List (Str × V)) = some v := by
  rw [List.lookup_cons, beq_self_eq_true]
theorem lk_no {v : V} {m : Str} (h : (m == ("place_table" : Str)) = false) : List.lookup m ([(("place_table" : Str), v)] : List (Str × V)) = none := by
  rw [List.lookup_cons, h]
  rfl

section
variable {P : Program} {w : World} {K : PySem.W.Frag} {mg : Str → Option Value} {base : Heap}
def spGInit (C : Addr) : Sp := fun vs H Q _ => ∃ (x dx d : Addr) (g : Gm) (rk : Str → Nat), vs = [.ref x, .ref d] ∧ H x = some (.ins C dx []) ∧ GmAt H d g ∧ GOk g rk ∧
  ∀ H', (∀ b o, b ≠ x → H b = some o → H' b = some o) → (∃ pt, Obj0 H' C x pt ∧ GmAt H' pt (nrmG g) ∧ H pt = none) → Q .non H'
theorem PlAt.off {H H' : Hp} {D : Addr} {acc : List (Key × V)} {v : V} {p : Pl} (hne : ∀ o ms, p = .mv o ms → ms ≠ []) (off : Off D H H') (hacc : H D = some (.dK acc)) (rf : ∀ kv ∈ acc, ∃ t, kv.2 = V.ref t) (h : PlAt H v p) : PlAt H' v p := by
  obtain ⟨t, r, z2, z3, z4⟩ := h
  refine ⟨t, r, z2, off _ _ (ne_of z3 hacc (fun z => nomatch z)) z3, ?_⟩
  cases p with
  | mv o ms =>
    have z5 : H r = some (.dK (mvKv ms)) := z4
    refine off _ _ ?_ z5
    intro e
    subst e
    rw [hacc] at z5
    have h1 := Option.some.inj z5
    have ek : acc = mvKv ms := by injection h1
    cases ms with
    | nil => exact hne o [] rfl rfl
    | cons m ms =>
      obtain ⟨t', e⟩ := rf (Sum.inr m.1, V.str m.2) (by rw [ek]; exact List.mem_cons_self ..)
      cases e
  | chance ls =>
    obtain ⟨as, a1, a2⟩ := z4
    refine ⟨as, off _ _ (ne_of a1 hacc (fun z => nomatch z)) a1, Paired.mp (fun _ _ z => ?_) a2⟩
    obtain ⟨a, e, z⟩ := z
    exact ⟨a, e, off _ _ (ne_of z hacc (fun z => nomatch z)) z⟩
  | fin t b =>
    have z5 : H r = _ := z4
    exact off _ _ (ne_of z5 hacc (fun z => nomatch z)) z5
/-- tuples, lists and dicts alone -/
def plainO : HO → Prop
  | .tup _ => True
  | .lst _ => True
  | .dK _ => True
  | _ => False
theorem PlAt.keepP {H H' : Hp} {v : V} {p : Pl} (kp : ∀ b o, plainO o → H b = some o → H' b = some o) (h : PlAt H v p) : PlAt H' v p := by
  obtain ⟨t, r, z2, z3, z4⟩ := h
  refine ⟨t, r, z2, kp _ _ True.intro z3, ?_⟩
  cases p with
  | mv o ms => exact kp _ _ True.intro (show H r = some (.dK (mvKv ms)) from z4)
  | chance ls =>
    obtain ⟨as, a1, a2⟩ := z4
    refine ⟨as, kp _ _ True.intro a1, Paired.mp (fun _ _ z => ?_) a2⟩
    obtain ⟨a, e, z⟩ := z
    exact ⟨a, e, kp _ _ True.intro z⟩
  | fin t b => exact kp _ _ True.intro (show H r = some (.tup [.int t, .int b]) from z4)
theorem GmKv.keepP {H H' : Hp} {kvs : List (Key × V)} {g : Gm} (kp : ∀ b o, plainO o → H b = some o → H' b = some o) (h : GmKv H kvs g) : GmKv H' kvs g := Paired.mp (fun _ _ z => ⟨z.1, z.2.keepP kp⟩) h
theorem lst_keys {g : Gm} {i : Nat} {q : Str × Pl} (h : g[i]? = some q) : (g.map (·.1))[i]? = some q.1 := by rw [List.getElem?_map, h]; rfl
theorem kept_game {H : Hp} : ∀ {kvs : List (Key × V)} {g : Gm} (g0 : Gm), (g0.map (·.1)).Nodup → (∀ q ∈ g, q ∈ g0) → Paired (fun (kv : Key × V) n => kv.1 = Sum.inr n ∧ ∃ p, look g0 n = some p ∧ PlAt H kv.2 (nrm p)) kvs (g.map (·.1)) → GmKv H kvs (nrmG g)
  | _, [], _, _, _, h => by cases h; exact .nil
  | _, q :: g, g0, nd, hs, h => by
    cases h with
    | cons r t =>
      obtain ⟨r1, p, r2, r3⟩ := r
      have e := look_of nd (hs q (List.mem_cons_self ..))
      rw [e] at r2
      cases r2
      exact .cons ⟨r1, r3⟩ (kept_game g0 nd (fun z hz => hs z (List.mem_cons_of_mem _ hz)) t)
theorem sc_Game___init : FnScope ["self", "places", "name"] ["self", "places"] (defScope (inClass (top 26) 0)) :=
  ⟨rfl, rfl, rfl, by decide +kernel, rfl, by decide +kernel, by decide +kernel⟩
theorem ok_ginit {f C : Addr} {fd : FuncData} (F : Fun K "__init__" "Game.__init__" (inClass (top 26) 0) f fd) (B : Bi mg) (T : GT K C) (c_is_name : Cal P w K mg base 1 "is_name" spNm []) (c_is_place : Cal P w K mg base 3 "is_place" spPlace []) (c_kept_place : Cal P w K mg base 2 "kept_place" spKept []) :
    FnOk P w K mg base CX0 4 f fd ["self", "places"] (spGInit C) := by
  refine F.ok sc_Game___init (fun vs H Q E h => ?_) (fun cdv A outer s H vs Q E hr h => ?_)
  · obtain ⟨x, dx, d, g, rk, rfl, _⟩ := h
    rfl
  · obtain ⟨x, dx, d, g, rk, rfl, hx, ⟨kvs, hd, hg⟩, G, k⟩ := h
    refine ⟨_, (pss_cons (ps_if (pw_or (pt_not (pt_val (pe_callB call_isi (by rfl) B.isinstance_ bt_isinstance (pa_cons (pv 1) (pa_cons (pe_bltn (v := .ty "dict") (by rfl) B.dict_ bt_dict rfl) pa_nil))))) (pw_or1 (pt_cmpR op_eq (pe_callB call_lenR (by rfl) B.len_ bt_len (pa_cons (pv 1) pa_nil)) pe_int (nomark _)))).pt (pss_one ps_never) pss_nil)
      (pss_cons (ps_lock (ps_for PassesOwn.never rfl (pi_keys (pv 1)) (pg_name (i := 2) sc_Game___init.nd rfl (Or.inl rfl))
      (pss_one (ps_if (pw_or (pt_not (pt_val (pe_c c_is_name hr (by decide) (by rfl) (pa_cons (pv 2) pa_nil)))) (pw_or1 (pt_not (pt_val (pe_c c_is_place hr (by decide) (by rfl) (pa_cons (pe_dget (hu_of hr) (pv 1) (pv 2) (fun _ _ => rfl)) (pa_cons (pv 1) pa_nil))))))).pt (pss_one ps_never) pss_nil))))
      (pss_one (ps_fld (pv 0) (pe_lock (pe_dc (own := [("name", 2)]) (g := gName 2) rfl sc_Game___init.nd (pi_keys (pv 1)) (blkOk_by (by kernel_rfl)) (fun _ _ _ _ _ => (pg_name (i := 2) sc_Game___init.nd rfl (Or.inl rfl))) (fun _ _ _ _ _ => pts_nil) (fun _ _ _ _ _ => (pv 2)) (fun _ _ _ _ _ => (pe_c c_kept_place hr (by decide) (by rfl) (pa_cons (pe_dget (hu_of hr) (pv 1) (pv 2) (fun _ _ => rfl)) pa_nil))))) rfl)))), ?_⟩
    have lk := hg.length
    have l9 := G.tree.le
    have gk := gm_keys hg
    refine ⟨_, rfl, _, _, _, _, _, rfl, .ty "dict", .base (.dK hd), kit_ty kb_dd, _, rfl, iteF ?_⟩
    refine ⟨_, rfl, d, _, rfl, .inl hd, rfl, _, rfl, ?_⟩
    have n0 : g.length ≠ 0 := fun e => G.ne (List.length_eq_zero_iff.mp e)
    rw [decide_eq_false (fun e => by injection e with e; omega)]
    refine iteF ⟨d, _, hd, mut_dK, fun od => ?_⟩
    have hd1 : upd H d (.frz od (.dK kvs)) d = some (.frz od (.dK kvs)) := upd_same
    have hg1 := hg.lock (o := .frz od (.dK kvs)) hd G.ne
    have hx1 : upd H d (.frz od (.dK kvs)) x = some (.ins C dx []) := upd_off hd hx (fun z => nomatch z)
    generalize eH1 : upd H d (.frz od (.dK kvs)) = H1 at *
    refine ⟨_, rfl, d, od, rfl, .inl ⟨_, hd1, forg (n := kvs.length) (fun _ σ H' => ∃ y, σ = [some (.ref x), some (.ref d), y] ∧ Same H1 H') ⟨none, rfl, Same.refl _⟩ (fun i σ H' hi ⟨_, _, s⟩ => go_k hd1 i H' hi s) (fun σ H' ⟨_, _, s⟩ => stop_k hd1 H' s) ?_ ?_⟩⟩
    · rintro i v σ H2 H3 hi ⟨y, rfl, s⟩ ⟨rfl, ky, u, hkv, rfl⟩
      obtain ⟨q, hq, rfl, hp⟩ := gm_at hg1 hkv
      have hql : look g q.1 = some q.2 := look_of G.tree.nd (List.mem_of_getElem? hq)
      have hqn : q.1 ∈ g.map (·.1) := look_in hql
      refine ⟨_, rfl, q.1, rfl, G.nm _ hqn, ?_⟩
      rintro v1 H4 t1 rfl
      obtain ⟨u', e1, e2⟩ := (gm_look hg1).1 _ hql
      have rd4 : Rd H4 d (.dK kvs) := .inr ⟨od, t1 _ _ (s _ _ hd1)⟩
      refine ⟨_, rfl, iteF ⟨_, rfl, _, rfl, _, _, rfl, dgetS rd4 e1, _, rfl, u', d, q.2, kvs, od, rfl, e2.mono (s.trans t1), t1 _ _ (s _ _ hd1), G.plok hg1 hql, ?_⟩⟩
      rintro v2 H5 t2 rfl
      exact ⟨_, rfl, iteF ⟨_, rfl, s.trans (t1.trans t2)⟩⟩
    · rintro σ H2 ⟨y, rfl, s⟩
      refine ⟨s _ _ hd1, ?_⟩
      have sU : Same H (upd H2 d (.dK kvs)) := by subst eH1; exact same_unlock hd s
      generalize upd H2 d (.dK kvs) = H3 at sU
      have hd3 := sU _ _ hd
      have hg3 := hg.mono sU
      -- self.place_table = {name: kept_place(places[name]) for name in places}
      refine ⟨d, _, hd3, mut_dK, fun od2 => ?_⟩
      have hd4 : upd H3 d (.frz od2 (.dK kvs)) d = some (.frz od2 (.dK kvs)) := upd_same
      have hg4 := hg3.lock (o := .frz od2 (.dK kvs)) hd3 G.ne
      generalize eH4 : upd H3 d (.frz od2 (.dK kvs)) = H4 at *
      refine ⟨_, rfl, d, od2, rfl, .inl ⟨_, hd4, fun D hD => dcg (n := kvs.length) (DcP D H4 (g.map (·.1)) (fun n v H => ∃ p, look g n = some p ∧ PlAt H v (nrm p))) (dcp_start hD) (fun i H hi p => go_k hd4 i H hi p.1) (fun H p => stop_k hd4 H p.1) ?_ ?_⟩⟩
      · rintro i v H5 H6 hi p ⟨rfl, ky, u, hkv, rfl⟩
        obtain ⟨q, hq, rfl, hp⟩ := gm_at hg4 hkv
        have hql : look g q.1 = some q.2 := look_of G.tree.nd (List.mem_of_getElem? hq)
        have rd4 : Rd H6 d (.dK kvs) := .inr ⟨od2, p.1 _ _ hd4⟩
        obtain ⟨u', e1, e2⟩ := (gm_look hg4).1 _ hql
        refine ⟨rfl, _, rfl, _, rfl, _, rfl, _, _, rfl, dgetS rd4 e1, u', q.2, rfl, e2.mono p.1, ?_, ?_, fun v3 H7 t3 pl => ?_⟩
        · intro t b e
          obtain ⟨a1, a2, _⟩ := G.tree.fn q.1 t b (by rw [hql, e])
          exact ⟨by omega, a2⟩
        · intro ls e
          exact (G.tree.ch q.1 ls (by rw [hql, e])).2.1
        · refine dcp_step hD G.tree.nd (by rw [List.length_map]; omega) ?_ ?_ p (lst_keys hq) t3 ⟨_, hql, pl⟩
          · rintro n v H ⟨_, _, t, _, e, _⟩
            exact ⟨t, e⟩
          · rintro n y Ha Hb acc off hacc rf ⟨pp, z1, z2⟩
            refine ⟨pp, z1, z2.off ?_ off hacc rf⟩
            intro o ms e
            cases pp with
            | mv o' ms' => cases e; exact (G.tree.mv n _ _ z1).1
            | chance ls => cases e
            | fin t b => cases e
      · rintro H5 ⟨s5, kv5, e5, pr⟩
        refine ⟨s5 _ _ hd4, ?_⟩
        have s6 : Same H3 (upd H5 d (.dK kvs)) := by subst eH4; exact same_unlock hd3 s5
        have hDd : D ≠ d := fun e => by rw [e, hd4] at hD; cases hD
        have hx3 := s6 _ _ (sU _ _ hx)
        refine ⟨_, rfl, x, C, dx, [], rfl, hx3, T.cl, T.nP, (by show 0 < 1000; decide), ?_⟩
        have D3 : H3 D = none := by subst eH4; rwa [upd_ne hDd] at hD
        refine k _ (fun b o hb e => ?_) ⟨D, ⟨dx, upd_same⟩, ?_, sU.free D3⟩
        · rw [upd_ne hb]
          exact s6 _ _ (sU _ _ e)
        · rw [lk, show g.length = (g.map (·.1)).length by rw [List.length_map], List.take_length] at pr
          have kg := kept_game g G.tree.nd (fun z hz => hz) pr
          have hd5 := s5 _ _ hd4
          have hx5 : H5 x = some (.ins C dx []) := by
            have q2 := hx3
            rw [upd_ne (ne_of (sU _ _ hx) hd3 (fun z => nomatch z))] at q2
            exact q2
          have kp : ∀ b o, plainO o → H5 b = some o → (upd (upd H5 d (.dK kvs)) x (.ins C dx (putF "place_table" (.ref D) []))) b = some o := fun b o po e => by
            rw [upd_ne (ne_of e hx5 (fun z => by rw [z] at po; exact po)), upd_ne (ne_of e hd5 (fun z => by rw [z] at po; exact po))]
            exact e
          exact ⟨kv5, kp _ _ True.intro e5, kg.keepP kp⟩
end
end Gw
end

section
set_option Elab.async false
set_option linter.all false
set_option maxRecDepth 100000
set_option maxHeartbeats 4000000
/-! walks: the class Game, further -/
namespace Gw
open PySem PySem.Spec PyProof.Rows L2
open C8 (Cal Mak Met pe_c pe_mk pe_mt pe_mt0 pe_gc)
open RZ (pi_zipA ItzT)

theorem nodup_sub_len : ∀ {l m : List Str}, l.Nodup → (∀ x ∈ l, x ∈ m) → l.length ≤ m.length
  | [], m, _, _ => Nat.zero_le _
  | a :: l, m, h, hs => by
    obtain ⟨h1, h2⟩ := List.nodup_cons.mp h
    have ha := hs a (List.mem_cons_self ..)
    have key := nodup_sub_len (l := l) (m := m.erase a) h2 fun x hx => by
      have hne : x ≠ a := fun e => h1 (e ▸ hx)
      exact (List.mem_erase_of_ne hne).mpr (hs x (List.mem_cons_of_mem _ hx))
    rw [List.length_erase_of_mem ha] at key
    have : 0 < m.length := List.length_pos_of_mem ha
    show l.length + 1 ≤ m.length
    omega
/-- a dict of names found -/
def setKv (fs : List Str) : List (Key × V) := fs.map fun x => (Sum.inr x, V.bl true)
theorem set_look (fs : List Str) (n : Str) : valV (setKv fs) (Sum.inr n) = if n ∈ fs then some (.bl true) else none := by
  induction fs with
  | nil => rfl
  | cons x fs ih =>
    show valV ((Sum.inr x, V.bl true) :: setKv fs) _ = _
    by_cases e : x = n
    · subst e
      rw [valV_pos rfl, if_pos (List.mem_cons_self ..)]
    · rw [valV_neg (fun z => e (inr_inj z)), ih]
      have : n ∈ x :: fs ↔ n ∈ fs := by
        rw [List.mem_cons]
        constructor
        · rintro (h | h)
          · exact absurd h.symm e
          · exact h
        · exact .inr
      simp only [this]
theorem set_put {fs : List Str} {n : Str} (h : n ∉ fs) : putK (setKv fs) (Sum.inr n) (.bl true) = setKv (fs ++ [n]) := by
  rw [putK_new _ (by rw [set_look, if_neg h])]
  unfold setKv
  rw [List.map_append]
  rfl
theorem set_same {fs : List Str} {n : Str} (h : n ∈ fs) : putK (setKv fs) (Sum.inr n) (.bl true) = setKv fs := by
  unfold putK
  rw [valV_any, set_look, if_pos h]
  rw [if_pos (show (some (V.bl true)).isSome = true from rfl)]
  unfold setKv
  rw [List.map_map]
  refine List.map_congr_left fun x _ => ?_
  show (if (Sum.inr x : Key) = Sum.inr n then _ else _) = _
  split
  · rfl
  · rfl
theorem set_len (fs : List Str) : (setKv fs).length = fs.length := by unfold setKv; rw [List.length_map]
theorem last_at {xs : List V} {v : V} (h : xs[xs.length - 1]? = some v) : atI xs (-1) = some v := by
  have hp : xs ≠ [] := fun e => by subst e; simp at h
  have e : xs = xs.dropLast ++ [v] := by
    have h2 : xs.getLast? = some v := by rw [List.getLast?_eq_getElem?]; exact h
    rw [List.getLast?_eq_some_iff] at h2
    obtain ⟨ys, rfl⟩ := h2
    simp
  rw [e]
  exact atI_last _ _

section
variable {P : Program} {w : World} {K : PySem.W.Frag} {mg : Str → Option Value} {base : Heap}
def spPlaces (C : Addr) : Sp := fun vs H Q _ => ∃ (x : Addr) (g : Gm), vs = [.ref x] ∧ ObjG H C x g ∧ ∀ l H', Same H H' → H l = none → H' l = some (.lst ((g.map (·.1)).map V.str)) → Q (.ref l) H'
theorem keys_strs {H : Hp} {kvs : List (Key × V)} {g : Gm} (h : GmKv H kvs g) : (kvs.map fun kv => kV kv.1) = (g.map (·.1)).map V.str := by
  have e : (kvs.map fun kv => kV kv.1) = (kvs.map (·.1)).map kV := by rw [List.map_map]; rfl
  rw [e, gm_keys h, List.map_map, List.map_map]
  rfl
theorem sc_Game_places : FnScope ["self"] ["self"] (defScope (inClass (top 26) 1)) :=
  ⟨rfl, rfl, rfl, by decide +kernel, rfl, by decide +kernel, by decide +kernel⟩
theorem ok_places {f C : Addr} {fd : FuncData} (F : Fun K "places" "Game.places" (inClass (top 26) 1) f fd) (B : Bi mg) (T : GT K C) : FnOk P w K mg base CX0 1 f fd ["self"] (spPlaces C) := by
  refine F.ok sc_Game_places (fun vs H Q E h => ?_) (fun cdv A outer s H vs Q E hr h => ?_)
  · obtain ⟨x, g, rfl, _⟩ := h
    rfl
  · obtain ⟨x, g, rfl, ⟨pt, ⟨dx, hx⟩, kvs, hd, hg⟩, k⟩ := h
    refine ⟨_, (pss_one (ps_ret (pe_callTy (call_listD rfl) (by rfl) B.list_ bt_list (pa_cons (pe_fld (pv 0) rfl) pa_nil)))), ?_⟩
    refine ⟨_, rfl, x, C, dx, _, _, rfl, hx, T.cl, T.nP, lk_pt, pt, kvs, rfl, .inl hd, fun l hl => ?_⟩
    refine k l _ (same_upd hl) hl ?_
    rw [upd_same, keys_strs hg]
def spCheck (C : Addr) : Sp := fun vs H Q _ => ∃ (x : Addr) (g : Gm) (n : Str), vs = [.ref x, .str n] ∧ ObjG H C x g ∧ n ∈ g.map (·.1) ∧ Q .non H
theorem sc_Game_check_place : FnScope ["self", "name"] ["self", "name"] (defScope (inClass (top 26) 2)) :=
  ⟨rfl, rfl, rfl, by decide +kernel, rfl, by decide +kernel, by decide +kernel⟩
theorem ok_check {f C : Addr} {fd : FuncData} (F : Fun K "check_place" "Game.check_place" (inClass (top 26) 2) f fd) (B : Bi mg) (T : GT K C) : FnOk P w K mg base CX0 1 f fd ["self", "name"] (spCheck C) := by
  refine F.ok sc_Game_check_place (fun vs H Q E h => ?_) (fun cdv A outer s H vs Q E hr h => ?_)
  · obtain ⟨x, g, n, rfl, _⟩ := h
    rfl
  · obtain ⟨x, g, n, rfl, ⟨pt, ⟨dx, hx⟩, kvs, hd, hg⟩, hn, k⟩ := h
    refine ⟨_, (pss_one (ps_if (pw_or (pt_not (pt_val (pe_callB call_isi (by rfl) B.isinstance_ bt_isinstance (pa_cons (pv 1) (pa_cons (pe_bltn (v := .ty "str") (by rfl) B.str_ bt_str rfl) pa_nil))))) (pw_or1 (pt_cmp (pc_dnotin (hu_of hr) (pv 1) (pe_fld (pv 0) rfl))))).pt (pss_one ps_never) pss_nil)), ?_⟩
    obtain ⟨p, v, h1, h2, h3⟩ := gm_key hg hn
    refine ⟨_, rfl, _, _, _, _, _, rfl, .ty "str", .base (.str n), kit_ty kb_ss, _, rfl, iteF ?_⟩
    exact ⟨_, rfl, _, rfl, x, C, dx, _, _, rfl, hx, T.cl, T.nP, lk_pt, _, _, rfl, dgetS (.inl hd) h2, _, rfl, iteF k⟩

/-! ### round_place -/
def spRound (C : Addr) : Sp := fun vs H Q _ => ∃ (x : Addr) (g : Gm) (rk : Str → Nat), vs = [.ref x] ∧ ObjG H C x g ∧ GOk g rk ∧ Ret (fun v _ => v = .non) H Q
/-- between two turns of the search from the place n -/
def RdW (H0 : Hp) (x fd wt : Addr) (n : Str) (g : Gm) (rk : Str → Nat) (fs ws : List Str) (H : Hp) : Prop :=
  Same H0 H ∧ H fd = some (.dK (setKv fs)) ∧ H wt = some (.lst (ws.map V.str)) ∧ H0 fd = none ∧ H0 wt = none ∧ fd ≠ wt ∧ fs.Nodup ∧ (∀ y ∈ fs, y ∈ g.map (·.1)) ∧ (∀ y ∈ ws, y ∈ g.map (·.1) ∧ rk y ≤ rk n) ∧ ws.length ≤ fs.length + 1
theorem sc_Game_round_place : FnScope ["self", "name", "found", "waiting", "place"] ["self"] (defScope (inClass (top 26) 14)) :=
  ⟨rfl, rfl, rfl, by decide +kernel, rfl, by decide +kernel, by decide +kernel⟩
theorem ok_round {f C : Addr} {fd : FuncData} (F : Fun K "round_place" "Game.round_place" (inClass (top 26) 14) f fd) (B : Bi mg) (T : GT K C) (c_led_from : Cal P w K mg base 1 "led_from" spLed []) : FnOk P w K mg base CX0 2 f fd ["self"] (spRound C) := by
  refine F.ok sc_Game_round_place (fun vs H Q E h => ?_) (fun cdv A outer s H vs Q E hr h => ?_)
  · obtain ⟨x, g, rk, rfl, _⟩ := h
    rfl
  · obtain ⟨x, g, rk, rfl, ⟨pt, ⟨dx, hx⟩, kvs, hd, hg⟩, G, k⟩ := h
    refine ⟨_, (pss_cons (ps_lock (ps_for PassesOwn.never rfl (pi_keys (pe_fld (pv 0) rfl)) (pg_name (i := 1) sc_Game_round_place.nd rfl (Or.inl rfl))
      (pss_cons (ps_par (i := 2) (j := 3) rfl sc_Game_round_place.nd rfl rfl (by decide) rfl rfl (pa_cons pe_dnewK (pa_cons (pe_lst (pa_cons (pv 1) pa_nil)) pa_nil)) (by rfl))
      (pss_one (ps_while PassesOwn.never (pt_cmpR (op_neD hr.units) (pv 3) (pe_lst pa_nil) (nomark _)) (pss_one (ps_for PassesOwn.never rfl (pi_list (pe_c c_led_from hr (by decide) (by rfl) (pa_cons (pe_dget (hu_of hr) (pe_fld (pv 0) rfl) (pe_bm0 PySem.F.plainAttrs_list PySem.F.slot_list_pop PySem.F.type_list_pop mt_pop (pv 3)) (fun _ _ => rfl)) pa_nil))) (pg_name (i := 4) sc_Game_round_place.nd rfl (Or.inl rfl))
      (pss_cons (ps_if (pt_cmpR op_eq (pv 4) (pv 1) (nomark _)) (pss_one (ps_ret (pv 1))) pss_nil)
      (pss_one (ps_if (pt_cmp (pc_dnotin (hu_of hr) (pv 4) (pv 2))) (pss_cons (ps_dput (hu_of hr) (pv 2) (pv 4) pe_bl rfl)
      (pss_one (ps_expr (pe_bm PySem.F.plainAttrs_list PySem.F.slot_list_append PySem.F.type_list_append mt_append (pv 3) (pa_cons (pv 4) pa_nil))))) pss_nil))))))))))
      (pss_one (ps_ret pe_non))), ?_⟩
    have lk := hg.length
    have l9 := G.tree.le
    refine ⟨pt, _, hd, mut_dK, fun od => ?_⟩
    have hd1 : upd H pt (.frz od (.dK kvs)) pt = some (.frz od (.dK kvs)) := upd_same
    have hg1 := hg.lock (o := .frz od (.dK kvs)) hd G.ne
    have hx1 : upd H pt (.frz od (.dK kvs)) x = some _ := upd_off hd hx (fun z => nomatch z)
    generalize eH1 : upd H pt (.frz od (.dK kvs)) = H1 at *
    refine ⟨_, rfl, x, C, dx, _, _, rfl, hx1, T.cl, T.nP, lk_pt, pt, od, rfl, .inl ⟨_, hd1, forg (n := kvs.length) (fun _ σ H' => ∃ a b c d, σ = [some (.ref x), a, b, c, d] ∧ Same H1 H') ⟨_, _, _, _, rfl, Same.refl _⟩ (fun i σ H' hi ⟨_, _, _, _, _, s⟩ => go_k hd1 i H' hi s) (fun σ H' ⟨_, _, _, _, _, s⟩ => stop_k hd1 H' s) ?_ ?_⟩⟩
    · rintro i v σ H2 H3 hi ⟨a, b, c, d, rfl, s⟩ ⟨rfl, ky, u, hkv, rfl⟩
      obtain ⟨q, hq, rfl, hp⟩ := gm_at hg1 hkv
      have hql : look g q.1 = some q.2 := look_of G.tree.nd (List.mem_of_getElem? hq)
      have hqn : q.1 ∈ g.map (·.1) := look_in hql
      obtain ⟨n, p0⟩ := q
      -- found, waiting = {}, [name]
      refine fun fd hfd => ⟨_, rfl, by show 1 ≤ sizeLine; decide, fun wt hwt => ⟨_, _, rfl, ?_⟩⟩
      have nfw : fd ≠ wt := fun e => by rw [← e, upd_same] at hwt; cases hwt
      have hwt0 : H3 wt = none := by rw [upd_ne (Ne.symm nfw)] at hwt; exact hwt
      have sN : Same H3 (upd (upd H3 fd (.dK [])) wt (.lst [.str n])) := (same_upd hfd).trans (same_upd hwt)
      refine ⟨fun m σ H' => ∃ fs ws y, σ = [some (.ref x), some (.str n), some (.ref fd), some (.ref wt), y] ∧ RdW H3 x fd wt n g rk fs ws H' ∧ m + 2 * fs.length = 2 * g.length + ws.length, ⟨2 * g.length + 1, [], [n], d, rfl, ⟨sN, ?_, upd_same, hfd, hwt0, nfw, List.nodup_nil, (fun _ h => nomatch h), fun y hy => ?_, Nat.le_refl _⟩, rfl⟩, ?_⟩
      · rw [upd_ne nfw]
        exact upd_same
      · rw [List.mem_singleton] at hy
        subst hy
        exact ⟨hqn, Nat.le_refl _⟩
      rintro m σ H4 ⟨fs, ws, y, rfl, ⟨w1, w2, w3, w4, w5, w6, w7, w8, w9, w10⟩, hm⟩
      have wsok : ∀ y ∈ ws, SOk y := fun y hy => name_ok (G.nm y (w9 y hy).1)
      refine ⟨_, rfl, Nat.zero_le _, fun e he => ?_⟩
      have sE := same_upd (o := .lst []) he
      refine neD (m := []) (sE _ _ w3) upd_same wsok (fun _ h => nomatch h) ⟨_, rfl, ?_⟩
      by_cases hw : ws = []
      · rw [decide_eq_true hw]
        exact iteF ⟨_, _, _, _, rfl, s.trans (w1.trans sE)⟩
      · rw [decide_eq_false hw]
        have fl : fs.length ≤ g.length := by
          have := nodup_sub_len w7 w8
          rwa [List.length_map] at this
        have hlen : 0 < ws.length := List.length_pos_iff.mpr hw
        refine iteT ⟨fun σ' H' => ∃ fs' ws' y', σ' = [some (.ref x), some (.str n), some (.ref fd), some (.ref wt), y'] ∧ RdW H3 x fd wt n g rk fs' ws' H' ∧ 2 * g.length + ws'.length < m + 2 * fs'.length, ?_, ?_⟩
        · rintro σ' H' ⟨fs', ws', y', e1, R, lt⟩
          refine ⟨2 * g.length + ws'.length - 2 * fs'.length, ?_, fs', ws', y', e1, R, ?_⟩
          · have := R.2.2.2.2.2.2.1
            omega
          · have f2 : fs'.length ≤ g.length := by
              have := nodup_sub_len R.2.2.2.2.2.2.1 R.2.2.2.2.2.2.2.1
              rwa [List.length_map] at this
            omega
        -- for place in led_from(self.place_table[waiting.pop()])
        have hx4 := sE _ _ (w1 _ _ (s _ _ hx1))
        obtain ⟨z, hz⟩ : ∃ z, ws[ws.length - 1]? = some z := ⟨ws[ws.length - 1], List.getElem?_eq_getElem (by omega)⟩
        have hzm := List.mem_of_getElem? hz
        obtain ⟨zk, zr⟩ := w9 z hzm
        obtain ⟨p, pv', hzl, hzv, hzp⟩ := gm_key hg1 zk
        have hz2 : (ws.map V.str)[(ws.map V.str).length - 1]? = some (.str z) := by rw [List.length_map, List.getElem?_map, hz]; rfl
        refine ⟨_, rfl, x, C, dx, _, _, rfl, hx4, T.cl, T.nP, lk_pt, _, rfl, .inl ⟨rfl, _, SqL.of (sE _ _ w3)⟩, wt, _, _, rfl, rfl, sE _ _ w3, hz2, ?_⟩
        have s5 : Same H3 (upd (upd H4 e (.lst [])) wt (.lst (ws.map V.str).dropLast)) := same_mut (w1.trans sE) w5
        have hfd5 : (upd (upd H4 e (.lst [])) wt (.lst (ws.map V.str).dropLast)) fd = some (.dK (setKv fs)) := by
          rw [upd_ne nfw]
          exact sE _ _ w2
        have hwt5 : (upd (upd H4 e (.lst [])) wt (.lst (ws.map V.str).dropLast)) wt = some (.lst (ws.dropLast.map V.str)) := by
          rw [upd_same, List.map_dropLast]
        generalize upd (upd H4 e (.lst [])) wt (.lst (ws.map V.str).dropLast) = H5 at s5 hfd5 hwt5
        refine ⟨pt, pv', rfl, dgetS (.inr ⟨od, s5 _ _ (s _ _ hd1)⟩) hzv, pv', p, rfl, hzp.mono (s.trans s5), G.dests hzl, fun l H6 es t6 hl0 hl hmem hlen => ?_⟩
        have nlf : l ≠ fd := fun e => by rw [e, hfd5] at hl0; cases hl0
        have nlw : l ≠ wt := fun e => by rw [e, hwt5] at hl0; cases hl0
        refine ⟨l, rfl, ⟨_, SqL.of hl⟩, for_list (xs := es.map V.str) (fun i σ H' => ∃ fs' ws' y', σ = [some (.ref x), some (.str n), some (.ref fd), some (.ref wt), y'] ∧ H' l = some (.lst (es.map V.str)) ∧ RdW H3 x fd wt n g rk fs' ws' H' ∧ 2 * g.length + ws'.length < m + 2 * fs'.length)
          ⟨fs, ws.dropLast, y, rfl, hl, ⟨s5.trans t6, t6 _ _ hfd5, t6 _ _ hwt5, w4, w5, w6, w7, w8, fun y hy => w9 y (List.dropLast_subset _ hy), by rw [List.length_dropLast]; omega⟩, by rw [List.length_dropLast]; omega⟩ (fun i σ H' _ ⟨_, _, _, _, h, _⟩ => SqL.of h) ?_ ?_⟩
        · rintro j xv σ H7 hj ⟨fs', ws', y', rfl, hl7, ⟨r1, r2, r3, r4, r5, r6, r7, r8, r9, r10⟩, lt⟩
          obtain ⟨z', hz', rfl⟩ := strs_at hj
          obtain ⟨zk', zr'⟩ := G.tree.down z p hzl z' ((hmem z').mp (List.mem_of_getElem? hz'))
          refine ⟨_, rfl, _, rfl, rfl, _, rfl, ?_⟩
          rw [decide_eq_false (fun e => by injection e with e; subst e; omega)]
          refine iteF ⟨_, rfl, _, rfl, fd, _, rfl, dget (.inl r2) z', _, rfl, ?_⟩
          rw [set_look]
          have fl' : fs'.length ≤ g.length := by
            have := nodup_sub_len r7 r8
            rwa [List.length_map] at this
          by_cases hin : z' ∈ fs'
          · rw [if_pos hin]
            exact iteF ⟨fs', ws', _, rfl, hl7, ⟨r1, r2, r3, r4, r5, r6, r7, r8, r9, r10⟩, lt⟩
          · rw [if_neg hin]
            refine iteT ⟨_, rfl, _, rfl, fd, _, rfl, DPut.k (k := Sum.inr z') r2 (by rw [set_len]; exact sz_lt (by omega)), ?_⟩
            have hw7 : (upd H7 fd (.dK (putK (setKv fs') (Sum.inr z') (.bl true)))) wt = some (.lst (ws'.map V.str)) := by
              rw [upd_ne (Ne.symm nfw)]
              exact r3
            refine ⟨_, rfl, .inl ⟨rfl, _, SqL.of hw7⟩, _, rfl, wt, _, _, rfl, rfl, hw7, by rw [List.length_map]; exact sz_lt (by omega), ?_⟩
            refine ⟨fs' ++ [z'], ws' ++ [z'], _, rfl, ?_, ⟨?_, ?_, ?_, r4, r5, r6, nd_snoc r7 hin, ?_, ?_, ?_⟩, ?_⟩
            · rw [upd_ne nlw, upd_ne nlf]
              exact hl7
            · exact same_mut (same_mut r1 r4) r5
            · rw [upd_ne nfw, upd_same, set_put hin]
            · rw [upd_same, List.map_append]
              rfl
            · intro y hy
              rcases List.mem_append.mp hy with h | h
              · exact r8 y h
              · rw [List.mem_singleton] at h
                subst h
                exact zk'
            · intro y hy
              rcases List.mem_append.mp hy with h | h
              · exact r9 y h
              · rw [List.mem_singleton] at h
                subst h
                exact ⟨zk', by omega⟩
            · rw [List.length_append, List.length_append]
              simp
              omega
            · rw [List.length_append, List.length_append]
              simp
              omega
        · rintro σ H7 ⟨fs', ws', y', rfl, _, R, lt⟩
          exact ⟨fs', ws', y', rfl, R, lt⟩
    · rintro σ H2 ⟨a, b, c, d, rfl, s⟩
      refine ⟨s _ _ hd1, ?_⟩
      have sU : Same H (upd H2 pt (.dK kvs)) := by subst eH1; exact same_unlock hd s
      exact k _ _ sU rfl
end
end Gw
end

section
set_option Elab.async false
set_option linter.all false
set_option maxRecDepth 100000
set_option maxHeartbeats 4000000
/-! walks: trees -/
namespace Gw
open PySem PySem.Spec PyProof.Rows L2
open C8 (Cal Mak Met pe_c pe_mk pe_mt pe_mt0 pe_gc)
open RZ (pi_zipA ItzT)

/-- each name behind those to which it leads -/
structure Topo (g : Gm) (os : List Str) : Prop where
  nd : os.Nodup
  sub : ∀ n ∈ os, n ∈ g.map (·.1)
  ok : ∀ (i : Nat) n p, os[i]? = some n → look g n = some p → ∀ d ∈ p.dests, d ∈ os.take i
theorem Topo.closed {g : Gm} {os : List Str} (T : Topo g os) {n : Str} {p : Pl} (hn : n ∈ os) (hl : look g n = some p) : ∀ d ∈ p.dests, d ∈ os := fun d hd => by
  obtain ⟨i, hi⟩ := List.mem_iff_getElem?.mp hn
  exact List.mem_of_mem_take (T.ok i n p hi hl d hd)
theorem Topo.nil (g : Gm) : Topo g [] := ⟨List.nodup_nil, (fun _ h => nomatch h), fun i n p h => by simp at h⟩
theorem Topo.snoc {g : Gm} {os : List Str} (T : Topo g os) {n : Str} (hk : n ∈ g.map (·.1)) (hn : n ∉ os) (h : ∀ p, look g n = some p → ∀ d ∈ p.dests, d ∈ os) : Topo g (os ++ [n]) := by
  refine ⟨nd_snoc T.nd hn, fun m hm => ?_, fun i m p hi hl d hd => ?_⟩
  · rcases List.mem_append.mp hm with h | h
    · exact T.sub m h
    · rw [List.mem_singleton] at h; subst h; exact hk
  · by_cases hlt : i < os.length
    · rw [List.getElem?_append_left hlt] at hi
      rw [List.take_append_of_le_length (by omega)]
      exact T.ok i m p hi hl d hd
    · have hl2 := (List.getElem?_eq_some_iff.mp hi).1
      rw [List.length_append] at hl2
      simp at hl2
      have e : i = os.length := by omega
      subst e
      rw [List.getElem?_append_right (Nat.le_refl _), Nat.sub_self] at hi
      have e2 : n = m := by simpa using hi
      subst e2
      rw [List.take_append_of_le_length (Nat.le_refl _), List.take_length]
      exact h p hl d hd
/-- the rank of a stack's top -/
def tr (rk : Str → Nat) (ss : List Str) : Nat := match ss.getLast? with
  | some z => 1 + rk z
  | none => 0
theorem tr_nil (rk : Str → Nat) : tr rk [] = 0 := rfl
theorem tr_snoc (rk : Str → Nat) (ss : List Str) (z : Str) : tr rk (ss ++ [z]) = 1 + rk z := by unfold tr; rw [List.getLast?_append]; rfl
theorem snoc_of {ss : List Str} (h : ss ≠ []) : ∃ ts z, ss = ts ++ [z] := ⟨ss.dropLast, ss.getLast h, (List.dropLast_concat_getLast h).symm⟩
def OrW (H0 : Hp) (fd st : Addr) (g : Gm) (rk : Str → Nat) (pl : Str) (fs0 fs ss : List Str) (H : Hp) : Prop :=
  Same H0 H ∧ H fd = some (.dK (setKv fs)) ∧ H st = some (.lst (ss.map V.str)) ∧ Topo g fs ∧ (∀ y ∈ fs0, y ∈ fs) ∧ (pl ∈ fs ∨ pl ∈ ss) ∧ (∀ y ∈ ss, y ∈ g.map (·.1)) ∧ ss.Pairwise (fun a b => rk b < rk a) ∧ ((∀ y ∈ ss, y ∉ fs) ∨ ss = [pl])
theorem pw_nodup {rk : Str → Nat} {ss : List Str} (h : ss.Pairwise (fun a b => rk b < rk a)) : ss.Nodup := List.Pairwise.imp (fun {a b} (h : rk b < rk a) (e : a = b) => by rw [e] at h; exact Nat.lt_irrefl _ h) h
theorem pw_snoc {rk : Str → Nat} {ts : List Str} {z y : Str} (h : (ts ++ [z]).Pairwise (fun a b => rk b < rk a)) (hy : rk y < rk z) : (ts ++ [z] ++ [y]).Pairwise (fun a b => rk b < rk a) := by
  rw [List.pairwise_append]
  refine ⟨h, List.pairwise_singleton _ _, fun a ha b hb => ?_⟩
  rw [List.mem_singleton] at hb
  subst hb
  rcases List.mem_append.mp ha with h1 | h1
  · have := (List.pairwise_append.mp h).2.2 a h1 z (List.mem_singleton.mpr rfl)
    omega
  · rw [List.mem_singleton] at h1; subst h1; exact hy

section
variable {P : Program} {w : World} {K : PySem.W.Frag} {mg : Str → Option Value} {base : Heap}
def spOrder (C : Addr) : Sp := fun vs H Q _ => ∃ (x : Addr) (g : Gm) (rk : Str → Nat), vs = [.ref x] ∧ ObjG H C x g ∧ GOk g rk ∧
  ∀ l H' os, Same H H' → H l = none → H' l = some (.lst ((os : List Str).map V.str)) → Topo g os → (∀ n ∈ g.map (·.1), n ∈ os) → Q (.ref l) H'
def AhP (D : Addr) (H1 : Hp) (es fs : List Str) (i : Nat) (H : Hp) : Prop := Same H1 H ∧ ∃ as : List Str, H D = some (.lst (as.map V.str)) ∧ as.length ≤ i ∧ ∀ x, x ∈ as ↔ (x ∈ es.take i ∧ x ∉ fs)
theorem sc_order_of : FnScope ["game", "name", "found", "place", "stack", "ahead", "one"] ["game"] (defScope (top 30)) :=
  ⟨rfl, rfl, rfl, by decide +kernel, rfl, by decide +kernel, by decide +kernel⟩
theorem ok_order {f C : Addr} {fd : FuncData} (F : Fun K "order_of" "order_of" (top 30) f fd) (B : Bi mg) (T : GT K C) (c_led_from : Cal P w K mg base 1 "led_from" spLed []) (c_round_place : Met P w K mg base 2 C "round_place" (spRound C) []) (c_places : Met P w K mg base 1 C "places" (spPlaces C) []) :
    FnOk P w K mg base CX0 3 f fd ["game"] (spOrder C) := by
  refine F.ok sc_order_of (fun vs H Q E h => ?_) (fun cdv A outer s H vs Q E hr h => ?_)
  · obtain ⟨x, g, rk, rfl, _⟩ := h
    rfl
  · obtain ⟨x, g, rk, rfl, hO, G, k⟩ := h
    refine ⟨_, (pss_cons (ps_set (i := 1) sc_order_of.nd rfl (Or.inl rfl) (pe_mt0 c_round_place hr (by decide) (pv 0)))
      (pss_cons (ps_if (pt_cmpR op_notN (pv 1) pe_non (nomark _)) (pss_one ps_never) pss_nil)
      (pss_cons (ps_set (i := 2) sc_order_of.nd rfl (Or.inr rfl) pe_dnewK)
      (pss_cons (ps_for PassesOwn.never rfl (pi_list (pe_mt0 c_places hr (by decide) (pv 0))) (pg_name (i := 3) sc_order_of.nd rfl (Or.inl rfl))
      (pss_cons (ps_set (i := 4) sc_order_of.nd rfl (Or.inl rfl) (pe_lst (pa_cons (pv 3) pa_nil)))
      (pss_one (ps_while PassesOwn.never (pt_cmpR (op_neD hr.units) (pv 4) (pe_lst pa_nil) (nomark _)) (pss_cons (ps_setLc (i := 5) (own := [("one", 6)]) (g := gName 6) rfl sc_order_of.nd rfl rfl (sw_true rfl rfl rfl (by decide +kernel)) (pi_list (pe_c c_led_from hr (by decide) (by rfl) (pa_cons (pe_dget (hu_of hr) (pe_fld (pv 0) rfl) (pe_ix ix_list (pv 4) (pe_un un_neg pe_int) (fun _ _ => rfl)) (fun _ _ => rfl)) pa_nil))) (blkOk_by (by kernel_rfl)) (fun _ _ _ _ _ => (pg_name (i := 6) sc_order_of.nd rfl (Or.inl rfl))) (fun _ _ _ _ _ => (pts_one (pt_cmp (pc_dnotin (hu_of hr) (pv 6) (pv 2))))) (fun _ _ _ _ _ => (pv 6)))
      (pss_one (ps_if (pt_cmpR (op_eqD hr.units) (pv 5) (pe_lst pa_nil) (nomark _)) (pss_one (ps_dput (hu_of hr) (pv 2) (pe_bm0 PySem.F.plainAttrs_list PySem.F.slot_list_pop PySem.F.type_list_pop mt_pop (pv 4)) pe_bl rfl)) (pss_one (ps_expr (pe_bm PySem.F.plainAttrs_list PySem.F.slot_list_append PySem.F.type_list_append mt_append (pv 4) (pa_cons (pe_ix ix_list (pv 5) pe_int (fun _ _ => rfl)) pa_nil)))))))))))
      (pss_one (ps_ret (pe_callTy (call_listD rfl) (by rfl) B.list_ bt_list (pa_cons (pv 2) pa_nil)))))))), ?_⟩
    have l9 := G.tree.le
    obtain ⟨pt, ⟨dx, hx⟩, kvs, hd, hg⟩ := id hO
    refine ⟨_, rfl, x, dx, _, rfl, hx, lk_no (by decide +kernel), x, g, rk, rfl, hO, G, ?_⟩
    rintro v H1 s1 rfl
    refine ⟨_, rfl, rfl, _, rfl, iteF ?_⟩
    intro fd hfd
    have s2 := s1.trans (same_upd (o := .dK []) hfd)
    have fd0 : H fd = none := s1.free hfd
    have hfd2 : upd H1 fd (.dK []) fd = some (.dK []) := upd_same
    generalize upd H1 fd (.dK []) = H2 at s2 hfd2
    refine ⟨_, rfl, x, dx, _, rfl, s2 _ _ hx, lk_no (by decide +kernel), x, g, rfl, hO.mono s2, fun l H3 s3 hl0 hl => ?_⟩
    have nlf : l ≠ fd := fun e => by rw [e, hfd2] at hl0; cases hl0
    refine ⟨l, rfl, ⟨_, SqL.of hl⟩, for_list (xs := (g.map (·.1)).map V.str) (fun i σ H' => ∃ fs a b c d, σ = [some (.ref x), some .non, some (.ref fd), a, b, c, d] ∧ H' l = some (.lst ((g.map (·.1)).map V.str)) ∧ Same H H' ∧ H' fd = some (.dK (setKv fs)) ∧ Topo g fs ∧ ∀ y ∈ (g.map (·.1)).take i, y ∈ fs)
      ⟨[], _, _, _, _, rfl, hl, s2.trans s3, s3 _ _ hfd2, Topo.nil g, fun y hy => by simp at hy⟩ (fun i σ H' _ ⟨_, _, _, _, _, _, h, _⟩ => SqL.of h) ?_ ?_⟩
    · rintro i xv σ H4 hi ⟨fs0, a, b, c, d, rfl, hl4, s4, hf4, T4, hall⟩
      obtain ⟨pl, hpl, rfl⟩ := strs_at hi
      have hplk := List.mem_of_getElem? hpl
      -- stack = [place]
      refine ⟨_, rfl, by show 1 ≤ sizeLine; decide, fun st hst => ?_⟩
      have nsf : st ≠ fd := fun e => by rw [e, hf4] at hst; cases hst
      have nsl : st ≠ l := fun e => by rw [e, hl4] at hst; cases hst
      have sK := same_upd (o := .lst [.str pl]) hst
      have st0 : H st = none := s4.free hst
      refine ⟨fun m σ H' => ∃ fs ss y z, σ = [some (.ref x), some .non, some (.ref fd), some (.str pl), some (.ref st), y, z] ∧ H' l = some (.lst ((g.map (·.1)).map V.str)) ∧ OrW H fd st g rk pl fs0 fs ss H' ∧ m + 20 * fs.length = 20 * g.length + tr rk ss,
        ⟨20 * g.length + tr rk [pl] - 20 * fs0.length, fs0, [pl], c, d, rfl, sK _ _ hl4, ⟨s4.trans sK, sK _ _ hf4, upd_same, T4, (fun _ h => h), .inr (List.mem_singleton.mpr rfl), fun y hy => by rw [List.mem_singleton] at hy; subst hy; exact hplk, List.pairwise_singleton _ _, .inr rfl⟩, ?_⟩, ?_⟩
      · have := nodup_sub_len T4.nd T4.sub
        rw [List.length_map] at this
        omega
      rintro m σ H5 ⟨fs, ss, y, z, rfl, hl5, ⟨s5, f5, st5, T5, hin5, hpl5, hk5, pw5, cl5⟩, hm⟩
      have ssok : ∀ y ∈ ss, SOk y := fun y hy => name_ok (G.nm y (hk5 y hy))
      refine ⟨_, rfl, Nat.zero_le _, fun e he => ?_⟩
      have sE := same_upd (o := .lst []) he
      refine neD (m := []) (sE _ _ st5) upd_same ssok (fun _ h => nomatch h) ⟨_, rfl, ?_⟩
      by_cases hss : ss = []
      · rw [decide_eq_true hss]
        refine iteF ⟨fs, _, _, _, _, rfl, sE _ _ hl5, s5.trans sE, sE _ _ f5, T5, fun q hq => ?_⟩
        rw [take_snoc hpl] at hq
        rcases List.mem_append.mp hq with h | h
        · exact hin5 q (hall q h)
        · rw [List.mem_singleton] at h
          subst h
          rcases hpl5 with h | h
          · exact h
          · rw [hss] at h; cases h
      · rw [decide_eq_false hss]
        obtain ⟨ts, z0, rfl⟩ := snoc_of hss
        have fl : fs.length ≤ g.length := by
          have := nodup_sub_len T5.nd T5.sub
          rwa [List.length_map] at this
        have sl : (ts ++ [z0]).length ≤ g.length := by
          have := nodup_sub_len (pw_nodup pw5) hk5
          rwa [List.length_map] at this
        have hz0k := hk5 z0 (List.mem_append_right _ (List.mem_singleton.mpr rfl))
        have rz0 := G.tree.top z0 hz0k
        rw [tr_snoc] at hm
        refine iteT ⟨fun σ' H' => ∃ fs' ss' y' z', σ' = [some (.ref x), some .non, some (.ref fd), some (.str pl), some (.ref st), y', z'] ∧ H' l = some (.lst ((g.map (·.1)).map V.str)) ∧ OrW H fd st g rk pl fs0 fs' ss' H' ∧ 20 * g.length + tr rk ss' < m + 20 * fs'.length, ?_, ?_⟩
        · rintro σ' H' ⟨fs', ss', y', z', e1, hl', R, lt⟩
          refine ⟨20 * g.length + tr rk ss' - 20 * fs'.length, ?_, fs', ss', y', z', e1, hl', R, ?_⟩
          · omega
          · have := nodup_sub_len R.2.2.2.1.nd R.2.2.2.1.sub
            rw [List.length_map] at this
            omega
        generalize upd H5 e (.lst []) = H6 at sE
        have s6 := s5.trans sE
        obtain ⟨p, pv', hzl, hzv, hzp⟩ := gm_key hg hz0k
        have hx6 := s6 _ _ hx
        have st6 := sE _ _ st5
        have f6 := sE _ _ f5
        have hl6 := sE _ _ hl5
        -- ahead
        refine ⟨_, rfl, x, C, dx, _, _, rfl, hx6, T.cl, T.nP, lk_pt, _, rfl, _, rfl, st, _, _, .str z0, rfl, rfl, SqL.of st6, by rw [List.map_append]; exact atI_last _ _, pt, pv', rfl, dgetS (.inl (s6 _ _ hd)) hzv, pv', p, rfl, hzp.mono s6, G.dests hzl, fun le H7 es s7 hle0 hle hmem hlen => ?_⟩
        have esk : ∀ q ∈ es, q ∈ g.map (·.1) ∧ rk q < rk z0 := fun q hq => G.tree.down z0 p hzl q ((hmem q).mp hq)
        refine ⟨le, rfl, ⟨_, SqL.of hle⟩, fun D hD => lcg (n := (es.map V.str).length) (AhP D H7 es fs) ⟨same_upd hD, [], upd_same, Nat.le_refl _, fun x => by simp⟩ (fun i H hi p => go_l hle i H hi p.1) (fun H p => stop_l hle H p.1) ?_ ?_⟩
        · rintro j xv H8 H9 hj ⟨s8, as, h1, h2, h3⟩ hy
          obtain ⟨rfl, hxj⟩ := yl_l hle s8 hy
          obtain ⟨q, hq, rfl⟩ := strs_at hxj
          refine ⟨rfl, _, rfl, _, rfl, fd, _, rfl, dget (.inl (s8 _ _ (s7 _ _ f6))) q, _, rfl, ?_⟩
          rw [set_look]
          by_cases hin : q ∈ fs
          · rw [if_pos hin]
            refine iteF ⟨s8, as, h1, by omega, fun t => ?_⟩
            rw [h3, take_snoc hq, List.mem_append, List.mem_singleton]
            constructor
            · rintro ⟨h, h'⟩; exact ⟨.inl h, h'⟩
            · rintro ⟨h | h, h'⟩
              · exact ⟨h, h'⟩
              · rw [h] at h'; exact absurd hin h'
          · rw [if_neg hin]
            refine iteT ⟨_, rfl, _, h1, by rw [List.length_map]; exact sz_lt (by rw [List.length_map] at hj; omega), same_mut s8 hD, as ++ [q], by rw [upd_same, List.map_append]; rfl, by rw [List.length_append]; simp; omega, fun t => ?_⟩
            rw [List.mem_append, h3, take_snoc hq, List.mem_append, List.mem_singleton]
            constructor
            · rintro (⟨h, h'⟩ | h)
              · exact ⟨.inl h, h'⟩
              · rw [h]; exact ⟨.inr rfl, hin⟩
            · rintro ⟨h | h, h'⟩
              · exact .inl ⟨h, h'⟩
              · exact .inr h
        · rintro H8 ⟨s8, as, a1, a2, a3⟩
          rw [List.length_map, List.take_length] at a3
          have s9 := s7.trans s8
          have aok : ∀ y ∈ as, SOk y := fun y hy => name_ok (G.nm y (esk y ((a3 y).mp hy).1).1)
          refine ⟨_, rfl, Nat.zero_le _, fun e2 he2 => ?_⟩
          have sE2 := same_upd (o := .lst []) he2
          refine eqD (m := []) (sE2 _ _ a1) upd_same aok (fun _ h => nomatch h) ⟨_, rfl, ?_⟩
          generalize upd H8 e2 (.lst []) = H9 at sE2
          have s10 := s9.trans sE2
          have st10 := s10 _ _ st6
          have f10 := s10 _ _ f6
          have hl10 := s10 _ _ hl6
          by_cases has : as = []
          · rw [decide_eq_true has]
            -- found[stack.pop()] = True
            have hcl : ∀ p', look g z0 = some p' → ∀ d ∈ p'.dests, d ∈ fs := fun p' hp' d hd => by
              rw [hzl] at hp'
              cases hp'
              by_cases h : d ∈ fs
              · exact h
              · have := (a3 d).mpr ⟨(hmem d).mpr hd, h⟩
                rw [has] at this
                cases this
            have hz2 : ((ts ++ [z0]).map V.str)[((ts ++ [z0]).map V.str).length - 1]? = some (.str z0) := by
              rw [List.length_map, List.length_append, List.getElem?_map]
              simp
            have f11 : (upd H9 st (.lst ((ts ++ [z0]).map V.str).dropLast)) fd = some (.dK (setKv fs)) := by
              rw [upd_ne (Ne.symm nsf)]
              exact f10
            refine iteT ⟨_, rfl, _, rfl, .inl ⟨rfl, _, SqL.of st10⟩, st, _, _, rfl, rfl, st10, hz2, fd, _, rfl, DPut.k (k := Sum.inr z0) f11 (by rw [set_len]; exact sz_lt (by omega)), ?_⟩
            have hl12 : (upd (upd H9 st (.lst ((ts ++ [z0]).map V.str).dropLast)) fd (.dK (putK (setKv fs) (Sum.inr z0) (.bl true)))) l = some (.lst ((g.map (·.1)).map V.str)) := by
              rw [upd_ne nlf, upd_ne (Ne.symm nsl)]
              exact hl10
            have st12 : (upd (upd H9 st (.lst ((ts ++ [z0]).map V.str).dropLast)) fd (.dK (putK (setKv fs) (Sum.inr z0) (.bl true)))) st = some (.lst (ts.map V.str)) := by
              rw [upd_ne nsf, upd_same, List.map_append]
              simp
            have s12 : Same H (upd (upd H9 st (.lst ((ts ++ [z0]).map V.str).dropLast)) fd (.dK (putK (setKv fs) (Sum.inr z0) (.bl true)))) := same_mut (same_mut (s6.trans s10) st0) fd0
            have pwt : ts.Pairwise (fun a b => rk b < rk a) := (List.pairwise_append.mp pw5).1
            by_cases hzf : z0 ∈ fs
            · have e1 : ts = [] := by
                rcases cl5 with h | h
                · exact absurd hzf (h z0 (List.mem_append_right _ (List.mem_singleton.mpr rfl)))
                · cases ts with
                  | nil => rfl
                  | cons t ts => simp at h
              subst e1
              have e2 : z0 = pl := by
                rcases cl5 with h | h
                · exact absurd hzf (h z0 (List.mem_append_right _ (List.mem_singleton.mpr rfl)))
                · simpa using h
              refine ⟨fs, [], _, _, rfl, hl12, ⟨s12, by rw [upd_same, set_same hzf], st12, T5, hin5, .inl (e2 ▸ hzf), (fun _ h => nomatch h), List.Pairwise.nil, .inl (fun _ h => nomatch h)⟩, ?_⟩
              rw [tr_nil]
              omega
            · refine ⟨fs ++ [z0], ts, _, _, rfl, hl12, ⟨s12, by rw [upd_same, set_put hzf], st12, T5.snoc hz0k hzf hcl, fun y hy => List.mem_append_left _ (hin5 y hy), ?_, fun y hy => hk5 y (List.mem_append_left _ hy), pwt, ?_⟩, ?_⟩
              · rcases hpl5 with h | h
                · exact .inl (List.mem_append_left _ h)
                · rcases List.mem_append.mp h with h | h
                  · exact .inr h
                  · exact .inl (List.mem_append_right _ h)
              · left
                intro y hy hyf
                have hyz : y ≠ z0 := fun e => by
                  have := (List.pairwise_append.mp pw5).2.2 y hy z0 (List.mem_singleton.mpr rfl)
                  rw [e] at this
                  exact Nat.lt_irrefl _ this
                rcases List.mem_append.mp hyf with h | h
                · rcases cl5 with h' | h'
                  · exact h' y (List.mem_append_left _ hy) h
                  · cases ts with
                    | nil => cases hy
                    | cons t ts => simp at h'
                · rw [List.mem_singleton] at h; exact hyz h
              · rw [List.length_append]
                have : tr rk ts ≤ 9 := by
                  by_cases ht : ts = []
                  · rw [ht, tr_nil]; omega
                  · obtain ⟨us, u, rfl⟩ := snoc_of ht
                    rw [tr_snoc]
                    have := G.tree.top u (hk5 u (List.mem_append_left _ (List.mem_append_right _ (List.mem_singleton.mpr rfl))))
                    omega
                simp
                omega
          · rw [decide_eq_false has]
            -- stack.append(ahead[0])
            obtain ⟨q, qs, rfl⟩ : ∃ q qs, as = q :: qs := by
              cases as with
              | nil => exact absurd rfl has
              | cons q qs => exact ⟨q, qs, rfl⟩
            obtain ⟨q1, q2⟩ := (a3 q).mp (List.mem_cons_self ..)
            obtain ⟨qk, qr⟩ := esk q q1
            have hnf : ∀ y ∈ ts ++ [z0], y ∉ fs := by
              rcases cl5 with h | h
              · exact h
              · intro y hy hyf
                rw [h, List.mem_singleton] at hy
                subst hy
                have ez : z0 = y := by
                  have := congrArg List.getLast? h
                  simpa using this
                rw [ez] at hzl
                exact q2 (T5.closed hyf hzl q ((hmem q).mp q1))
            refine iteF ⟨_, rfl, .inl ⟨rfl, _, SqL.of st10⟩, _, rfl, D, _, _, _, rfl, rfl, SqL.of (sE2 _ _ a1), at0 rfl, st, _, _, rfl, rfl, st10, by rw [List.length_map]; exact sz_lt (by omega), ?_⟩
            refine ⟨fs, ts ++ [z0] ++ [q], _, _, rfl, ?_, ⟨same_mut (s6.trans s10) st0, ?_, ?_, T5, hin5, ?_, ?_, pw_snoc pw5 qr, ?_⟩, ?_⟩
            · rw [upd_ne (Ne.symm nsl)]; exact hl10
            · rw [upd_ne (Ne.symm nsf)]; exact f10
            · rw [upd_same, List.map_append (l₁ := ts ++ [z0])]
              rfl
            · rcases hpl5 with h | h
              · exact .inl h
              · exact .inr (List.mem_append_left _ h)
            · intro y hy
              rcases List.mem_append.mp hy with h | h
              · exact hk5 y h
              · rw [List.mem_singleton] at h; subst h; exact qk
            · left
              intro y hy
              rcases List.mem_append.mp hy with h | h
              · exact hnf y h
              · rw [List.mem_singleton] at h; subst h; exact q2
            · rw [tr_snoc]
              omega
    · rintro σ H4 ⟨fs, a, b, c, d, rfl, hl4, s4, hf4, T4, hall⟩
      refine ⟨_, rfl, fd, _, rfl, .inl hf4, fun r hr0 => ?_⟩
      refine k r _ fs (s4.trans (same_upd hr0)) (s4.free hr0) ?_ T4 ?_
      · rw [upd_same]
        unfold setKv
        rw [List.map_map]
        rfl
      · intro n hn
        rw [List.length_map, List.take_length] at hall
        exact hall n hn
end
end Gw
end

section
set_option Elab.async false
set_option linter.all false
set_option maxRecDepth 100000
set_option maxHeartbeats 4000000
/-! walks: worths -/
namespace Gw
open PySem PySem.Spec PyProof.Rows L2
open C8 (Cal Mak Met pe_c pe_mk pe_mt pe_mt0 pe_gc)
open RZ (pi_zipA ItzT)

/-- ends in lowest terms -/
def Red (g : Gm) : Prop := ∀ n t b, look g n = some (.fin t b) → (fr t b).num = t ∧ ((fr t b).den : Int) = b
theorem red_nrm {g : Gm} {rk : Str → Nat} (G : GOk g rk) : Red (nrmG g) := fun n t b h => by
  rw [look_nrm] at h
  cases e : look g n with
  | none => rw [e] at h; cases h
  | some p =>
    rw [e] at h
    cases p with
    | mv o ms => cases h
    | chance ls => cases h
    | fin t' b' =>
      have h1 := Option.some.inj h
      injection h1 with e1 e2
      subst e1 e2
      rw [fr_self]
      exact ⟨rfl, rfl⟩
theorem paired_of {α β : Type} {F : α → β → Prop} : ∀ {l : List α} {m : List β}, l.length = m.length → (∀ (j : Nat) a, l[j]? = some a → ∃ b, m[j]? = some b ∧ F a b) → Paired F l m
  | [], [], _, _ => .nil
  | [], _ :: _, h, _ => nomatch h
  | _ :: _, [], h, _ => nomatch h
  | a :: l, b :: m, h, q => by
    refine .cons ?_ (paired_of (by simpa using h) fun j x hx => ?_)
    · obtain ⟨b', e, f⟩ := q 0 a rfl
      cases e
      exact f
    · obtain ⟨b', e, f⟩ := q (j + 1) x (by simpa using hx)
      exact ⟨b', by simpa using e, f⟩
/-- a table of worths: names in some order -/
def TabKv (H : Hp) (kvs : List (Key × V)) (f : Str → Rat) (ns : List Str) : Prop := Paired (fun (kv : Key × V) n => kv.1 = Sum.inr n ∧ Fr H kv.2 (f n)) kvs ns
theorem Fr.off {H H' : Hp} {D : Addr} {o : HO} {v : V} {q : Rat} (hD : H D = some o) (ho : ∀ xs, o ≠ .tup xs) (off : Off D H H') (h : Fr H v q) : Fr H' v q := by
  obtain ⟨a, e, z⟩ := h
  exact ⟨a, e, off _ _ (ne_of z hD (fun e => ho _ e.symm)) z⟩
theorem TabKv.mono {H H' : Hp} {kvs : List (Key × V)} {f : Str → Rat} {ns : List Str} (h : TabKv H kvs f ns) (s : Same H H') : TabKv H' kvs f ns := Paired.mp (fun _ _ z => ⟨z.1, z.2.mono s⟩) h
theorem TabKv.look {H : Hp} {kvs : List (Key × V)} {f : Str → Rat} {ns : List Str} (h : TabKv H kvs f ns) {n : Str} (hn : n ∈ ns) : ∃ v, valV kvs (Sum.inr n) = some v ∧ Fr H v (f n) := paired_yes (F := fun n v H => Fr H v (f n)) h hn
theorem TabKv.no {H : Hp} {kvs : List (Key × V)} {f : Str → Rat} {ns : List Str} (h : TabKv H kvs f ns) {n : Str} (hn : n ∉ ns) : valV kvs (Sum.inr n) = none := paired_no (F := fun n v H => Fr H v (f n)) h hn
theorem TabKv.put {H H' : Hp} {fd : Addr} {kvs : List (Key × V)} {f : Str → Rat} {ns : List Str} {n : Str} {v : V} (h : TabKv H kvs f ns) (hn : n ∉ ns) (hf : H fd = some (.dK kvs)) (off : Off fd H H') (hv : Fr H v (f n)) : TabKv H' (putK kvs (Sum.inr n) v) f (ns ++ [n]) := by
  rw [putK_new v (h.no hn)]
  refine Paired.snoc ?_ ?_
  · exact ⟨rfl, hv.off hf (fun _ z => nomatch z) off⟩
  · exact Paired.mp (fun _ _ z => ⟨z.1, z.2.off hf (fun _ z => nomatch z) off⟩) h

section
variable {P : Program} {w : World} {K : PySem.W.Frag} {mg : Str → Option Value} {base : Heap}
def spWorths (C : Addr) : Sp := fun vs H Q _ => ∃ (x : Addr) (g : Gm) (rk : Str → Nat), vs = [.ref x] ∧ ObjG H C x g ∧ GOk g rk ∧ Red g ∧
  ∀ l H' kvs, Same H H' → H l = none → H' l = some (.dK kvs) → TabKv H' kvs (val g free) (g.map (·.1)) → Q (.ref l) H'
def WoW (H0 : Hp) (x fd : Addr) (g : Gm) (os : List Str) (i : Nat) (σ : L2.St) (H : Hp) : Prop := ∃ kvs a b c d, σ = [some (.ref x), some (.ref fd), a, b, c, d, none, none] ∧ Same H0 H ∧ H fd = some (.dK kvs) ∧ TabKv H kvs (val g free) (os.take i)
theorem sc_worths : FnScope ["game", "found", "name", "word", "rest", "some", "place", "weight"] ["game"] (defScope (top 31)) :=
  ⟨rfl, rfl, rfl, by decide +kernel, rfl, by decide +kernel, by decide +kernel⟩
theorem ok_worths {f C : Addr} {fd : FuncData} (F : Fun K "worths" "worths" (top 31) f fd) (B : Bi mg) (T : GT K C) (c_order_of : Cal P w K mg base 3 "order_of" (spOrder C) []) (c_weighed : Cal P w K mg base 2 "weighed" spMean []) (c_top_of : Cal P w K mg base 2 "top_of" (spBst true) []) (c_bottom_of : Cal P w K mg base 2 "bottom_of" (spBst false) [])
    (c_places : Met P w K mg base 1 C "places" (spPlaces C) []) : FnOk P w K mg base CX0 4 f fd ["game"] (spWorths C) := by
  refine F.ok sc_worths (fun vs H Q E h => ?_) (fun cdv A outer s H vs Q E hr h => ?_)
  · obtain ⟨x, g, rk, rfl, _⟩ := h
    rfl
  · obtain ⟨x, g, rk, rfl, hO, G, hred, k⟩ := h
    refine ⟨_, (pss_cons (ps_set (i := 1) sc_worths.nd rfl (Or.inr rfl) pe_dnewK)
      (pss_cons (ps_for PassesOwn.never rfl (pi_list (pe_c c_order_of hr (by decide) (by rfl) (pa_cons (pv 0) pa_nil))) (pg_name (i := 2) sc_worths.nd rfl (Or.inl rfl))
      (pss_cons (ps_asg (pe_dget (hu_of hr) (pe_fld (pv 0) rfl) (pv 2) (fun _ _ => rfl)) (pg_tup rfl (pgs_cons (pg_name (i := 3) sc_worths.nd rfl (Or.inl rfl)) (pgs_cons (pg_name (i := 4) sc_worths.nd rfl (Or.inl rfl)) pgs_nil))))
      (pss_one (ps_if (pt_cmpR op_eq (pv 3) pe_str (nomark _)) (pss_one (ps_dput (hu_of hr) (pv 1) (pv 2) (pv 4) rfl)) (pss_one (ps_if (pt_cmpR op_eq (pv 3) pe_str (nomark _)) (pss_one (ps_dput (hu_of hr) (pv 1) (pv 2) (pe_c c_weighed hr (by decide) (by rfl) (pa_cons (pe_lc (own := [("place", 6), ("weight", 7)]) (g := gTup K 2 (gCons (gName 6) (gCons (gName 7) gNil))) rfl sc_worths.nd (pi_list (pv 4)) (blkOk_by (by kernel_rfl)) (fun _ _ _ _ _ => (pg_tup rfl (pgs_cons (pg_name (i := 6) sc_worths.nd rfl (Or.inl rfl)) (pgs_cons (pg_name (i := 7) sc_worths.nd rfl (Or.inl rfl)) pgs_nil)))) (fun _ _ _ _ _ => pts_nil) (fun _ _ _ _ _ => (pe_tup (pa_cons (pv 7) (pa_cons (pe_dget (hu_of hr) (pv 1) (pv 6) (fun _ _ => rfl)) pa_nil))))) pa_nil)) rfl)) (pss_cons (ps_lock (ps_setLc (i := 5) (own := [("place", 6)]) (g := gName 6) rfl sc_worths.nd rfl rfl (sw_true rfl rfl rfl (by decide +kernel)) (pi_values (pv 4)) (blkOk_by (by kernel_rfl)) (fun _ _ _ _ _ => (pg_name (i := 6) sc_worths.nd rfl (Or.inl rfl))) (fun _ _ _ _ _ => pts_nil) (fun _ _ _ _ _ => (pe_dget (hu_of hr) (pv 1) (pv 6) (fun _ _ => rfl)))))
      (pss_one (ps_dput (hu_of hr) (pv 1) (pv 2) (pe_ifExp (pt_cmpR op_eq (pv 3) pe_str (nomark _)) (pe_c c_top_of hr (by decide) (by rfl) (pa_cons (pv 5) pa_nil)) (pe_c c_bottom_of hr (by decide) (by rfl) (pa_cons (pv 5) pa_nil))) rfl)))))))))
      (pss_one (ps_ret (pe_dc (own := [("name", 2)]) (g := gName 2) rfl sc_worths.nd (pi_list (pe_mt0 c_places hr (by decide) (pv 0))) (blkOk_by (by kernel_rfl)) (fun _ _ _ _ _ => (pg_name (i := 2) sc_worths.nd rfl (Or.inl rfl))) (fun _ _ _ _ _ => pts_nil) (fun _ _ _ _ _ => (pv 2)) (fun _ _ _ _ _ => (pe_dget (hu_of hr) (pv 1) (pv 2) (fun _ _ => rfl)))))))), ?_⟩
    have l9 := G.tree.le
    obtain ⟨pt, ⟨dx, hx⟩, kvs0, hd, hg⟩ := id hO
    intro fd hfd
    have s1 := same_upd (o := .dK []) hfd
    have hf1 : upd H fd (.dK []) fd = some (.dK []) := upd_same
    generalize upd H fd (.dK []) = H1 at s1 hf1
    refine ⟨_, rfl, x, g, rk, rfl, hO.mono s1, G, fun ol H2 os s2 hol0 hol T2 hall => ?_⟩
    have nof : ol ≠ fd := fun e => by rw [e, hf1] at hol0; cases hol0
    have osl : os.length ≤ g.length := by
      have := nodup_sub_len T2.nd T2.sub
      rwa [List.length_map] at this
    refine ⟨ol, rfl, ⟨_, SqL.of hol⟩, for_list (xs := os.map V.str) (fun i σ H' => WoW H x fd g os i σ H' ∧ H' ol = some (.lst (os.map V.str))) ⟨⟨[], _, _, _, _, rfl, s1.trans s2, s2 _ _ hf1, .nil⟩, hol⟩ (fun i σ H' _ h => SqL.of h.2) ?_ ?_⟩
    · rintro i xv σ H3 hi ⟨⟨kvs, a, b, c, d, rfl, s3, hf3, tab⟩, hol3⟩
      obtain ⟨n, hn, rfl⟩ := strs_at hi
      have hilt : i < os.length := (List.getElem?_eq_some_iff.mp hn).1
      obtain ⟨p, pv', hnl, hnv, hnp⟩ := gm_key hg (T2.sub n (List.mem_of_getElem? hn))
      have hdest : ∀ q ∈ p.dests, q ∈ os.take i := T2.ok i n p hn hnl
      have vq := val_eq G.tree (free_ok g) hnl
      have kl : kvs.length < sizeLine := by
        have := tab.length
        rw [List.length_take] at this
        exact sz_lt (by omega)
      have hnot : n ∉ os.take i := nodup_take T2.nd hn
      -- one more name in the table
      have fin : ∀ (a b c d : Option V) (v : V) (H4 : Hp), Same H3 H4 → Fr H4 v (val g free n) → WoW H x fd g os (i + 1) [some (.ref x), some (.ref fd), a, b, c, d, none, none] (upd H4 fd (.dK (putK kvs (Sum.inr n) v))) ∧ (upd H4 fd (.dK (putK kvs (Sum.inr n) v))) ol = some (.lst (os.map V.str)) := fun a b c d v H4 s4 hv => by
        refine ⟨⟨_, a, b, c, d, rfl, same_mut (s3.trans s4) hfd, upd_same, ?_⟩, by rw [upd_ne nof]; exact s4 _ _ hol3⟩
        rw [take_snoc hn]
        exact (tab.mono s4).put hnot (s4 _ _ hf3) (Off.put (Off.of (Same.refl _))) hv
      obtain ⟨t, r, rfl, ht, hp⟩ := hnp.mono s3
      refine ⟨_, rfl, x, C, dx, _, _, rfl, s3 _ _ hx, T.cl, T.nP, lk_pt, _, rfl, pt, _, rfl, dgetS (.inl (s3 _ _ hd)) hnv, t, _, rfl, SqT.of ht, rfl, _, _, rfl, _, _, rfl, rfl, ?_⟩
      refine ⟨_, rfl, rfl, _, rfl, ?_⟩
      rw [eq_end]
      cases p with
      | fin tt bb =>
        obtain ⟨e1, e2⟩ := hred n tt bb hnl
        refine iteT ⟨_, rfl, _, rfl, _, rfl, fd, _, rfl, DPut.k (k := Sum.inr n) hf3 kl, fin _ _ _ _ _ _ (Same.refl _) ?_⟩
        rw [vq]
        show Fr H3 (.ref r) (fr tt bb)
        refine ⟨r, rfl, ?_⟩
        rw [e1, e2]
        exact hp
      | chance ls =>
        obtain ⟨as, h1, h2⟩ := hp
        have ln := h2.length
        obtain ⟨c1, c2, c3, c4⟩ := G.tree.ch n ls hnl
        refine iteF ⟨_, rfl, rfl, _, rfl, ?_⟩
        rw [eq_chance]
        refine iteT ⟨_, rfl, r, rfl, ⟨_, SqL.of h1⟩, fun D hD => lcm (n := as.length) (fun j y H' => ∃ l, ls[j]? = some l ∧ RowAt H' y (l.2, val g free l.1)) hD (by omega) ?_ (go_l h1) (stop_l h1) ?_ ?_ gm_tup2⟩
        · rintro j y Ha Hb off ⟨acc, hacc⟩ ⟨l, z1, ta, tv, z2, z3, z4⟩
          exact ⟨l, z1, ta, tv, z2, off _ _ (ne_of z3 hacc (fun z => nomatch z)) z3, z4.off hacc (fun _ z => nomatch z) off⟩
        · intro j y H4 H5 Kt hj s4 _ hy kt
          obtain ⟨rfl, hxj⟩ := yl_l h1 s4 hy
          obtain ⟨l, b', hl, rfl, hb⟩ := LotAt.nth h2 hxj
          obtain ⟨v, hv1, hv2⟩ := tab.look (hdest l.1 (List.mem_map.mpr ⟨l, List.mem_of_getElem? hl, rfl⟩))
          refine ⟨b', _, rfl, SqT.of (s4 _ _ hb), rfl, _, _, rfl, _, _, rfl, rfl, rfl, _, rfl, _, rfl, _, rfl, fd, v, rfl, dgetS (.inl (s4 _ _ hf3)) hv1, by show 2 ≤ sizeLine; decide, fun q hq => ?_⟩
          exact kt _ _ (same_upd hq) ⟨l, hl, q, v, rfl, upd_same, (hv2.mono s4).mono (same_upd hq)⟩
        · intro ys H4 s4 hD4 hl4 hy
          have hp4 : Paired (RowAt H4) ys (ls.map fun l => (l.2, val g free l.1)) := by
            refine paired_of (by rw [List.length_map]; omega) fun j y hj => ?_
            obtain ⟨l, z1, z2⟩ := hy j y hj
            exact ⟨_, by rw [List.getElem?_map, z1]; rfl, z2⟩
          refine ⟨D, _, rfl, ⟨ys, hD4, hp4⟩, by intro e; exact c1 (List.map_eq_nil_iff.mp e), by rw [List.length_map]; exact c2, fun row hrow => ?_, fun v H5 s5 hv => ?_⟩
          · obtain ⟨l, hl, rfl⟩ := List.mem_map.mp hrow
            have := c4 l hl
            exact ⟨by show 0 < l.2; omega, this.2, val_small G.tree (free_ok g) (G.tree.down n _ hnl l.1 (List.mem_map.mpr ⟨l, hl, rfl⟩)).1⟩
          · refine ⟨_, rfl, _, rfl, fd, _, rfl, DPut.k (k := Sum.inr n) (s5 _ _ (s4 _ _ hf3)) kl, fin _ _ _ _ _ _ (s4.trans s5) ?_⟩
            rw [vq]
            exact hv
      | mv o ms =>
        obtain ⟨m1, m2, m3⟩ := G.tree.mv n o ms hnl
        have hr3 : H3 r = some (.dK (mvKv ms)) := hp
        have nrf : fd ≠ r := fun e => by
          obtain ⟨_, r', e0, h0, h1⟩ := hnp
          injection e0 with e0
          subst e0
          have ht' := s3 _ _ h0
          rw [ht] at ht'
          have er : r = r' := by
            have := Option.some.inj ht'
            injection this with this
            simpa using this
          subst er
          have h2 : H r = some (.dK (mvKv ms)) := h1
          rw [← e, hfd] at h2
          cases h2
        refine iteF ⟨_, rfl, rfl, _, rfl, ?_⟩
        rw [eq_chance]
        refine iteF ⟨r, _, hr3, mut_dK, fun od => ?_⟩
        have hr4 : upd H3 r (.frz od (.dK (mvKv ms))) r = some (.frz od (.dK (mvKv ms))) := upd_same
        have hf4 : upd H3 r (.frz od (.dK (mvKv ms))) fd = some (.dK kvs) := by rw [upd_ne nrf]; exact hf3
        have tab4 : TabKv (upd H3 r (.frz od (.dK (mvKv ms)))) kvs (val g free) (os.take i) := Paired.mp (fun _ _ z => ⟨z.1, z.2.off (D := r) hr3 (fun _ z => nomatch z) (fun b o hb e => by rw [upd_ne hb]; exact e)⟩) tab
        generalize eH4 : upd H3 r (.frz od (.dK (mvKv ms))) = H4 at *
        refine ⟨_, rfl, r, od, _, rfl, hr4, fun D hD => lcm (n := (mvKv ms).length) (fun j y H' => ∃ m, ms[j]? = some m ∧ Fr H' y (val g free m.2)) hD (by rw [mvKv_len]; omega) ?_ (go_d hr4) (stop_d hr4) ?_ ?_ gm_name⟩
        · rintro j y Ha Hb off ⟨acc, hacc⟩ ⟨m, z1, z2⟩
          exact ⟨m, z1, z2.off hacc (fun _ z => nomatch z) off⟩
        · rintro j y H5 H6 Kt hj s5 _ ⟨rfl, ky, hkv⟩ kt
          obtain ⟨m, hm, rfl, rfl⟩ := mvKv_at hkv
          obtain ⟨v, hv1, hv2⟩ := tab4.look (hdest m.2 (List.mem_map.mpr ⟨m, List.mem_of_getElem? hm, rfl⟩))
          exact ⟨rfl, _, rfl, _, rfl, fd, v, rfl, dgetS (.inl (s5 _ _ hf4)) hv1, kt _ _ (Same.refl _) ⟨m, hm, hv2.mono s5⟩⟩
        · intro ys H5 s5 hD5 hl5 hy
          refine ⟨s5 _ _ hr4, ?_⟩
          have s6 : Same H3 (upd H5 r (.dK (mvKv ms))) := by subst eH4; exact same_unlock hr3 s5
          have nDr : D ≠ r := fun e => by rw [e, hr4] at hD; cases hD
          have hD6 : (upd H5 r (.dK (mvKv ms))) D = some (.lst ys) := by rw [upd_ne nDr]; exact hD5
          have hfr : Frs (upd H5 r (.dK (mvKv ms))) D (ms.map fun m => val g free m.2) := by
            refine ⟨ys, hD6, paired_of (by rw [List.length_map, hl5, mvKv_len]) fun j y hj => ?_⟩
            obtain ⟨m, z1, z2⟩ := hy j y hj
            exact ⟨_, by rw [List.getElem?_map, z1]; rfl, z2.off (s5 _ _ hr4) (fun _ z => nomatch z) (fun b o hb e => by rw [upd_ne hb]; exact e)⟩
          generalize upd H5 r (.dK (mvKv ms)) = H6 at s6 hD6 hfr
          have hne : (ms.map fun m => val g free m.2) ≠ [] := by intro e; exact m1 (List.map_eq_nil_iff.mp e)
          have hsm : ∀ q ∈ (ms.map fun m => val g free m.2), Small q := fun q hq => by
            obtain ⟨m, hm, rfl⟩ := List.mem_map.mp hq
            exact val_small G.tree (free_ok g) (G.tree.down n _ hnl m.2 (List.mem_map.mpr ⟨m, hm, rfl⟩)).1
          have last : ∀ v H7, Same H6 H7 → Fr H7 v (bst o (ms.map fun m => val g free m.2)) → WoW H x fd g os (i + 1) [some (.ref x), some (.ref fd), some (.str n), some (.str (word (.mv o ms))), some (.ref r), some (.ref D), none, none] (upd H7 fd (.dK (putK kvs (Sum.inr n) v))) ∧ (upd H7 fd (.dK (putK kvs (Sum.inr n) v))) ol = some (.lst (os.map V.str)) := fun v H7 s7 hv => fin _ _ _ _ _ _ (s6.trans s7) (by rw [vq, ev_none rfl]; exact hv)
          cases o with
          | true =>
            refine ⟨_, rfl, rfl, _, rfl, iteT ⟨_, rfl, D, _, rfl, hfr, hne, hsm, fun v H7 s7 hv => ?_⟩⟩
            exact ⟨_, rfl, _, rfl, fd, _, rfl, DPut.k (k := Sum.inr n) (s7 _ _ (s6 _ _ hf3)) kl, last v H7 s7 hv⟩
          | false =>
            refine ⟨_, rfl, rfl, _, rfl, iteF ⟨_, rfl, D, _, rfl, hfr, hne, hsm, fun v H7 s7 hv => ?_⟩⟩
            exact ⟨_, rfl, _, rfl, fd, _, rfl, DPut.k (k := Sum.inr n) (s7 _ _ (s6 _ _ hf3)) kl, last v H7 s7 hv⟩
    · rintro σ H3 ⟨⟨kvs, a, b, c, d, rfl, s3, hf3, tab⟩, hol3⟩
      rw [List.length_map, List.take_length] at tab
      refine ⟨_, rfl, x, dx, _, rfl, s3 _ _ hx, lk_no (by decide +kernel), x, g, rfl, hO.mono s3, fun l H4 s4 hl0 hl => ?_⟩
      refine ⟨l, rfl, ⟨_, SqL.of hl⟩, fun D hD => dcg (n := ((g.map (·.1)).map V.str).length) (DcP D H4 (g.map (·.1)) (fun n v H => Fr H v (val g free n))) (dcp_start hD) (fun i H hi p => go_l hl i H hi p.1) (fun H p => stop_l hl H p.1) ?_ ?_⟩
      · intro j y H5 H6 hj p hy
        obtain ⟨rfl, hxj⟩ := yl_l hl p.1 hy
        obtain ⟨n, hn, rfl⟩ := strs_at hxj
        obtain ⟨v, hv1, hv2⟩ := tab.look (hall n (List.mem_of_getElem? hn))
        refine ⟨rfl, _, rfl, _, rfl, _, rfl, fd, v, rfl, dgetS (.inl (p.1 _ _ (s4 _ _ hf3))) hv1, ?_⟩
        refine dcp_step hD G.tree.nd (by rw [List.length_map]; omega) ?_ ?_ p hn (Same.refl _) (hv2.mono (s4.trans p.1))
        · rintro n v H ⟨t, e, _⟩
          exact ⟨t, e⟩
        · intro n y Ha Hb acc off hacc _ z
          exact z.off hacc (fun _ z => nomatch z) off
      · rintro H5 ⟨s5, kv5, e5, pr⟩
        rw [List.length_map, List.take_length] at pr
        exact k D H5 kv5 (s3.trans (s4.trans s5)) ((s3.trans s4).free hD) e5 pr
def spWorth (C : Addr) : Sp := fun vs H Q _ => ∃ (x : Addr) (g : Gm) (rk : Str → Nat) (n : Str), vs = [.ref x, .str n] ∧ ObjG H C x g ∧ GOk g rk ∧ Red g ∧ n ∈ g.map (·.1) ∧ Ret (fun v H' => Fr H' v (val g free n)) H Q
theorem sc_worth : FnScope ["game", "name"] ["game", "name"] (defScope (top 32)) :=
  ⟨rfl, rfl, rfl, by decide +kernel, rfl, by decide +kernel, by decide +kernel⟩
theorem ok_worth {f C : Addr} {fd : FuncData} (F : Fun K "worth" "worth" (top 32) f fd) (B : Bi mg) (T : GT K C) (c_worths : Cal P w K mg base 4 "worths" (spWorths C) []) (c_check_place : Met P w K mg base 1 C "check_place" (spCheck C) []) : FnOk P w K mg base CX0 5 f fd ["game", "name"] (spWorth C) := by
  refine F.ok sc_worth (fun vs H Q E h => ?_) (fun cdv A outer s H vs Q E hr h => ?_)
  · obtain ⟨x, g, rk, n, rfl, _⟩ := h
    rfl
  · obtain ⟨x, g, rk, n, rfl, hO, G, hred, hn, k⟩ := h
    refine ⟨_, (pss_cons (ps_expr (pe_mt c_check_place hr (by decide) (pv 0) (pa_cons (pv 1) pa_nil)))
      (pss_one (ps_ret (pe_dget (hu_of hr) (pe_c c_worths hr (by decide) (by rfl) (pa_cons (pv 0) pa_nil)) (pv 1) (fun _ _ => rfl))))), ?_⟩
    obtain ⟨pt, ⟨dx, hx⟩, kvs0, hd, hg⟩ := id hO
    refine ⟨_, rfl, x, dx, _, rfl, hx, lk_no (by decide +kernel), _, rfl, x, g, n, rfl, hO, hn, ?_⟩
    refine ⟨_, rfl, x, g, rk, rfl, hO, G, hred, fun l H1 kvs s1 hl0 hl tab => ?_⟩
    obtain ⟨v, hv1, hv2⟩ := tab.look hn
    exact ⟨_, rfl, l, v, rfl, dgetS (.inl hl) hv1, k _ _ s1 hv2⟩
end
end Gw
end

section
set_option Elab.async false
set_option linter.all false
set_option maxRecDepth 100000
set_option maxHeartbeats 4000000
/-! walks: the law's own tables -/
namespace Gw
open PySem PySem.Spec PyProof.Rows L2
open C8 (Cal Mak Met pe_c pe_mk pe_mt pe_mt0 pe_gc)
open RZ (pi_zipA ItzT)

theorem rd_lock {H : Hp} {d x : Addr} {u : HO} {k : List (Key × V)} {od : Obj} (hd : H d = some u) (hm : Mut (some u)) (h : Rd H x (.dK k)) : Rd (upd H d (.frz od u)) x (.dK k) := by
  by_cases e : x = d
  · subst e
    rcases h with h | ⟨o, h⟩
    · rw [hd] at h
      cases h
      exact .inr ⟨od, upd_same⟩
    · rw [hd] at h
      cases h
      exact hm.elim
  · unfold Rd
    rw [upd_ne e]
    exact h
theorem rd_same {H H' : Hp} {x : Addr} {u : HO} (s : Same H H') (h : Rd H x u) : Rd H' x u := Evl.ex_rd s h

section
variable {P : Program} {w : World} {K : PySem.W.Frag} {mg : Str → Option Value} {base : Heap}
def spAfter : Sp := fun vs H Q _ => ∃ (d : Addr) (kvs : List (Key × V)) (n : Str) (v : V) (p : Pl), vs = [.ref d, .str n] ∧ Rd H d (.dK kvs) ∧ valV kvs (Sum.inr n) = some v ∧ PlAt H v p ∧ p.dests.length ≤ 3 ∧ (∀ o ms, p = .mv o ms → (ms.map (·.1)).Nodup) ∧
  ∀ l H' es, Same H H' → H l = none → H' l = some (.lst ((es : List Str).map V.str)) → (∀ x, x ∈ es ↔ x ∈ p.dests) → es.length ≤ 3 → Q (.ref l) H'
theorem sc_law_t_after : FnScope ["_law_game", "_law_name", "_law_word", "_law_rest", "_law_places", "_law_at", "_law_place", "_law_lot", "_law_move"] ["_law_game", "_law_name"] (defScope (top 42)) :=
  ⟨rfl, rfl, rfl, by decide +kernel, rfl, by decide +kernel, by decide +kernel⟩
theorem ok_law_t_after {f : Addr} {fd : FuncData} (F : Fun K "_law_t_after" "_law_t_after" (top 42) f fd) (B : Bi mg) : FnOk P w K mg base CX0 1 f fd ["_law_game", "_law_name"] spAfter := by
  refine F.ok sc_law_t_after (fun vs H Q E h => ?_) (fun cdv A outer s H vs Q E hr h => ?_)
  · obtain ⟨d, kvs, n, v, p, rfl, _⟩ := h
    rfl
  · obtain ⟨d, kvs, n, v, p, rfl, hd, hv, ⟨t, r, rfl, ht, hp⟩, h3, hmn, k⟩ := h
    refine ⟨_, (pss_cons (ps_asg (pe_dget (hu_of hr) (pv 0) (pv 1) (fun _ _ => rfl)) (pg_tup rfl (pgs_cons (pg_name (i := 2) sc_law_t_after.nd rfl (Or.inl rfl)) (pgs_cons (pg_name (i := 3) sc_law_t_after.nd rfl (Or.inr rfl)) pgs_nil))))
      (pss_cons (ps_if (pt_cmpR op_eq (pv 2) pe_str (nomark _)) (pss_one (ps_ret (pe_lst pa_nil))) pss_nil)
      (pss_cons (ps_set (i := 4) sc_law_t_after.nd rfl (Or.inr rfl) (pe_ifExp (pt_cmpR op_eq (pv 2) pe_str (nomark _)) (pe_lc (own := [("_law_lot", 7)]) (g := gName 7) rfl sc_law_t_after.nd (pi_list (pv 3)) (blkOk_by (by kernel_rfl)) (fun _ _ _ _ _ => (pg_name (i := 7) sc_law_t_after.nd rfl (Or.inl rfl))) (fun _ _ _ _ _ => pts_nil) (fun _ _ _ _ _ => (pe_ix (ix_tupK K rfl) (pv 7) pe_int (fun _ _ => rfl)))) (pe_lock (pe_lc (own := [("_law_move", 8)]) (g := gName 8) rfl sc_law_t_after.nd (pi_keys (pv 3)) (blkOk_by (by kernel_rfl)) (fun _ _ _ _ _ => (pg_name (i := 8) sc_law_t_after.nd rfl (Or.inl rfl))) (fun _ _ _ _ _ => pts_nil) (fun _ _ _ _ _ => (pe_dget (hu_of hr) (pv 3) (pv 8) (fun _ _ => rfl)))))))
      (pss_one (ps_ret (pe_lc (own := [("_law_at", 5), ("_law_place", 6)]) (g := gTup K 2 (gCons (gName 5) (gCons (gName 6) gNil))) rfl sc_law_t_after.nd (pi_enum (by rfl) B.enumerate_ (pa_cons (pv 4) pa_nil)) (blkOk_by (by kernel_rfl)) (fun _ _ _ _ _ => (pg_tup rfl (pgs_cons (pg_name (i := 5) sc_law_t_after.nd rfl (Or.inl rfl)) (pgs_cons (pg_name (i := 6) sc_law_t_after.nd rfl (Or.inl rfl)) pgs_nil)))) (fun _ _ _ _ _ => (pts_one (pt_cmpR (op_notIn_seqK K rfl) (pv 6) (pe_slice (sl_listK K rfl) (pv 4) po_none (po_some (pv 5))) rfl))) (fun _ _ _ _ _ => (pv 6)))))))), ?_⟩
    refine ⟨_, rfl, _, rfl, d, _, rfl, dgetS hd hv, t, _, rfl, SqT.of ht, rfl, _, _, rfl, _, _, rfl, rfl, ?_⟩
    refine ⟨_, rfl, rfl, _, rfl, ?_⟩
    rw [eq_end]
    -- what follows the list of places, in either way
    cases p with
    | fin x y =>
      exact iteT ⟨Nat.zero_le _, fun l hl => k l _ [] (same_upd hl) hl upd_same (fun x => Iff.rfl) (Nat.zero_le _)⟩
    | chance ls =>
      obtain ⟨as, h1, h2⟩ := hp
      have ln := h2.length
      have l3 : ls.length ≤ 3 := by
        have : (ls.map (·.1)).length ≤ 3 := h3
        rwa [List.length_map] at this
      refine iteF ⟨_, rfl, rfl, _, rfl, ?_⟩
      rw [eq_chance]
      refine iteT ⟨_, rfl, r, rfl, ⟨_, SqL.of h1⟩, fun a ha => lcm (n := as.length) (fun j y H' => ∃ l, ls[j]? = some l ∧ y = .str l.1) ha (by omega) (fun _ _ _ _ _ _ z => z) (go_l h1) (stop_l h1) ?_ ?_ gm_name⟩
      · intro i x H2 H3 Kt hi s3 _ hy kt
        obtain ⟨rfl, hx⟩ := yl_l h1 s3 hy
        obtain ⟨l, b, hl, rfl, hb⟩ := LotAt.nth h2 hx
        exact ⟨rfl, _, rfl, _, _, _, _, rfl, rfl, SqT.of (s3 _ _ hb), at0 rfl, kt _ _ (Same.refl _) ⟨l, hl, rfl⟩⟩
      · intro ys H2 s3 h4 hl2 hy
        have e : ys = (ls.map (·.1)).map V.str := by
          refine List.ext_getElem? fun j => ?_
          rw [List.getElem?_map, List.getElem?_map]
          by_cases hj : j < ys.length
          · obtain ⟨l, e1, e2⟩ := hy j _ (List.getElem?_eq_getElem hj)
            rw [List.getElem?_eq_getElem hj, e1, e2]
            rfl
          · rw [List.getElem?_eq_none (by omega), List.getElem?_eq_none (by omega)]
            rfl
        subst e
        refine ⟨_, rfl, a, _, rfl, SqL.of h4, fun D hD => lcg (n := ((ls.map (·.1)).map V.str).length) (DedP D H2 (ls.map (·.1))) (ded_start hD) (fun i H hi p => go_e h4 i H hi p.1) (fun H p => stop_e h4 H p.1) ?_ ?_⟩
        · intro i x H3 H4 hi p hy
          obtain ⟨T, y, rfl, nT, rfl, hxy⟩ := yl_e h4 p.1 hy
          obtain ⟨z, hz, rfl⟩ := strs_at hxy
          have s5 := same_upd (o := .tup [.int (i : Nat), .str z]) nT
          refine ⟨T, _, rfl, SqT.of upd_same, rfl, _, _, rfl, _, _, rfl, rfl, rfl, _, rfl, _, rfl, _, rfl, _, rfl, a, _, rfl, SqL.of (s5 _ _ (p.1 _ _ h4)), fun q hq => ?_⟩
          refine ⟨q, _, rfl, .inl (SqL.of upd_same), rfl, ?_, _, rfl, ?_⟩
          · rw [cutV_take, ← List.map_take]
            exact flat_strs _
          · rw [if_pos rfl, cutV_take, ← List.map_take, inV_str]
            have s6 := s5.trans (same_upd (o := .lst ((List.take i (ls.map (·.1))).map V.str)) hq)
            by_cases hm : z ∈ (ls.map (·.1)).take i
            · rw [decide_eq_true hm]
              exact iteF (ded_no p s6 hz hm)
            · rw [decide_eq_false hm]
              exact iteT ⟨_, rfl, ded_yes hD p s6 hz (by rw [List.length_map, List.length_map] at hi; omega)⟩
        · rintro H3 ⟨s7, es, e1, e2, e3⟩
          rw [List.length_map, List.take_length] at e3
          rw [List.length_map, List.length_map] at e2
          exact k D H3 es (s3.trans s7) (s3.free hD) e1 e3 (by omega)
    | mv o ms =>
      have l3 : ms.length ≤ 3 := by
        have : (ms.map (·.2)).length ≤ 3 := h3
        rwa [List.length_map] at this
      have hr0 : H r = some (.dK (mvKv ms)) := hp
      have nd := hmn o ms rfl
      refine iteF ⟨_, rfl, rfl, _, rfl, ?_⟩
      rw [eq_chance]
      refine iteF ⟨r, _, hr0, mut_dK, fun od => ?_⟩
      have hr1 : upd H r (.frz od (.dK (mvKv ms))) r = some (.frz od (.dK (mvKv ms))) := upd_same
      generalize eH1 : upd H r (.frz od (.dK (mvKv ms))) = H1 at *
      refine ⟨_, rfl, r, od, rfl, .inl ⟨_, hr1, fun a ha => lcm (n := (mvKv ms).length) (fun j y H' => ∃ m, ms[j]? = some m ∧ y = .str m.2) ha (by rw [mvKv_len]; omega) (fun _ _ _ _ _ _ z => z) (go_k hr1) (stop_k hr1) ?_ ?_ gm_name⟩⟩
      · rintro i x H2 H3 Kt hi s3 _ ⟨rfl, ky, v, hkv, rfl⟩ kt
        obtain ⟨m, hm, rfl, rfl⟩ := mvKv_at hkv
        have hm2 : look ms m.1 = some m.2 := look_of nd (List.mem_of_getElem? hm)
        exact ⟨rfl, _, rfl, _, rfl, r, _, rfl, dgetS (.inr ⟨od, s3 _ _ hr1⟩) (by rw [mv_look, hm2]; rfl), kt _ _ (Same.refl _) ⟨m, hm, rfl⟩⟩
      · intro ys H2 s3 h4 hl2 hy
        have e : ys = (ms.map (·.2)).map V.str := by
          refine List.ext_getElem? fun j => ?_
          rw [List.getElem?_map, List.getElem?_map]
          by_cases hj : j < ys.length
          · obtain ⟨l, e1, e2⟩ := hy j _ (List.getElem?_eq_getElem hj)
            rw [List.getElem?_eq_getElem hj, e1, e2]
            rfl
          · rw [mvKv_len] at hl2
            rw [List.getElem?_eq_none (by omega), List.getElem?_eq_none (by omega)]
            rfl
        subst e
        refine ⟨s3 _ _ hr1, ?_⟩
        have sU : Same H (upd H2 r (.dK (mvKv ms))) := by subst eH1; exact same_unlock hr0 s3
        have nar : a ≠ r := fun e => by rw [e, hr1] at ha; cases ha
        have h5 : (upd H2 r (.dK (mvKv ms))) a = some (.lst ((ms.map (·.2)).map V.str)) := by rw [upd_ne nar]; exact h4
        generalize upd H2 r (.dK (mvKv ms)) = H5 at sU h5
        refine ⟨_, rfl, a, _, rfl, SqL.of h5, fun D hD => lcg (n := ((ms.map (·.2)).map V.str).length) (DedP D H5 (ms.map (·.2))) (ded_start hD) (fun i H hi p => go_e h5 i H hi p.1) (fun H p => stop_e h5 H p.1) ?_ ?_⟩
        · intro i x H3 H4 hi p hy
          obtain ⟨T, y, rfl, nT, rfl, hxy⟩ := yl_e h5 p.1 hy
          obtain ⟨z, hz, rfl⟩ := strs_at hxy
          have s5 := same_upd (o := .tup [.int (i : Nat), .str z]) nT
          refine ⟨T, _, rfl, SqT.of upd_same, rfl, _, _, rfl, _, _, rfl, rfl, rfl, _, rfl, _, rfl, _, rfl, _, rfl, a, _, rfl, SqL.of (s5 _ _ (p.1 _ _ h5)), fun q hq => ?_⟩
          refine ⟨q, _, rfl, .inl (SqL.of upd_same), rfl, ?_, _, rfl, ?_⟩
          · rw [cutV_take, ← List.map_take]
            exact flat_strs _
          · rw [if_pos rfl, cutV_take, ← List.map_take, inV_str]
            have s6 := s5.trans (same_upd (o := .lst ((List.take i (ms.map (·.2))).map V.str)) hq)
            by_cases hm : z ∈ (ms.map (·.2)).take i
            · rw [decide_eq_true hm]
              exact iteF (ded_no p s6 hz hm)
            · rw [decide_eq_false hm]
              exact iteT ⟨_, rfl, ded_yes hD p s6 hz (by rw [List.length_map, List.length_map] at hi; omega)⟩
        · rintro H3 ⟨s7, es, e1, e2, e3⟩
          rw [List.length_map, List.take_length] at e3
          rw [List.length_map, List.length_map] at e2
          exact k D H3 es (sU.trans s7) (sU.free hD) e1 e3 (by omega)
end
end Gw
end

section
set_option Elab.async false
set_option linter.all false
set_option maxRecDepth 100000
set_option maxHeartbeats 4000000
/-! walks: the law's own worths -/
namespace Gw
open PySem PySem.Spec PyProof.Rows L2
open C8 (Cal Mak Met pe_c pe_mk pe_mt pe_mt0 pe_gc)
open RZ (pi_zipA ItzT)

def side (o : Bool) : Str := if o then "ours" else "theirs"
theorem word_side (o : Bool) (ms : List (Str × Str)) : word (.mv o ms) = side o := by cases o <;> rfl
theorem side_ours (o : Bool) : decide (V.str (side o) = V.str "ours") = o := by
  cases o
  · show decide (V.str "theirs" = V.str "ours") = false; decide +kernel
  · show decide (V.str "ours" = V.str "ours") = true; decide +kernel
/-- plans in the heap -/
def PlanAt (H : Hp) (g : Gm) (o : Bool) (a : Addr) (p : Str → Str) : Prop := ∃ ka, Rd H a (.dK ka) ∧ ∀ n ms, look g n = some (.mv o ms) → valV ka (Sum.inr n) = some (.str (p n))
def PolAt (H : Hp) (g : Gm) (pd : Addr) (pol : Pol) : Prop := ∃ pk, Rd H pd (.dK pk) ∧ ∀ o, (pol o = none → valV pk (Sum.inr (side o)) = none) ∧ ∀ p, pol o = some p → ∃ a, valV pk (Sum.inr (side o)) = some (.ref a) ∧ PlanAt H g o a p
theorem PlanAt.mono {H H' : Hp} {g : Gm} {o : Bool} {a : Addr} {p : Str → Str} (h : PlanAt H g o a p) (s : ∀ x k, Rd H x (.dK k) → Rd H' x (.dK k)) : PlanAt H' g o a p := by
  obtain ⟨ka, h1, h2⟩ := h
  exact ⟨ka, s _ _ h1, h2⟩
theorem PolAt.mono {H H' : Hp} {g : Gm} {pd : Addr} {pol : Pol} (h : PolAt H g pd pol) (s : ∀ x k, Rd H x (.dK k) → Rd H' x (.dK k)) : PolAt H' g pd pol := by
  obtain ⟨pk, h1, h2⟩ := h
  refine ⟨pk, s _ _ h1, fun o => ⟨(h2 o).1, fun p hp => ?_⟩⟩
  obtain ⟨a, e, h⟩ := (h2 o).2 p hp
  exact ⟨a, e, h.mono s⟩
theorem GmKv.off {H H' : Hp} {D : Addr} {acc : List (Key × V)} (off : Off D H H') (hacc : H D = some (.dK acc)) (rf : ∀ kv ∈ acc, ∃ t, kv.2 = V.ref t) : ∀ {kvs : List (Key × V)} {g : Gm}, (∀ q ∈ g, ∀ o ms, q.2 = .mv o ms → ms ≠ []) → GmKv H kvs g → GmKv H' kvs g
  | _, _, _, .nil => .nil
  | _, q :: g, h, .cons r t => .cons ⟨r.1, r.2.off (h q (List.mem_cons_self ..)) off hacc rf⟩ (GmKv.off off hacc rf (fun q hq => h q (List.mem_cons_of_mem _ hq)) t)
theorem rd_some {H : Hp} {x : Addr} {u : HO} (h : Rd H x u) : ∃ o, H x = some o := by
  rcases h with h | ⟨o, h⟩
  · exact ⟨_, h⟩
  · exact ⟨_, h⟩
theorem rd_off {H H' : Hp} {D x : Addr} {u : HO} (off : Off D H H') (hx : x ≠ D) (h : Rd H x u) : Rd H' x u := by
  rcases h with h | ⟨o, h⟩
  · exact .inl (off _ _ hx h)
  · exact .inr ⟨o, off _ _ hx h⟩
theorem all_dec (es ns : List Str) : (es.map fun z => decide (z ∈ ns)).all id = decide (∀ z ∈ es, z ∈ ns) := by
  rw [List.all_map]
  by_cases h : ∀ z ∈ es, z ∈ ns
  · rw [decide_eq_true h]
    exact List.all_eq_true.mpr fun z hz => decide_eq_true (h z hz)
  · rw [decide_eq_false h]
    by_cases q : es.all (id ∘ fun z => decide (z ∈ ns)) = true
    · exact absurd (fun z hz => of_decide_eq_true (List.all_eq_true.mp q z hz)) h
    · exact Bool.eq_false_iff.mpr q
theorem mem_dec {H : Hp} {kvs : List (Key × V)} {f : Str → Rat} {ns : List Str} (h : TabKv H kvs f ns) (n : Str) : (valV kvs (Sum.inr n)).isSome = decide (n ∈ ns) := by
  by_cases hn : n ∈ ns
  · obtain ⟨v, h1, _⟩ := h.look hn
    rw [h1, decide_eq_true hn]
    rfl
  · rw [h.no hn, decide_eq_false hn]
    rfl

section
variable {P : Program} {w : World} {K : PySem.W.Frag} {mg : Str → Option Value} {base : Heap}
/-- a table of worths -/
def TabAt (H : Hp) (l : Addr) (g : Gm) (f : Str → Rat) : Prop := ∃ kvs ns, H l = some (.dK kvs) ∧ TabKv H kvs f ns ∧ ∀ n ∈ g.map (·.1), n ∈ ns
def spLW : Sp := fun vs H Q _ => ∃ (d pd : Addr) (g : Gm) (rk : Str → Nat) (pol : Pol), vs = [.ref d, .ref pd] ∧ GmAt H d g ∧ GOk g rk ∧ PolAt H g pd pol ∧ PolOk g pol ∧
  ∀ l H', Same H H' → H l = none → TabAt H' l g (val g pol) → Q (.ref l) H'
/-- the table so far: every name of a rank below t, and of the first i names those of rank t too -/
def LwW (H0 : Hp) (fd : Addr) (g : Gm) (rk : Str → Nat) (pol : Pol) (t i : Nat) (H : Hp) : Prop := Same H0 H ∧ ∃ kvs ns, H fd = some (.dK kvs) ∧ TabKv H kvs (val g pol) ns ∧ ns.Nodup ∧ (∀ n ∈ ns, n ∈ g.map (·.1)) ∧ (∀ n ∈ g.map (·.1), rk n < t → n ∈ ns) ∧ ∀ n ∈ (g.map (·.1)).take i, rk n ≤ t → n ∈ ns
theorem sc_law_t_worths : FnScope ["_law_game", "_law_plans", "_law_found", "_law_turn", "_law_name", "_law_word", "_law_rest", "_law_place", "_law_weight", "_law_move"] ["_law_game", "_law_plans"] (defScope (top 43)) :=
  ⟨rfl, rfl, rfl, by decide +kernel, rfl, by decide +kernel, by decide +kernel⟩
theorem ok_law_t_worths {f : Addr} {fd : FuncData} (F : Fun K "_law_t_worths" "_law_t_worths" (top 43) f fd) (B : Bi mg) (c_law_t_after : Cal P w K mg base 1 "_law_t_after" spAfter []) (c_law_t_lowest : Cal P w K mg base 1 "_law_t_lowest" spLow []) (c_law_t_mean : Cal P w K mg base 2 "_law_t_mean" spMean []) (c_law_t_best : Cal P w K mg base 2 "_law_t_best" spBest []) :
    FnOk P w K mg base CX0 3 f fd ["_law_game", "_law_plans"] spLW := by
  refine F.ok sc_law_t_worths (fun vs H Q E h => ?_) (fun cdv A outer s H vs Q E hr h => ?_)
  · obtain ⟨d, pd, g, rk, pol, rfl, _⟩ := h
    rfl
  · obtain ⟨d, pd, g, rk, pol, rfl, ⟨kvs0, hd, hg⟩, G, hpol, hpk, k⟩ := h
    refine ⟨_, (pss_cons (ps_set (i := 2) sc_law_t_worths.nd rfl (Or.inr rfl) pe_dnewK)
      (pss_cons (ps_for PassesOwn.never rfl (pi_range1 (by rfl) B.range_ (pa_cons (pe_callB call_lenR (by rfl) B.len_ bt_len (pa_cons (pv 0) pa_nil)) pa_nil)) (pg_name (i := 3) sc_law_t_worths.nd rfl (Or.inl rfl))
      (pss_one (ps_lock (ps_for PassesOwn.never rfl (pi_keys (pv 0)) (pg_name (i := 4) sc_law_t_worths.nd rfl (Or.inl rfl))
      (pss_cons (ps_asg (pe_dget (hu_of hr) (pv 0) (pv 4) (fun _ _ => rfl)) (pg_tup rfl (pgs_cons (pg_name (i := 5) sc_law_t_worths.nd rfl (Or.inl rfl)) (pgs_cons (pg_name (i := 6) sc_law_t_worths.nd rfl (Or.inr rfl)) pgs_nil))))
      (pss_one (ps_if (pw_and (pt_cmp (pc_dnotin (hu_of hr) (pv 4) (pv 2))) (pw_and1 (pt_val (pe_callB (cr_all rfl) (by rfl) B.all_ bt_all (pa_cons (pe_lc (own := [("_law_place", 7)]) (g := gName 7) rfl sc_law_t_worths.nd (pi_list (pe_c c_law_t_after hr (by decide) (by rfl) (pa_cons (pv 0) (pa_cons (pv 4) pa_nil)))) (blkOk_by (by kernel_rfl)) (fun _ _ _ _ _ => (pg_name (i := 7) sc_law_t_worths.nd rfl (Or.inl rfl))) (fun _ _ _ _ _ => pts_nil) (fun _ _ _ _ _ => (pe_cmp (pc_din (hu_of hr) (pv 7) (pv 2))))) pa_nil))))).pt (pss_one (ps_if (pt_cmpR op_eq (pv 5) pe_str (nomark _)) (pss_one (ps_dput (hu_of hr) (pv 2) (pv 4) (pe_c c_law_t_lowest hr (by decide) (by rfl) (pa_cons (pe_ix ix_tup (pv 6) pe_int (fun _ _ => rfl)) (pa_cons (pe_ix ix_tup (pv 6) pe_int (fun _ _ => rfl)) pa_nil))) rfl)) (pss_one (ps_if (pt_cmpR op_eq (pv 5) pe_str (nomark _)) (pss_one (ps_dput (hu_of hr) (pv 2) (pv 4) (pe_c c_law_t_mean hr (by decide) (by rfl) (pa_cons (pe_lc (own := [("_law_place", 7), ("_law_weight", 8)]) (g := gTup K 2 (gCons (gName 7) (gCons (gName 8) gNil))) rfl sc_law_t_worths.nd (pi_list (pv 6)) (blkOk_by (by kernel_rfl)) (fun _ _ _ _ _ => (pg_tup rfl (pgs_cons (pg_name (i := 7) sc_law_t_worths.nd rfl (Or.inl rfl)) (pgs_cons (pg_name (i := 8) sc_law_t_worths.nd rfl (Or.inl rfl)) pgs_nil)))) (fun _ _ _ _ _ => pts_nil) (fun _ _ _ _ _ => (pe_tup (pa_cons (pv 8) (pa_cons (pe_dget (hu_of hr) (pv 2) (pv 7) (fun _ _ => rfl)) pa_nil))))) pa_nil)) rfl)) (pss_one (ps_if (pt_cmp (pc_din (hu_of hr) (pv 5) (pv 1))) (pss_one (ps_dput (hu_of hr) (pv 2) (pv 4) (pe_dget (hu_of hr) (pv 2) (pe_dget (hu_of hr) (pv 6) (pe_dget (hu_of hr) (pe_dget (hu_of hr) (pv 1) (pv 5) (fun _ _ => rfl)) (pv 4) (fun _ _ => rfl)) (fun _ _ => rfl)) (fun _ _ => rfl)) rfl)) (pss_one (ps_dput (hu_of hr) (pv 2) (pv 4) (pe_c c_law_t_best hr (by decide) (by rfl) (pa_cons (pe_lock (pe_lc (own := [("_law_move", 9)]) (g := gName 9) rfl sc_law_t_worths.nd (pi_keys (pv 6)) (blkOk_by (by kernel_rfl)) (fun _ _ _ _ _ => (pg_name (i := 9) sc_law_t_worths.nd rfl (Or.inl rfl))) (fun _ _ _ _ _ => pts_nil) (fun _ _ _ _ _ => (pe_dget (hu_of hr) (pv 2) (pe_dget (hu_of hr) (pv 6) (pv 9) (fun _ _ => rfl)) (fun _ _ => rfl))))) (pa_cons (pe_cmpR op_eq (pv 5) pe_str (nomark _)) pa_nil))) rfl)))))))) pss_nil)))))))
      (pss_one (ps_ret (pv 2))))), ?_⟩
    have l9 := G.tree.le
    have lk := hg.length
    intro fd hfd
    have s1 := same_upd (o := .dK []) hfd
    have hf1 : upd H fd (.dK []) fd = some (.dK []) := upd_same
    generalize upd H fd (.dK []) = H1 at s1 hf1
    have nfd : fd ≠ d := fun e => by rw [e, hd] at hfd; cases hfd
    refine ⟨_, rfl, d, _, rfl, .inl (s1 _ _ hd), _, rfl, by omega, by omega, ?_⟩
    refine for_range (lo := 0) (n := ((kvs0.length : Int)).toNat) (fun t σ H' => ∃ a b c e, σ = [some (.ref d), some (.ref pd), some (.ref fd), a, b, c, e, none, none, none] ∧ LwW H fd g rk pol t 0 H') ⟨_, _, _, _, rfl, s1, [], [], hf1, .nil, List.nodup_nil, (fun _ h => nomatch h), (fun n _ h => absurd h (Nat.not_lt_zero _)), fun n h => by simp at h⟩ ?_ ?_
    · rintro t σ H2 ht ⟨a, b, c, e, rfl, s2, kvs, ns, hf2, tab, nd, sub, all1, all2⟩
      have hd2 := s2 _ _ hd
      refine ⟨d, _, hd2, mut_dK, fun od => ?_⟩
      have hd3 : upd H2 d (.frz od (.dK kvs0)) d = some (.frz od (.dK kvs0)) := upd_same
      have hg3 := (hg.mono s2).lock (o := .frz od (.dK kvs0)) hd2 G.ne
      have hpol3 : PolAt (upd H2 d (.frz od (.dK kvs0))) g pd pol := (hpol.mono (fun x k h => rd_same s2 h)).mono (fun x k h => rd_lock hd2 mut_dK h)
      have hf3 : upd H2 d (.frz od (.dK kvs0)) fd = some (.dK kvs) := by rw [upd_ne nfd]; exact hf2
      have tab3 : TabKv (upd H2 d (.frz od (.dK kvs0))) kvs (val g pol) ns := Paired.mp (fun _ _ z => ⟨z.1, z.2.off (D := d) hd2 (fun _ z => nomatch z) (fun b o hb e => by rw [upd_ne hb]; exact e)⟩) tab
      generalize eH3 : upd H2 d (.frz od (.dK kvs0)) = H3 at *
      have fdrop : ∀ (X : Hp), Off fd H3 X → X d = some (.frz od (.dK kvs0)) := fun X q => q _ _ (Ne.symm nfd) hd3
      have hgX : ∀ X, Off fd H3 X → GmKv X kvs0 g := fun X off => hg3.off off hf3 (paired_refs (F := fun n v H => Fr H v (val g pol n)) (fun n v H z => by obtain ⟨t, e, _⟩ := z; exact ⟨t, e⟩) tab3) (fun q hq o ms e => (G.tree.mv q.1 o ms (by rw [look_of G.tree.nd hq, e])).1)
      have hpolX : ∀ X, Off fd H3 X → PolAt X g pd pol := fun X off => hpol.mono fun x kk h => by
        have hx : x ≠ fd := fun e => by
          obtain ⟨o, ho⟩ := rd_some h
          rw [e, hfd] at ho
          cases ho
        have h2 := rd_same s2 h
        have h3 : Rd H3 x (.dK kk) := by subst eH3; exact rd_lock hd2 mut_dK h2
        exact rd_off off hx h3
      refine ⟨_, rfl, d, od, rfl, .inl ⟨_, hd3, forg (n := kvs0.length) (fun i σ H' => ∃ tt b c e, σ = [some (.ref d), some (.ref pd), some (.ref fd), tt, b, c, e, none, none, none] ∧ Off fd H3 H' ∧ ∃ kvs ns, H' fd = some (.dK kvs) ∧ TabKv H' kvs (val g pol) ns ∧ ns.Nodup ∧ (∀ n ∈ ns, n ∈ g.map (·.1)) ∧ (∀ n ∈ g.map (·.1), rk n < t → n ∈ ns) ∧ ∀ n ∈ (g.map (·.1)).take i, rk n ≤ t → n ∈ ns)
        ⟨_, b, c, e, rfl, Off.of (Same.refl _), kvs, ns, hf3, tab3, nd, sub, all1, all2⟩ (fun i σ H' hi ⟨_, _, _, _, _, s, _⟩ => ⟨fdrop H' s, hi⟩) (fun σ H' ⟨_, _, _, _, _, s, _⟩ => ⟨fdrop H' s, Nat.le_refl _⟩) ?_ ?_⟩⟩
      · clear all2 all1 sub nd tab tab3 hf3 hf2 hf1
        rintro i xv σ H4 H5 hi ⟨tt, b, c, e, rfl, off4, kvs, ns, hf4, tab, nd, sub, all1, all2⟩ ⟨rfl, ky, u, hkv, rfl⟩
        obtain ⟨q, hq, rfl, hp⟩ := gm_at hg3 hkv
        obtain ⟨n, p⟩ := q
        have hql : look g n = some p := look_of G.tree.nd (List.mem_of_getElem? hq)
        have hqn : n ∈ g.map (·.1) := look_in hql
        have hd4 := fdrop _ off4
        have rdd : Rd H5 d (.dK kvs0) := .inr ⟨od, hd4⟩
        obtain ⟨u', e1, e2⟩ := (gm_look hg3).1 _ hql
        have vq := val_eq G.tree hpk hql
        have nsl : ns.length ≤ g.length := by
          have := nodup_sub_len nd sub
          rwa [List.length_map] at this
        have kl : kvs.length < sizeLine := by
          have := tab.length
          exact sz_lt (by omega)
        have hgt := lst_keys hq
        obtain ⟨u', e1, e2⟩ := (gm_look (hgX _ off4)).1 _ hql
        obtain ⟨tt', r, rfl, ht', hp'⟩ := id e2
        have stay : (rk n ≤ t → n ∈ ns) → ∀ (a b c e : Option V) (X : Hp), Same H5 X → ∃ t1 t2 t3 t4, [some (V.ref d), some (V.ref pd), some (V.ref fd), a, b, c, e, none, none, none] = [some (V.ref d), some (V.ref pd), some (V.ref fd), t1, t2, t3, t4, none, none, none] ∧ Off fd H3 X ∧ ∃ kvs ns, X fd = some (.dK kvs) ∧ TabKv X kvs (val g pol) ns ∧ ns.Nodup ∧ (∀ n ∈ ns, n ∈ g.map (·.1)) ∧ (∀ n ∈ g.map (·.1), rk n < t → n ∈ ns) ∧ ∀ n ∈ (g.map (·.1)).take (i + 1), rk n ≤ t → n ∈ ns := fun h a b c e X sX => by
          refine ⟨a, b, c, e, rfl, fun b o nb z => sX _ _ (off4 b o nb z), kvs, ns, sX _ _ hf4, tab.mono sX, nd, sub, all1, fun m hm hr => ?_⟩
          rw [take_snoc hgt, List.mem_append, List.mem_singleton] at hm
          rcases hm with hm | hm
          · exact all2 m hm hr
          · rw [hm] at hr ⊢; exact h hr
        refine ⟨_, rfl, _, rfl, d, _, rfl, dgetS rdd e1, tt', _, rfl, SqT.of ht', rfl, _, _, rfl, _, _, rfl, rfl, ?_⟩
        refine ⟨_, rfl, _, rfl, fd, _, rfl, dget (.inl hf4) n, _, rfl, ?_⟩
        rw [mem_dec tab n]
        by_cases hin : n ∈ ns
        · rw [decide_eq_true hin]
          exact iteF (iteF (stay (fun _ => hin) _ _ _ _ _ (Same.refl _)))
        rw [decide_eq_false hin]
        refine iteT ⟨_, rfl, _, rfl, d, kvs0, n, _, p, rfl, rdd, e1, e2, G.dests hql, fun o ms e => (G.tree.mv n o ms (by rw [hql, e])).2.2, fun l H6 es s6 hl0 hl hmem hlen => ?_⟩
        refine ⟨l, rfl, ⟨_, SqL.of hl⟩, fun D hD => lcm (n := (es.map V.str).length) (fun j y _ => ∃ z, es[j]? = some z ∧ y = .bl (decide (z ∈ ns))) hD (by rw [List.length_map]; omega) (fun _ _ _ _ _ _ z => z) (go_l hl) (stop_l hl) ?_ ?_ gm_name⟩
        · intro j y Ha Hb Kt hj sa _ hy kt
          obtain ⟨rfl, hxj⟩ := yl_l hl sa hy
          obtain ⟨z, hz, rfl⟩ := strs_at hxj
          refine ⟨rfl, _, rfl, _, rfl, fd, _, rfl, dget (.inl (sa _ _ (s6 _ _ hf4))) z, ?_⟩
          rw [mem_dec tab z]
          exact kt _ _ (Same.refl _) ⟨z, hz, rfl⟩
        · intro ys H7 s7 hD7 hl7 hy
          have e : ys = (es.map fun z => decide (z ∈ ns)).map V.bl := by
            refine List.ext_getElem? fun j => ?_
            rw [List.getElem?_map, List.getElem?_map]
            rw [List.length_map] at hl7
            by_cases hj : j < ys.length
            · obtain ⟨z, z1, z2⟩ := hy j _ (List.getElem?_eq_getElem hj)
              rw [List.getElem?_eq_getElem hj, z1, z2]
              rfl
            · rw [List.getElem?_eq_none (by omega), List.getElem?_eq_none (by omega)]
              rfl
          subst e
          refine ⟨D, _, rfl, SqL.of hD7, _, rfl, ?_⟩
          rw [all_dec]
          have s8 := s6.trans s7
          by_cases hall : ∀ z ∈ es, z ∈ ns
          case neg =>
            rw [decide_eq_false hall]
            refine iteF (stay (fun hr => ?_) _ _ _ _ _ s8)
            refine absurd (fun z hz => ?_) hall
            obtain ⟨d1, d2⟩ := G.tree.down n p hql z ((hmem z).mp hz)
            exact all1 z d1 (by omega)
          rw [decide_eq_true hall]
          have hdest : ∀ z ∈ p.dests, z ∈ ns := fun z hz => hall z ((hmem z).mpr hz)
          have hf7 := s8 _ _ hf4
          have tab7 := tab.mono s8
          -- one more name in the table
          have fin : ∀ (a b c e : Option V) (v : V) (X : Hp), Same H7 X → Fr X v (val g pol n) → ∃ t1 t2 t3 t4, [some (V.ref d), some (V.ref pd), some (V.ref fd), a, b, c, e, none, none, none] = [some (V.ref d), some (V.ref pd), some (V.ref fd), t1, t2, t3, t4, none, none, none] ∧ Off fd H3 (upd X fd (.dK (putK kvs (Sum.inr n) v))) ∧ ∃ kvs' ns', (upd X fd (.dK (putK kvs (Sum.inr n) v))) fd = some (.dK kvs') ∧ TabKv (upd X fd (.dK (putK kvs (Sum.inr n) v))) kvs' (val g pol) ns' ∧ ns'.Nodup ∧ (∀ n ∈ ns', n ∈ g.map (·.1)) ∧ (∀ n ∈ g.map (·.1), rk n < t → n ∈ ns') ∧ ∀ n ∈ (g.map (·.1)).take (i + 1), rk n ≤ t → n ∈ ns' := fun a b c e v X sX hv => by
            refine ⟨a, b, c, e, rfl, Off.put fun b o nb z => sX _ _ (s8 _ _ (off4 b o nb z)), _, ns ++ [n], upd_same, (tab7.mono sX).put hin (sX _ _ hf7) (Off.put (Off.of (Same.refl _))) hv, nd_snoc nd hin, fun m hm => ?_, fun m hm hr => List.mem_append_left _ (all1 m hm hr), fun m hm hr => ?_⟩
            · rcases List.mem_append.mp hm with h | h
              · exact sub m h
              · rw [List.mem_singleton] at h; rw [h]; exact hqn
            · rw [take_snoc hgt, List.mem_append, List.mem_singleton] at hm
              rcases hm with hm | hm
              · exact List.mem_append_left _ (all2 m hm hr)
              · exact List.mem_append_right _ (List.mem_singleton.mpr hm)
          have ht7 := s8 _ _ ht'
          have hp7 := hp'.mono s8
          refine iteT ⟨_, rfl, rfl, _, rfl, ?_⟩
          rw [eq_end]
          cases p with
          | fin x y =>
            obtain ⟨b1, b2, b3, b4⟩ := G.tree.fn n x y hql
            have hr7 := SqT.of (K := K) (show H7 r = some (.tup [.int x, .int y]) from hp7)
            refine iteT ⟨_, rfl, _, _, _, _, rfl, rfl, hr7, at0 rfl, _, rfl, _, _, _, _, rfl, rfl, hr7, at1 rfl, x, y, rfl, by omega, ?_, fun v H8 s9 hv => ?_⟩
            · have : (4 : Nat) < 2 ^ 8000 := by decide +kernel
              omega
            · exact ⟨_, rfl, _, rfl, fd, _, rfl, DPut.k (k := Sum.inr n) (s9 _ _ hf7) kl, fin _ _ _ _ _ _ s9 (by rw [vq]; exact hv)⟩
          | chance ls =>
            obtain ⟨as, h1, h2⟩ := hp7
            have ln := h2.length
            obtain ⟨c1, c2, c3, c4⟩ := G.tree.ch n ls hql
            refine iteF ⟨_, rfl, rfl, _, rfl, ?_⟩
            rw [eq_chance]
            refine iteT ⟨_, rfl, r, rfl, ⟨_, SqL.of h1⟩, fun D2 hD2 => lcm (n := as.length) (fun j y H' => ∃ l, ls[j]? = some l ∧ RowAt H' y (l.2, val g pol l.1)) hD2 (by omega) ?_ (go_l h1) (stop_l h1) ?_ ?_ gm_tup2⟩
            · rintro j y Ha Hb off ⟨acc, hacc⟩ ⟨l, z1, ta, tv, z2, z3, z4⟩
              exact ⟨l, z1, ta, tv, z2, off _ _ (ne_of z3 hacc (fun z => nomatch z)) z3, z4.off hacc (fun _ z => nomatch z) off⟩
            · intro j y Ha Hb Kt hj sa _ hy kt
              obtain ⟨rfl, hxj⟩ := yl_l h1 sa hy
              obtain ⟨l, b', hl, rfl, hb⟩ := LotAt.nth h2 hxj
              obtain ⟨v, hv1, hv2⟩ := tab7.look (hdest l.1 (List.mem_map.mpr ⟨l, List.mem_of_getElem? hl, rfl⟩))
              refine ⟨b', _, rfl, SqT.of (sa _ _ hb), rfl, _, _, rfl, _, _, rfl, rfl, rfl, _, rfl, _, rfl, _, rfl, fd, v, rfl, dgetS (.inl (sa _ _ hf7)) hv1, by show 2 ≤ sizeLine; decide, fun q hq => ?_⟩
              exact kt _ _ (same_upd hq) ⟨l, hl, q, v, rfl, upd_same, (hv2.mono sa).mono (same_upd hq)⟩
            · intro ys H8 s9 hD8 hl8 hy
              have hp4 : Paired (RowAt H8) ys (ls.map fun l => (l.2, val g pol l.1)) := by
                refine paired_of (by rw [List.length_map]; omega) fun j y hj => ?_
                obtain ⟨l, z1, z2⟩ := hy j y hj
                exact ⟨_, by rw [List.getElem?_map, z1]; rfl, z2⟩
              refine ⟨D2, _, rfl, ⟨ys, hD8, hp4⟩, by intro e; exact c1 (List.map_eq_nil_iff.mp e), by rw [List.length_map]; exact c2, fun row hrow => ?_, fun v H9 s10 hv => ?_⟩
              · obtain ⟨l, hl, rfl⟩ := List.mem_map.mp hrow
                have := c4 l hl
                exact ⟨by show 0 < l.2; omega, this.2, val_small G.tree hpk (G.tree.down n _ hql l.1 (List.mem_map.mpr ⟨l, hl, rfl⟩)).1⟩
              · refine ⟨_, rfl, _, rfl, fd, _, rfl, DPut.k (k := Sum.inr n) (s10 _ _ (s9 _ _ hf7)) kl, fin _ _ _ _ _ _ (s9.trans s10) ?_⟩
                rw [vq]
                exact hv
          | mv o ms =>
            obtain ⟨m1, m2, m3⟩ := G.tree.mv n o ms hql
            have hr7 : H7 r = some (.dK (mvKv ms)) := hp7
            have hpol7 : PolAt H7 g pd pol := (hpolX _ off4).mono fun x k h => rd_same s8 h
            obtain ⟨pk, hpd, hpo⟩ := hpol7
            refine iteF ⟨_, rfl, rfl, _, rfl, ?_⟩
            rw [eq_chance]
            refine iteF ⟨_, rfl, _, rfl, pd, _, rfl, dget hpd _, _, rfl, ?_⟩
            rw [word_side]
            cases hpl : pol o with
            | some pp =>
              obtain ⟨a', ha1, ka, ha2, ha3⟩ := (hpo o).2 pp hpl
              rw [ha1]
              have hk1 := hpk o pp hpl n ms hql
              obtain ⟨dd, hdd⟩ := look_some hk1
              obtain ⟨v, hv1, hv2⟩ := tab7.look (hdest dd (List.mem_map.mpr ⟨(pp n, dd), look_mem hdd, rfl⟩))
              refine iteT ⟨_, rfl, _, rfl, _, rfl, _, rfl, pd, _, rfl, dgetS hpd ha1, _, rfl, a', _, rfl, dgetS ha2 (ha3 n ms hql), r, _, rfl, dgetS (.inl hr7) (by rw [mv_look, hdd]; rfl), fd, v, rfl, dgetS (.inl hf7) hv1, ?_⟩
              refine ⟨_, rfl, _, rfl, fd, _, rfl, DPut.k (k := Sum.inr n) hf7 kl, fin _ _ _ _ _ _ (Same.refl _) ?_⟩
              rw [vq, ev_some hpl, hdd]
              exact hv2
            | none =>
              rw [(hpo o).1 hpl]
              have nrf : fd ≠ r := fun e => by
                have hh := tab7
                rw [← e, hf7] at hr7
                have h1 := Option.some.inj hr7
                have ek : kvs = mvKv ms := by injection h1
                cases ms with
                | nil => exact m1 rfl
                | cons m ms =>
                  have rf := paired_refs (F := fun n v H => Fr H v (val g pol n)) (fun n v H z => by obtain ⟨t, e, _⟩ := z; exact ⟨t, e⟩) tab7
                  obtain ⟨t', e⟩ := rf (Sum.inr m.1, V.str m.2) (by rw [ek]; exact List.mem_cons_self ..)
                  cases e
              refine iteF ⟨r, _, hr7, mut_dK, fun od2 => ?_⟩
              have hr8 : upd H7 r (.frz od2 (.dK (mvKv ms))) r = some (.frz od2 (.dK (mvKv ms))) := upd_same
              have hf8 : upd H7 r (.frz od2 (.dK (mvKv ms))) fd = some (.dK kvs) := by rw [upd_ne nrf]; exact hf7
              have tab8 : TabKv (upd H7 r (.frz od2 (.dK (mvKv ms)))) kvs (val g pol) ns := Paired.mp (fun _ _ z => ⟨z.1, z.2.off (D := r) hr7 (fun _ z => nomatch z) (fun b o hb e => by rw [upd_ne hb]; exact e)⟩) tab7
              generalize eH8 : upd H7 r (.frz od2 (.dK (mvKv ms))) = H8 at *
              refine ⟨_, rfl, r, od2, rfl, .inl ⟨_, hr8, fun D2 hD2 => lcm (n := (mvKv ms).length) (fun j y H' => ∃ m, ms[j]? = some m ∧ Fr H' y (val g pol m.2)) hD2 (by rw [mvKv_len]; omega) ?_ (go_k hr8) (stop_k hr8) ?_ ?_ gm_name⟩⟩
              · rintro j y Ha Hb off ⟨acc, hacc⟩ ⟨m, z1, z2⟩
                exact ⟨m, z1, z2.off hacc (fun _ z => nomatch z) off⟩
              · rintro j y Ha Hb Kt hj sa _ ⟨rfl, ky, vv, hkv, rfl⟩ kt
                obtain ⟨m, hm, rfl, rfl⟩ := mvKv_at hkv
                have hm2 : look ms m.1 = some m.2 := look_of m3 (List.mem_of_getElem? hm)
                obtain ⟨v, hv1, hv2⟩ := tab8.look (hdest m.2 (List.mem_map.mpr ⟨m, List.mem_of_getElem? hm, rfl⟩))
                exact ⟨rfl, _, rfl, _, rfl, _, rfl, r, _, rfl, dgetS (.inr ⟨od2, sa _ _ hr8⟩) (by rw [mv_look, hm2]; rfl), fd, v, rfl, dgetS (.inl (sa _ _ hf8)) hv1, kt _ _ (Same.refl _) ⟨m, hm, hv2.mono sa⟩⟩
              · intro ys H9 s9 hD9 hl9 hy
                refine ⟨s9 _ _ hr8, ?_⟩
                have s10 : Same H7 (upd H9 r (.dK (mvKv ms))) := by subst eH8; exact same_unlock hr7 s9
                have nDr : D2 ≠ r := fun e => by rw [e, hr8] at hD2; cases hD2
                have hD10 : (upd H9 r (.dK (mvKv ms))) D2 = some (.lst ys) := by rw [upd_ne nDr]; exact hD9
                have hfr : Frs (upd H9 r (.dK (mvKv ms))) D2 (ms.map fun m => val g pol m.2) := by
                  refine ⟨ys, hD10, paired_of (by rw [List.length_map, hl9, mvKv_len]) fun j y hj => ?_⟩
                  obtain ⟨m, z1, z2⟩ := hy j y hj
                  exact ⟨_, by rw [List.getElem?_map, z1]; rfl, z2.off (s9 _ _ hr8) (fun _ z => nomatch z) (fun b o hb e => by rw [upd_ne hb]; exact e)⟩
                generalize upd H9 r (.dK (mvKv ms)) = H10 at s10 hD10 hfr
                refine ⟨_, rfl, rfl, ?_⟩
                refine ⟨D2, _, _, rfl, hfr, by intro e; exact m1 (List.map_eq_nil_iff.mp e), fun q hq => ?_, fun v H11 s11 hv => ?_⟩
                · obtain ⟨m, hm, rfl⟩ := List.mem_map.mp hq
                  exact val_small G.tree hpk (G.tree.down n _ hql m.2 (List.mem_map.mpr ⟨m, hm, rfl⟩)).1
                · rw [side_ours] at hv
                  refine ⟨_, rfl, _, rfl, fd, _, rfl, DPut.k (k := Sum.inr n) (s11 _ _ (s10 _ _ hf7)) kl, fin _ _ _ _ _ _ (s10.trans s11) ?_⟩
                  rw [vq, ev_none hpl]
                  exact hv
      · rintro σ H4 ⟨tt, b, c, e, rfl, off4, kvs, ns, hf4, tab, nd, sub, all1, all2⟩
        refine ⟨fdrop _ off4, ?_⟩
        have hsame : Same H (upd H4 d (.dK kvs0)) := fun b o hb => by
          by_cases hbd : b = d
          · subst hbd
            rw [hd] at hb
            cases hb
            exact upd_same
          · rw [upd_ne hbd]
            have hbf : b ≠ fd := fun e => by rw [e, hfd] at hb; cases hb
            refine off4 _ _ hbf ?_
            subst eH3
            rw [upd_ne hbd]
            exact s2 _ _ hb
        refine ⟨tt, b, c, e, rfl, hsame, kvs, ns, by rw [upd_ne nfd]; exact hf4, ?_, nd, sub, fun n hn hr => ?_, fun n h => by simp at h⟩
        · exact Paired.mp (fun _ _ z => ⟨z.1, z.2.off (D := d) (fdrop _ off4) (fun _ z => nomatch z) (fun b o hb e => by rw [upd_ne hb]; exact e)⟩) tab
        · rw [lk, show g.length = (g.map (·.1)).length by rw [List.length_map], List.take_length] at all2
          exact all2 n hn (by omega)
    · rintro σ H2 ⟨a, b, c, e, rfl, s2, kvs, ns, hf2, tab, nd, sub, all1, all2⟩
      refine ⟨_, rfl, k fd _ s2 hfd ⟨kvs, ns, hf2, tab, fun n hn => all1 n hn ?_⟩⟩
      have := G.tree.top n hn
      omega
end
end Gw
end

section
set_option Elab.async false
set_option linter.all false
set_option maxRecDepth 100000
set_option maxHeartbeats 4000000
/-! all plans of a side -/
namespace Gw
open PySem PySem.Spec PyProof.Rows L2
open C8 (Cal Mak Met pe_c pe_mk pe_mt pe_mt0 pe_gc)

abbrev Plan := List (Str × Str)
def cnt (o : Bool) : Pl → Nat
  | .mv o' ms => if o' = o then ms.length else 1
  | _ => 1
def prd (o : Bool) : Gm → Nat
  | [] => 1
  | q :: g => cnt o q.2 * prd o g
theorem prd_snoc (o : Bool) (g : Gm) (q : Str × Pl) : prd o (g ++ [q]) = prd o g * cnt o q.2 := by
  induction g with
  | nil => show cnt o q.2 * 1 = 1 * cnt o q.2; omega
  | cons a g ih => show cnt o a.2 * prd o (g ++ [q]) = cnt o a.2 * prd o g * cnt o q.2; rw [ih, Nat.mul_assoc]
theorem prd_pos {o : Bool} {g : Gm} (h : ∀ q ∈ g, 0 < cnt o q.2) : 0 < prd o g := by
  induction g with
  | nil => exact Nat.one_pos
  | cons a g ih => exact Nat.mul_pos (h a (List.mem_cons_self ..)) (ih fun q hq => h q (List.mem_cons_of_mem _ hq))
theorem prd_append (o : Bool) (g h : Gm) : prd o (g ++ h) = prd o g * prd o h := by
  induction g with
  | nil => show prd o h = 1 * prd o h; omega
  | cons a g ih => show cnt o a.2 * prd o (g ++ h) = cnt o a.2 * prd o g * prd o h; rw [ih, Nat.mul_assoc]
theorem prd_take {o : Bool} {g : Gm} (h : ∀ q ∈ g, 0 < cnt o q.2) (i : Nat) : prd o (g.take i) ≤ prd o g := by
  conv => rhs; rw [← List.take_append_drop i g]
  rw [prd_append]
  exact Nat.le_mul_of_pos_right _ (prd_pos fun q hq => h q (List.mem_of_mem_drop hq))
/-- each plan longer by each move -/
def ext (n : Str) (ms : List (Str × Str)) (pl : Plan) : List Plan := ms.map fun m => pl ++ [(n, m.1)]
def stepPl (o : Bool) (acc : List Plan) (q : Str × Pl) : List Plan := match q.2 with
  | .mv o' ms => if o' = o then acc.flatMap (ext q.1 ms) else acc
  | _ => acc
def allPl (o : Bool) (g : Gm) : List Plan := g.foldl (stepPl o) [[]]
theorem allPl_snoc (o : Bool) (g : Gm) (q : Str × Pl) : allPl o (g ++ [q]) = stepPl o (allPl o g) q := by unfold allPl; rw [List.foldl_append]; rfl
theorem flat_len (n : Str) (ms : List (Str × Str)) (acc : List Plan) : (acc.flatMap (ext n ms)).length = acc.length * ms.length := by
  induction acc with
  | nil => simp
  | cons a acc ih =>
    rw [List.flatMap_cons, List.length_append, ih, List.length_cons]
    unfold ext
    rw [List.length_map, Nat.succ_mul, Nat.add_comm]
theorem step_len (o : Bool) (acc : List Plan) (q : Str × Pl) : (stepPl o acc q).length = acc.length * cnt o q.2 := by
  obtain ⟨n, p⟩ := q
  cases p with
  | mv o' ms =>
    show (if o' = o then acc.flatMap (ext n ms) else acc).length = acc.length * (if o' = o then ms.length else 1)
    by_cases e : o' = o
    · rw [if_pos e, if_pos e, flat_len]
    · rw [if_neg e, if_neg e, Nat.mul_one]
  | chance ls => exact (Nat.mul_one _).symm
  | fin t b => exact (Nat.mul_one _).symm
theorem allPl_len (o : Bool) : ∀ (g : Gm) (acc : List Plan), (g.foldl (stepPl o) acc).length = acc.length * prd o g
  | [], acc => (Nat.mul_one _).symm
  | q :: g, acc => by
    show (g.foldl (stepPl o) (stepPl o acc q)).length = acc.length * (cnt o q.2 * prd o g)
    rw [allPl_len o g, step_len, Nat.mul_assoc]
theorem look_append {α : Type} (a b : List (Str × α)) (n : Str) : look (a ++ b) n = match look a n with | some p => some p | none => look b n := by
  induction a with
  | nil => rfl
  | cons q a ih =>
    show (if q.1 = n then some q.2 else look (a ++ b) n) = match (if q.1 = n then some q.2 else look a n) with | some p => some p | none => look b n
    by_cases e : q.1 = n
    · rw [if_pos e, if_pos e]
    · rw [if_neg e, if_neg e]; exact ih
theorem look_none {α : Type} {a : List (Str × α)} {n : Str} (h : n ∉ a.map (·.1)) : look a n = none := by
  cases e : look a n with
  | none => rfl
  | some p => exact absurd (look_in e) h
/-- a plan that keeps to the moves of the places looked at -/
def Good (o : Bool) (g : Gm) (pl : Plan) : Prop := (∀ x ∈ pl.map (·.1), x ∈ g.map (·.1)) ∧ ∀ n ms, (n, Pl.mv o ms) ∈ g → ∃ m, look pl n = some m ∧ m ∈ ms.map (·.1)
theorem good_step {o : Bool} {g : Gm} {q : Str × Pl} {acc : List Plan} (hq : q.1 ∉ g.map (·.1)) (h : ∀ pl ∈ acc, Good o g pl) : ∀ pl ∈ stepPl o acc q, Good o (g ++ [q]) pl := by
  have same : ∀ pl, Good o g pl → (∀ ms, q.2 ≠ .mv o ms) → Good o (g ++ [q]) pl := fun pl hp hno => by
    refine ⟨fun x hx => ?_, fun n ms hn => ?_⟩
    · rw [List.map_append]; exact List.mem_append_left _ (hp.1 x hx)
    · rcases List.mem_append.mp hn with h | h
      · exact hp.2 n ms h
      · rw [List.mem_singleton] at h
        exact absurd (by rw [← h]) (hno ms)
  obtain ⟨n0, p⟩ := q
  intro pl hpl
  cases p with
  | mv o' ms =>
    have hpl : pl ∈ (if o' = o then acc.flatMap (ext n0 ms) else acc) := hpl
    by_cases e : o' = o
    · rw [if_pos e] at hpl
      obtain ⟨p0, h0, h1⟩ := List.mem_flatMap.mp hpl
      obtain ⟨m, hm, rfl⟩ := List.mem_map.mp h1
      have gp := h p0 h0
      refine ⟨fun x hx => ?_, fun n ms' hn => ?_⟩
      · rw [List.map_append] at hx ⊢
        rcases List.mem_append.mp hx with hx | hx
        · exact List.mem_append_left _ (gp.1 x hx)
        · exact List.mem_append_right _ hx
      · rcases List.mem_append.mp hn with hn | hn
        · obtain ⟨m', e1, e2⟩ := gp.2 n ms' hn
          exact ⟨m', by rw [look_append, e1], e2⟩
        · rw [List.mem_singleton] at hn
          cases hn
          refine ⟨m.1, ?_, List.mem_map.mpr ⟨m, hm, rfl⟩⟩
          rw [look_append, look_none (fun z => hq (gp.1 _ z))]
          show look [(n0, m.1)] n0 = _
          unfold look
          rw [if_pos rfl]
    · rw [if_neg e] at hpl
      exact same pl (h pl hpl) fun ms' z => by injection z with z _; exact e z
  | chance ls => exact same pl (h pl hpl) (fun _ z => nomatch z)
  | fin t b => exact same pl (h pl hpl) (fun _ z => nomatch z)
theorem all_good (o : Bool) : ∀ (h g : Gm) (acc : List Plan), ((g ++ h).map (·.1)).Nodup → (∀ pl ∈ acc, Good o g pl) → ∀ pl ∈ h.foldl (stepPl o) acc, Good o (g ++ h) pl
  | [], g, acc, _, ha, pl, hpl => by rw [List.append_nil]; exact ha pl hpl
  | q :: h, g, acc, nd, ha, pl, hpl => by
    have e : g ++ q :: h = (g ++ [q]) ++ h := by simp
    rw [e] at nd ⊢
    have hq : q.1 ∉ g.map (·.1) := fun z => by
      rw [List.append_assoc, List.map_append] at nd
      exact (List.nodup_append.mp nd).2.2 _ z _ (by simp) rfl
    exact all_good o h (g ++ [q]) _ nd (good_step hq ha) pl hpl
/-- some plan goes by a given function -/
theorem all_full (o : Bool) (f : Str → Str) : ∀ (h g : Gm) (acc : List Plan), ((g ++ h).map (·.1)).Nodup → (∀ n ms, (n, Pl.mv o ms) ∈ g ++ h → f n ∈ ms.map (·.1)) → (∀ pl ∈ acc, Good o g pl) → (∃ pl ∈ acc, ∀ n ms, (n, Pl.mv o ms) ∈ g → look pl n = some (f n)) →
    ∃ pl ∈ h.foldl (stepPl o) acc, ∀ n ms, (n, Pl.mv o ms) ∈ g ++ h → look pl n = some (f n)
  | [], g, acc, _, _, _, hx => by rw [List.append_nil]; exact hx
  | q :: h, g, acc, nd, hf, ha, ⟨pl, hpl, hx⟩ => by
    have e : g ++ q :: h = (g ++ [q]) ++ h := by simp
    have hq : q.1 ∉ g.map (·.1) := fun z => by
      rw [List.map_append] at nd
      exact (List.nodup_append.mp nd).2.2 _ z _ (by simp) rfl
    have gs := good_step hq ha
    rw [e] at nd hf ⊢
    refine all_full o f h (g ++ [q]) _ nd hf gs ?_
    obtain ⟨n0, p⟩ := q
    have same : (∀ ms, p ≠ .mv o ms) → ∀ n ms, (n, Pl.mv o ms) ∈ g ++ [(n0, p)] → look pl n = some (f n) := fun hno n ms hn => by
      rcases List.mem_append.mp hn with hn | hn
      · exact hx n ms hn
      · rw [List.mem_singleton] at hn
        cases hn
        exact absurd rfl (hno ms)
    cases p with
    | mv o' ms =>
      by_cases eo : o' = o
      · subst eo
        have hm := hf n0 ms (List.mem_append_left _ (List.mem_append_right _ (List.mem_singleton.mpr rfl)))
        obtain ⟨m, hm1, hm2⟩ := List.mem_map.mp hm
        refine ⟨pl ++ [(n0, m.1)], ?_, fun n ms' hn => ?_⟩
        · show _ ∈ (if o' = o' then acc.flatMap (ext n0 ms) else acc)
          rw [if_pos rfl]
          exact List.mem_flatMap.mpr ⟨pl, hpl, List.mem_map.mpr ⟨m, hm1, rfl⟩⟩
        · rcases List.mem_append.mp hn with hn | hn
          · rw [look_append, hx n ms' hn]
          · rw [List.mem_singleton] at hn
            cases hn
            rw [look_append, look_none (fun z => hq ((ha pl hpl).1 _ z))]
            show look [(n0, m.1)] n0 = _
            unfold look
            rw [if_pos rfl, hm2]
      · refine ⟨pl, ?_, same fun ms' z => by injection z with z _; exact eo z⟩
        show pl ∈ (if o' = o then acc.flatMap (ext n0 ms) else acc)
        rw [if_neg eo]
        exact hpl
    | chance ls => exact ⟨pl, hpl, same (fun _ z => nomatch z)⟩
    | fin t b => exact ⟨pl, hpl, same (fun _ z => nomatch z)⟩
/-- a plan as a function -/
def plF (pl : Plan) : Str → Str := fun n => (look pl n).getD n
theorem good_nil (o : Bool) : Good o [] [] := ⟨(fun _ h => nomatch h), fun _ _ h => nomatch h⟩
theorem all_ok {g : Gm} {rk : Str → Nat} (T : Tree g rk) {o : Bool} {pl : Plan} (h : pl ∈ allPl o g) : ∀ n ms, look g n = some (.mv o ms) → ∃ m, look pl n = some m ∧ m ∈ ms.map (·.1) := fun n ms hl =>
  (all_good o g [] [[]] T.nd (fun pl hp => by rw [List.mem_singleton] at hp; rw [hp]; exact good_nil o) pl h).2 n ms (look_mem hl)
theorem keeps_all {g : Gm} {rk : Str → Nat} (T : Tree g rk) {o : Bool} {pl : Plan} (h : pl ∈ allPl o g) : Keeps g o (plF pl) := fun n ms hl => by
  obtain ⟨m, h1, h2⟩ := all_ok T h n ms hl
  unfold plF
  rw [h1]
  exact h2
theorem skolem {α β : Type} {p : α → β → Prop} (h : ∀ x, ∃ y, p x y) : ∃ f : α → β, ∀ x, p x (f x) := ⟨fun x => Classical.choose (h x), fun x => Classical.choose_spec (h x)⟩
/-- a best plan is among them -/
theorem opt_all {g : Gm} {rk : Str → Nat} (T : Tree g rk) (o : Bool) : ∃ pl ∈ allPl o g, Opt g o (plF pl) := by
  have ch : ∀ n : Str, ∃ m : Str, ∀ ms, look g n = some (.mv o ms) → m ∈ ms.map (·.1) ∧ val g free ((look ms m).getD n) = val g free n := fun n => by
    cases hl : look g n with
    | none => exact ⟨n, (fun _ h => nomatch h)⟩
    | some p =>
      cases p with
      | chance ls => exact ⟨n, (fun _ h => nomatch h)⟩
      | fin t b => exact ⟨n, (fun _ h => nomatch h)⟩
      | mv o' ms =>
        by_cases e : o' = o
        · subst e
          obtain ⟨m, hm, hv⟩ := opt_ex T hl
          refine ⟨m.1, fun ms' h => ?_⟩
          cases h
          refine ⟨List.mem_map.mpr ⟨m, hm, rfl⟩, ?_⟩
          rw [look_of (T.mv n _ _ hl).2.2 hm]
          exact hv
        · exact ⟨n, fun ms' h => by cases h; exact absurd rfl e⟩
  obtain ⟨f, hf⟩ := skolem ch
  obtain ⟨pl, h1, h2⟩ := all_full o f g [] [[]] T.nd (fun n ms hn => (hf n ms (look_of T.nd hn)).1) (fun pl hp => by rw [List.mem_singleton] at hp; rw [hp]; exact good_nil o) ⟨[], List.mem_singleton.mpr rfl, fun _ _ h => nomatch h⟩
  refine ⟨pl, h1, fun n ms hl => ?_⟩
  have e : plF pl n = f n := by
    unfold plF
    rw [h2 n ms (look_mem hl)]
    rfl
  rw [e]
  exact (hf n ms hl).2
end Gw
end

section
set_option Elab.async false
set_option linter.all false
set_option maxRecDepth 100000
set_option maxHeartbeats 4000000
/-! walks: all plans of a side -/
namespace Gw
open PySem PySem.Spec PyProof.Rows L2
open C8 (Cal Mak Met pe_c pe_mk pe_mt pe_mt0 pe_gc)
open RZ (pi_zipA ItzT)

/-- a plan's dict, new behind H0 -/
def DA (H0 H : Hp) (v : V) (pl : Plan) : Prop := ∃ a, v = .ref a ∧ H0 a = none ∧ H a = some (.dK (mvKv pl))
theorem DA.mono {H0 H H' : Hp} {v : V} {pl : Plan} (h : DA H0 H v pl) (s : Same H H') : DA H0 H' v pl := by
  obtain ⟨a, e, h0, h⟩ := h
  exact ⟨a, e, h0, s _ _ h⟩
theorem das_mono {H0 H H' : Hp} {as : List V} {pls : List Plan} (h : Paired (DA H0 H) as pls) (s : Same H H') : Paired (DA H0 H') as pls := Paired.mp (fun _ _ z => z.mono s) h
/-- another object than a plan's dict is changed -/
theorem das_off {H0 H : Hp} {D : Addr} {o u : HO} {as : List V} {pls : List Plan} (hD : H D = some u) (hu : H0 D ≠ none ∨ ∀ k, u ≠ .dK k) (h : Paired (DA H0 H) as pls) : Paired (DA H0 (upd H D o)) as pls := Paired.mp (fun _ _ z => by
  obtain ⟨a, e, h0, h⟩ := z
  refine ⟨a, e, h0, ?_⟩
  have : a ≠ D := fun e => by
    subst e
    rcases hu with hu | hu
    · exact hu h0
    · rw [hD] at h; cases h; exact hu _ rfl
  rw [upd_ne this]
  exact h) h
theorem cnt_pos {g : Gm} {rk : Str → Nat} (T : Tree g rk) (o : Bool) : ∀ q ∈ g, 0 < cnt o q.2 := fun q hq => by
  have hl := look_of T.nd hq
  obtain ⟨n, p⟩ := q
  cases p with
  | mv o' ms =>
    show 0 < (if o' = o then ms.length else 1)
    obtain ⟨h1, _⟩ := T.mv n o' ms hl
    split
    · exact List.length_pos_iff.mpr h1
    · exact Nat.one_pos
  | chance ls => exact Nat.one_pos
  | fin t b => exact Nat.one_pos
def sideB (o : Bool) : Pl → Bool
  | .mv o' _ => decide (o' = o)
  | _ => false
theorem eq_side (p : Pl) (o : Bool) : decide (V.str (word p) = V.str (side o)) = sideB o p := by
  have d1 : decide (V.str "ours" = V.str "theirs") = false := by decide +kernel
  have d2 : decide (V.str "theirs" = V.str "ours") = false := by decide +kernel
  cases p with
  | mv o' ms =>
    cases o' <;> cases o
    · exact decide_eq_true rfl
    · exact d2
    · exact d1
    · exact decide_eq_true rfl
  | chance ls =>
    cases o
    · show decide (V.str "chance" = V.str "theirs") = false; decide +kernel
    · show decide (V.str "chance" = V.str "ours") = false; decide +kernel
  | fin t b =>
    cases o
    · show decide (V.str "end" = V.str "theirs") = false; decide +kernel
    · show decide (V.str "end" = V.str "ours") = false; decide +kernel
theorem take_flat {n : Str} {ms : List (Str × Str)} {pls : List Plan} {j : Nat} {pl : Plan} (h : pls[j]? = some pl) : (pls.take (j + 1)).flatMap (ext n ms) = (pls.take j).flatMap (ext n ms) ++ ext n ms pl := by
  rw [take_snoc h, List.flatMap_append]
  simp
theorem mvKv_snoc (pl : Plan) (n m : Str) : mvKv (pl ++ [(n, m)]) = mvKv pl ++ [(Sum.inr n, V.str m)] := by unfold mvKv; rw [List.map_append]; rfl

section
variable {P : Program} {w : World} {K : PySem.W.Frag} {mg : Str → Option Value} {base : Heap}
def spPlans : Sp := fun vs H Q _ => ∃ (d : Addr) (g : Gm) (rk : Str → Nat) (o : Bool), vs = [.ref d, .str (side o)] ∧ GmAt H d g ∧ GOk g rk ∧
  ∀ l H' as pls, Same H H' → H l = none → H' l = some (.lst as) → Paired (DA H H') as pls → (pls = [] ∨ pls = allPl o g) → pls.length ≤ 200 → Q (.ref l) H'
theorem sc_law_t_plans : FnScope ["_law_game", "_law_side", "_law_found", "_law_many", "_law_name", "_law_longer", "_law_plan", "_law_move", "_law_more"] ["_law_game", "_law_side"] (defScope (top 44)) :=
  ⟨rfl, rfl, rfl, by decide +kernel, rfl, by decide +kernel, by decide +kernel⟩
theorem ok_law_t_plans {f : Addr} {fd : FuncData} (F : Fun K "_law_t_plans" "_law_t_plans" (top 44) f fd) (B : Bi mg) : FnOk P w K mg base CX0 1 f fd ["_law_game", "_law_side"] spPlans := by
  refine F.ok sc_law_t_plans (fun vs H Q E h => ?_) (fun cdv A outer s H vs Q E hr h => ?_)
  · obtain ⟨d, g, rk, o, rfl, _⟩ := h
    rfl
  · obtain ⟨d, g, rk, o, rfl, ⟨kvs, hd, hg⟩, G, k⟩ := h
    refine ⟨_, (pss_cons (ps_par (i := 2) (j := 3) rfl sc_law_t_plans.nd rfl rfl (by decide) rfl rfl (pa_cons (pe_lst (pa_cons pe_dnewK pa_nil)) (pa_cons pe_int pa_nil)) (by rfl))
      (pss_cons (ps_lock (ps_for PassesOwn.never rfl (pi_keys (pv 0)) (pg_name (i := 4) sc_law_t_plans.nd rfl (Or.inl rfl))
      (pss_one (ps_set (i := 3) sc_law_t_plans.nd rfl (Or.inl rfl) (pe_op op_mul (pv 3) (pe_ifExp (pt_cmpR op_eq (pe_ix ix_tup (pe_dget (hu_of hr) (pv 0) (pv 4) (fun _ _ => rfl)) pe_int (fun _ _ => rfl)) (pv 1) (nomark _)) (pe_callB call_lenR (by rfl) B.len_ bt_len (pa_cons (pe_ix ix_tup (pe_dget (hu_of hr) (pv 0) (pv 4) (fun _ _ => rfl)) pe_int (fun _ _ => rfl)) pa_nil)) pe_int))))))
      (pss_cons (ps_lock (ps_for PassesOwn.never rfl (pi_keys (pv 0)) (pg_name (i := 4) sc_law_t_plans.nd rfl (Or.inl rfl))
      (pss_one (ps_if (pw_and (pt_cmpR op_eq (pe_ix ix_tup (pe_dget (hu_of hr) (pv 0) (pv 4) (fun _ _ => rfl)) pe_int (fun _ _ => rfl)) (pv 1) (nomark _)) (pw_and1 (pt_cmpR op_le (pv 3) pe_int (nomark _)))).pt (pss_cons (ps_set (i := 5) sc_law_t_plans.nd rfl (Or.inl rfl) (pe_lst pa_nil))
      (pss_cons (ps_for PassesOwn.never rfl (pi_list (pv 2)) (pg_name (i := 6) sc_law_t_plans.nd rfl (Or.inl rfl))
      (pss_one (ps_lock (ps_for PassesOwn.never rfl (pi_keys (pe_ix ix_tup (pe_dget (hu_of hr) (pv 0) (pv 4) (fun _ _ => rfl)) pe_int (fun _ _ => rfl))) (pg_name (i := 7) sc_law_t_plans.nd rfl (Or.inl rfl))
      (pss_cons (ps_set (i := 8) sc_law_t_plans.nd rfl (Or.inl rfl) (pe_callTy call_dictD (by rfl) B.dict_ bt_dict (pa_cons (pv 6) pa_nil)))
      (pss_cons (ps_dput (hu_of hr) (pv 8) (pv 4) (pv 7) rfl)
      (pss_one (ps_expr (pe_bm PySem.F.plainAttrs_list PySem.F.slot_list_append PySem.F.type_list_append mt_append (pv 5) (pa_cons (pv 8) pa_nil))))))))))
      (pss_one (ps_set (i := 2) sc_law_t_plans.nd rfl (Or.inl rfl) (pv 5))))) pss_nil))))
      (pss_one (ps_ret (pe_ifExp (pt_cmpR op_le (pv 3) pe_int (nomark _)) (pv 2) (pe_lst pa_nil))))))), ?_⟩
    have l9 := G.tree.le
    have lk := hg.length
    have cp := cnt_pos G.tree o
    intro e he
    refine ⟨by show 1 ≤ sizeLine; decide, fun fl hfl => ⟨_, _, rfl, ?_⟩⟩
    have nef : e ≠ fl := fun z => by rw [← z, upd_same] at hfl; cases hfl
    have s1 : Same H (upd (upd H e (.dK [])) fl (.lst [.ref e])) := (same_upd he).trans (same_upd hfl)
    have fl0 : H fl = none := by rw [upd_ne (Ne.symm nef)] at hfl; exact hfl
    have hfl1 : upd (upd H e (.dK [])) fl (.lst [.ref e]) fl = some (.lst [.ref e]) := upd_same
    have da1 : Paired (DA H (upd (upd H e (.dK [])) fl (.lst [.ref e]))) [.ref e] [[]] := .cons ⟨e, rfl, he, by rw [upd_ne nef]; exact upd_same⟩ .nil
    generalize upd (upd H e (.dK [])) fl (.lst [.ref e]) = H1 at s1 hfl1 da1
    have hd1 := s1 _ _ hd
    -- how many
    refine ⟨d, _, hd1, mut_dK, fun od => ?_⟩
    have hd2 : upd H1 d (.frz od (.dK kvs)) d = some (.frz od (.dK kvs)) := upd_same
    have hg2 := (hg.mono s1).lock (o := .frz od (.dK kvs)) hd1 G.ne
    generalize eH2 : upd H1 d (.frz od (.dK kvs)) = H2 at *
    refine ⟨_, rfl, d, od, rfl, .inl ⟨_, hd2, forg (n := kvs.length) (fun i σ H' => ∃ y, σ = [some (.ref d), some (.str (side o)), some (.ref fl), some (.int (prd o (g.take i) : Nat)), y, none, none, none, none] ∧ H' = H2) ⟨none, rfl, rfl⟩ (fun i σ H' hi ⟨_, _, e⟩ => e ▸ ⟨hd2, hi⟩) (fun σ H' ⟨_, _, e⟩ => e ▸ ⟨hd2, Nat.le_refl _⟩) ?_ ?_⟩⟩
    · rintro i xv σ H3 H4 hi ⟨y, rfl, rfl⟩ ⟨rfl, ky, u, hkv, rfl⟩
      obtain ⟨q, hq, rfl, hp⟩ := gm_at hg2 hkv
      have hql : look g q.1 = some q.2 := look_of G.tree.nd (List.mem_of_getElem? hq)
      obtain ⟨v, e1, e2⟩ := (gm_look hg2).1 _ hql
      obtain ⟨t, r, rfl, ht, hr'⟩ := id e2
      have rdd : Rd H4 d (.dK kvs) := .inr ⟨od, hd2⟩
      refine ⟨_, rfl, _, rfl, _, rfl, d, _, rfl, dgetS rdd e1, t, _, _, _, rfl, rfl, SqT.of ht, at0 rfl, _, rfl, rfl, _, rfl, ?_⟩
      rw [eq_side]
      have fin : ∀ c : Nat, c = cnt o q.2 → ∃ y, ([some (.ref d), some (.str (side o)), some (.ref fl), some (.int ((prd o (g.take i) : Nat) * (c : Int))), some (.str q.1), none, none, none, none] : L2.St) = [some (.ref d), some (.str (side o)), some (.ref fl), some (.int (prd o (g.take (i + 1)) : Nat)), y, none, none, none, none] ∧ H4 = H4 := fun c hc => by
        have e3 : ((prd o (g.take i) : Nat) : Int) * (c : Int) = ((prd o (g.take (i + 1)) : Nat) : Int) := by rw [take_snoc hq, prd_snoc, ← hc, Int.natCast_mul]
        rw [e3]
        exact ⟨_, rfl, rfl⟩
      obtain ⟨n, p⟩ := q
      cases p with
      | mv o' ms =>
        by_cases eo : o' = o
        · obtain ⟨m1, m2, m3⟩ := G.tree.mv n o' ms hql
          rw [show sideB o (n, Pl.mv o' ms).2 = true from decide_eq_true eo]
          have hr2 : H4 r = some (.dK (mvKv ms)) := hr'
          refine iteT ⟨_, rfl, _, rfl, d, _, rfl, dgetS rdd e1, t, _, _, _, rfl, rfl, SqT.of ht, at1 rfl, r, _, rfl, .inl hr2, _, _, rfl, rfl, .inr ⟨by rw [mvKv_len]; omega, by rw [mvKv_len]; omega⟩, ?_⟩
          refine fin _ ?_
          rw [mvKv_len]
          show ms.length = if o' = o then ms.length else 1
          rw [if_pos eo]
        · rw [show sideB o (n, Pl.mv o' ms).2 = false from decide_eq_false eo]
          refine iteF ⟨_, _, rfl, rfl, .inr ⟨by decide, by decide⟩, fin 1 ?_⟩
          show 1 = if o' = o then ms.length else 1
          rw [if_neg eo]
      | chance ls => exact iteF ⟨_, _, rfl, rfl, .inr ⟨by decide, by decide⟩, fin 1 rfl⟩
      | fin t b => exact iteF ⟨_, _, rfl, rfl, .inr ⟨by decide, by decide⟩, fin 1 rfl⟩
    · rintro σ H3 ⟨y, rfl, rfl⟩
      refine ⟨hd2, ?_⟩
      have sU : Same H1 (upd H3 d (.dK kvs)) := by subst eH2; exact same_unlock hd1 (Same.refl _)
      rw [lk, List.take_length]
      have s4 := s1.trans sU
      have hfl4 := sU _ _ hfl1
      have da4 := das_mono da1 sU
      generalize upd H3 d (.dK kvs) = H4 at sU s4 hfl4 da4
      clear hd2 hg2 eH2 sU hfl1 da1 hd1 s1
      have hd4 := s4 _ _ hd
      -- the plans
      refine ⟨d, _, hd4, mut_dK, fun od2 => ?_⟩
      have hd5 : upd H4 d (.frz od2 (.dK kvs)) d = some (.frz od2 (.dK kvs)) := upd_same
      have hg5 := (hg.mono s4).lock (o := .frz od2 (.dK kvs)) hd4 G.ne
      have da5 : Paired (DA H (upd H4 d (.frz od2 (.dK kvs)))) [.ref e] [[]] := das_off hd4 (.inl (by rw [hd]; exact fun z => nomatch z)) da4
      have hfl5 : upd H4 d (.frz od2 (.dK kvs)) fl = some (.lst [.ref e]) := upd_off hd4 hfl4 (fun z => nomatch z)
      -- what is new since H and what was there
      have fresh : ∀ {X : Hp} {a : Addr}, Same (upd H d (.frz od2 (.dK kvs))) X → X a = none → H a = none := fun {X a} sX ha => by
        cases q : H a with
        | none => rfl
        | some o =>
          by_cases had : a = d
          · subst had
            rw [sX _ _ upd_same] at ha
            cases ha
          · rw [sX a o (by rw [upd_ne had]; exact q)] at ha
            cases ha
      have sL : Same (upd H d (.frz od2 (.dK kvs))) (upd H4 d (.frz od2 (.dK kvs))) := fun b o hb => by
        by_cases hbd : b = d
        · subst hbd
          rw [upd_same] at hb ⊢
          exact hb
        · rw [upd_ne hbd] at hb ⊢
          exact s4 _ _ hb
      have hdL : upd H d (.frz od2 (.dK kvs)) d = some (.frz od2 (.dK kvs)) := upd_same
      have hgL := hg.lock (o := .frz od2 (.dK kvs)) hd G.ne
      generalize eHL : upd H d (.frz od2 (.dK kvs)) = HL at *
      generalize upd H4 d (.frz od2 (.dK kvs)) = H5 at *
      refine ⟨_, rfl, d, od2, rfl, .inl ⟨_, hd5, forg (n := kvs.length) (fun i σ H' => ∃ l as pls a b c f g', σ = [some (.ref d), some (.str (side o)), some (.ref l), some (.int (prd o g : Nat)), a, b, c, f, g'] ∧ Same HL H' ∧ H l = none ∧ H' l = some (.lst as) ∧ Paired (DA H H') as pls ∧ (prd o g ≤ 200 → pls = allPl o (g.take i)))
        ⟨fl, _, _, _, _, _, _, _, rfl, sL, fl0, hfl5, da5, fun _ => rfl⟩ (fun i σ H' hi ⟨_, _, _, _, _, _, _, _, _, s, _⟩ => ⟨s _ _ hdL, hi⟩) (fun σ H' ⟨_, _, _, _, _, _, _, _, _, s, _⟩ => ⟨s _ _ hdL, Nat.le_refl _⟩) ?_ ?_⟩⟩
      · clear hfl4 da4 hfl5 da5 hd5 hg5 sL
        rintro i xv σ H6 H7 hi ⟨l, as, pls, a, b, c, f, g', rfl, s6, l0, hl6, da6, hpls⟩ ⟨rfl, ky, u, hkv, rfl⟩
        obtain ⟨q, hq, rfl, hp⟩ := gm_at hgL hkv
        have hql : look g q.1 = some q.2 := look_of G.tree.nd (List.mem_of_getElem? hq)
        obtain ⟨v, e1, e2⟩ := (gm_look hgL).1 _ hql
        obtain ⟨t, r, rfl, ht, hr'⟩ := id e2
        have rdd : Rd H7 d (.dK kvs) := .inr ⟨od2, s6 _ _ hdL⟩
        refine ⟨_, rfl, _, rfl, d, _, rfl, dgetS rdd e1, t, _, _, _, rfl, rfl, SqT.of (s6 _ _ ht), at0 rfl, _, rfl, rfl, _, rfl, ?_⟩
        rw [eq_side]
        have same : ∀ l0', l0' = l → (prd o g ≤ 200 → stepPl o (allPl o (g.take i)) q = allPl o (g.take i)) → ∃ l as pls t1 t2 t3 t4 t5, ([some (.ref d), some (.str (side o)), some (.ref l0'), some (.int (prd o g : Nat)), some (.str q.1), b, c, f, g'] : L2.St) = [some (.ref d), some (.str (side o)), some (.ref l), some (.int (prd o g : Nat)), t1, t2, t3, t4, t5] ∧ Same HL H7 ∧ H l = none ∧ H7 l = some (.lst as) ∧ Paired (DA H H7) as pls ∧ (prd o g ≤ 200 → pls = allPl o (g.take (i + 1))) := fun l0' el hs => by
          subst el
          refine ⟨l0', as, pls, _, _, _, _, _, rfl, s6, l0, hl6, da6, fun h => ?_⟩
          rw [take_snoc hq, allPl_snoc, hs h]
          exact hpls h
        obtain ⟨n, p⟩ := q
        cases p with
        | chance ls => exact iteF (iteF (same l rfl fun _ => rfl))
        | fin x y => exact iteF (iteF (same l rfl fun _ => rfl))
        | mv o' ms =>
          by_cases eo : o' = o
          case neg =>
            rw [show sideB o (n, Pl.mv o' ms).2 = false from decide_eq_false eo]
            exact iteF (iteF (same l rfl fun _ => if_neg eo))
          subst eo
          rw [show sideB o' (n, Pl.mv o' ms).2 = true from decide_eq_true rfl]
          refine iteT ⟨_, rfl, _, _, rfl, rfl, _, rfl, ?_⟩
          by_cases h200 : prd o' g ≤ 200
          case neg =>
            rw [decide_eq_false (by omega)]
            exact iteF (same l rfl fun h => absurd h h200)
          rw [decide_eq_true (by omega)]
          have hpls := hpls h200
          obtain ⟨m1, m2, m3⟩ := G.tree.mv n o' ms hql
          have hrL : HL r = some (.dK (mvKv ms)) := hr'
          have nrd : r ≠ d := ne_of hrL hdL (fun z => nomatch z)
          have hrH : H r ≠ none := fun z => by
            have q1 := hrL
            rw [← eHL, upd_ne nrd, z] at q1
            cases q1
          have plen : pls.length ≤ 200 := by
            rw [hpls]
            unfold allPl
            rw [allPl_len]
            have := prd_take cp i
            show 1 * _ ≤ 200
            omega
          have hkn : n ∉ (g.take i).map (·.1) := by
            rw [List.map_take]
            exact nodup_take G.tree.nd (lst_keys hq)
          have hgood : ∀ pl ∈ pls, n ∉ pl.map (·.1) := fun pl hpl hn => by
            rw [hpls] at hpl
            have nd : ((([] : Gm) ++ g.take i).map (·.1)).Nodup := by
              rw [List.nil_append, List.map_take]
              exact List.Sublist.nodup (List.take_sublist _ _) G.tree.nd
            have := (all_good o' (g.take i) [] [[]] nd (fun pl hp => by rw [List.mem_singleton] at hp; rw [hp]; exact good_nil o') pl hpl).1 n hn
            rw [List.nil_append] at this
            exact hkn this
          have flen : ∀ j, j ≤ pls.length → ((pls.take j).flatMap (ext n ms)).length ≤ 600 := fun j hj => by
            rw [flat_len, List.length_take]
            calc (min j pls.length) * ms.length ≤ 200 * 3 := Nat.mul_le_mul (by omega) m2
              _ = 600 := rfl
          refine iteT ⟨Nat.zero_le _, fun lg hlg => ?_⟩
          have lg0 : H lg = none := fresh s6 hlg
          have s8 := s6.trans (same_upd (o := .lst []) hlg)
          have nll : l ≠ lg := ne_of_none hl6 hlg
          have hl8 : upd H7 lg (.lst []) l = some (.lst as) := by rw [upd_ne nll]; exact hl6
          have da8 := das_mono da6 (same_upd (o := .lst []) hlg)
          have hlg8 : upd H7 lg (.lst []) lg = some (.lst []) := upd_same
          generalize upd H7 lg (.lst []) = H8 at s8 hl8 da8 hlg8
          have las := da8.length
          refine ⟨_, rfl, l, rfl, ⟨_, SqL.of hl8⟩, for_list (xs := as) (fun j σ H' => ∃ b c f, σ = [some (.ref d), some (.str (side o')), some (.ref l), some (.int (prd o' g : Nat)), some (.str n), some (.ref lg), b, c, f] ∧ Same HL H' ∧ H' l = some (.lst as) ∧ Paired (DA H H') as pls ∧ ∃ bs, H' lg = some (.lst bs) ∧ Paired (DA H H') bs ((pls.take j).flatMap (ext n ms)))
            ⟨_, _, _, rfl, s8, hl8, da8, [], hlg8, .nil⟩ (fun j σ H' _ ⟨_, _, _, _, _, h, _⟩ => SqL.of h) ?_ ?_⟩
          · rintro j xv σ H9 hj ⟨b, c, f, rfl, s9, hl9, da9, bs, hlg9, db9⟩
            obtain ⟨pl, hpl, pa, rfl, pa0, hpa⟩ := Paired.nth da9 hj
            have hplm := List.mem_of_getElem? hpl
            have hjl : j < pls.length := (List.getElem?_eq_some_iff.mp hpl).1
            have hr9 := s9 _ _ hrL
            refine ⟨r, _, hr9, mut_dK, fun od3 => ?_⟩
            have hrR : upd HL r (.frz od3 (.dK (mvKv ms))) r = some (.frz od3 (.dK (mvKv ms))) := upd_same
            have sR : Same (upd HL r (.frz od3 (.dK (mvKv ms)))) (upd H9 r (.frz od3 (.dK (mvKv ms)))) := fun b o hb => by
              by_cases hbr : b = r
              · subst hbr
                rw [upd_same] at hb ⊢
                exact hb
              · rw [upd_ne hbr] at hb ⊢
                exact s9 _ _ hb
            have freshR : ∀ {X : Hp} {a : Addr}, Same (upd HL r (.frz od3 (.dK (mvKv ms)))) X → X a = none → H a = none := fun {X a} sX ha => by
              cases q : H a with
              | none => rfl
              | some o =>
                by_cases har : a = r
                · subst har
                  rw [sX _ _ upd_same] at ha
                  cases ha
                · by_cases had : a = d
                  · subst had
                    rw [sX a _ (by rw [upd_ne har]; exact hdL)] at ha
                    cases ha
                  · rw [sX a o (by rw [upd_ne har, ← eHL, upd_ne had]; exact q)] at ha
                    cases ha
            have hdR : Rd (upd HL r (.frz od3 (.dK (mvKv ms)))) d (.dK kvs) := .inr ⟨od2, by rw [upd_ne (Ne.symm nrd)]; exact hdL⟩
            have htR : upd HL r (.frz od3 (.dK (mvKv ms))) t = some _ := upd_off hrL ht (fun z => nomatch z)
            have hl10 : upd H9 r (.frz od3 (.dK (mvKv ms))) l = some (.lst as) := upd_off hr9 hl9 (fun z => nomatch z)
            have hlg10 : upd H9 r (.frz od3 (.dK (mvKv ms))) lg = some (.lst bs) := upd_off hr9 hlg9 (fun z => nomatch z)
            have da10 : Paired (DA H (upd H9 r (.frz od3 (.dK (mvKv ms))))) as pls := das_off hr9 (.inl hrH) da9
            have db10 : Paired (DA H (upd H9 r (.frz od3 (.dK (mvKv ms))))) bs _ := das_off hr9 (.inl hrH) db9
            have hpa10 : upd H9 r (.frz od3 (.dK (mvKv ms))) pa = some (.dK (mvKv pl)) := by
              rw [upd_ne (fun z => hrH (by rw [← z]; exact pa0))]
              exact hpa
            generalize eHR : upd HL r (.frz od3 (.dK (mvKv ms))) = HR at *
            generalize upd H9 r (.frz od3 (.dK (mvKv ms))) = H10 at *
            refine ⟨_, rfl, _, rfl, d, _, rfl, dgetS (rd_same sR hdR) e1, t, _, _, _, rfl, rfl, SqT.of (sR _ _ htR), at1 rfl, r, od3, rfl, .inl ⟨_, sR _ _ hrR, forg (n := (mvKv ms).length) (fun k σ H' => ∃ c f, σ = [some (.ref d), some (.str (side o')), some (.ref l), some (.int (prd o' g : Nat)), some (.str n), some (.ref lg), some (.ref pa), c, f] ∧ Same HR H' ∧ H' l = some (.lst as) ∧ Paired (DA H H') as pls ∧ H' pa = some (.dK (mvKv pl)) ∧ ∃ bs, H' lg = some (.lst bs) ∧ Paired (DA H H') bs ((pls.take j).flatMap (ext n ms) ++ ext n (ms.take k) pl))
              ⟨_, _, rfl, sR, hl10, da10, hpa10, bs, hlg10, by simpa [ext] using db10⟩ (fun k σ H' hk ⟨_, _, _, s, _⟩ => ⟨s _ _ hrR, hk⟩) (fun σ H' ⟨_, _, _, s, _⟩ => ⟨s _ _ hrR, Nat.le_refl _⟩) ?_ ?_⟩⟩
            · clear hl10 hlg10 da10 db10 hpa10 sR
              rintro kk xv σ H11 H12 hkk ⟨c, f, rfl, s11, hl11, da11, hpa11, bs, hlg11, db11⟩ ⟨rfl, ky, vv, hkv2, rfl⟩
              obtain ⟨m, hm, rfl, rfl⟩ := mvKv_at hkv2
              have hmk : kk < ms.length := (List.getElem?_eq_some_iff.mp hm).1
              refine ⟨_, rfl, pa, _, rfl, .inl hpa11, fun e' he' => ?_⟩
              have e0 : H e' = none := freshR s11 he'
              have sE := same_upd (o := .dK (mvKv pl)) he'
              have pll : (mvKv pl).length < sizeLine := by
                rw [mvKv_len]
                have g1 : pl ∈ allPl o' (g.take i) := by rw [← hpls]; exact hplm
                have : pl.length ≤ 100 := by
                  have key : ∀ (h : Gm) (acc : List Plan) (b : Nat), (∀ x ∈ acc, x.length ≤ b) → ∀ x ∈ h.foldl (stepPl o') acc, x.length ≤ b + h.length := by
                    intro h
                    induction h with
                    | nil => intro acc b hacc x hx; exact hacc x hx
                    | cons q h ih =>
                      intro acc b hacc x hx
                      have := ih (stepPl o' acc q) (b + 1) (fun y hy => ?_) x hx
                      · show x.length ≤ b + (h.length + 1)
                        omega
                      · obtain ⟨n1, p1⟩ := q
                        cases p1 with
                        | chance ls => have := hacc y hy; omega
                        | fin t b' => have := hacc y hy; omega
                        | mv o1 ms1 =>
                          have hy : y ∈ (if o1 = o' then acc.flatMap (ext n1 ms1) else acc) := hy
                          split at hy
                          · obtain ⟨z, hz, hz2⟩ := List.mem_flatMap.mp hy
                            obtain ⟨mm, _, rfl⟩ := List.mem_map.mp hz2
                            have := hacc z hz
                            rw [List.length_append]
                            simp
                            omega
                          · have := hacc y hy; omega
                  have := key (g.take i) [[]] 0 (fun x hx => by rw [List.mem_singleton] at hx; rw [hx]; exact Nat.le_refl _) pl g1
                  have l2 : (g.take i).length ≤ g.length := by rw [List.length_take]; omega
                  omega
                exact sz_lt (by omega)
              have hno : valV (mvKv pl) (Sum.inr n) = none := by rw [mv_look, look_none (hgood pl hplm)]; rfl
              have hput : putK (mvKv pl) (Sum.inr n) (.str m.1) = mvKv (pl ++ [(n, m.1)]) := by rw [putK_new _ hno, mvKv_snoc]
              refine ⟨_, rfl, _, rfl, _, rfl, e', _, rfl, DPut.k (k := Sum.inr n) (v := V.str m.1) upd_same pll, ?_⟩
              rw [upd_upd, hput]
              have sE2 := same_upd (o := .dK (mvKv (pl ++ [(n, m.1)]))) he'
              have nlge : lg ≠ e' := ne_of_none hlg11 he'
              have hlg12 : upd H12 e' (.dK (mvKv (pl ++ [(n, m.1)]))) lg = some (.lst bs) := sE2 _ _ hlg11
              have lbs : bs.length < sizeLine := by
                have := db11.length
                rw [List.length_append] at this
                have f1 := flen j (by omega)
                have e5 : (ext n (ms.take kk) pl).length = min kk ms.length := by unfold ext; rw [List.length_map, List.length_take]
                rw [e5] at this
                exact sz_lt (by omega)
              refine ⟨_, rfl, .inl ⟨rfl, _, SqL.of hlg12⟩, _, rfl, lg, _, _, rfl, rfl, hlg12, lbs, ?_⟩
              have dnew : DA H (upd H12 e' (.dK (mvKv (pl ++ [(n, m.1)])))) (.ref e') (pl ++ [(n, m.1)]) := ⟨e', rfl, e0, upd_same⟩
              have lgHR : HR lg = none := by
                cases q : HR lg with
                | none => rfl
                | some o =>
                  exfalso
                  by_cases h1 : lg = r
                  · rw [h1] at lg0; exact hrH lg0
                  · rw [← eHR, upd_ne h1, ← eHL] at q
                    by_cases h2 : lg = d
                    · rw [h2] at lg0; rw [lg0] at hd; cases hd
                    · rw [upd_ne h2, lg0] at q; cases q
              refine ⟨_, _, rfl, same_mut (s11.trans sE2) lgHR, ?_, das_off hlg12 (.inr fun _ z => nomatch z) (das_mono da11 sE2), ?_, bs ++ [.ref e'], upd_same, ?_⟩
              · rw [upd_ne nll]
                exact sE2 _ _ hl11
              · rw [upd_ne (ne_of hpa11 hlg11 (fun z => nomatch z))]
                exact sE2 _ _ hpa11
              · have e3 : ext n (ms.take (kk + 1)) pl = ext n (ms.take kk) pl ++ [pl ++ [(n, m.1)]] := by
                  unfold ext
                  rw [take_snoc hm, List.map_append]
                  rfl
                rw [e3, ← List.append_assoc]
                have := das_off (o := .lst (bs ++ [.ref e'])) hlg12 (.inr fun _ z => nomatch z) (PySem.Paired.snoc (das_mono db11 sE2) dnew)
                exact this
            · rintro σ H11 ⟨c, f, rfl, s11, hl11, da11, hpa11, bs, hlg11, db11⟩
              refine ⟨s11 _ _ hrR, ?_⟩
              have sU2 : Same HL (upd H11 r (.dK (mvKv ms))) := by subst eHR; exact same_unlock hrL s11
              have hr11 := s11 _ _ hrR
              refine ⟨_, _, _, rfl, sU2, upd_off hr11 hl11 (fun z => nomatch z), das_off hr11 (.inl hrH) da11, bs, upd_off hr11 hlg11 (fun z => nomatch z), ?_⟩
              rw [take_flat hpl]
              have e4 : ms.take (mvKv ms).length = ms := by rw [mvKv_len, List.take_length]
              rw [e4] at db11
              exact das_off hr11 (.inl hrH) db11
          · rintro σ H9 ⟨b, c, f, rfl, s9, hl9, da9, bs, hlg9, db9⟩
            refine ⟨_, rfl, lg, bs, _, _, _, _, _, _, rfl, s9, lg0, hlg9, db9, fun _ => ?_⟩
            rw [las, List.take_length, take_snoc hq, allPl_snoc, hpls]
            show _ = if o' = o' then _ else _
            rw [if_pos rfl]
      · rintro σ H6 ⟨l, as, pls, a, b, c, f, g', rfl, s6, l0, hl6, da6, hpls⟩
        have hd6 := s6 _ _ hdL
        refine ⟨hd6, ?_⟩
        have sU : Same H (upd H6 d (.dK kvs)) := by subst eHL; exact same_unlock hd s6
        have hl7 : upd H6 d (.dK kvs) l = some (.lst as) := upd_off hd6 hl6 (fun z => nomatch z)
        have da7 : Paired (DA H (upd H6 d (.dK kvs))) as pls := das_off hd6 (.inl (by rw [hd]; exact fun z => nomatch z)) da6
        generalize upd H6 d (.dK kvs) = H7 at sU hl7 da7
        refine ⟨_, rfl, _, _, rfl, rfl, _, rfl, ?_⟩
        by_cases h200 : prd o g ≤ 200
        · rw [decide_eq_true (by omega)]
          have e1 := hpls h200
          rw [lk, List.take_length] at e1
          refine iteT ⟨_, rfl, k l H7 as pls sU l0 hl7 da7 (.inr e1) ?_⟩
          rw [e1]
          unfold allPl
          rw [allPl_len]
          show 1 * _ ≤ 200
          omega
        · rw [decide_eq_false (by omega)]
          refine iteF ⟨Nat.zero_le _, fun z hz => k z _ [] [] (sU.trans (same_upd hz)) (sU.free hz) upd_same .nil (.inl rfl) (Nat.zero_le _)⟩
end
end Gw
end

section
set_option Elab.async false
set_option linter.all false
set_option maxRecDepth 100000
set_option maxHeartbeats 4000000
/-! walks: the draws -/
namespace Gw
open PySem PySem.Spec PyProof.Rows L2
open C8 (Cal Mak Met pe_c pe_mk pe_mt pe_mt0 pe_gc)
open RZ (pi_zipA ItzT)

/-- what is drawn changes the spring and its cells alone -/
structure Drw (st c : Addr) (H H' : Hp) : Prop where
  off : ∀ b o, b ≠ st → b ≠ c → H b = some o → H' b = some o
  dom : ∀ b, H b ≠ none → H' b ≠ none
theorem Drw.refl {st c : Addr} {H : Hp} : Drw st c H H := ⟨fun _ _ _ _ h => h, fun _ h => h⟩
theorem Drw.trans {st c : Addr} {H H1 H2 : Hp} (a : Drw st c H H1) (b : Drw st c H1 H2) : Drw st c H H2 := ⟨fun x o h1 h2 h => b.off x o h1 h2 (a.off x o h1 h2 h), fun x h => b.dom x (a.dom x h)⟩
theorem Drw.of {st c : Addr} {H H' : Hp} (s : Same H H') : Drw st c H H' := ⟨fun b o _ _ h => s b o h, fun b h => by
  cases e : H b with
  | none => exact absurd e h
  | some o => rw [s b o e]; exact fun z => nomatch z⟩
theorem Drw.st {st c : Addr} {H : Hp} {o : HO} : Drw st c H (upd H st o) := ⟨fun b u h1 _ h => by rw [upd_ne h1]; exact h, fun b h => by
  by_cases e : b = st
  · subst e; rw [upd_same]; exact fun z => nomatch z
  · rw [upd_ne e]; exact h⟩
theorem Drw.cl {st c : Addr} {H : Hp} {o : HO} : Drw st c H (upd H c o) := ⟨fun b u _ h2 h => by rw [upd_ne h2]; exact h, fun b h => by
  by_cases e : b = c
  · subst e; rw [upd_same]; exact fun z => nomatch z
  · rw [upd_ne e]; exact h⟩
theorem Drw.free {st c : Addr} {H H' : Hp} (d : Drw st c H H') {a : Addr} (h : H' a = none) : H a = none := by
  cases e : H a with
  | none => rfl
  | some o => exact absurd h (d.dom a (by rw [e]; exact fun z => nomatch z))
/-- a spring of draws, n drawn at most -/
def Stm (H : Hp) (st c : Addr) (n : Nat) : Prop := ∃ (cells : List Int) (s1 s2 s3 : Int), H st = some (.lst [.ref c, .int s1, .int s2, .int s3]) ∧ H c = some (.lst (cells.map V.int)) ∧ 0 ≤ s1 ∧ 0 ≤ s2 ∧ s2 ≤ n ∧ 0 ≤ s3 ∧ s3 < 2147483647
theorem Stm.ne {H : Hp} {st c : Addr} {n : Nat} (h : Stm H st c n) : st ≠ c := by
  obtain ⟨cells, s1, s2, s3, h1, h2, _⟩ := h
  refine ne_of h1 h2 fun e => ?_
  injection e with e
  cases cells with
  | nil => cases e
  | cons a l =>
    have := (List.cons.inj e).1
    cases this
theorem Stm.mono {H H' : Hp} {st c : Addr} {n : Nat} (h : Stm H st c n) (s : Same H H') : Stm H' st c n := by
  obtain ⟨cells, s1, s2, s3, h1, h2, h3⟩ := h
  exact ⟨cells, s1, s2, s3, s _ _ h1, s _ _ h2, h3⟩
theorem Stm.le {H : Hp} {st c : Addr} {n m : Nat} (h : Stm H st c n) (hm : n ≤ m) : Stm H st c m := by
  obtain ⟨cells, s1, s2, s3, h1, h2, h3, h4, h5, h6⟩ := h
  exact ⟨cells, s1, s2, s3, h1, h2, h3, h4, by omega, h6⟩
theorem Stm.some1 {H : Hp} {st c : Addr} {n : Nat} (h : Stm H st c n) : H st ≠ none := by
  obtain ⟨cells, s1, s2, s3, h1, h2, h3⟩ := h
  rw [h1]; exact fun z => nomatch z
theorem Stm.some2 {H : Hp} {st c : Addr} {n : Nat} (h : Stm H st c n) : H c ≠ none := by
  obtain ⟨cells, s1, s2, s3, h1, h2, h3⟩ := h
  rw [h2]; exact fun z => nomatch z
/-- what is new since is not the spring -/
theorem Stm.new {H : Hp} {st c : Addr} {n : Nat} (h : Stm H st c n) {a : Addr} (ha : H a = none) : a ≠ st ∧ a ≠ c := ⟨fun e => h.some1 (e ▸ ha), fun e => h.some2 (e ▸ ha)⟩
theorem dpall_ints {K : PySem.W.Frag} {H : Hp} : ∀ l : List Int, DpAll K H (l.map V.int) (l.map PyData.int)
  | [] => .nil
  | x :: l => .cons (.int x) (dpall_ints l)
theorem neI {K : PySem.W.Frag} {H : Hp} {a b : Addr} {l : List Int} {Q : VK} (ha : H a = some (.lst (l.map V.int))) (hb : H b = some (.lst [])) (k : Q (.bl (!decide (l = []))) H) : rNeD K (.ref a) (.ref b) H Q := by
  refine ⟨_, _, .lst (SqL.of ha) (dpall_ints l), .lst (SqL.of hb) .nil, PySem.W.ke_shaped_ints l, PySem.W.ke_shaped_ints [], ?_⟩
  have e : PyData.eqv (.list (l.map PyData.int)) (.list []) = decide (l = []) := by
    cases l with
    | nil => simp [PyData.eqv, PyData.eqvAll]
    | cons x l => simp [PyData.eqv, PyData.eqvAll]
  rw [e]
  exact k

theorem at_upd {P : Hp → Prop} {H : Hp} {a : Addr} {o : HO} (h : ∀ X, X = upd H a o → P X) : P (upd H a o) := h _ rfl
theorem seq_ok {k : Int} {n : Nat} (h0 : 0 ≤ k) (h1 : k < n) : seqIndex? k n = some k.toNat := by
  have e : ixN n k = some k.toNat := by
    unfold ixN
    rw [if_pos h0, if_pos h1]
  exact (ixN_seq e).1
section
variable {P : Program} {w : World} {K : PySem.W.Frag} {mg : Str → Option Value} {base : Heap}
def spDraw : Sp := fun vs H Q _ => ∃ (st c : Addr) (m : Int) (n : Nat), vs = [.ref st, .int m] ∧ 1 ≤ m ∧ m ≤ 1000 ∧ n < 100000 ∧ Stm H st c n ∧ ∀ (j : Int) H', Drw st c H H' → Stm H' st c (n + 1) → 0 ≤ j → j < m → Q (.int j) H'
theorem at2 {xs : List V} {v : V} (h : xs[2]? = some v) : atI xs 2 = some v := atI_nat (j := 2) h
theorem at3 {xs : List V} {v : V} (h : xs[3]? = some v) : atI xs 3 = some v := atI_nat (j := 3) h
theorem sc_law_draw : FnScope ["_law_stream", "_law_many", "_law_cell", "_law_digit", "_law_mixed_here"] ["_law_stream", "_law_many"] (defScope (top 46)) :=
  ⟨rfl, rfl, rfl, by decide +kernel, rfl, by decide +kernel, by decide +kernel⟩
theorem ok_law_draw {f : Addr} {fd : FuncData} (F : Fun K "_law_draw" "_law_draw" (top 46) f fd) (B : Bi mg) : FnOk P w K mg base CX0 1 f fd ["_law_stream", "_law_many"] spDraw := by
  refine F.ok sc_law_draw (fun vs H Q E h => ?_) (fun cdv A outer s H vs Q E hr h => ?_)
  · obtain ⟨st, c, m, n, rfl, _⟩ := h
    rfl
  · obtain ⟨st, c, m, n, rfl, hm1, hm2, hn, hS, k⟩ := h
    refine ⟨_, (pss_cons (ps_asg (pe_op op_add (pe_ix ix_list (pv 0) pe_int (fun _ _ => rfl)) pe_int) (pg_sub (pv 0) pe_int set_list))
      (Evl.pss_cut (ps_if (pw_and (pt_cmpR op_eq (pe_ix ix_list (pv 0) pe_int (fun _ _ => rfl)) pe_int (nomark _)) (pw_and1 (pt_cmpR (op_neD hr.units) (pe_ix ix_list (pv 0) pe_int (fun _ _ => rfl)) (pe_lst pa_nil) (nomark _)))).pt (pss_cons (ps_set (i := 2) sc_law_draw.nd rfl (Or.inl rfl) (pe_bm PySem.F.plainAttrs_list PySem.F.slot_list_pop PySem.F.type_list_pop mt_popAt (pe_ix ix_list (pv 0) pe_int (fun _ _ => rfl)) (pa_cons pe_int pa_nil)))
      (pss_cons (ps_asg (pe_op op_mod (pe_callTy call_int1 (by rfl) B.int_ bt_int (pa_cons (pe_op op_add (pe_op op_add (pe_op op_mul (pe_ix ix_list (pv 0) pe_int (fun _ _ => rfl)) pe_int) (pv 2)) pe_int) pa_nil)) pe_int) (pg_sub (pv 0) pe_int set_list))
      (pss_one (ps_asg (pe_ifExp (pt_cmpR op_ge (pv 2) (pe_op op_pow pe_int pe_int) (nomark _)) (pv 2) pe_int) (pg_sub (pv 0) pe_int set_list))))) pss_nil)
      (pss_cons (ps_if (pt_cmpR op_gt (pe_ix ix_list (pv 0) pe_int (fun _ _ => rfl)) pe_int (nomark _)) (pss_cons (ps_set (i := 3) sc_law_draw.nd rfl (Or.inl rfl) (pe_op op_mod (pe_callTy call_int1 (by rfl) B.int_ bt_int (pa_cons (pe_ix ix_list (pv 0) pe_int (fun _ _ => rfl)) pa_nil)) (pv 1)))
      (pss_cons (ps_asg (pe_op op_fdiv (pe_ix ix_list (pv 0) pe_int (fun _ _ => rfl)) (pv 1)) (pg_sub (pv 0) pe_int set_list))
      (pss_one (ps_ret (pv 3))))) pss_nil)
      (pss_cons (ps_set (i := 4) sc_law_draw.nd rfl (Or.inl rfl) (pe_op op_mod (pe_callTy call_int1 (by rfl) B.int_ bt_int (pa_cons (pe_op op_pow (pe_op op_add (pe_op op_add (pe_ix ix_list (pv 0) pe_int (fun _ _ => rfl)) (pe_op op_mul pe_int (pe_ix ix_list (pv 0) pe_int (fun _ _ => rfl)))) pe_int) pe_int) pa_nil)) pe_int))
      (pss_one (ps_ret (pe_op op_mod (pe_op op_mod (pe_callTy call_int1 (by rfl) B.int_ bt_int (pa_cons (pe_op op_pow (pe_op op_add (pe_op op_add (pe_op op_mul (pv 4) pe_int) (pe_op op_mul pe_int (pe_ix ix_list (pv 0) pe_int (fun _ _ => rfl)))) pe_int) pe_int) pa_nil)) pe_int) (pv 1)))))))), ?_⟩
    have hne := hS.ne
    obtain ⟨cells, s1, s2, s3, h1, h2, b1, b2, b3, b4, b5⟩ := hS
    refine ⟨_, rfl, _, _, _, _, rfl, rfl, SqL.of h1, at2 rfl, _, _, rfl, rfl, _, rfl, ?_⟩
    refine ⟨st, _, 2, 2, rfl, rfl, h1, rfl, ?_⟩
    have d1 : Drw st c H (upd H st (.lst [.ref c, .int s1, .int (s2 + 1), .int s3])) := Drw.st
    have h1' : upd H st (.lst [.ref c, .int s1, .int (s2 + 1), .int s3]) st = some (.lst [.ref c, .int s1, .int (s2 + 1), .int s3]) := upd_same
    have h2' : upd H st (.lst [.ref c, .int s1, .int (s2 + 1), .int s3]) c = some (.lst (cells.map V.int)) := by rw [upd_ne (Ne.symm hne)]; exact h2
    show Evl.tCut _ _ _ _ (upd H st (.lst [.ref c, .int s1, .int (s2 + 1), .int s3]))
    generalize upd H st (.lst [.ref c, .int s1, .int (s2 + 1), .int s3]) = H1 at d1 h1' h2'
    clear h1 h2
    refine ⟨fun σ' H' => ∃ y cells s1 s3, σ' = [some (.ref st), some (.int m), y, none, none] ∧ Drw st c H H' ∧ H' st = some (.lst [.ref c, .int s1, .int (s2 + 1), .int s3]) ∧ H' c = some (.lst ((cells : List Int).map V.int)) ∧ 0 ≤ s1 ∧ 0 ≤ s3 ∧ s3 < 2147483647, ?_, ?_⟩
    · refine ⟨_, rfl, _, _, _, _, rfl, rfl, SqL.of h1', at1 rfl, rfl, _, rfl, ite2 (fun e0 => ?_) (fun e0 => iteF ⟨none, cells, s1, s3, rfl, d1, h1', h2', b1, b4, b5⟩)⟩
      refine ⟨_, rfl, _, _, _, _, rfl, rfl, SqL.of h1', at0 rfl, Nat.zero_le _, fun e he => ?_⟩
      have sE := same_upd (o := .lst []) he
      refine neI (sE _ _ h2') upd_same ⟨_, rfl, ?_⟩
      have d2 := d1.trans (Drw.of sE)
      have h1 := sE _ _ h1'
      have h2 := sE _ _ h2'
      generalize upd H1 e (.lst []) = H2 at d2 h1 h2
      cases cells with
      | nil => exact iteF ⟨none, [], s1, s3, rfl, d2, h1, h2, b1, b4, b5⟩
      | cons x cs =>
        refine iteT ⟨_, rfl, _, _, _, _, rfl, rfl, SqL.of h1, at0 rfl, .inl ⟨rfl, _, SqL.of h2⟩, c, _, 0, 0, .int x, rfl, rfl, h2, by decide, by decide, seq_ok (by decide) (by rw [List.length_map, List.length_cons]; omega), rfl, ?_⟩
        have h3 : upd H2 c (.lst ((((x :: cs).map V.int)).eraseIdx 0)) st = some (.lst [.ref c, .int s1, .int (s2 + 1), .int s3]) := by rw [upd_ne hne]; exact h1
        have h4 : upd H2 c (.lst ((((x :: cs).map V.int)).eraseIdx 0)) c = some (.lst (cs.map V.int)) := by rw [upd_same]; rfl
        have d3 := d2.trans (Drw.cl (st := st) (o := .lst ((((x :: cs).map V.int)).eraseIdx 0)))
        generalize upd H2 c (.lst ((((x :: cs).map V.int)).eraseIdx 0)) = H3 at d3 h3 h4
        -- stream[3]
        refine ⟨_, rfl, _, _, _, _, rfl, rfl, SqL.of h3, at3 rfl, _, _, rfl, rfl, .inl ⟨by omega, by omega⟩, _, rfl, _, _, rfl, rfl, _, _, rfl, rfl, .inl ⟨_, rfl, _, _, rfl, rfl, (by show (0 : Int) < 2147483647; decide), _, rfl, ?_⟩⟩
        refine ⟨st, _, 3, 3, rfl, rfl, h3, rfl, at_upd fun X hX => ?_⟩
        have hX : X = upd H3 st (.lst [.ref c, .int s1, .int (s2 + 1), .int ((s3 * 8191 + x + 3) % 2147483647)]) := hX
        have r0 : 0 ≤ (s3 * 8191 + x + 3) % 2147483647 := Int.emod_nonneg _ (by decide)
        have r1 : (s3 * 8191 + x + 3) % 2147483647 < 2147483647 := Int.emod_lt_of_pos _ (by decide)
        generalize (s3 * 8191 + x + 3) % 2147483647 = z3 at r0 r1 hX
        have h5 : X st = some (.lst [.ref c, .int s1, .int (s2 + 1), .int z3]) := by rw [hX]; exact upd_same
        have h6 : X c = some (.lst (cs.map V.int)) := by rw [hX, upd_ne (Ne.symm hne)]; exact h4
        have d4 : Drw st c H X := by rw [hX]; exact d3.trans (Drw.st (c := c))
        clear hX
        -- stream[1]
        have fin : ∀ z1 : Int, 0 ≤ z1 → ∃ y cells s1 s3, ([some (.ref st), some (.int m), some (.int x), none, none] : L2.St) = [some (.ref st), some (.int m), y, none, none] ∧ Drw st c H (upd X st (.lst [.ref c, .int z1, .int (s2 + 1), .int z3])) ∧ (upd X st (.lst [.ref c, .int z1, .int (s2 + 1), .int z3])) st = some (.lst [.ref c, .int s1, .int (s2 + 1), .int s3]) ∧ (upd X st (.lst [.ref c, .int z1, .int (s2 + 1), .int z3])) c = some (.lst ((cells : List Int).map V.int)) ∧ 0 ≤ s1 ∧ 0 ≤ s3 ∧ s3 < 2147483647 := fun z1 hz => ⟨_, cs, z1, z3, rfl, d4.trans Drw.st, upd_same, by rw [upd_ne (Ne.symm hne)]; exact h6, hz, r0, r1⟩
        refine ⟨_, rfl, _, _, rfl, rfl, ⟨by decide, by decide, by decide⟩, _, _, rfl, rfl, _, rfl, ite2 (fun ex => ?_) (fun ex => ?_)⟩
        · refine ⟨_, rfl, _, rfl, st, _, 1, 1, rfl, rfl, h5, rfl, fin x ?_⟩
          have := of_decide_eq_true ex
          have e10 : (0 : Int) ≤ 10 ^ (18 : Int).toNat := by decide
          omega
        · exact ⟨_, rfl, st, _, 1, 1, rfl, rfl, h5, rfl, fin 0 (Int.le_refl _)⟩
    · rintro σ' H2 ⟨y, cells, s1, s3, rfl, d2, h1, h2, b1, b4, b5⟩
      refine ⟨_, rfl, _, _, _, _, rfl, rfl, SqL.of h1, at1 rfl, _, _, rfl, rfl, _, rfl, ite2 (fun e0 => ?_) (fun e0 => ?_)⟩
      · refine ⟨_, rfl, _, _, _, _, rfl, rfl, SqL.of h1, at1 rfl, .inl ⟨_, rfl, _, rfl, _, _, rfl, rfl, (by show 0 < m; omega), ?_⟩⟩
        refine ⟨_, rfl, _, _, _, _, rfl, rfl, SqL.of h1, at1 rfl, _, rfl, _, _, rfl, rfl, ⟨by omega, by omega⟩, _, rfl, st, _, 1, 1, rfl, rfl, h1, rfl, _, rfl, ?_⟩
        refine k _ _ (d2.trans Drw.st) ⟨cells, s1 / m, s2 + 1, s3, upd_same, by rw [upd_ne (Ne.symm hne)]; exact h2, Int.ediv_nonneg b1 (by omega), by omega, by omega, b4, b5⟩ (Int.emod_nonneg _ (by omega)) (Int.emod_lt_of_pos _ (by omega))
      · refine ⟨_, rfl, _, _, _, _, rfl, rfl, SqL.of h1, at3 rfl, _, rfl, _, _, _, _, rfl, rfl, SqL.of h1, at2 rfl, _, _, rfl, rfl, .inl ⟨by decide, by decide⟩, _, _, rfl, rfl, _, _, rfl, rfl, _, _, rfl, rfl, ⟨by decide, by decide, by omega⟩, .inl ⟨_, rfl, _, _, rfl, rfl, (by show (0 : Int) < 2147483629; decide), ?_⟩⟩
        have r0 : 0 ≤ (s3 + 7919 * (s2 + 1) + 104729) ^ (5 : Int).toNat % 2147483629 := Int.emod_nonneg _ (by decide)
        have r1 : (s3 + 7919 * (s2 + 1) + 104729) ^ (5 : Int).toNat % 2147483629 < 2147483629 := Int.emod_lt_of_pos _ (by decide)
        generalize (s3 + 7919 * (s2 + 1) + 104729) ^ (5 : Int).toNat % 2147483629 = z at r0 r1
        refine ⟨_, rfl, _, _, rfl, rfl, .inl ⟨by omega, by omega⟩, _, rfl, _, _, _, _, rfl, rfl, SqL.of h1, at2 rfl, _, _, rfl, rfl, .inl ⟨by decide, by decide⟩, _, _, rfl, rfl, _, _, rfl, rfl, _, _, rfl, rfl, ⟨by decide, by decide, by omega⟩, .inl ⟨_, rfl, _, _, rfl, rfl, (by show (0 : Int) < 1000000007; decide), _, rfl, _, _, rfl, rfl, (by show 0 < m; omega), ?_⟩⟩
        exact k _ _ d2 ⟨cells, s1, s2 + 1, s3, h1, h2, b1, by omega, by omega, b4, b5⟩ (Int.emod_nonneg _ (by omega)) (Int.emod_lt_of_pos _ (by omega))
end
end Gw
end

section
set_option Elab.async false
set_option linter.all false
set_option maxRecDepth 100000
set_option maxHeartbeats 4000000
/-! walks: picks, orders, names -/
namespace Gw
open PySem PySem.Spec PyProof.Rows L2
open C8 (Cal Mak Met pe_c pe_mk pe_mt pe_mt0 pe_gc)
open RZ (pi_zipA ItzT)

theorem sz_of {n : Nat} (h : n ≤ 100000) : n ≤ sizeLine := Nat.le_trans h (by decide)
theorem map_erase (f : Str → V) : ∀ (l : List Str) (i : Nat), (l.map f).eraseIdx i = (l.eraseIdx i).map f
  | [], _ => rfl
  | _ :: _, 0 => rfl
  | a :: l, i + 1 => by
    show f a :: (l.map f).eraseIdx i = f a :: (l.eraseIdx i).map f
    rw [map_erase f l i]
theorem perm_erase : ∀ {l : List Str} {i : Nat} {x : Str}, l[i]? = some x → (x :: l.eraseIdx i).Perm l
  | [], _, _, h => by simp at h
  | a :: l, 0, x, h => by
    have e : a = x := by simpa using h
    subst e
    exact List.Perm.refl _
  | a :: l, i + 1, x, h => by
    have h2 := perm_erase (l := l) (i := i) (x := x) (by simpa using h)
    show (x :: a :: l.eraseIdx i).Perm (a :: l)
    exact (List.Perm.swap a x _).trans (h2.cons a)
theorem at_int {α : Type} {xs : List α} {j : Int} (h0 : 0 ≤ j) (h1 : j < xs.length) : ∃ v, xs[j.toNat]? = some v ∧ atI xs j = some v := by
  have e : xs[j.toNat]? = some (xs[j.toNat]'(by omega)) := List.getElem?_eq_getElem (by omega)
  refine ⟨_, e, ?_⟩
  have := atI_nat e
  rwa [Int.toNat_of_nonneg h0] at this

section
variable {P : Program} {w : World} {K : PySem.W.Frag} {mg : Str → Option Value} {base : Heap}
def spPick : Sp := fun vs H Q _ => ∃ (st c : Addr) (n : Nat), n < 100000 ∧ Stm H st c n ∧
  ((∃ (a : Addr) (xs : List V), vs = [.ref st, .ref a] ∧ H a = some (.lst xs) ∧ a ≠ st ∧ a ≠ c ∧ xs ≠ [] ∧ xs.length ≤ 1000 ∧ ∀ v ∈ xs, ∀ H', Drw st c H H' → Stm H' st c (n + 1) → Q v H') ∨
   (∃ z : Str, vs = [.ref st, .str z] ∧ 0 < z.length ∧ z.length ≤ 1000 ∧ ∀ ch ∈ z.cps.toList, ∀ H', Drw st c H H' → Stm H' st c (n + 1) → Q (.str ⟨#[ch]⟩) H'))
theorem sc_law_pick : FnScope ["_law_stream", "_law_some"] ["_law_stream", "_law_some"] (defScope (top 47)) :=
  ⟨rfl, rfl, rfl, by decide +kernel, rfl, by decide +kernel, by decide +kernel⟩
theorem ok_law_pick {f : Addr} {fd : FuncData} (F : Fun K "_law_pick" "_law_pick" (top 47) f fd) (B : Bi mg) (c_law_draw : Cal P w K mg base 1 "_law_draw" spDraw []) : FnOk P w K mg base CX0 2 f fd ["_law_stream", "_law_some"] spPick := by
  refine F.ok sc_law_pick (fun vs H Q E h => ?_) (fun cdv A outer s H vs Q E hr h => ?_)
  · obtain ⟨st, c, n, _, _, ⟨a, xs, rfl, _⟩ | ⟨z, rfl, _⟩⟩ := h
    · rfl
    · rfl
  · obtain ⟨st, c, n, hn, hS, ⟨a, xs, rfl, ha, na, nc, hne, hl, k⟩ | ⟨z, rfl, hz0, hz1, k⟩⟩ := h
    · refine ⟨_, (pss_one (ps_ret (pe_ix ix_seq (pv 1) (pe_c c_law_draw hr (by decide) (by rfl) (pa_cons (pv 0) (pa_cons (pe_callB call_lenA (by rfl) B.len_ bt_len (pa_cons (pv 1) pa_nil)) pa_nil))) (fun _ _ => rfl)))), ?_⟩
      have h0 : 0 < xs.length := List.length_pos_iff.mpr hne
      refine ⟨_, rfl, _, rfl, _, rfl, .inl ⟨a, xs, rfl, .inl (SqL.of ha), st, c, _, n, rfl, by omega, by omega, hn, hS, fun j H1 d1 S1 j0 j1 => ?_⟩⟩
      obtain ⟨v, e1, e2⟩ := at_int j0 j1
      exact .inl ⟨a, xs, j, v, rfl, rfl, SqL.of (d1.off _ _ na nc ha), e2, k v (List.mem_of_getElem? e1) H1 d1 S1⟩
    · refine ⟨_, (pss_one (ps_ret (pe_ix ix_seq (pv 1) (pe_c c_law_draw hr (by decide) (by rfl) (pa_cons (pv 0) (pa_cons (pe_callB call_lenA (by rfl) B.len_ bt_len (pa_cons (pv 1) pa_nil)) pa_nil))) (fun _ _ => rfl)))), ?_⟩
      refine ⟨_, rfl, _, rfl, _, rfl, .inr ⟨z, rfl, sz_of (by omega), st, c, _, n, rfl, by omega, by omega, hn, hS, fun j H1 d1 S1 j0 j1 => ?_⟩⟩
      have lz : z.cps.toList.length = z.length := Array.length_toList
      obtain ⟨v, e1, e2⟩ := at_int (xs := z.cps.toList) j0 (by omega)
      exact .inr (.inr ⟨z, j, v, rfl, rfl, sz_of (by omega), e2, k v (List.mem_of_getElem? e1) H1 d1 S1⟩)
def spStart : Sp := fun vs H Q _ => ∃ (a : Addr) (ns : List Int), vs = [.ref a] ∧ SqL K H a (ns.map V.int) ∧ ∀ st c H', Same H H' → Stm H' st c 0 → Q (.ref st) H'
theorem sc_law_start : FnScope ["_law_script"] ["_law_script"] (defScope (top 45)) :=
  ⟨rfl, rfl, rfl, by decide +kernel, rfl, by decide +kernel, by decide +kernel⟩
theorem ok_law_start {f : Addr} {fd : FuncData} (F : Fun K "_law_start" "_law_start" (top 45) f fd) (B : Bi mg) : FnOk P w K mg base CX0 1 f fd ["_law_script"] (spStart (K := K)) := by
  refine F.ok sc_law_start (fun vs H Q E h => ?_) (fun cdv A outer s H vs Q E hr h => ?_)
  · obtain ⟨a, ns, rfl, _⟩ := h
    rfl
  · obtain ⟨a, ns, rfl, ha, k⟩ := h
    refine ⟨_, (pss_one (ps_ret (pe_lst (pa_cons (pe_callTy call_list_of (by rfl) B.list_ bt_list (pa_cons (pv 0) pa_nil)) (pa_cons pe_int (pa_cons pe_int (pa_cons pe_int pa_nil))))))), ?_⟩
    refine ⟨_, rfl, a, _, rfl, .inl ha, fun c hc => ⟨by show 4 ≤ sizeLine; decide, fun st hst => ?_⟩⟩
    have ncs : c ≠ st := fun e => by rw [← e, upd_same] at hst; cases hst
    refine k st c _ ((same_upd hc).trans (same_upd hst)) ⟨ns, 0, 0, 11, upd_same, by rw [upd_ne ncs]; exact upd_same, by decide, by decide, by decide, by decide, by decide⟩
def spFra : Sp := fun vs H Q _ => ∃ (st c : Addr) (n : Nat), vs = [.ref st] ∧ n < 99000 ∧ Stm H st c n ∧ ∀ p H' (t b : Int), Drw st c H H' → Stm H' st c (n + 2) → H p = none → H' p = some (.tup [.int t, .int b]) → -6 ≤ t → t ≤ 6 → 1 ≤ b → b ≤ 4 → Q (.ref p) H'
theorem sc_law_t_fraction : FnScope ["_law_stream"] ["_law_stream"] (defScope (top 38)) :=
  ⟨rfl, rfl, rfl, by decide +kernel, rfl, by decide +kernel, by decide +kernel⟩
theorem ok_law_t_fraction {f : Addr} {fd : FuncData} (F : Fun K "_law_t_fraction" "_law_t_fraction" (top 38) f fd) (B : Bi mg) (c_law_draw : Cal P w K mg base 1 "_law_draw" spDraw []) : FnOk P w K mg base CX0 2 f fd ["_law_stream"] spFra := by
  refine F.ok sc_law_t_fraction (fun vs H Q E h => ?_) (fun cdv A outer s H vs Q E hr h => ?_)
  · obtain ⟨st, c, n, rfl, _⟩ := h
    rfl
  · obtain ⟨st, c, n, rfl, hn, hS, k⟩ := h
    refine ⟨_, (pss_one (ps_ret (pe_tup (pa_cons (pe_op op_sub (pe_c c_law_draw hr (by decide) (by rfl) (pa_cons (pv 0) (pa_cons pe_int pa_nil))) pe_int) (pa_cons (pe_op op_add pe_int (pe_c c_law_draw hr (by decide) (by rfl) (pa_cons (pv 0) (pa_cons pe_int pa_nil)))) pa_nil))))), ?_⟩
    refine ⟨_, rfl, st, c, _, n, rfl, by decide, by decide, by omega, hS, fun j H1 d1 S1 j0 j1 => ?_⟩
    refine ⟨_, _, rfl, rfl, _, rfl, st, c, _, n + 1, rfl, by decide, by decide, by omega, S1, fun j2 H2 d2 S2 j3 j4 => ?_⟩
    refine ⟨_, _, rfl, rfl, by show 2 ≤ sizeLine; decide, fun p hp => ?_⟩
    have d3 := d1.trans d2
    exact k p _ (j - 6) (1 + j2) (d3.trans (Drw.of (same_upd hp))) (S2.mono (same_upd hp)) (d3.free hp) upd_same (by omega) (by omega) (by omega) (by omega)
/-! ### a drawn order -/
def spMix : Sp := fun vs H Q _ => ∃ (st c a : Addr) (l : List Str) (n : Nat), vs = [.ref st, .ref a] ∧ H a = some (.lst (l.map V.str)) ∧ l.length ≤ 100 ∧ n < 99000 ∧ Stm H st c n ∧
  ∀ p H' l', Drw st c H H' → Stm H' st c (n + l.length) → H p = none → H' p = some (.lst ((l' : List Str).map V.str)) → l'.Perm l → Q (.ref p) H'
theorem sc_law_mixed : FnScope ["_law_stream", "_law_some", "_law_left", "_law_k"] ["_law_stream", "_law_some"] (defScope (top 48)) :=
  ⟨rfl, rfl, rfl, by decide +kernel, rfl, by decide +kernel, by decide +kernel⟩
theorem ok_law_mixed {f : Addr} {fd : FuncData} (F : Fun K "_law_mixed" "_law_mixed" (top 48) f fd) (B : Bi mg) (c_law_draw : Cal P w K mg base 1 "_law_draw" spDraw []) : FnOk P w K mg base CX0 2 f fd ["_law_stream", "_law_some"] spMix := by
  refine F.ok sc_law_mixed (fun vs H Q E h => ?_) (fun cdv A outer s H vs Q E hr h => ?_)
  · obtain ⟨st, c, a, l, n, rfl, _⟩ := h
    rfl
  · obtain ⟨st, c, a, l, n, rfl, ha, hl, hn, hS, k⟩ := h
    refine ⟨_, (pss_cons (ps_set (i := 2) sc_law_mixed.nd rfl (Or.inr rfl) (pe_callTy call_list_of (by rfl) B.list_ bt_list (pa_cons (pv 1) pa_nil)))
      (pss_one (ps_ret (pe_lc (own := [("_law_k", 3)]) (g := gName 3) rfl sc_law_mixed.nd (pi_range1 (by rfl) B.range_ (pa_cons (pe_callB call_len_seq (by rfl) B.len_ bt_len (pa_cons (pv 2) pa_nil)) pa_nil)) (blkOk_by (by kernel_rfl)) (fun _ _ _ _ _ => (pg_name (i := 3) sc_law_mixed.nd rfl (Or.inl rfl))) (fun _ _ _ _ _ => pts_nil) (fun _ _ _ _ _ => (pe_bmK K rfl (pe_bm PySem.F.plainAttrs_list PySem.F.slot_list_pop PySem.F.type_list_pop mt_popAt (pv 2) (pa_cons (pe_c c_law_draw hr (by decide) (by rfl) (pa_cons (pv 0) (pa_cons (pe_callB (call_len_seqK K rfl) (by rfl) B.len_ bt_len (pa_cons (pv 2) pa_nil)) pa_nil))) pa_nil)))))))), ?_⟩
    refine ⟨_, rfl, a, _, rfl, .inl (SqL.of ha), fun lf hlf => ?_⟩
    have s1 := same_upd (o := .lst (l.map V.str)) hlf
    obtain ⟨nf1, nf2⟩ := hS.new hlf
    refine ⟨_, rfl, lf, _, rfl, .inl (SqL.of upd_same), _, rfl, by omega, by rw [List.length_map]; omega, fun D hD => ?_⟩
    have nfD : lf ≠ D := fun e => by rw [← e, upd_same] at hD; cases hD
    have S1 := hS.mono s1
    obtain ⟨nD1, nD2⟩ := S1.new hD
    have D0 : H D = none := s1.free hD
    have h0lf : upd H lf (.lst (l.map V.str)) lf = some (.lst (l.map V.str)) := upd_same
    generalize upd H lf (.lst (l.map V.str)) = H1 at *
    have el : ((((l.map V.str).length : Nat) : Int)).toNat = l.length := by rw [List.length_map]; omega
    rw [el]
    refine lc_range (lo := 0) (n := l.length) (fun i H' => Drw st c H H' ∧ Stm H' st c (n + i) ∧ ∃ ls acc : List Str, H' lf = some (.lst (ls.map V.str)) ∧ H' D = some (.lst (acc.map V.str)) ∧ (acc ++ ls).Perm l ∧ acc.length = i)
      ⟨(Drw.of s1).trans (Drw.of (same_upd hD)), S1.mono (same_upd hD), l, [], same_upd hD _ _ h0lf, upd_same, List.Perm.refl _, rfl⟩ ?_ ?_
    · rintro i H2 hi ⟨d2, S2, ls, acc, hlf2, hD2, pm, la⟩
      have lls : acc.length + ls.length = l.length := by
        have := pm.length_eq
        rwa [List.length_append] at this
      refine ⟨rfl, _, rfl, .inl ⟨rfl, _, SqL.of hlf2⟩, _, rfl, _, rfl, lf, _, rfl, .inl (SqL.of hlf2), st, c, _, n + i, rfl, by rw [List.length_map]; omega, by rw [List.length_map]; omega, by omega, S2, fun j H3 d3 S3 j0 j1 => ?_⟩
      rw [List.length_map] at j1
      have hlf3 := d3.off _ _ nf1 nf2 hlf2
      have hD3 := d3.off _ _ nD1 nD2 hD2
      obtain ⟨x, e1, _⟩ := at_int j0 j1
      refine ⟨lf, _, j, j.toNat, .str x, rfl, rfl, hlf3, by omega, by omega, seq_ok j0 (by rw [List.length_map]; exact j1), by rw [List.getElem?_map, e1]; rfl, ?_⟩
      have hD4 : upd H3 lf (.lst ((ls.map V.str).eraseIdx j.toNat)) D = some (.lst (acc.map V.str)) := by rw [upd_ne (Ne.symm nfD)]; exact hD3
      have ee : (ls.map V.str).eraseIdx j.toNat = (ls.eraseIdx j.toNat).map V.str := map_erase _ _ _
      have keep : ∀ b o, b ≠ lf → b ≠ D → H3 b = some o → (upd (upd H3 lf (.lst ((ls.map V.str).eraseIdx j.toNat))) D (.lst (acc.map V.str ++ [.str x]))) b = some o := fun b o h1 h2 h => by rw [upd_ne h2, upd_ne h1]; exact h
      refine ⟨_, hD4, sz_lt (by rw [List.length_map]; omega), ⟨fun b o h1 h2 h => ?_, fun b h => ?_⟩, ?_, ls.eraseIdx j.toNat, acc ++ [x], ?_, ?_, ?_, ?_⟩
      · have hb1 : b ≠ lf := fun e => by rw [e, hlf] at h; cases h
        have hb2 : b ≠ D := fun e => by rw [e, D0] at h; cases h
        exact keep b o hb1 hb2 (d3.off _ _ h1 h2 (d2.off _ _ h1 h2 h))
      · have := d3.dom b (d2.dom b h)
        by_cases e1 : b = D
        · rw [e1, upd_same]; exact fun z => nomatch z
        · rw [upd_ne e1]
          by_cases e2 : b = lf
          · rw [e2, upd_same]; exact fun z => nomatch z
          · rw [upd_ne e2]; exact this
      · obtain ⟨cells, z1, z2, z3, q1, q2, q3⟩ := S3
        exact ⟨cells, z1, z2, z3, keep _ _ (Ne.symm nf1) (Ne.symm nD1) q1, keep _ _ (Ne.symm nf2) (Ne.symm nD2) q2, q3⟩
      · rw [upd_ne nfD, upd_same, ee]
      · rw [upd_same, List.map_append]; rfl
      · have p1 : (acc ++ [x] ++ ls.eraseIdx j.toNat).Perm (acc ++ ls) := by
          rw [List.append_assoc]
          exact List.Perm.append_left _ (perm_erase e1)
        exact p1.trans pm
      · rw [List.length_append, la]; rfl
    · rintro H2 ⟨d2, S2, ls, acc, hlf2, hD2, pm, la⟩
      have : ls = [] := by
        have := pm.length_eq
        rw [List.length_append] at this
        exact List.length_eq_zero_iff.mp (by omega)
      subst this
      rw [List.append_nil] at pm
      exact k D H2 acc d2 S2 D0 hD2 pm
end
end Gw
end

section
set_option Elab.async false
set_option linter.all false
set_option maxRecDepth 100000
set_option maxHeartbeats 4000000
/-! walks: names drawn -/
namespace Gw
open PySem PySem.Spec PyProof.Rows L2
open C8 (Cal Mak Met pe_c pe_mk pe_mt pe_mt0 pe_gc)
open RZ (pi_zipA ItzT)

def ALPH : Str := "abcxyz019."
def LETS : Str := "abcdefghijklmnopqrstuvwxyz"
def sgn (c : Nat) : Str := ⟨#[c]⟩
def qs : List Str := LETS.cps.toList.map fun c => sgn c ++ "q"
theorem qs_len : qs.length = 26 := by decide +kernel
theorem qs_nd : qs.Nodup := by decide +kernel
theorem qs_nm : ∀ x ∈ qs, Name x := by
  show ∀ x ∈ qs, 0 < x.length ∧ x.length ≤ 60 ∧ ∀ c ∈ x.cps.toList, c ∈ SIGNS.cps.toList
  decide +kernel
def NmL (x : Str) : Prop := Name x ∧ x ≠ "late"
theorem qs_nl : ∀ x ∈ qs, x ≠ "late" := by decide +kernel
theorem alph_sub : ∀ c ∈ ALPH.cps.toList, c ∈ SIGNS.cps.toList := by decide +kernel
theorem joinL_one : ∀ ws : List Nat, TL.joinL [] (ws.map fun c => [c]) = ws
  | [] => rfl
  | [a] => rfl
  | a :: b :: r => by
    show [a] ++ ([] ++ TL.joinL [] ((b :: r).map fun c => [c])) = _
    rw [joinL_one (b :: r)]
    rfl
theorem join_signs (ws : List Nat) : (Txt.join "" (ws.map sgn)).cps.toList = ws := by
  have e := TL.tl_join "" (ws.map sgn)
  rw [TL.join_eq]
  refine e.trans ?_
  rw [List.map_map]
  exact joinL_one ws
theorem len_signs (ws : List Nat) : (Txt.join "" (ws.map sgn)).length = ws.length := by
  have e := join_signs ws
  show (Txt.join "" (ws.map sgn)).cps.size = _
  rw [← Array.length_toList, e]
theorem sum_sgn (ws : List Nat) : ((ws.map sgn).map (·.length)).sum = ws.length := by
  induction ws with
  | nil => rfl
  | cons a ws ih =>
    show 1 + ((ws.map sgn).map (·.length)).sum = ws.length + 1
    rw [ih]
    omega

section
variable {P : Program} {w : World} {K : PySem.W.Frag} {mg : Str → Option Value} {base : Heap}
def spWords : Sp := fun vs H Q _ => ∃ (st c : Addr) (m : Int) (n : Nat), vs = [.ref st, .int m] ∧ 0 ≤ m ∧ m ≤ 9 ∧ n < 98000 ∧ Stm H st c n ∧
  ∀ p H' l, Drw st c H H' → Stm H' st c (n + 45) → H p = none → H' p = some (.lst ((l : List Str).map V.str)) → l.Nodup → (l.length : Int) = m → (∀ x ∈ l, NmL x) → Q (.ref p) H'
theorem sc_law_t_words : FnScope ["_law_stream", "_law_many", "_law_found", "_law_k", "_law_word", "_law_spare", "_law_sign", "_law_letter", "_law_x"] ["_law_stream", "_law_many"] (defScope (top 39)) :=
  ⟨rfl, rfl, rfl, by decide +kernel, rfl, by decide +kernel, by decide +kernel⟩
theorem ok_law_t_words {f : Addr} {fd : FuncData} (F : Fun K "_law_t_words" "_law_t_words" (top 39) f fd) (B : Bi mg) (c_law_draw : Cal P w K mg base 1 "_law_draw" spDraw []) (c_law_pick : Cal P w K mg base 2 "_law_pick" spPick []) : FnOk P w K mg base CX0 3 f fd ["_law_stream", "_law_many"] spWords := by
  refine F.ok sc_law_t_words (fun vs H Q E h => ?_) (fun cdv A outer s H vs Q E hr h => ?_)
  · obtain ⟨st, c, m, n, rfl, _⟩ := h
    rfl
  · obtain ⟨st, c, m, n, rfl, hm0, hm9, hn, hS, k⟩ := h
    refine ⟨_, (pss_cons (ps_set (i := 2) sc_law_t_words.nd rfl (Or.inr rfl) (pe_lst pa_nil))
      (pss_cons (ps_for PassesOwn.never rfl (pi_range1 (by rfl) B.range_ (pa_cons (pv 1) pa_nil)) (pg_name (i := 3) sc_law_t_words.nd rfl (Or.inl rfl))
      (pss_cons (ps_set (i := 4) sc_law_t_words.nd rfl (Or.inl rfl) (pe_join pe_str (pe_lc (own := [("_law_sign", 6)]) (g := gName 6) rfl sc_law_t_words.nd (pi_range1 (by rfl) B.range_ (pa_cons (pe_op op_add pe_int (pe_c c_law_draw hr (by decide) (by rfl) (pa_cons (pv 0) (pa_cons pe_int pa_nil)))) pa_nil)) (blkOk_by (by kernel_rfl)) (fun _ _ _ _ _ => (pg_name (i := 6) sc_law_t_words.nd rfl (Or.inl rfl))) (fun _ _ _ _ _ => pts_nil) (fun _ _ _ _ _ => (pe_c c_law_pick hr (by decide) (by rfl) (pa_cons (pv 0) (pa_cons pe_str pa_nil)))))))
      (pss_cons (ps_set (i := 5) sc_law_t_words.nd rfl (Or.inl rfl) (pe_op op_cat (pe_lst (pa_cons (pv 4) pa_nil)) (pe_lc (own := [("_law_letter", 7)]) (g := gName 7) rfl sc_law_t_words.nd (pi_str pe_str) (blkOk_by (by kernel_rfl)) (fun _ _ _ _ _ => (pg_name (i := 7) sc_law_t_words.nd rfl (Or.inl rfl))) (fun _ _ _ _ _ => pts_nil) (fun _ _ _ _ _ => (pe_op op_add_str (pv 7) pe_str)))))
      (pss_one (ps_expr (pe_bm PySem.F.plainAttrs_list PySem.F.slot_list_append PySem.F.type_list_append mt_append (pv 2) (pa_cons (pe_ix ix_list (pe_lc (own := [("_law_x", 8)]) (g := gName 8) rfl sc_law_t_words.nd (pi_list (pv 5)) (blkOk_by (by kernel_rfl)) (fun _ _ _ _ _ => (pg_name (i := 8) sc_law_t_words.nd rfl (Or.inl rfl))) (fun _ _ _ _ _ => (pts_one (pt_cmpR (op_notIn_seqK K rfl) (pv 8) (pv 2) rfl))) (fun _ _ _ _ _ => (pv 8))) pe_int (fun _ _ => rfl)) pa_nil)))))))
      (pss_one (ps_ret (pv 2))))), ?_⟩
    refine ⟨Nat.zero_le _, fun fl hfl => ?_⟩
    have s0 := same_upd (o := .lst []) hfl
    obtain ⟨nf1, nf2⟩ := hS.new hfl
    refine ⟨_, rfl, _, rfl, by omega, by omega, ?_⟩
    refine for_range (lo := 0) (n := m.toNat) (fun i σ H' => ∃ a b d, σ = [some (.ref st), some (.int m), some (.ref fl), a, b, d, none, none, none] ∧ Drw st c H H' ∧ Stm H' st c (n + 5 * i) ∧ ∃ l : List Str, H' fl = some (.lst (l.map V.str)) ∧ l.Nodup ∧ l.length = i ∧ ∀ x ∈ l, NmL x)
      ⟨_, _, _, rfl, Drw.of s0, hS.mono s0, [], upd_same, List.nodup_nil, rfl, (fun _ h => nomatch h)⟩ ?_ ?_
    · rintro i σ H1 hi ⟨a, b, d, rfl, d1, S1, l, hl1, lnd, lln, lnm⟩
      -- the word
      refine ⟨⟨_, rfl⟩, _, rfl, st, c, _, n + 5 * i, rfl, by decide, by decide, by omega, S1, fun j H2 d2 S2 j0 j1 => ?_⟩
      refine ⟨_, _, rfl, rfl, _, rfl, by omega, by omega, fun D hD => ?_⟩
      obtain ⟨nD1, nD2⟩ := S2.new hD
      have hl2 := d2.off _ _ nf1 nf2 hl1
      have nDf : D ≠ fl := fun e => by rw [e, hl2] at hD; cases hD
      refine lc_range (lo := 0) (n := (1 + j).toNat) (fun q H' => Drw st c H2 H' ∧ Stm H' st c (n + 5 * i + 1 + q) ∧ ∃ ws : List Nat, H' D = some (.lst ((ws.map sgn).map V.str)) ∧ ws.length = q ∧ ∀ ch ∈ ws, ch ∈ ALPH.cps.toList)
        ⟨Drw.of (same_upd hD), S2.mono (same_upd hD), [], upd_same, rfl, (fun _ h => nomatch h)⟩ ?_ ?_
      · rintro q H3 hq ⟨d3, S3, ws, hD3, lws, hws⟩
        refine ⟨rfl, _, rfl, st, c, _, by omega, S3, .inr ⟨ALPH, rfl, by decide +kernel, by decide +kernel, fun ch hch H4 d4 S4 => ?_⟩⟩
        have hD4 := d4.off _ _ nD1 nD2 hD3
        refine ⟨_, hD4, sz_lt (by rw [List.length_map, List.length_map]; omega), ⟨fun b o h1 h2 h => ?_, fun b h => ?_⟩, ?_, ws ++ [ch], ?_, ?_, ?_⟩
        · have hb : b ≠ D := fun e => by rw [e, hD] at h; cases h
          rw [upd_ne hb]
          exact d4.off _ _ h1 h2 (d3.off _ _ h1 h2 h)
        · by_cases e1 : b = D
          · rw [e1, upd_same]; exact fun z => nomatch z
          · rw [upd_ne e1]; exact d4.dom b (d3.dom b h)
        · obtain ⟨cells, z1, z2, z3, q1, q2, q3⟩ := S4
          exact ⟨cells, z1, z2, z3, by rw [upd_ne (Ne.symm nD1)]; exact q1, by rw [upd_ne (Ne.symm nD2)]; exact q2, q3⟩
        · rw [upd_same, List.map_append, List.map_append]; rfl
        · rw [List.length_append, lws]; rfl
        · intro x hx
          rcases List.mem_append.mp hx with h | h
          · exact hws x h
          · rw [List.mem_singleton] at h; rw [h]; exact hch
      · rintro H3 ⟨d3, S3, ws, hD3, lws, hws⟩
        refine ⟨"", D, ws.map sgn, rfl, rfl, .inl (SqL.of hD3), ?_, ?_⟩
        · have e0 : ("" : Str).length = 0 := by decide +kernel
          rw [sum_sgn, e0]
          omega
        have wn : NmL (Txt.join "" (ws.map sgn)) := by
          refine ⟨⟨?_, ?_, fun ch hch => ?_⟩, fun el => ?_⟩
          · rw [len_signs]; omega
          · rw [len_signs]; omega
          · rw [join_signs] at hch; exact alph_sub ch (hws ch hch)
          · have e3 := join_signs ws
            rw [el] at e3
            have e4 : (108 : Nat) ∈ ws := by rw [← e3]; decide +kernel
            exact absurd (hws _ e4) (by decide +kernel)
        generalize Txt.join "" (ws.map sgn) = wd at wn
        have hl3 := d3.off _ _ nf1 nf2 hl2
        have d3' := d1.trans (d2.trans d3)
        have S3' : Stm H3 st c (n + 5 * i + 5) := S3.le (by omega)
        clear d1 d2 d3 S1 S2 S3 hl1 hl2 hD3 hD lws hws nD1 nD2 nDf
        -- the spares
        refine ⟨_, rfl, by show 1 ≤ sizeLine; decide, fun e1 he1 => ⟨LETS, rfl, fun D2 hD2 => lcm (n := LETS.cps.size) (fun j y _ => ∃ ch, LETS.cps[j]? = some ch ∧ y = .str (sgn ch ++ "q")) hD2 (by decide +kernel) (fun _ _ _ _ _ _ z => z) (fun i H hi _ => hi) (fun _ _ => Nat.le_refl _) ?_ ?_ gm_name⟩⟩
        · rintro q x H4 H5 Kt hq s4 _ ⟨rfl, ch, hch, rfl⟩ kt
          have hlen : (sgn ch).length + ("q" : Str).length ≤ sizeLine := by
            have e1 : (sgn ch).length = 1 := rfl
            have e2 : ("q" : Str).length = 1 := by decide +kernel
            rw [e1, e2]
            decide
          exact ⟨rfl, _, rfl, sgn ch, _, rfl, rfl, hlen, kt _ _ (Same.refl _) ⟨ch, hch, rfl⟩⟩
        · intro ys H4 s4 hD4 lys hy
          have e : ys = qs.map V.str := by
            refine List.ext_getElem? fun j => ?_
            unfold qs
            have ee : LETS.cps.toList[j]? = LETS.cps[j]? := Array.getElem?_toList ..
            rw [List.getElem?_map, List.getElem?_map, ee]
            by_cases hj : j < ys.length
            · obtain ⟨ch, z1, z2⟩ := hy j _ (List.getElem?_eq_getElem hj)
              rw [List.getElem?_eq_getElem hj, z1, z2]
              rfl
            · rw [List.getElem?_eq_none (by omega), Array.getElem?_eq_none (by omega)]
              rfl
          subst e
          have s5 := (same_upd (o := .lst [.str wd]) he1).trans s4
          refine ⟨e1, D2, [.str wd], _, rfl, rfl, s4 _ _ upd_same, hD4, ?_, fun sp hsp => ?_⟩
          · rw [List.length_map, qs_len]
            exact sz_of (by show 1 + 26 ≤ 100000; decide)
          have s6 := s5.trans (same_upd (o := .lst ([.str wd] ++ qs.map V.str)) hsp)
          have hsp6 : upd H4 sp (.lst ([.str wd] ++ qs.map V.str)) sp = some (.lst ((wd :: qs).map V.str)) := upd_same
          generalize upd H4 sp (.lst ([.str wd] ++ qs.map V.str)) = H6 at s6 hsp6
          have hl6 := s6 _ _ hl3
          refine ⟨_, rfl, .inl ⟨rfl, _, SqL.of hl6⟩, _, rfl, sp, rfl, ⟨_, SqL.of hsp6⟩, fun D3 hD3 => lcg (n := ((wd :: qs).map V.str).length) (AhP D3 H6 (wd :: qs) l) ⟨same_upd hD3, [], upd_same, Nat.le_refl _, fun x => by simp⟩ (fun i H hi p => go_l hsp6 i H hi p.1) (fun H p => stop_l hsp6 H p.1) ?_ ?_⟩
          · rintro q x H7 H8 hq ⟨s7, as, h1, h2, h3⟩ hy
            obtain ⟨rfl, hxj⟩ := yl_l hsp6 s7 hy
            obtain ⟨z, hz, rfl⟩ := strs_at hxj
            refine ⟨rfl, _, rfl, _, rfl, fl, _, rfl, .inl (SqL.of (s7 _ _ hl6)), rfl, flat_strs _, _, rfl, ?_⟩
            rw [if_pos rfl, inV_str]
            by_cases hin : z ∈ l
            · rw [decide_eq_true hin]
              refine iteF ⟨s7, as, h1, by omega, fun t => ?_⟩
              rw [h3, take_snoc hz, List.mem_append, List.mem_singleton]
              constructor
              · rintro ⟨h, h'⟩; exact ⟨.inl h, h'⟩
              · rintro ⟨h | h, h'⟩
                · exact ⟨h, h'⟩
                · rw [h] at h'; exact absurd hin h'
            · rw [decide_eq_false hin]
              refine iteT ⟨_, rfl, _, h1, by rw [List.length_map]; exact sz_lt (by rw [List.length_map, List.length_cons, qs_len] at hq; omega), same_mut s7 hD3, as ++ [z], by rw [upd_same, List.map_append]; rfl, by rw [List.length_append]; simp; omega, fun t => ?_⟩
              rw [List.mem_append, h3, take_snoc hz, List.mem_append, List.mem_singleton]
              constructor
              · rintro (⟨h, h'⟩ | h)
                · exact ⟨.inl h, h'⟩
                · rw [h]; exact ⟨.inr rfl, hin⟩
              · rintro ⟨h | h, h'⟩
                · exact .inl ⟨h, h'⟩
                · exact .inr h
          · rintro H7 ⟨s7, as, h1, h2, h3⟩
            rw [List.length_map, List.take_length] at h3
            obtain ⟨x, xs, rfl⟩ : ∃ x xs, as = x :: xs := by
              cases as with
              | cons x xs => exact ⟨x, xs, rfl⟩
              | nil =>
                exfalso
                have : qs.length ≤ l.length := nodup_sub_len qs_nd fun x hx => by
                  by_cases hxl : x ∈ l
                  · exact hxl
                  · have := (h3 x).mpr ⟨List.mem_cons_of_mem _ hx, hxl⟩
                    cases this
                rw [qs_len] at this
                omega
            obtain ⟨x1, x2⟩ := (h3 x).mp (List.mem_cons_self ..)
            have xn : NmL x := by
              rcases List.mem_cons.mp x1 with h | h
              · rw [h]; exact wn
              · exact ⟨qs_nm x h, qs_nl x h⟩
            have hl7 := s7 _ _ hl6
            have s8 := s6.trans s7
            refine ⟨D3, _, 0, _, rfl, rfl, SqL.of h1, at0 rfl, fl, _, _, rfl, rfl, hl7, by rw [List.length_map]; exact sz_lt (by omega), ?_⟩
            refine ⟨_, _, _, rfl, ⟨fun b o g1 g2 h => ?_, fun b h => ?_⟩, ?_, l ++ [x], ?_, nd_snoc lnd x2, ?_, ?_⟩
            · have hb : b ≠ fl := fun e => by rw [e, hfl] at h; cases h
              rw [upd_ne hb]
              exact s8 _ _ (d3'.off _ _ g1 g2 h)
            · by_cases e1 : b = fl
              · rw [e1, upd_same]; exact fun z => nomatch z
              · rw [upd_ne e1]; exact (Drw.of (st := st) (c := c) s8).dom b (d3'.dom b h)
            · obtain ⟨cells, z1, z2, z3, q1, q2, q3⟩ := S3'.mono s8
              exact ⟨cells, z1, z2, z3, by rw [upd_ne (Ne.symm nf1)]; exact q1, by rw [upd_ne (Ne.symm nf2)]; exact q2, by have := q3; exact ⟨this.1, this.2.1, by have := this.2.2.1; omega, this.2.2.2⟩⟩
            · rw [upd_same, List.map_append]; rfl
            · rw [List.length_append, lln]; rfl
            · intro y hy
              rcases List.mem_append.mp hy with h | h
              · exact lnm y h
              · rw [List.mem_singleton] at h; rw [h]; exact xn
    · rintro σ H1 ⟨a, b, d, rfl, d1, S1, l, hl1, lnd, lln, lnm⟩
      exact ⟨_, rfl, k fl H1 l d1 (S1.le (by omega)) hfl hl1 lnd (by omega) lnm⟩
end
end Gw
end

section
set_option Elab.async false
set_option linter.all false
set_option maxRecDepth 100000
set_option maxHeartbeats 4000000
/-! walks: moves and lots drawn -/
namespace Gw
open PySem PySem.Spec PyProof.Rows L2
open C8 (Cal Mak Met pe_c pe_mk pe_mt pe_mt0 pe_gc)
open RZ (pi_zipA ItzT)

theorem Drw.keep {st c b : Addr} {H H' : Hp} {n : Nat} {o : HO} (d : Drw st c H H') (S : Stm H st c n) (h : H b = some o) (ho : ∀ xs, o ≠ .lst xs) : H' b = some o := by
  obtain ⟨cells, s1, s2, s3, h1, h2, _⟩ := S
  exact d.off b o (ne_of h h1 (ho _)) (ne_of h h2 (ho _)) h
theorem grow {st c D : Addr} {H0 H4 H5 : Hp} {n : Nat} (d : Drw st c H0 H4) (S : Stm H4 st c n) (hD : H0 D = none) (nD1 : D ≠ st) (nD2 : D ≠ c) (h5D : H5 D ≠ none) (keep : ∀ b o, b ≠ D → H4 b = some o → H5 b = some o) : Drw st c H0 H5 ∧ Stm H5 st c n := by
  refine ⟨⟨fun b o h1 h2 h => keep b o (ne_of_none h hD) (d.off b o h1 h2 h), fun b h => ?_⟩, ?_⟩
  · by_cases e : b = D
    · rw [e]; exact h5D
    · have := d.dom b h
      cases e4 : H4 b with
      | none => exact absurd e4 this
      | some o => rw [keep b o e e4]; exact fun z => nomatch z
  · obtain ⟨cells, z1, z2, z3, q1, q2, q3⟩ := S
    exact ⟨cells, z1, z2, z3, keep _ _ (Ne.symm nD1) q1, keep _ _ (Ne.symm nD2) q2, q3⟩
theorem valV_no {k : Key} : ∀ {kvs : List (Key × V)}, k ∉ kvs.map (·.1) → valV kvs k = none
  | [], _ => rfl
  | p :: r, h => by
    rw [List.map_cons, List.mem_cons, not_or] at h
    rw [valV_neg (Ne.symm h.1)]
    exact valV_no h.2
theorem mergeK_nd : ∀ {kvs acc : List (Key × V)}, ((acc ++ kvs).map (·.1)).Nodup → mergeK acc kvs = acc ++ kvs
  | [], acc, _ => (List.append_nil acc).symm
  | p :: r, acc, h => by
    have e : acc ++ p :: r = (acc ++ [p]) ++ r := by rw [List.append_assoc]; rfl
    show mergeK (putK acc p.1 p.2) r = _
    have hn : p.1 ∉ acc.map (·.1) := by
      rw [List.map_append, List.map_cons, List.nodup_append] at h
      intro hm
      exact h.2.2 _ hm _ (List.mem_cons_self ..) rfl
    rw [putK_new p.2 (valV_no hn)]
    show mergeK (acc ++ [p]) r = _
    rw [e] at h ⊢
    exact mergeK_nd h
theorem mvKv_nd {ms : List (Str × Str)} (h : (ms.map (·.1)).Nodup) : ((mvKv ms).map (·.1)).Nodup := by
  have e : (mvKv ms).map (·.1) = (ms.map (·.1)).map (Sum.inr : Str → Key) := by
    unfold mvKv
    rw [List.map_map, List.map_map]
    rfl
  rw [e]
  exact List.pairwise_map.mpr (List.Pairwise.imp (fun hab z => hab (by injection z)) h)

section
variable {P : Program} {w : World} {K : PySem.W.Frag} {mg : Str → Option Value} {base : Heap}
def spLeads : Sp := fun vs H Q _ => ∃ (st c a : Addr) (l : List Str) (wd : Str) (n : Nat), vs = [.ref st, .str wd, .ref a] ∧ H a = some (.lst (l.map V.str)) ∧ a ≠ st ∧ a ≠ c ∧ l ≠ [] ∧ l.length ≤ 9 ∧ l.Nodup ∧ n < 97000 ∧ Stm H st c n ∧
  ((wd = "chance" ∧ ∀ p H' as ls, Drw st c H H' → Stm H' st c (n + 60) → H p = none → H' p = some (.lst as) → Paired (LotAt H') as ls → ls ≠ [] → ls.length ≤ 3 → (ls.map (·.1)).Nodup → (∀ x ∈ ls, x.1 ∈ l ∧ 1 ≤ x.2 ∧ x.2 ≤ 3) → Q (.ref p) H') ∨
   (wd ≠ "chance" ∧ ∀ p H' ms, Drw st c H H' → Stm H' st c (n + 60) → H p = none → H' p = some (.dK (mvKv ms)) → ms ≠ [] → ms.length ≤ 3 → (ms.map (·.1)).Nodup → (∀ m ∈ ms, Name m.1 ∧ m.2 ∈ l) → Q (.ref p) H'))
theorem sc_law_t_leads : FnScope ["_law_stream", "_law_word", "_law_some", "_law_places", "_law_moves", "_law_place", "_law_move"] ["_law_stream", "_law_word", "_law_some"] (defScope (top 40)) :=
  ⟨rfl, rfl, rfl, by decide +kernel, rfl, by decide +kernel, by decide +kernel⟩
theorem ok_law_t_leads {f : Addr} {fd : FuncData} (F : Fun K "_law_t_leads" "_law_t_leads" (top 40) f fd) (B : Bi mg) (c_law_draw : Cal P w K mg base 1 "_law_draw" spDraw []) (c_law_pick : Cal P w K mg base 2 "_law_pick" spPick []) (c_law_mixed : Cal P w K mg base 2 "_law_mixed" spMix []) (c_law_t_words : Cal P w K mg base 3 "_law_t_words" spWords []) : FnOk P w K mg base CX0 4 f fd ["_law_stream", "_law_word", "_law_some"] spLeads := by
  refine F.ok sc_law_t_leads (fun vs H Q E h => ?_) (fun cdv A outer s H vs Q E hr h => ?_)
  · obtain ⟨st, c, a, l, wd, n, rfl, _⟩ := h
    rfl
  · obtain ⟨st, c, a, l, wd, n, rfl, ha, na1, na2, hl0, hl9, hnd, hn, hS, hk⟩ := h
    refine ⟨_, (pss_cons (ps_if (pt_cmpR op_eq (pv 1) pe_str (nomark _)) (pss_cons (ps_set (i := 3) sc_law_t_leads.nd rfl (Or.inl rfl) (pe_slice sl_list (pe_c c_law_mixed hr (by decide) (by rfl) (pa_cons (pv 0) (pa_cons (pv 2) pa_nil))) po_none (po_some (pe_op op_add pe_int (pe_c c_law_draw hr (by decide) (by rfl) (pa_cons (pv 0) (pa_cons pe_int pa_nil)))))))
      (pss_one (ps_ret (pe_lc (own := [("_law_place", 5)]) (g := gName 5) rfl sc_law_t_leads.nd (pi_list (pv 3)) (blkOk_by (by kernel_rfl)) (fun _ _ _ _ _ => (pg_name (i := 5) sc_law_t_leads.nd rfl (Or.inl rfl))) (fun _ _ _ _ _ => pts_nil) (fun _ _ _ _ _ => (pe_tup (pa_cons (pv 5) (pa_cons (pe_op op_add pe_int (pe_c c_law_draw hr (by decide) (by rfl) (pa_cons (pv 0) (pa_cons pe_int pa_nil)))) pa_nil)))))))) pss_nil)
      (pss_cons (ps_set (i := 4) sc_law_t_leads.nd rfl (Or.inl rfl) (pe_c c_law_t_words hr (by decide) (by rfl) (pa_cons (pv 0) (pa_cons (pe_op op_add pe_int (pe_c c_law_draw hr (by decide) (by rfl) (pa_cons (pv 0) (pa_cons pe_int pa_nil)))) pa_nil))))
      (pss_one (ps_ret (pe_callTy (call_dictP rfl) (by rfl) B.dict_ bt_dict (pa_cons (pe_lc (own := [("_law_move", 6)]) (g := gName 6) rfl sc_law_t_leads.nd (pi_list (pv 4)) (blkOk_by (by kernel_rfl)) (fun _ _ _ _ _ => (pg_name (i := 6) sc_law_t_leads.nd rfl (Or.inl rfl))) (fun _ _ _ _ _ => pts_nil) (fun _ _ _ _ _ => (pe_tup (pa_cons (pv 6) (pa_cons (pe_c c_law_pick hr (by decide) (by rfl) (pa_cons (pv 0) (pa_cons (pv 2) pa_nil))) pa_nil))))) pa_nil)))))), ?_⟩
    refine ⟨_, rfl, rfl, _, rfl, ?_⟩
    rcases hk with ⟨rfl, k⟩ | ⟨hwd, k⟩
    · rw [decide_eq_true rfl]
      refine iteT ?_
      refine ⟨_, rfl, _, rfl, st, c, a, l, n, rfl, ha, by omega, by omega, hS, fun mx H1 l' d1 S1 hmx hl' pm => ?_⟩
      refine ⟨_, rfl, st, c, _, n + l.length, rfl, by decide, by decide, by omega, S1, fun j H2 d2 S2 j0 j1 => ?_⟩
      obtain ⟨nm1, nm2⟩ := hS.new hmx
      have hl2 := d2.off _ _ nm1 nm2 hl'
      have ll : l'.length = l.length := pm.length_eq
      have nd' : l'.Nodup := pm.nodup_iff.mpr hnd
      refine ⟨_, _, rfl, rfl, _, rfl, mx, _, rfl, SqL.of hl2, fun pl hpl => ?_⟩
      have ej : (1 + j) = (((1 + j).toNat : Nat) : Int) := by omega
      rw [ej, cutV_take, ← List.map_take]
      have hk1 : 1 ≤ (1 + j).toNat := by omega
      have hk2 : (1 + j).toNat ≤ 3 := by omega
      generalize (1 + j).toNat = kk at hk1 hk2
      have s3 := same_upd (o := .lst ((l'.take kk).map V.str)) hpl
      have hpl3 : upd H2 pl (.lst ((l'.take kk).map V.str)) pl = some (.lst ((l'.take kk).map V.str)) := upd_same
      have d3 := (d1.trans d2).trans (Drw.of s3)
      have S3 := S2.mono s3
      have pl0 : H pl = none := (d1.trans d2).free hpl
      obtain ⟨np1, np2⟩ := hS.new pl0
      generalize upd H2 pl (.lst ((l'.take kk).map V.str)) = H3 at d3 S3 hpl3
      clear s3 hl2 hpl hl' S1 S2 d1 d2
      have hsub : ∀ x ∈ l'.take kk, x ∈ l := fun x hx => pm.mem_iff.mp (List.mem_of_mem_take hx)
      have lnd : (l'.take kk).Nodup := nd'.sublist (List.take_sublist ..)
      have lne : l'.take kk ≠ [] := fun e => by
        have := congrArg List.length e
        rw [List.length_take, ll] at this
        have : 0 < l.length := List.length_pos_iff.mpr hl0
        have e0 : ([] : List Str).length = 0 := rfl
        omega
      have lle : (l'.take kk).length ≤ 3 := by rw [List.length_take]; omega
      generalize l'.take kk = ps at *
      refine ⟨_, rfl, pl, rfl, ⟨_, SqL.of hpl3⟩, fun D hD => lc_list (xs := ps.map V.str) (fun i H' => Drw st c H H' ∧ Stm H' st c (n + l.length + 1 + i) ∧ H' pl = some (.lst (ps.map V.str)) ∧ ∃ acc ls, H' D = some (.lst acc) ∧ Paired (LotAt H') acc ls ∧ ls.map (·.1) = ps.take i ∧ ∀ x ∈ ls, 1 ≤ x.2 ∧ x.2 ≤ 3)
        ⟨d3.trans (Drw.of (same_upd hD)), S3.mono (same_upd hD), same_upd hD _ _ hpl3, [], [], upd_same, .nil, rfl, (fun _ h => nomatch h)⟩ (fun i H' _ h => SqL.of h.2.2.1) ?_ ?_⟩
      · rintro i x H4 hx ⟨d4, S4, hpl4, acc, ls, hD4, hp, hls, hw⟩
        obtain ⟨y, hy, rfl⟩ := strs_at hx
        have D0 : H D = none := d3.free hD
        obtain ⟨nD1, nD2⟩ := hS.new D0
        have hi : i < ps.length := (List.getElem?_eq_some_iff.mp hy).1
        refine ⟨rfl, _, rfl, _, rfl, st, c, _, n + l.length + 1 + i, rfl, by decide, by decide, by omega, S4, fun j2 H5 d5 S5 j3 j4 => ?_⟩
        refine ⟨_, _, rfl, rfl, by show 2 ≤ sizeLine; decide, fun q hq => ?_⟩
        have hD5 := d5.off _ _ nD1 nD2 hD4
        have nqD : q ≠ D := fun e => by rw [e, hD5] at hq; cases hq
        have hDq : upd H5 q (.tup [.str y, .int (1 + j2)]) D = some (.lst acc) := by rw [upd_ne (Ne.symm nqD)]; exact hD5
        have lacc : acc.length = i := by
          have h1 := hp.length
          have h2 := congrArg List.length hls
          rw [List.length_map, List.length_take] at h2
          omega
        have keep : ∀ b o, b ≠ D → H5 b = some o → upd (upd H5 q (.tup [.str y, .int (1 + j2)])) D (.lst (acc ++ [.ref q])) b = some o := fun b o h1 h => by
          rw [upd_ne h1, upd_ne (ne_of_none h hq)]
          exact h
        obtain ⟨d6, S6⟩ := grow (d4.trans d5) S5 D0 nD1 nD2 (H5 := upd (upd H5 q (.tup [.str y, .int (1 + j2)])) D (.lst (acc ++ [.ref q]))) (by rw [upd_same]; exact fun z => nomatch z) keep
        refine ⟨acc, hDq, sz_lt (by omega), d6, S6, ?_, acc ++ [.ref q], ls ++ [(y, 1 + j2)], upd_same, Paired.snoc ⟨q, rfl, by rw [upd_ne nqD, upd_same]⟩ (Paired.mp (fun v x z => ?_) hp), ?_, ?_⟩
        · exact keep _ _ (ne_of_none hpl3 hD) (d5.off _ _ np1 np2 hpl4)
        · obtain ⟨t, rfl, ht⟩ := z
          refine ⟨t, rfl, keep _ _ (ne_of ht hD4 (fun z => nomatch z)) (d5.keep S4 ht (fun _ z => nomatch z))⟩
        · rw [List.map_append, hls, take_snoc hy]; rfl
        · intro x hx
          rcases List.mem_append.mp hx with h | h
          · exact hw x h
          · rw [List.mem_singleton] at h
            rw [h]
            exact ⟨by show (1 : Int) ≤ 1 + j2; omega, by show 1 + j2 ≤ 3; omega⟩
      · rintro H4 ⟨d4, S4, hpl4, acc, ls, hD4, hp, hls, hw⟩
        rw [List.length_map, List.take_length] at hls
        rw [List.length_map] at S4
        refine k D H4 acc ls d4 (S4.le (by omega)) (d3.free hD) hD4 hp ?_ ?_ ?_ ?_
        · intro e; rw [e] at hls; exact lne hls.symm
        · have := congrArg List.length hls; rw [List.length_map] at this; omega
        · rw [hls]; exact lnd
        · intro x hx
          exact ⟨hsub _ (by rw [← hls]; exact List.mem_map.mpr ⟨x, hx, rfl⟩), hw x hx⟩
    · rw [decide_eq_false (fun e => hwd (by injection e))]
      refine iteF ?_
      refine ⟨_, rfl, _, rfl, st, c, _, n, rfl, by decide, by decide, by omega, hS, fun j H1 d1 S1 j0 j1 => ?_⟩
      refine ⟨_, _, rfl, rfl, st, c, _, n + 1, rfl, by omega, by omega, by omega, S1, fun pl H3 ps d2 S3 hpl1 hpl3 pnd pln pnm => ?_⟩
      have d3 := d1.trans d2
      have pl0 : H pl = none := d1.free hpl1
      obtain ⟨np1, np2⟩ := hS.new pl0
      have lle : ps.length ≤ 3 := by omega
      have lne : ps ≠ [] := fun e => by rw [e] at pln; have e0 : ([] : List Str).length = 0 := rfl; omega
      have ha0 : ∀ H', Drw st c H H' → H' a = some (.lst (l.map V.str)) := fun H' d => d.off _ _ na1 na2 ha
      refine ⟨_, rfl, pl, rfl, ⟨_, SqL.of hpl3⟩, fun D hD => lc_list (xs := ps.map V.str) (fun i H' => Drw st c H H' ∧ Stm H' st c (n + 46 + i) ∧ H' pl = some (.lst (ps.map V.str)) ∧ ∃ (acc : List Addr) (ms : List (Str × Str)), H' D = some (.lst (acc.map V.ref)) ∧ Paired (fun (p : Addr) (m : Str × Str) => H' p = some (.tup [.str m.1, .str m.2])) acc ms ∧ ms.map (·.1) = ps.take i ∧ ∀ x ∈ ms, x.2 ∈ l)
        ⟨d3.trans (Drw.of (same_upd hD)), (S3.mono (same_upd hD)).le (by omega), same_upd hD _ _ hpl3, [], [], upd_same, .nil, rfl, (fun _ h => nomatch h)⟩ (fun i H' _ h => SqL.of h.2.2.1) ?_ ?_⟩
      · rintro i x H4 hx ⟨d4, S4, hpl4, acc, ms, hD4, hp, hls, hw⟩
        obtain ⟨y, hy, rfl⟩ := strs_at hx
        have D0 : H D = none := d3.free hD
        obtain ⟨nD1, nD2⟩ := hS.new D0
        have hi : i < ps.length := (List.getElem?_eq_some_iff.mp hy).1
        refine ⟨rfl, _, rfl, _, rfl, _, rfl, st, c, n + 46 + i, by omega, S4, .inl ⟨a, _, rfl, ha0 _ d4, na1, na2, (fun e => hl0 (List.map_eq_nil_iff.mp e)), by rw [List.length_map]; omega, fun v hv H5 d5 S5 => ?_⟩⟩
        obtain ⟨z, hz, rfl⟩ := List.mem_map.mp hv
        refine ⟨by show 2 ≤ sizeLine; decide, fun q hq => ?_⟩
        have hD5 := d5.off _ _ nD1 nD2 hD4
        have nqD : q ≠ D := fun e => by rw [e, hD5] at hq; cases hq
        have hDq : upd H5 q (.tup [.str y, .str z]) D = some (.lst (acc.map V.ref)) := by rw [upd_ne (Ne.symm nqD)]; exact hD5
        have lacc : acc.length = i := by
          have h1 := hp.length
          have h2 := congrArg List.length hls
          rw [List.length_map, List.length_take] at h2
          omega
        have keep : ∀ b o, b ≠ D → H5 b = some o → upd (upd H5 q (.tup [.str y, .str z])) D (.lst (acc.map V.ref ++ [.ref q])) b = some o := fun b o h1 h => by
          rw [upd_ne h1, upd_ne (ne_of_none h hq)]
          exact h
        obtain ⟨d6, S6⟩ := grow (d4.trans d5) S5 D0 nD1 nD2 (H5 := upd (upd H5 q (.tup [.str y, .str z])) D (.lst (acc.map V.ref ++ [.ref q]))) (by rw [upd_same]; exact fun z => nomatch z) keep
        refine ⟨_, hDq, sz_lt (by rw [List.length_map]; omega), d6, S6, ?_, acc ++ [q], ms ++ [(y, z)], by rw [upd_same, List.map_append]; rfl, Paired.snoc ?_ (Paired.mp (fun t x ht => ?_) hp), ?_, ?_⟩
        · exact keep _ _ (ne_of_none hpl3 hD) (d5.off _ _ np1 np2 hpl4)
        · show upd _ _ _ q = _
          rw [upd_ne nqD, upd_same]
        · exact keep _ _ (ne_of ht hD4 (fun z => nomatch z)) (d5.keep S4 ht (fun _ z => nomatch z))
        · rw [List.map_append, hls, take_snoc hy]; rfl
        · intro x hx
          rcases List.mem_append.mp hx with h | h
          · exact hw x h
          · rw [List.mem_singleton] at h
            rw [h]
            exact hz
      · rintro H4 ⟨d4, S4, hpl4, acc, ms, hD4, hp, hls, hw⟩
        rw [List.length_map, List.take_length] at hls
        rw [List.length_map] at S4
        have mnd : (ms.map (·.1)).Nodup := by rw [hls]; exact pnd
        have mln : ms.length = ps.length := by have := congrArg List.length hls; rwa [List.length_map] at this
        refine ⟨D, acc, mvKv ms, rfl, SqL.of hD4, ?_, fun p hp => ?_⟩
        · have : ∀ {as : List Addr} {ms : List (Str × Str)}, Paired (fun (p : Addr) (m : Str × Str) => H4 p = some (.tup [.str m.1, .str m.2])) as ms → Paired (fun p (kv : Key × V) => SqT K H4 p [kV kv.1, kv.2]) as (mvKv ms) := by
            intro as ms h
            induction h with
            | nil => exact .nil
            | cons r _ ih => exact .cons (SqT.of r) ih
          exact this hp
        · rw [mergeK_nd (by rw [List.nil_append]; exact mvKv_nd mnd), List.nil_append]
          have s5 := same_upd (o := .dK (mvKv ms)) hp
          refine k p _ ms (d4.trans (Drw.of s5)) ((S4.mono s5).le (by omega)) (d4.free hp) upd_same ?_ (by omega) mnd ?_
          · intro e; rw [e] at hls; exact lne hls.symm
          · intro m hm
            exact ⟨(pnm _ (by rw [← hls]; exact List.mem_map.mpr ⟨m, hm, rfl⟩)).1, hw m hm⟩
end
end Gw
end

section
set_option Elab.async false
set_option linter.all false
set_option maxRecDepth 100000
set_option maxHeartbeats 4000000
/-! games drawn: what they are -/
namespace Gw
open PySem PySem.Spec PyProof.Rows L2
open C8 (Cal Mak Met pe_c pe_mk pe_mt pe_mt0 pe_gc)
open RZ (pi_zipA ItzT)

def rkL : List Str → Str → Nat
  | [], _ => 0
  | x :: l, n => if x = n then l.length else rkL l n
theorem rkL_lt : ∀ {l : List Str} {n : Str}, n ∈ l → rkL l n < l.length
  | [], _, h => nomatch h
  | x :: l, n, h => by
    unfold rkL
    by_cases e : x = n
    · rw [if_pos e, List.length_cons]; omega
    · rw [if_neg e, List.length_cons]
      rcases List.mem_cons.mp h with h | h
      · exact absurd h.symm e
      · have := rkL_lt h; omega
theorem rkL_drop : ∀ {l : List Str} {j : Nat} {n : Str}, l.Nodup → l[j]? = some n → ∀ d ∈ l.drop (j + 1), rkL l d < rkL l n
  | [], _, _, _, h => by simp at h
  | x :: l, 0, n, nd, h => by
    intro d hd
    cases h
    have hd : d ∈ l := hd
    rw [List.nodup_cons] at nd
    have e : x ≠ d := fun e => nd.1 (e ▸ hd)
    unfold rkL
    rw [if_neg e, if_pos rfl]
    exact rkL_lt hd
  | x :: l, j + 1, n, nd, h => by
    intro d hd
    have h : l[j]? = some n := h
    have hd : d ∈ l.drop (j + 1) := hd
    rw [List.nodup_cons] at nd
    have e1 : x ≠ d := fun e => nd.1 (e ▸ List.mem_of_mem_drop hd)
    have e2 : x ≠ n := fun e => nd.1 (e ▸ List.mem_of_getElem? h)
    unfold rkL
    rw [if_neg e1, if_neg e2]
    exact rkL_drop nd.2 h d hd
/-- a place as it is drawn, leading to some of l -/
def PlG (l : List Str) : Pl → Prop
  | .mv _ ms => ms ≠ [] ∧ ms.length ≤ 3 ∧ (ms.map (·.1)).Nodup ∧ ∀ m ∈ ms, Name m.1 ∧ m.2 ∈ l
  | .chance ls => ls ≠ [] ∧ ls.length ≤ 3 ∧ (ls.map (·.1)).Nodup ∧ ∀ x ∈ ls, x.1 ∈ l ∧ 1 ≤ x.2 ∧ x.2 ≤ 3
  | .fin t b => 1 ≤ b ∧ b ≤ 4 ∧ -6 ≤ t ∧ t ≤ 6
theorem PlG.dest {l : List Str} {p : Pl} (h : PlG l p) {d : Str} (hd : d ∈ p.dests) : d ∈ l := by
  cases p with
  | mv o ms =>
    obtain ⟨m, hm, rfl⟩ := List.mem_map.mp hd
    exact (h.2.2.2 m hm).2
  | chance ls =>
    obtain ⟨m, hm, rfl⟩ := List.mem_map.mp hd
    exact (h.2.2.2 m hm).1
  | fin t b => cases hd
theorem tree_of {L l' : List Str} {g g' : Gm} (nd : L.Nodup) (l1 : L ≠ []) (l9 : L.length ≤ 9) (nm : ∀ x ∈ L, Name x) (hg : g.map (·.1) = L) (hp : ∀ j q, g[j]? = some q → PlG (L.drop (j + 1)) q.2) (pm : l'.Perm L) (hg' : g'.map (·.1) = l') (hl : ∀ q ∈ g', look g q.1 = some q.2) : GOk g' (rkL L) := by
  have lg : g'.length = L.length := by rw [← List.length_map (f := (·.1)), hg', pm.length_eq]
  have key : ∀ n p, look g' n = some p → ∃ j, L[j]? = some n ∧ PlG (L.drop (j + 1)) p := fun n p h => by
    have h1 := hl _ (look_mem h)
    obtain ⟨j, hj⟩ := List.getElem?_of_mem (look_mem h1)
    exact ⟨j, by rw [← hg, List.getElem?_map, hj]; rfl, hp _ _ hj⟩
  refine ⟨⟨?_, ?_, ?_, ?_, ?_, ?_, ?_⟩, ?_, ?_, ?_⟩
  · rw [hg']; exact pm.nodup_iff.mpr nd
  · omega
  · intro n hn
    rw [hg'] at hn
    rw [lg]
    exact rkL_lt (pm.mem_iff.mp hn)
  · intro n p h d hd
    obtain ⟨j, h1, h2⟩ := key n p h
    have h3 := h2.dest hd
    exact ⟨by rw [hg']; exact pm.mem_iff.mpr (List.mem_of_mem_drop h3), rkL_drop nd h1 d h3⟩
  · intro n o ms h
    obtain ⟨j, h1, h2⟩ := key n _ h
    exact ⟨h2.1, h2.2.1, h2.2.2.1⟩
  · intro n ls h
    obtain ⟨j, h1, h2⟩ := key n _ h
    exact ⟨h2.1, h2.2.1, h2.2.2.1, fun l hl => (h2.2.2.2 l hl).2⟩
  · intro n t b h
    obtain ⟨j, h1, h2⟩ := key n _ h
    exact h2
  · intro e
    rw [e] at lg
    have : 0 < L.length := List.length_pos_iff.mpr l1
    have e0 : ([] : Gm).length = 0 := rfl
    omega
  · intro n hn
    rw [hg'] at hn
    exact nm n (pm.mem_iff.mp hn)
  · intro n o ms h m hm
    obtain ⟨j, h1, h2⟩ := key n _ h
    exact (h2.2.2.2 m hm).1
theorem cutV_drop (xs : List V) (i : Nat) : cutV xs (some (i : Int)) none = xs.drop i := by
  unfold cutV
  rw [HT.sIx_none, HT.sIx_nat]
  by_cases h : i ≤ xs.length
  · rw [Nat.min_eq_left h, List.take_of_length_le (by rw [List.length_drop]; omega)]
  · rw [Nat.min_eq_right (by omega), List.drop_of_length_le (Nat.le_refl _), List.drop_of_length_le (by omega)]
    exact List.take_nil
/-- a dict of places holds no moves -/
theorem gm_ne2 {H : Hp} {d r : Addr} {kvs : List (Key × V)} {g : Gm} {ms : List (Str × Str)} (hd : H d = some (.dK kvs)) (hg : GmKv H kvs g) (hn : ms ≠ []) (hr : H r = some (.dK (mvKv ms))) : r ≠ d := by
  intro e
  subst e
  rw [hd] at hr
  have ek : kvs = mvKv ms := by
    have h1 := Option.some.inj hr
    injection h1
  cases hg with
  | nil =>
    cases ms with
    | nil => exact hn rfl
    | cons m ms => cases ek
  | cons r t =>
    obtain ⟨_, a, b, e, _⟩ := r
    cases ms with
    | nil => cases ek
    | cons m ms =>
      have h2 := (List.cons.inj ek).1
      rw [h2] at e
      cases e
theorem PlAt.off2 {H H' : Hp} {d : Addr} {kvs : List (Key × V)} {g : Gm} {l : List Str} (off : Off d H H') (hd : H d = some (.dK kvs)) (hg : GmKv H kvs g) {v : V} {p : Pl} (hp : PlG l p) (h : PlAt H v p) : PlAt H' v p := by
  obtain ⟨t, r, e, h1, h2⟩ := h
  refine ⟨t, r, e, off _ _ (ne_of h1 hd (fun z => nomatch z)) h1, ?_⟩
  cases p with
  | mv q ms => exact off _ _ (gm_ne2 hd hg hp.1 h2) h2
  | chance ls =>
    obtain ⟨as, a1, a2⟩ := h2
    refine ⟨as, off _ _ (ne_of a1 hd (fun z => nomatch z)) a1, Paired.mp (fun _ _ z => ?_) a2⟩
    obtain ⟨a, e, z⟩ := z
    exact ⟨a, e, off _ _ (ne_of z hd (fun z => nomatch z)) z⟩
  | fin t b => exact off _ _ (ne_of h2 hd (fun z => nomatch z)) h2
theorem PlAt.drw {H H' : Hp} {st c : Addr} {n : Nat} {l : List Str} (d : Drw st c H H') (S : Stm H st c n) {v : V} {p : Pl} (hp : PlG l p) (h : PlAt H v p) : PlAt H' v p := by
  obtain ⟨t, r, e, h1, h2⟩ := h
  refine ⟨t, r, e, d.keep S h1 (fun _ z => nomatch z), ?_⟩
  cases p with
  | mv q ms => exact d.keep S h2 (fun _ z => nomatch z)
  | chance ls =>
    obtain ⟨as, a1, a2⟩ := h2
    have keep : ∀ v x, LotAt H v x → LotAt H' v x := fun v x z => by
      obtain ⟨a, e, z⟩ := z
      exact ⟨a, e, d.keep S z (fun _ z => nomatch z)⟩
    refine ⟨as, d.off _ _ ?_ ?_ a1, Paired.mp keep a2⟩
    · intro e
      obtain ⟨cells, s1, s2, s3, q1, q2, _⟩ := S
      rw [e, q1] at a1
      injection a1 with a1
      injection a1 with a1
      rw [← a1] at a2
      cases a2 with
      | cons z _ =>
        obtain ⟨a, e, z⟩ := z
        injection e with e
        rw [← e, q2] at z
        cases z
    · intro e
      obtain ⟨cells, s1, s2, s3, q1, q2, _⟩ := S
      rw [e, q2] at a1
      injection a1 with a1
      injection a1 with a1
      rw [← a1] at a2
      cases cells with
      | nil =>
        cases a2
        exact hp.1 rfl
      | cons x cs =>
        cases a2 with
        | cons z _ =>
          obtain ⟨a, e, z⟩ := z
          cases e
  | fin t b => exact d.keep S h2 (fun _ z => nomatch z)
/-- all places are good ones -/
def AllG (L : List Str) (g : Gm) : Prop := ∀ j q, g[j]? = some q → PlG (L.drop (j + 1)) q.2
theorem gmkv_mp {H H' : Hp} {kvs : List (Key × V)} {g : Gm} (h : GmKv H kvs g) (f : ∀ q ∈ g, ∀ v, PlAt H v q.2 → PlAt H' v q.2) : GmKv H' kvs g := by
  induction h with
  | nil => exact .nil
  | cons r t ih => exact .cons ⟨r.1, f _ (List.mem_cons_self ..) _ r.2⟩ (ih fun q hq => f q (List.mem_cons_of_mem _ hq))
theorem GmKv.drw {H H' : Hp} {st c : Addr} {n : Nat} {L : List Str} {kvs : List (Key × V)} {g : Gm} (h : GmKv H kvs g) (hg : AllG L g) (d : Drw st c H H') (S : Stm H st c n) : GmKv H' kvs g := gmkv_mp h fun q hq v z => by
  obtain ⟨j, hj⟩ := List.getElem?_of_mem hq
  exact z.drw d S (hg _ _ hj)
theorem GmKv.off2 {H H' : Hp} {d : Addr} {L : List Str} {kvs : List (Key × V)} {g : Gm} (h : GmKv H kvs g) (hg : AllG L g) (hd : H d = some (.dK kvs)) (off : Off d H H') : GmKv H' kvs g := gmkv_mp h fun q hq v z => by
  obtain ⟨j, hj⟩ := List.getElem?_of_mem hq
  exact z.off2 off hd h (hg _ _ hj)
theorem AllG.snoc {L : List Str} {g : Gm} {n : Str} {p : Pl} (h : AllG L g) (hp : PlG (L.drop (g.length + 1)) p) : AllG L (g ++ [(n, p)]) := fun j q hj => by
  by_cases hlt : j < g.length
  · rw [List.getElem?_append_left hlt] at hj
    exact h j q hj
  · rw [List.getElem?_append_right (by omega)] at hj
    have e : j - g.length = 0 := by
      have := (List.getElem?_eq_some_iff.mp hj).1
      simp at this
      omega
    rw [e] at hj
    cases hj
    have : j = g.length := by omega
    rw [this]
    exact hp
end Gw
end

section
set_option Elab.async false
set_option linter.all false
set_option maxRecDepth 100000
set_option maxHeartbeats 4000000
/-! walks: a game drawn -/
namespace Gw
open PySem PySem.Spec PyProof.Rows L2
open C8 (Cal Mak Met pe_c pe_mk pe_mt pe_mt0 pe_gc)
open RZ (pi_zipA ItzT)

theorem or_and {p q r : Bool} {A B C D : Prop} (hD : (if q = true then C else (if false = true then A else B)) → D) (hC : (if r = true then A else B) → C) (hA : A) (hB : p = false → B) : if p = true then (if true = true then A else B) else D := by
  cases p with
  | true => exact iteT (iteT hA)
  | false =>
    refine iteF (hD ?_)
    cases q with
    | false => exact iteF (iteF (hB rfl))
    | true =>
      refine iteT (hC ?_)
      cases r with
      | true => exact iteT hA
      | false => exact iteF (hB rfl)
def Wd3 (wd : Str) : Prop := wd = "ours" ∨ wd = "theirs" ∨ wd = "chance"
theorem ifx {b : Bool} {X Y : Prop} {Z : Str → Prop} {wd : Str} (hb : b = true → Wd3 wd) (hX : Z wd → X) (hY : Z "ours" → Y) (h : ∀ wd', Wd3 wd' → Z wd') : if b = true then X else Y := by
  cases b with
  | true => exact iteT (hX (h _ (hb rfl)))
  | false => exact iteF (hY (h _ (.inl rfl)))
def GaW (H0 : Hp) (st c nl fd : Addr) (m : Int) (n : Nat) (L : List Str) (i : Nat) (σ : L2.St) (H : Hp) : Prop := ∃ a b e f, σ = [some (.ref st), some (.int m), some (.bl true), some (.ref nl), some (.ref fd), a, b, e, f] ∧ Drw st c H0 H ∧ Stm H st c (n + 45 + 62 * i) ∧ H nl = some (.lst (L.map V.str)) ∧
  ∃ kvs g, H fd = some (.dK kvs) ∧ GmKv H kvs g ∧ g.map (·.1) = L.take i ∧ AllG L g

section
variable {P : Program} {w : World} {K : PySem.W.Frag} {mg : Str → Option Value} {base : Heap}
def spGame : Sp := fun vs H Q _ => ∃ (st c : Addr) (m : Int) (n : Nat), vs = [.ref st, .int m, .bl true] ∧ 1 ≤ m ∧ m ≤ 9 ∧ n < 90000 ∧ Stm H st c n ∧
  ∀ (d : Addr) (H' : Hp) (g : Gm) (rk : Str → Nat), Drw st c H H' → Stm H' st c (n + 1000) → H d = none → GmAt H' d g → GOk g rk → (∀ x : Str, x ∈ g.map (·.1) → x ≠ "late") → Q (.ref d) H'
theorem sc_law_t_game : FnScope ["_law_stream", "_law_many", "_law_is_tree", "_law_names", "_law_found", "_law_at", "_law_name", "_law_behind", "_law_word"] ["_law_stream", "_law_many", "_law_is_tree"] (defScope (top 41)) :=
  ⟨rfl, rfl, rfl, by decide +kernel, rfl, by decide +kernel, by decide +kernel⟩
theorem ok_law_t_game {f : Addr} {fd : FuncData} (F : Fun K "_law_t_game" "_law_t_game" (top 41) f fd) (B : Bi mg) (c_law_t_words : Cal P w K mg base 3 "_law_t_words" spWords []) (c_law_pick : Cal P w K mg base 2 "_law_pick" spPick []) (c_law_t_fraction : Cal P w K mg base 2 "_law_t_fraction" spFra []) (c_law_t_leads : Cal P w K mg base 4 "_law_t_leads" spLeads []) (c_law_mixed : Cal P w K mg base 2 "_law_mixed" spMix []) : FnOk P w K mg base CX0 5 f fd ["_law_stream", "_law_many", "_law_is_tree"] spGame := by
  refine F.ok sc_law_t_game (fun vs H Q E h => ?_) (fun cdv A outer s H vs Q E hr h => ?_)
  · obtain ⟨st, c, m, n, rfl, _⟩ := h
    rfl
  · obtain ⟨st, c, m, n, rfl, hm1, hm9, hn, hS, k⟩ := h
    refine ⟨_, (pss_cons (ps_asg (pe_tup (pa_cons (pe_c c_law_t_words hr (by decide) (by rfl) (pa_cons (pv 0) (pa_cons (pv 1) pa_nil))) (pa_cons pe_dnewK pa_nil))) (pg_tup rfl (pgs_cons (pg_name (i := 3) sc_law_t_game.nd rfl (Or.inl rfl)) (pgs_cons (pg_name (i := 4) sc_law_t_game.nd rfl (Or.inr rfl)) pgs_nil))))
      (pss_cons (ps_for PassesOwn.never rfl (pi_enum (by rfl) B.enumerate_ (pa_cons (pv 3) pa_nil)) (pg_tup rfl (pgs_cons (pg_name (i := 5) sc_law_t_game.nd rfl (Or.inl rfl)) (pgs_cons (pg_name (i := 6) sc_law_t_game.nd rfl (Or.inl rfl)) pgs_nil)))
      (pss_cons (ps_set (i := 7) sc_law_t_game.nd rfl (Or.inl rfl) (pe_ifExp (pt_val (pv 2)) (pe_slice sl_list (pv 3) (po_some (pe_op op_add (pv 5) pe_int)) po_none) (pv 3)))
      (pss_cons (ps_set (i := 8) sc_law_t_game.nd rfl (Or.inl rfl) (pe_c c_law_pick hr (by decide) (by rfl) (pa_cons (pv 0) (pa_cons (pe_lst (pa_cons pe_str (pa_cons pe_str (pa_cons pe_str (pa_cons pe_str (pa_cons pe_str (pa_cons pe_str pa_nil))))))) pa_nil))))
      (pss_one (ps_if (pw_or (pt_cmpR (op_eqD hr.units) (pv 7) (pe_lst pa_nil) (nomark _)) (pw_or1 (pw_and (pt_cmpR op_eq (pv 8) pe_str (nomark _)) (pw_and1 (pt_cmpR op_gt (pv 5) pe_int (nomark _)))).pt)).pt (pss_one (ps_dput (hu_of hr) (pv 4) (pv 6) (pe_tup (pa_cons pe_str (pa_cons (pe_c c_law_t_fraction hr (by decide) (by rfl) (pa_cons (pv 0) pa_nil)) pa_nil))) rfl)) (pss_cons (ps_set (i := 8) sc_law_t_game.nd rfl (Or.inl rfl) (pe_ifExp (pt_cmpR op_ne (pv 8) pe_str (nomark _)) (pv 8) pe_str))
      (pss_one (ps_dput (hu_of hr) (pv 4) (pv 6) (pe_tup (pa_cons (pv 8) (pa_cons (pe_c c_law_t_leads hr (by decide) (by rfl) (pa_cons (pv 0) (pa_cons (pv 8) (pa_cons (pv 7) pa_nil)))) pa_nil))) rfl))))))))
      (pss_one (ps_ret (pe_callTy (call_dictP rfl) (by rfl) B.dict_ bt_dict (pa_cons (pe_lc (own := [("_law_name", 6)]) (g := gName 6) rfl sc_law_t_game.nd (pi_list (pe_c c_law_mixed hr (by decide) (by rfl) (pa_cons (pv 0) (pa_cons (pv 3) pa_nil)))) (blkOk_by (by kernel_rfl)) (fun _ _ _ _ _ => (pg_name (i := 6) sc_law_t_game.nd rfl (Or.inl rfl))) (fun _ _ _ _ _ => pts_nil) (fun _ _ _ _ _ => (pe_tup (pa_cons (pv 6) (pa_cons (pe_dget (hu_of hr) (pv 4) (pv 6) (fun _ _ => rfl)) pa_nil))))) pa_nil)))))), ?_⟩
    refine ⟨_, rfl, _, rfl, st, c, _, n, rfl, by omega, by omega, by omega, hS, fun nl H1 L d1 S1 nl0 hnl Lnd Llen Lnm => ?_⟩
    refine fun fd hfd => ?_
    refine ⟨by show 2 ≤ sizeLine; decide, fun T hT => ?_⟩
    refine ⟨T, _, rfl, SqT.of upd_same, rfl, _, _, rfl, _, _, rfl, rfl, ?_⟩
    have sA := same_upd (o := .dK []) hfd
    have sB := sA.trans (same_upd (o := .tup [.ref nl, .ref fd]) hT)
    have hfd2 : (upd (upd H1 fd (.dK [])) T (.tup [.ref nl, .ref fd])) fd = some (.dK []) := same_upd hT _ _ upd_same
    have hnl2 := sB _ _ hnl
    have S2 := S1.mono sB
    have d2 := d1.trans (Drw.of sB)
    have fd0 : H fd = none := d1.free hfd
    obtain ⟨nf1, nf2⟩ := hS.new fd0
    obtain ⟨nn1, nn2⟩ := hS.new nl0
    have nnf : nl ≠ fd := ne_of_none hnl hfd
    have L9 : L.length ≤ 9 := by omega
    have L1 : L ≠ [] := fun e => by rw [e] at Llen; have e0 : ([] : List Str).length = 0 := rfl; omega
    refine ⟨_, rfl, nl, _, rfl, SqL.of hnl2, forg (n := (L.map V.str).length) (GaW H st c nl fd m n L) ⟨none, none, none, none, rfl, d2, S2, hnl2, [], [], hfd2, .nil, rfl, fun j q h => by simp at h⟩ ?_ ?_ ?_ ?_⟩
    · rintro i σ H' hi ⟨_, _, _, _, _, _, _, h, _⟩
      exact go_e h i H' hi (Same.refl _)
    · rintro σ H' ⟨_, _, _, _, _, _, _, h, _⟩
      exact stop_e h H' (Same.refl _)
    · rintro i x σ H2' H3 hi ⟨a, b, e, f, rfl, d2', S2', hnl2', kvs, g, hfd2', gkv, gnm, gall⟩ hy
      clear S1 d1 sA sB hfd2 hnl2 S2 d2
      obtain ⟨T', y, rfl, nT, rfl, hxy⟩ := yl_e hnl2' (Same.refl _) hy
      obtain ⟨z, hz, rfl⟩ := strs_at hxy
      rw [List.length_map] at hi
      have lgi : g.length = i := by
        have := congrArg List.length gnm
        rw [List.length_map, List.length_take] at this
        omega
      have lkv : kvs.length = i := by rw [gkv.length, lgi]
      have sC := same_upd (o := .tup [.int (i : Nat), .str z]) nT
      refine ⟨T', _, rfl, SqT.of upd_same, rfl, _, _, rfl, _, _, rfl, rfl, ?_⟩
      have d3 := d2'.trans (Drw.of sC)
      have S3 := S2'.mono sC
      have hnl3 := sC _ _ hnl2'
      have hfd3 := sC _ _ hfd2'
      have gkv3 := gkv.mono sC
      generalize upd H2' T' (.tup [.int (i : Nat), .str z]) = H3 at *
      clear gkv hfd2' hnl2' S2' d2' sC
      have zno : z ∉ L.take i := fun h => by
        have h1 : (L.take (i + 1)).Nodup := Lnd.sublist (List.take_sublist ..)
        rw [take_snoc hz, List.nodup_append] at h1
        exact h1.2.2 _ h _ (List.mem_singleton.mpr rfl) rfl
      have kno : valV kvs (Sum.inr z) = none := (gm_look gkv3).2 (by
        cases e : look g z with
        | none => rfl
        | some p => exact absurd (gnm ▸ look_in e) zno)
      have fdX : ∀ X, Drw st c H3 X → X fd = some (.dK kvs) := fun X d => d.off _ _ nf1 nf2 hfd3
      have lkz : kvs.length < sizeLine := sz_lt (by omega)
      -- one more place
      have fin : ∀ (e f : Option V) (X : Hp) (q : Addr) (p : Pl), Drw st c H3 X → Stm X st c (n + 45 + 62 * i + 62) → PlAt X (.ref q) p → PlG (L.drop (i + 1)) p → GaW H st c nl fd m n L (i + 1) [some (.ref st), some (.int m), some (.bl true), some (.ref nl), some (.ref fd), some (.int (i : Nat)), some (.str z), e, f] (upd X fd (.dK (putK kvs (Sum.inr z) (.ref q)))) := fun e f X q p dX SX hp hg => by
        have hX := fdX X dX
        have off : Off fd X (upd X fd (.dK (putK kvs (Sum.inr z) (.ref q)))) := Off.put (Off.of (Same.refl _))
        have gX := gkv3.drw gall dX S3
        obtain ⟨d6, S6⟩ := grow (d3.trans dX) SX fd0 nf1 nf2 (H5 := upd X fd (.dK (putK kvs (Sum.inr z) (.ref q)))) (by rw [upd_same]; exact fun z => nomatch z) (fun b o h1 h => off b o h1 h)
        refine ⟨_, _, _, _, rfl, d6, S6.le (by omega), off _ _ nnf (dX.off _ _ nn1 nn2 hnl3), _, g ++ [(z, p)], upd_same, ?_, ?_, gall.snoc (by rw [lgi]; exact hg)⟩
        · rw [putK_new _ kno]
          have g2 := gX.off2 gall hX off
          rw [putK_new _ kno] at g2
          refine Paired.snoc ⟨rfl, ?_⟩ g2
          have p2 := hp.off2 off hX gX hg
          rw [putK_new _ kno] at p2
          exact p2
        · rw [List.map_append, gnm, take_snoc hz]; rfl
      refine ⟨_, rfl, true, rfl, iteT ⟨_, rfl, _, rfl, _, _, rfl, rfl, _, rfl, nl, _, rfl, SqL.of hnl3, fun bl hbl => ?_⟩⟩
      have ebl : cutV (L.map V.str) (some ((i : Int) + 1)) none = (L.drop (i + 1)).map V.str := by
        rw [show ((i : Int) + 1) = ((i + 1 : Nat) : Int) from rfl, cutV_drop, List.map_drop]
      rw [ebl]
      have sD := same_upd (o := .lst ((L.drop (i + 1)).map V.str)) hbl
      have hbl1 : upd H3 bl (.lst ((L.drop (i + 1)).map V.str)) bl = some (.lst ((L.drop (i + 1)).map V.str)) := upd_same
      generalize upd H3 bl (.lst ((L.drop (i + 1)).map V.str)) = HA at sD hbl1
      refine ⟨_, rfl, by show 6 ≤ sizeLine; decide, fun el hel => ?_⟩
      have sE := sD.trans (same_upd (o := .lst [.str "ours", .str "theirs", .str "chance", .str "ours", .str "theirs", .str "end"]) hel)
      have hbl2 := same_upd (o := .lst [.str "ours", .str "theirs", .str "chance", .str "ours", .str "theirs", .str "end"]) hel _ _ hbl1
      have hel2 : upd HA el (.lst [.str "ours", .str "theirs", .str "chance", .str "ours", .str "theirs", .str "end"]) el = some (.lst [.str "ours", .str "theirs", .str "chance", .str "ours", .str "theirs", .str "end"]) := upd_same
      obtain ⟨ne1, ne2⟩ := S3.new (sD.free hel)
      obtain ⟨nb1, nb2⟩ := S3.new hbl
      generalize upd HA el (.lst [.str "ours", .str "theirs", .str "chance", .str "ours", .str "theirs", .str "end"]) = HB at sE hbl2 hel2
      refine ⟨st, c, n + 45 + 62 * i, by omega, S3.mono sE, .inl ⟨el, _, rfl, hel2, ne1, ne2, (fun z => nomatch z), by show 6 ≤ 1000; decide, fun v hv HC dC SC => ?_⟩⟩
      obtain ⟨wd, rfl, hwd⟩ : ∃ wd : Str, v = .str wd ∧ (wd = "end" ∨ Wd3 wd) := by
        simp only [List.mem_cons, List.not_mem_nil, or_false] at hv
        rcases hv with rfl | rfl | rfl | rfl | rfl | rfl
        · exact ⟨_, rfl, .inr (.inl rfl)⟩
        · exact ⟨_, rfl, .inr (.inr (.inl rfl))⟩
        · exact ⟨_, rfl, .inr (.inr (.inr rfl))⟩
        · exact ⟨_, rfl, .inr (.inl rfl)⟩
        · exact ⟨_, rfl, .inr (.inr (.inl rfl))⟩
        · exact ⟨_, rfl, .inl rfl⟩
      have dC3 : Drw st c H3 HC := (Drw.of sE).trans dC
      have hblC := dC.off _ _ nb1 nb2 hbl2
      clear hel2 hbl2 hel hbl1 sD sE dC hv
      -- nothing behind, or an end
      refine ⟨_, rfl, Nat.zero_le _, fun e2 he2 => ?_⟩
      have sF := same_upd (o := .lst []) he2
      have lsok : ∀ y ∈ L.drop (i + 1), SOk y := fun y hy => name_ok (Lnm y (List.mem_of_mem_drop hy)).1
      refine eqD (m := []) (sF _ _ hblC) upd_same lsok (fun _ h => nomatch h) ⟨_, rfl, ?_⟩
      have dD3 := dC3.trans (Drw.of sF)
      have SD := SC.mono sF
      have hblD := sF _ _ hblC
      generalize upd HC e2 (.lst []) = HD at dD3 SD hblD
      clear sF hblC SC dC3 he2
      refine or_and (r := decide ((i : Int) > 0)) (fun z => ⟨_, rfl, rfl, _, rfl, z⟩) (fun z => ⟨_, rfl, _, _, rfl, rfl, _, rfl, z⟩) ?_ (fun hne => ?_)
      · refine ⟨_, rfl, st, c, n + 45 + 62 * i + 1, rfl, by omega, SD, fun r HE t b' dE SE r0 hr b1 b2 b3 b4 => ⟨by show 2 ≤ sizeLine; decide, fun q hq => ?_⟩⟩
        have sq := same_upd (o := .tup [.str "end", .ref r]) hq
        have dF := (dD3.trans dE).trans (Drw.of sq)
        refine ⟨_, rfl, _, rfl, fd, _, rfl, DPut.k (k := Sum.inr z) (fdX _ dF) lkz, fin _ _ _ q (.fin t b') dF ((SE.mono sq).le (by omega)) ⟨q, r, rfl, upd_same, sq _ _ hr⟩ ⟨b3, b4, b1, b2⟩⟩
      · have hl0 : L.drop (i + 1) ≠ [] := of_decide_eq_false hne
        have hl9 : (L.drop (i + 1)).length ≤ 9 := by rw [List.length_drop]; omega
        have hnd : (L.drop (i + 1)).Nodup := Lnd.sublist (List.drop_sublist ..)
        have dropmem : ∀ (HE HF : Hp) (q r : Addr) (o : Bool) (ms : List (Str × Str)), Drw st c HD HE → Stm HE st c (n + 45 + 62 * i + 1 + 60) → HE r = some (.dK (mvKv ms)) → ms ≠ [] → ms.length ≤ 3 → (ms.map (·.1)).Nodup → (∀ m ∈ ms, Name m.1 ∧ m.2 ∈ L.drop (i + 1)) → HE q = none → HF = upd HE q (.tup [.str (side o), .ref r]) → ∀ e f, HF fd = some (.dK kvs) ∧ GaW H st c nl fd m n L (i + 1) [some (.ref st), some (.int m), some (.bl true), some (.ref nl), some (.ref fd), some (.int (i : Nat)), some (.str z), e, f] (upd HF fd (.dK (putK kvs (Sum.inr z) (.ref q)))) := by
          intro HE HF q r o ms dE SE hr m0 m3 mnd mok hq eF e f
          subst eF
          have sq := same_upd (o := .tup [.str (side o), .ref r]) hq
          have dF := (dD3.trans dE).trans (Drw.of sq)
          refine ⟨fdX _ dF, fin e f _ q (.mv o ms) dF ((SE.mono sq).le (by omega)) ⟨q, r, rfl, ?_, sq _ _ hr⟩ ⟨m0, m3, mnd, mok⟩⟩
          rw [upd_same]
          cases o <;> rfl
        refine ⟨_, rfl, rfl, _, rfl, ?_⟩
        rcases hwd with rfl | rfl | rfl | rfl
        · rw [show (!decide (V.str (Str.ofString "end") = V.str (Str.ofString "end"))) = false from by decide +kernel]
          refine iteF ?_
          refine ⟨_, rfl, _, rfl, _, rfl, _, rfl, st, c, bl, L.drop (i + 1), "ours", n + 45 + 62 * i + 1, rfl, hblD, nb1, nb2, hl0, hl9, hnd, by omega, SD, .inr ⟨by decide +kernel, fun r HE ms dE SE r0 hr m0 m3 mnd mok => ⟨by show 2 ≤ sizeLine; decide, fun q hq => ?_⟩⟩⟩
          obtain ⟨p1, p2⟩ := dropmem HE _ q r true ms dE SE hr m0 m3 mnd mok hq rfl (some (.ref bl)) (some (.str "ours"))
          exact ⟨_, rfl, _, rfl, fd, _, rfl, DPut.k (k := Sum.inr z) p1 lkz, p2⟩
        · rw [show (!decide (V.str (Str.ofString "ours") = V.str (Str.ofString "end"))) = true from by decide +kernel]
          refine iteT ?_
          refine ⟨_, rfl, _, rfl, _, rfl, _, rfl, _, rfl, st, c, bl, L.drop (i + 1), "ours", n + 45 + 62 * i + 1, rfl, hblD, nb1, nb2, hl0, hl9, hnd, by omega, SD, .inr ⟨by decide +kernel, fun r HE ms dE SE r0 hr m0 m3 mnd mok => ⟨by show 2 ≤ sizeLine; decide, fun q hq => ?_⟩⟩⟩
          obtain ⟨p1, p2⟩ := dropmem HE _ q r true ms dE SE hr m0 m3 mnd mok hq rfl (some (.ref bl)) (some (.str "ours"))
          exact ⟨_, rfl, _, rfl, fd, _, rfl, DPut.k (k := Sum.inr z) p1 lkz, p2⟩
        · rw [show (!decide (V.str (Str.ofString "theirs") = V.str (Str.ofString "end"))) = true from by decide +kernel]
          refine iteT ?_
          refine ⟨_, rfl, _, rfl, _, rfl, _, rfl, _, rfl, st, c, bl, L.drop (i + 1), "theirs", n + 45 + 62 * i + 1, rfl, hblD, nb1, nb2, hl0, hl9, hnd, by omega, SD, .inr ⟨by decide +kernel, fun r HE ms dE SE r0 hr m0 m3 mnd mok => ⟨by show 2 ≤ sizeLine; decide, fun q hq => ?_⟩⟩⟩
          obtain ⟨p1, p2⟩ := dropmem HE _ q r false ms dE SE hr m0 m3 mnd mok hq rfl (some (.ref bl)) (some (.str "theirs"))
          exact ⟨_, rfl, _, rfl, fd, _, rfl, DPut.k (k := Sum.inr z) p1 lkz, p2⟩
        · rw [show (!decide (V.str (Str.ofString "chance") = V.str (Str.ofString "end"))) = true from by decide +kernel]
          refine iteT ?_
          refine ⟨_, rfl, _, rfl, _, rfl, _, rfl, _, rfl, st, c, bl, L.drop (i + 1), "chance", n + 45 + 62 * i + 1, rfl, hblD, nb1, nb2, hl0, hl9, hnd, by omega, SD, .inl ⟨rfl, fun r HE as ls dE SE r0 hr pr ls0 ls3 lsn lsm => ⟨by show 2 ≤ sizeLine; decide, fun q hq => ?_⟩⟩⟩
          have sq := same_upd (o := .tup [.str "chance", .ref r]) hq
          have dF := (dD3.trans dE).trans (Drw.of sq)
          exact ⟨_, rfl, _, rfl, fd, _, rfl, DPut.k (k := Sum.inr z) (fdX _ dF) lkz, fin _ _ _ q (.chance ls) dF ((SE.mono sq).le (by omega)) ⟨q, r, rfl, upd_same, as, sq _ _ hr, Paired.mp (fun _ _ z => z.mono sq) pr⟩ ⟨ls0, ls3, lsn, lsm⟩⟩
    · rintro σ H4 ⟨a, b, e, f, rfl, d4, S4, hnl4, kvs, g, hfd4, gkv, gnm, gall⟩
      clear S1 d1 sA sB hfd2 hnl2 S2 d2
      rw [List.length_map] at S4
      rw [List.length_map, List.take_length] at gnm
      refine ⟨_, rfl, _, rfl, st, c, nl, L, n + 45 + 62 * L.length, rfl, hnl4, by omega, by omega, S4, fun ml H5 l' d5 S5 ml0 hml pm => ?_⟩
      have hfd5 := d5.off _ _ nf1 nf2 hfd4
      have gkv5 := gkv.drw gall d5 S4
      refine ⟨ml, rfl, ⟨_, SqL.of hml⟩, fun D hD => lc_list (xs := l'.map V.str) (fun j H' => Same H5 H' ∧ ∃ (acc : List Addr) (kvs' : List (Key × V)) (gg : Gm), H' D = some (.lst (acc.map V.ref)) ∧ Paired (fun (p : Addr) (kv : Key × V) => H' p = some (.tup [kV kv.1, kv.2])) acc kvs' ∧ GmKv H5 kvs' gg ∧ gg.map (·.1) = l'.take j ∧ ∀ q ∈ gg, look g q.1 = some q.2)
        ⟨same_upd hD, [], [], [], upd_same, .nil, .nil, rfl, (fun _ h => nomatch h)⟩ (fun i H' _ h => SqL.of (h.1 _ _ hml)) ?_ ?_⟩
      · rintro j x H6 hx ⟨s6, acc, kvs', gg, hD6, pp, gk, gn, gl⟩
        obtain ⟨y, hy, rfl⟩ := strs_at hx
        have hj : j < l'.length := (List.getElem?_eq_some_iff.mp hy).1
        have ll : l'.length = L.length := pm.length_eq
        have yL : y ∈ g.map (·.1) := by rw [gnm]; exact pm.mem_iff.mp (List.mem_of_getElem? hy)
        obtain ⟨p, v, hp, hv, hpl⟩ := gm_key gkv5 yL
        refine ⟨rfl, _, rfl, _, rfl, _, rfl, fd, _, rfl, dgetS (.inl (s6 _ _ hfd5)) hv, by show 2 ≤ sizeLine; decide, fun q hq => ?_⟩
        have sq := same_upd (o := .tup [.str y, v]) hq
        have nqD : q ≠ D := fun e => by rw [e, hD6] at hq; cases hq
        have keep : ∀ b o, b ≠ D → H6 b = some o → upd (upd H6 q (.tup [.str y, v])) D (.lst (acc.map V.ref ++ [.ref q])) b = some o := fun b o h1 h => by
          rw [upd_ne h1]
          exact sq _ _ h
        have lacc : acc.length = j := by
          have h1 := pp.length
          have h2 := gk.length
          have h3 := congrArg List.length gn
          rw [List.length_map, List.length_take] at h3
          omega
        refine ⟨_, sq _ _ hD6, sz_lt (by rw [List.length_map]; omega), same_mut (s6.trans sq) hD, acc ++ [q], kvs' ++ [(Sum.inr y, v)], gg ++ [(y, p)], by rw [upd_same, List.map_append]; rfl, Paired.snoc ?_ (Paired.mp (fun t x ht => ?_) pp), Paired.snoc ⟨rfl, hpl⟩ gk, ?_, ?_⟩
        · show upd _ _ _ q = _
          rw [upd_ne nqD, upd_same]
          rfl
        · exact keep _ _ (ne_of ht hD6 (fun z => nomatch z)) ht
        · rw [List.map_append, gn, take_snoc hy]; rfl
        · intro q hq
          rcases List.mem_append.mp hq with h | h
          · exact gl q h
          · rw [List.mem_singleton] at h
            rw [h]
            exact hp
      · rintro H6 ⟨s6, acc, kvs', gg, hD6, pp, gk, gn, gl⟩
        rw [List.length_map, List.take_length] at gn
        have knd : (kvs'.map (·.1)).Nodup := by
          rw [gm_keys gk]
          have e : (gg.map fun q => (Sum.inr q.1 : Key)) = (gg.map (·.1)).map Sum.inr := by rw [List.map_map]; rfl
          rw [e, gn]
          exact List.pairwise_map.mpr (List.Pairwise.imp (fun hab z => hab (by injection z)) (pm.nodup_iff.mpr Lnd))
        refine ⟨D, acc, kvs', rfl, SqL.of hD6, Paired.mp (fun _ _ h => SqT.of h) pp, fun p hp => ?_⟩
        rw [mergeK_nd (by rw [List.nil_append]; exact knd), List.nil_append]
        have s7 := s6.trans (same_upd (o := .dK kvs') hp)
        refine k p _ gg (rkL L) ((d4.trans d5).trans (Drw.of s7)) ((S5.mono s7).le (by omega)) ((d4.trans d5).free (s6.free hp)) ⟨kvs', upd_same, gk.mono s7⟩ (tree_of Lnd L1 L9 (fun x hx => (Lnm x hx).1) gnm gall pm gn gl) (fun x hx => ?_)
        rw [gn] at hx
        exact (Lnm x (pm.mem_iff.mp hx)).2
end
end Gw
end

section
set_option Elab.async false
set_option linter.all false
set_option maxRecDepth 100000
set_option maxHeartbeats 4000000
/-! walks: alike -/
namespace Gw
open PySem PySem.Spec PyProof.Rows L2
open C8 (Cal Mak Met pe_c pe_mk pe_mt pe_mt0 pe_gc)
open RZ (pi_zipA ItzT)

/-- the same thing in the heap, one layer more -/
def UpR (R : Hp → V → V → Prop) (H : Hp) (x y : V) : Prop := (∃ i : Int, x = .int i ∧ y = .int i) ∨
  ∃ (a b : Addr) (xs ys : List V), x = .ref a ∧ y = .ref b ∧ ((H a = some (.lst xs) ∧ H b = some (.lst ys)) ∨ (H a = some (.tup xs) ∧ H b = some (.tup ys))) ∧ Paired (R H) xs ys ∧ xs.length ≤ 100
def NoR : Hp → V → V → Prop := fun _ _ _ => False
theorem UpR.mono {R : Hp → V → V → Prop} (Rm : ∀ {H H' x y}, R H x y → Same H H' → R H' x y) : ∀ {H H' x y}, UpR R H x y → Same H H' → UpR R H' x y := fun h s => by
  rcases h with ⟨i, h1, h2⟩ | ⟨a, b, xs, ys, h1, h2, h3, h4, h5⟩
  · exact .inl ⟨i, h1, h2⟩
  · refine .inr ⟨a, b, xs, ys, h1, h2, ?_, Paired.mp (fun _ _ z => Rm z s) h4, h5⟩
    rcases h3 with ⟨q1, q2⟩ | ⟨q1, q2⟩
    · exact .inl ⟨s _ _ q1, s _ _ q2⟩
    · exact .inr ⟨s _ _ q1, s _ _ q2⟩
theorem ne_self {x : V} : (!decide (x = x)) = false := by simp
theorem eq_self1 {x : V} : decide (x = x) = true := by simp
theorem all_rep (n : Nat) : (List.replicate n true).all id = true := by
  rw [List.all_eq_true]
  intro x hx
  rw [List.eq_of_mem_replicate hx]
  rfl
section
variable {P : Program} {w : World} {K : PySem.W.Frag} {mg : Str → Option Value} {base : Heap}
theorem Seq2.ty {H : Hp} {a b : Addr} {xs ys : List V} (h : (H a = some (.lst xs) ∧ H b = some (.lst ys)) ∨ (H a = some (.tup xs) ∧ H b = some (.tup ys))) : ∃ t b1 b2, TyX K H (.ref a) t ∧ TyX K H (.ref b) t ∧ PySem.W.kitOne K t (.type "list") = some b1 ∧ PySem.W.kitOne K t (.type "tuple") = some b2 ∧ PySem.W.kitAny K t [.type "list", .type "tuple"] = some true := by
  rcases h with ⟨q1, q2⟩ | ⟨q1, q2⟩
  · exact ⟨_, _, _, .base (.lst q1), .base (.lst q2), kit_ty kb_ll, kit_ty kb_lt, ka_l⟩
  · exact ⟨_, _, _, .base (.tup q1), .base (.tup q2), kit_ty kb_tl, kit_ty kb_tt, ka_t⟩
def spSm (R : Hp → V → V → Prop) : Sp := fun vs H Q _ => ∃ x y, vs = [x, y] ∧ R H x y ∧ Ret (fun v _ => v = .bl true) H Q
theorem sc_law_same : FnScope ["_law_found", "_law_due", "_law_x", "_law_y"] ["_law_found", "_law_due"] (defScope (top 49)) :=
  ⟨rfl, rfl, rfl, by decide +kernel, rfl, by decide +kernel, by decide +kernel⟩
theorem ok_law_same {k : Nat} {R : Hp → V → V → Prop} (Rm : ∀ {H H' x y}, R H x y → Same H H' → R H' x y) {f : Addr} {fd : FuncData} (F : Fun K "_law_same" "_law_same" (top 49) f fd) (B : Bi mg) (c_law_same : Cal P w K mg base k "_law_same" (spSm R) []) : FnOk P w K mg base CX0 (k + 1) f fd ["_law_found", "_law_due"] (spSm (UpR R)) := by
  refine F.ok sc_law_same (fun vs H Q E h => ?_) (fun cdv A outer s H vs Q E hr h => ?_)
  · obtain ⟨x, y, rfl, _⟩ := h
    rfl
  · obtain ⟨x, y, rfl, hR, h0⟩ := h
    refine ⟨_, (pss_cons (ps_if (pt_val (pe_callB call_isiT (by rfl) B.isinstance_ bt_isinstance (pa_cons (pv 1) (pa_cons (pe_tup (pa_cons (pe_bltn (v := .ty "list") (by rfl) B.list_ bt_list rfl) (pa_cons (pe_bltn (v := .ty "tuple") (by rfl) B.tuple_ bt_tuple rfl) pa_nil))) pa_nil)))) (pss_cons (ps_if (pw_or (pt_cmpR op_ne (pe_callB call_isi (by rfl) B.isinstance_ bt_isinstance (pa_cons (pv 0) (pa_cons (pe_bltn (v := .ty "list") (by rfl) B.list_ bt_list rfl) pa_nil))) (pe_callB call_isi (by rfl) B.isinstance_ bt_isinstance (pa_cons (pv 1) (pa_cons (pe_bltn (v := .ty "list") (by rfl) B.list_ bt_list rfl) pa_nil))) (nomark _)) (pw_or1 (pt_cmpR op_ne (pe_callB call_isi (by rfl) B.isinstance_ bt_isinstance (pa_cons (pv 0) (pa_cons (pe_bltn (v := .ty "tuple") (by rfl) B.tuple_ bt_tuple rfl) pa_nil))) (pe_callB call_isi (by rfl) B.isinstance_ bt_isinstance (pa_cons (pv 1) (pa_cons (pe_bltn (v := .ty "tuple") (by rfl) B.tuple_ bt_tuple rfl) pa_nil))) (nomark _)))).pt (pss_one (ps_ret pe_bl)) pss_nil)
      (pss_one (ps_ret (pe_and (pe_cmpR op_eq (pe_callB call_len_seq (by rfl) B.len_ bt_len (pa_cons (pv 0) pa_nil)) (pe_callB call_len_seq (by rfl) B.len_ bt_len (pa_cons (pv 1) pa_nil)) (nomark _)) (pe_one (pe_callB (cr_all rfl) (by rfl) B.all_ bt_all (pa_cons (pe_lc (own := [("_law_x", 2), ("_law_y", 3)]) (g := gTup K 2 (gCons (gName 2) (gCons (gName 3) gNil))) rfl sc_law_same.nd (pi_zipA (by rfl) B.zip_ (pa_cons (pv 0) (pa_cons (pv 1) pa_nil))) (blkOk_by (by kernel_rfl)) (fun _ _ _ _ _ => (pg_tup rfl (pgs_cons (pg_name (i := 2) sc_law_same.nd rfl (Or.inl rfl)) (pgs_cons (pg_name (i := 3) sc_law_same.nd rfl (Or.inl rfl)) pgs_nil)))) (fun _ _ _ _ _ => pts_nil) (fun _ _ _ _ _ => (pe_c c_law_same hr (Nat.le_refl _) (by rfl) (pa_cons (pv 2) (pa_cons (pv 3) pa_nil))))) pa_nil))))))) pss_nil)
      (pss_cons (ps_if (pt_val (pe_callB call_isi (by rfl) B.isinstance_ bt_isinstance (pa_cons (pv 1) (pa_cons (pe_bltn (v := .ty "int") (by rfl) B.int_ bt_int rfl) pa_nil)))) (pss_one (ps_ret (pe_and (pe_callB call_isi (by rfl) B.isinstance_ bt_isinstance (pa_cons (pv 0) (pa_cons (pe_bltn (v := .ty "int") (by rfl) B.int_ bt_int rfl) pa_nil))) (pe_and (pe_cmpR op_eq (pe_callB call_isi (by rfl) B.isinstance_ bt_isinstance (pa_cons (pv 0) (pa_cons (pe_bltn (v := .ty "bool") (by rfl) B.bool_ bt_bool rfl) pa_nil))) (pe_callB call_isi (by rfl) B.isinstance_ bt_isinstance (pa_cons (pv 1) (pa_cons (pe_bltn (v := .ty "bool") (by rfl) B.bool_ bt_bool rfl) pa_nil))) (nomark _)) (pe_one (pe_cmpR op_eq (pv 0) (pv 1) (nomark _))))))) pss_nil)
      (pss_one (ps_ret (pe_and (pe_cmpR op_isBl (pe_callB call_isiT (by rfl) B.isinstance_ bt_isinstance (pa_cons (pv 0) (pa_cons (pe_tup (pa_cons (pe_bltn (v := .ty "int") (by rfl) B.int_ bt_int rfl) (pa_cons (pe_bltn (v := .ty "list") (by rfl) B.list_ bt_list rfl) (pa_cons (pe_bltn (v := .ty "tuple") (by rfl) B.tuple_ bt_tuple rfl) pa_nil)))) pa_nil))) pe_bl (nomark _)) (pe_one (pe_cmpR op_eq (pv 0) (pv 1) (nomark _)))))))), ?_⟩
    refine ⟨_, rfl, (by show 2 ≤ sizeLine; decide), fun tp ht => ?_⟩
    have s1 := same_upd (o := .tup [.ty "list", .ty "tuple"]) ht
    have htp : upd H tp (.tup [.ty "list", .ty "tuple"]) tp = some (.tup [.ty "list", .ty "tuple"]) := upd_same
    generalize upd H tp (.tup [.ty "list", .ty "tuple"]) = H1 at s1 htp
    rcases hR with ⟨i, rfl, rfl⟩ | ⟨a, b, xs, ys, rfl, rfl, hk, hp, hx⟩
    · refine ⟨_, tp, _, _, _, _, rfl, htp, pcls, .base (.int i), ka_i, _, rfl, iteF ?_⟩
      refine ⟨_, rfl, _, _, _, _, _, rfl, .ty "int", .base (.int i), kit_ty kb_ii, _, rfl, iteT ?_⟩
      refine ⟨_, rfl, _, _, _, _, _, rfl, .ty "int", .base (.int i), kit_ty kb_ii, _, rfl, iteT ?_⟩
      refine ⟨_, rfl, _, _, _, _, _, rfl, .ty "bool", .base (.int i), kit_ty kb_ib, _, rfl, _, _, _, _, _, rfl, .ty "bool", .base (.int i), kit_ty kb_ib, rfl, _, rfl, ?_⟩
      rw [eq_self1]
      refine iteT ⟨_, rfl, _, rfl, rfl, ?_⟩
      rw [eq_self1]
      exact h0 _ _ s1 rfl
    · have hk : (H1 a = some (.lst xs) ∧ H1 b = some (.lst ys)) ∨ (H1 a = some (.tup xs) ∧ H1 b = some (.tup ys)) := by
        rcases hk with ⟨q1, q2⟩ | ⟨q1, q2⟩
        · exact .inl ⟨s1 _ _ q1, s1 _ _ q2⟩
        · exact .inr ⟨s1 _ _ q1, s1 _ _ q2⟩
      obtain ⟨t, b1, b2, ta, tb, k1, k2, ka⟩ := Seq2.ty (K := K) hk
      refine ⟨_, tp, _, _, _, _, rfl, htp, pcls, tb, ka, _, rfl, iteT ?_⟩
      refine ⟨_, rfl, _, _, _, _, _, rfl, .ty "list", ta, k1, _, rfl, _, _, _, _, _, rfl, .ty "list", tb, k1, rfl, _, rfl, ?_⟩
      rw [ne_self]
      refine iteF ⟨_, rfl, _, _, _, _, _, rfl, .ty "tuple", ta, k2, _, rfl, _, _, _, _, _, rfl, .ty "tuple", tb, k2, rfl, _, rfl, ?_⟩
      rw [ne_self]
      refine iteF ?_
      have hln := hp.length
      have sq : ∀ {a : Addr} {zs : List V}, (H1 a = some (.lst zs) ∨ H1 a = some (.tup zs)) → SqL K H1 a zs ∨ SqT K H1 a zs := fun h => by
        rcases h with q | q
        · exact .inl (SqL.of q)
        · exact .inr (SqT.of q)
      refine ⟨_, rfl, a, xs, rfl, sq (hk.imp (·.1) (·.1)), _, rfl, b, ys, rfl, sq (hk.imp (·.2) (·.2)), rfl, _, rfl, ?_⟩
      rw [hln, eq_self1]
      refine iteT ⟨_, rfl, _, rfl, a, b, xs, ys, rfl, ?_⟩
      rcases hk with ⟨q1, q2⟩ | ⟨q1, q2⟩
      · refine .inl ⟨SqL.of q1, SqL.of q2, fun D hD => lcm (n := xs.length) (fun j y _ => y = .bl true) hD (by omega) (fun _ _ _ _ _ _ z => z) (fun i H hi s => ⟨xs, ys, xs[i], ys[i]'(by omega), SqL.of (s _ _ q1), SqL.of (s _ _ q2), List.getElem?_eq_getElem hi, List.getElem?_eq_getElem (by omega)⟩) (fun H s => ⟨xs, ys, SqL.of (s _ _ q1), SqL.of (s _ _ q2), .inl (Nat.le_refl _)⟩) ?_ ?_ gm_tup2⟩
        · intro i x H3 H4 Kt hi s3 _ hy kt
          obtain ⟨T, u, v, rfl, nT, rfl, hu, hv⟩ := hy
          have hu := hu xs (SqL.of (s3 _ _ q1))
          have hv := hv ys (SqL.of (s3 _ _ q2))
          obtain ⟨v', hv', huv⟩ := Paired.nth hp hu
          rw [hv] at hv'
          cases hv'
          have s5 := same_upd (o := .tup [u, v]) nT
          exact ⟨T, _, rfl, SqT.of upd_same, rfl, _, _, rfl, _, _, rfl, rfl, rfl, _, rfl, _, rfl, u, v, rfl, Rm huv ((s1.trans s3).trans s5), fun z H5 s6 e => kt _ _ (s5.trans s6) e⟩
        · intro zs H3 s3 h4 hl2 hy
          have e : zs = (List.replicate xs.length true).map V.bl := by
            rw [List.map_replicate]
            refine List.eq_replicate_iff.mpr ⟨hl2, fun y hyz => ?_⟩
            obtain ⟨j, hj⟩ := List.getElem?_of_mem hyz
            exact hy j y hj
          subst e
          refine ⟨D, _, rfl, SqL.of h4, ?_⟩
          rw [all_rep]
          exact h0 _ _ (s1.trans s3) rfl
      · refine .inr ⟨SqT.of q1, SqT.of q2, fun D hD => lcm (n := xs.length) (fun j y _ => y = .bl true) hD (by omega) (fun _ _ _ _ _ _ z => z) (fun i H hi s => ⟨xs, ys, xs[i], ys[i]'(by omega), SqT.of (s _ _ q1), SqT.of (s _ _ q2), List.getElem?_eq_getElem hi, List.getElem?_eq_getElem (by omega)⟩) (fun H s => ⟨xs, ys, SqT.of (s _ _ q1), SqT.of (s _ _ q2), .inl (Nat.le_refl _)⟩) ?_ ?_ gm_tup2⟩
        · intro i x H3 H4 Kt hi s3 _ hy kt
          obtain ⟨T, u, v, rfl, nT, rfl, hu, hv⟩ := hy
          have hu := hu xs (SqT.of (s3 _ _ q1))
          have hv := hv ys (SqT.of (s3 _ _ q2))
          obtain ⟨v', hv', huv⟩ := Paired.nth hp hu
          rw [hv] at hv'
          cases hv'
          have s5 := same_upd (o := .tup [u, v]) nT
          exact ⟨T, _, rfl, SqT.of upd_same, rfl, _, _, rfl, _, _, rfl, rfl, rfl, _, rfl, _, rfl, u, v, rfl, Rm huv ((s1.trans s3).trans s5), fun z H5 s6 e => kt _ _ (s5.trans s6) e⟩
        · intro zs H3 s3 h4 hl2 hy
          have e : zs = (List.replicate xs.length true).map V.bl := by
            rw [List.map_replicate]
            refine List.eq_replicate_iff.mpr ⟨hl2, fun y hyz => ?_⟩
            obtain ⟨j, hj⟩ := List.getElem?_of_mem hyz
            exact hy j y hj
          subst e
          refine ⟨D, _, rfl, SqL.of h4, ?_⟩
          rw [all_rep]
          exact h0 _ _ (s1.trans s3) rfl
end
end Gw
end

section
set_option Elab.async false
set_option linter.all false
set_option maxRecDepth 100000
set_option maxHeartbeats 4000000
/-! the law: what its walk leans on -/
namespace Gw
open PySem PySem.Spec PyProof.Rows L2
open C8 (Cal Mak Met pe_c pe_mk pe_mt pe_mt0 pe_gc)
open RZ (pi_zipA ItzT)

theorem val_nrm9 {g : Gm} {rk : Str → Nat} (G : GOk g rk) : val (nrmG g) free = val g free := funext fun n => val_nrm G free 9 n
def bothV (g : Gm) (p1 p2 : Plan) : Str → Rat := val g (both (plF p1) (plF p2))
theorem plans_ne {g : Gm} {rk : Str → Nat} (T : Tree g rk) (o : Bool) : allPl o g ≠ [] := fun e => by
  obtain ⟨p, h, _⟩ := opt_all T o
  rw [e] at h
  cases h
theorem low_eq {g : Gm} {rk : Str → Nat} (T : Tree g rk) {n : Str} (hn : n ∈ g.map (·.1)) : bst true (((allPl true g).map fun p1 => (allPl false g).map fun p2 => bothV g p1 p2 n).map (bst false)) = val g free n := by
  refine maxmin (o := true) ?_ ?_ ?_
  · intro r hr e
    obtain ⟨p1, _, rfl⟩ := List.mem_map.mp hr
    exact plans_ne T false (List.map_eq_nil_iff.mp e)
  · obtain ⟨p1, h1, o1⟩ := opt_all T true
    refine ⟨_, List.mem_map.mpr ⟨p1, h1, rfl⟩, fun x hx => ?_⟩
    obtain ⟨p2, h2, rfl⟩ := List.mem_map.mp hx
    exact opt_side T true (keeps_all T h1) (keeps_all T h2) o1 n hn
  · intro r hr
    obtain ⟨p1, h1, rfl⟩ := List.mem_map.mp hr
    obtain ⟨p2, h2, o2⟩ := opt_all T false
    exact ⟨_, List.mem_map.mpr ⟨p2, h2, rfl⟩, opt_side T false (keeps_all T h1) (keeps_all T h2) o2 n hn⟩
theorem high_eq {g : Gm} {rk : Str → Nat} (T : Tree g rk) {n : Str} (hn : n ∈ g.map (·.1)) : bst false (((allPl false g).map fun p2 => (allPl true g).map fun p1 => bothV g p1 p2 n).map (bst true)) = val g free n := by
  refine maxmin (o := false) ?_ ?_ ?_
  · intro r hr e
    obtain ⟨p1, _, rfl⟩ := List.mem_map.mp hr
    exact plans_ne T true (List.map_eq_nil_iff.mp e)
  · obtain ⟨p2, h2, o2⟩ := opt_all T false
    refine ⟨_, List.mem_map.mpr ⟨p2, h2, rfl⟩, fun x hx => ?_⟩
    obtain ⟨p1, h1, rfl⟩ := List.mem_map.mp hx
    exact opt_side T false (keeps_all T h1) (keeps_all T h2) o2 n hn
  · intro r hr
    obtain ⟨p2, h2, rfl⟩ := List.mem_map.mp hr
    obtain ⟨p1, h1, o1⟩ := opt_all T true
    exact ⟨_, List.mem_map.mpr ⟨p1, h1, rfl⟩, opt_side T true (keeps_all T h1) (keeps_all T h2) o1 n hn⟩
theorem both_small {g : Gm} {rk : Str → Nat} (T : Tree g rk) {p1 p2 : Plan} (h1 : p1 ∈ allPl true g) (h2 : p2 ∈ allPl false g) {n : Str} (hn : n ∈ g.map (·.1)) : Small (bothV g p1 p2 n) := val_small T (both_ok (keeps_all T h1) (keeps_all T h2)) hn

/-! tables in the heap -/
theorem tab_ne {H : Hp} {l d : Addr} {kvs : List (Key × V)} {f : Str → Rat} {ns : List Str} {g : Gm} (hl : H l = some (.dK kvs)) (ht : TabKv H kvs f ns) (hn : ns ≠ []) (hd : GmAt H d g) : l ≠ d := fun e => by
  obtain ⟨kd, hd, gd⟩ := hd
  rw [e, hd] at hl
  have ek : kd = kvs := by
    have := Option.some.inj hl
    injection this
  subst ek
  cases ht with
  | nil => exact hn rfl
  | cons r t =>
    cases gd with
    | cons r' t' =>
      obtain ⟨_, a, ea, ha⟩ := r
      obtain ⟨_, b, c, eb, hb, _⟩ := r'
      rw [ea] at eb
      injection eb with eb
      rw [eb, hb] at ha
      injection ha with ha
      injection ha with ha
      cases ha
theorem TabAt.ne {H : Hp} {l d : Addr} {g g' : Gm} {f : Str → Rat} (h : TabAt H l g f) (hg : g ≠ []) (hd : GmAt H d g') : l ≠ d := by
  obtain ⟨kvs, ns, h1, h2, h3⟩ := h
  refine tab_ne h1 h2 (fun e => ?_) hd
  cases g with
  | nil => exact hg rfl
  | cons q g =>
    have := h3 q.1 (List.mem_cons_self ..)
    rw [e] at this
    cases this
theorem TabAt.off {H H' : Hp} {l D : Addr} {o : HO} {g : Gm} {f : Str → Rat} (h : TabAt H l g f) (hD : H D = some o) (ho : ∀ xs, o ≠ .tup xs) (hl : l ≠ D) (off : Off D H H') : TabAt H' l g f := by
  obtain ⟨kvs, ns, h1, h2, h3⟩ := h
  exact ⟨kvs, ns, off _ _ hl h1, Paired.mp (fun _ _ z => ⟨z.1, z.2.off hD ho off⟩) h2, h3⟩
theorem TabAt.mono {H H' : Hp} {l : Addr} {g : Gm} {f : Str → Rat} (h : TabAt H l g f) (s : Same H H') : TabAt H' l g f := by
  obtain ⟨kvs, ns, h1, h2, h3⟩ := h
  exact ⟨kvs, ns, s _ _ h1, h2.mono s, h3⟩
theorem TabAt.look {H : Hp} {l : Addr} {g : Gm} {f : Str → Rat} (h : TabAt H l g f) {n : Str} (hn : n ∈ g.map (·.1)) : ∃ kvs v, H l = some (.dK kvs) ∧ valV kvs (Sum.inr n) = some v ∧ Fr H v (f n) := by
  obtain ⟨kvs, ns, h1, h2, h3⟩ := h
  obtain ⟨v, e1, e2⟩ := h2.look (h3 n hn)
  exact ⟨kvs, v, h1, e1, e2⟩
theorem TabAt.offL {H H' : Hp} {l D : Addr} {g : Gm} {f : Str → Rat} (h : TabAt H l g f) (hD : ∃ acc, H D = some (.lst acc)) (off : Off D H H') : TabAt H' l g f := by
  obtain ⟨acc, hD⟩ := hD
  refine h.off hD (fun _ z => nomatch z) ?_ off
  obtain ⟨kvs, ns, h1, _⟩ := h
  exact ne_of h1 hD (fun z => nomatch z)
theorem TabAt.lock {H : Hp} {l d : Addr} {o : HO} {g g' : Gm} {f : Str → Rat} (h : TabAt H l g f) (hg : g ≠ []) (hd : GmAt H d g') : TabAt (upd H d o) l g f := by
  have hne := h.ne hg hd
  obtain ⟨kd, hd, _⟩ := hd
  exact h.off hd (fun _ z => nomatch z) hne (fun b u hb e => by rw [upd_ne hb]; exact e)
def TbV (g : Gm) (H : Hp) (v : V) (f : Str → Rat) : Prop := ∃ l, v = .ref l ∧ TabAt H l g f
def RowV (g : Gm) (H : Hp) (v : V) (fs : List (Str → Rat)) : Prop := ∃ a tvs, v = .ref a ∧ H a = some (.lst tvs) ∧ Paired (TbV g H) tvs fs
def RowsAt (g : Gm) (H : Hp) (ra : Addr) (fss : List (List (Str → Rat))) : Prop := ∃ rvs, H ra = some (.lst rvs) ∧ Paired (RowV g H) rvs fss
theorem TbV.mono {g : Gm} {H H' : Hp} {v : V} {f : Str → Rat} (h : TbV g H v f) (s : Same H H') : TbV g H' v f := by
  obtain ⟨l, e, h⟩ := h
  exact ⟨l, e, h.mono s⟩
theorem RowV.mono {g : Gm} {H H' : Hp} {v : V} {fs : List (Str → Rat)} (h : RowV g H v fs) (s : Same H H') : RowV g H' v fs := by
  obtain ⟨a, tvs, e, h1, h2⟩ := h
  exact ⟨a, tvs, e, s _ _ h1, Paired.mp (fun _ _ z => z.mono s) h2⟩
theorem RowsAt.mono {g : Gm} {H H' : Hp} {ra : Addr} {fss : List (List (Str → Rat))} (h : RowsAt g H ra fss) (s : Same H H') : RowsAt g H' ra fss := by
  obtain ⟨rvs, h1, h2⟩ := h
  exact ⟨rvs, s _ _ h1, Paired.mp (fun _ _ z => z.mono s) h2⟩
theorem RowsAt.lock {g g' : Gm} {H : Hp} {ra d : Addr} {o : HO} {fss : List (List (Str → Rat))} (h : RowsAt g H ra fss) (hg : g ≠ []) (hd : GmAt H d g') : RowsAt g (upd H d o) ra fss := by
  obtain ⟨kd, hk, _⟩ := id hd
  obtain ⟨rvs, h1, h2⟩ := h
  refine ⟨rvs, upd_off hk h1 (fun z => nomatch z), Paired.mp (fun _ _ z => ?_) h2⟩
  obtain ⟨a, tvs, e, z1, z2⟩ := z
  refine ⟨a, tvs, e, upd_off hk z1 (fun z => nomatch z), Paired.mp (fun _ _ z => ?_) z2⟩
  obtain ⟨l, e, z⟩ := z
  exact ⟨l, e, z.lock hg hd⟩
/-- a list, not that of a comprehension, under its growing -/
theorem RowV.off {g : Gm} {H H' : Hp} {D a : Addr} {tvs : List V} {fs : List (Str → Rat)} (h1 : H a = some (.lst tvs)) (h2 : Paired (TbV g H) tvs fs) (ha : a ≠ D) (hD : ∃ acc, H D = some (.lst acc)) (off : Off D H H') : H' a = some (.lst tvs) ∧ Paired (TbV g H') tvs fs := by
  refine ⟨off _ _ ha h1, Paired.mp (fun _ _ z => ?_) h2⟩
  obtain ⟨l, e, z⟩ := z
  exact ⟨l, e, z.offL hD off⟩
theorem Fr.offL {H H' : Hp} {D : Addr} {v : V} {q : Rat} (h : Fr H v q) (hD : ∃ acc, H D = some (.lst acc)) (off : Off D H H') : Fr H' v q := by
  obtain ⟨acc, hD⟩ := hD
  exact h.off hD (fun _ z => nomatch z) off
theorem Fr.lock {H : Hp} {d : Addr} {o : HO} {kvs : List (Key × V)} {v : V} {q : Rat} (h : Fr H v q) (hd : H d = some (.dK kvs)) : Fr (upd H d o) v q := h.off hd (fun _ z => nomatch z) (fun b u hb e => by rw [upd_ne hb]; exact e)
/-- the same fraction -/
theorem fr_same {H : Hp} {x y : V} {q : Rat} (hx : Fr H x q) (hy : Fr H y q) : UpR (UpR NoR) H x y := by
  obtain ⟨a, ea, ha⟩ := hx
  obtain ⟨b, eb, hb⟩ := hy
  exact .inr ⟨a, b, _, _, ea, eb, .inr ⟨ha, hb⟩, .cons (.inl ⟨_, rfl, rfl⟩) (.cons (.inl ⟨_, rfl, rfl⟩) .nil), by show 2 ≤ 100; decide⟩
theorem upR_up {H : Hp} {R : Hp → V → V → Prop} {x y : V} (hR : ∀ x y, R H x y → UpR R H x y) (h : UpR R H x y) : UpR (UpR R) H x y := by
  rcases h with h | ⟨a, b, xs, ys, h1, h2, h3, h4, h5⟩
  · exact .inl h
  · exact .inr ⟨a, b, xs, ys, h1, h2, h3, Paired.mp (fun _ _ z => hR _ _ z) h4, h5⟩
/-- a game object, its table another one than d -/
def ObjD (H : Hp) (C x d : Addr) (g : Gm) : Prop := ∃ pt, Obj0 H C x pt ∧ GmAt H pt g ∧ pt ≠ d
theorem ObjD.g {H : Hp} {C x d : Addr} {g : Gm} (h : ObjD H C x d g) : ObjG H C x g := by
  obtain ⟨pt, h1, h2, _⟩ := h
  exact ⟨pt, h1, h2⟩
theorem ObjD.mono {H H' : Hp} {C x d : Addr} {g : Gm} (h : ObjD H C x d g) (s : Same H H') : ObjD H' C x d g := by
  obtain ⟨pt, ⟨dx, h1⟩, h2, h3⟩ := h
  exact ⟨pt, ⟨dx, s _ _ h1⟩, h2.mono s, h3⟩
theorem ObjD.lock {H : Hp} {C x d : Addr} {o : HO} {g : Gm} {kvs : List (Key × V)} {g' : Gm} (h : ObjD H C x d g) (hd : H d = some (.dK kvs)) (hg : GmKv H kvs g') (hn : g' ≠ []) : ObjG (upd H d o) C x g := by
  obtain ⟨pt, ⟨dx, h1⟩, ⟨kp, h2, h3⟩, h4⟩ := h
  exact ⟨pt, ⟨dx, upd_off hd h1 (fun z => nomatch z)⟩, kp, by rw [upd_ne h4]; exact h2, Paired.mp (fun _ _ z => ⟨z.1, z.2.lock hd hg hn⟩) h3⟩
/-- a table changed is no place -/
theorem ObjG.tab {H : Hp} {C x l : Addr} {o : HO} {g : Gm} {rk : Str → Nat} {kvs : List (Key × V)} {f : Str → Rat} {ns : List Str} (h : ObjG H C x g) (G : GOk g rk) (hl : H l = some (.dK kvs)) (ht : TabKv H kvs f ns) (hn : ns ≠ []) : ObjG (upd H l o) C x g := by
  obtain ⟨pt, ⟨dx, h1⟩, h2⟩ := h
  have hne := tab_ne hl ht hn h2
  obtain ⟨kp, h2, h3⟩ := h2
  refine ⟨pt, ⟨dx, upd_off hl h1 (fun z => nomatch z)⟩, kp, by rw [upd_ne (Ne.symm hne)]; exact h2, gmkv_mp h3 fun q hq v z => ?_⟩
  refine z.off (acc := kvs) (fun o ms e => ?_) (D := l) (fun b u hb e => by rw [upd_ne hb]; exact e) hl (fun kv hkv => ?_)
  · have := look_of G.tree.nd (show (q.1, q.2) ∈ g from hq)
    rw [e] at this
    exact (G.tree.mv _ _ _ this).1
  · obtain ⟨i, hi⟩ := List.getElem?_of_mem hkv
    obtain ⟨n, _, _, a, e, _⟩ := Paired.nth ht hi
    exact ⟨a, e⟩
theorem GmAt.tab {H : Hp} {l d : Addr} {g : Gm} : True := True.intro
end Gw
end

section
set_option Elab.async false
set_option linter.all false
set_option maxRecDepth 100000
set_option maxHeartbeats 4000000
/-! the law: its walk -/
namespace Gw
open PySem PySem.Spec PyProof.Rows L2
open C8 (Cal Mak Met pe_c pe_mk pe_mt pe_mt0 pe_gc)
open RZ (pi_zipA ItzT)

theorem tab_keys {H : Hp} {kvs : List (Key × V)} {f : Str → Rat} {ns : List Str} (h : TabKv H kvs f ns) : (kvs.map fun kv => kV kv.1) = ns.map V.str := by
  induction h with
  | nil => rfl
  | cons r _ ih => rw [List.map_cons, List.map_cons, ih, r.1]; rfl
theorem gm_keysV {H : Hp} {kvs : List (Key × V)} {g : Gm} (h : GmKv H kvs g) : (kvs.map fun kv => kV kv.1) = (g.map (·.1)).map V.str := by
  induction h with
  | nil => rfl
  | cons r _ ih => rw [List.map_cons, List.map_cons, List.map_cons, ih, r.1]; rfl
theorem plan_at {H : Hp} {g : Gm} {rk : Str → Nat} {o : Bool} {a : Addr} {pl : Plan} (T : Tree g rk) (h : pl ∈ allPl o g) (hH : H a = some (.dK (mvKv pl))) : PlanAt H g o a (plF pl) := ⟨_, .inl hH, fun n ms hl => by
  obtain ⟨m, h1, _⟩ := all_ok T h n ms hl
  unfold plF
  rw [mv_look, h1]
  rfl⟩
def two (a1 a2 : Addr) : List (Key × V) := [(Sum.inr "ours", .ref a1), (Sum.inr "theirs", .ref a2)]
theorem two_merge (a1 a2 : Addr) : mergeK [] (two a1 a2) = two a1 a2 := mergeK_nd (by
  show [(Sum.inr ("ours" : Str) : Key), Sum.inr ("theirs" : Str)].Nodup
  decide +kernel)
theorem pol_both {H : Hp} {g : Gm} {pd a1 a2 : Addr} {p1 p2 : Str → Str} (hpd : H pd = some (.dK (two a1 a2))) (P1 : PlanAt H g true a1 p1) (P2 : PlanAt H g false a2 p2) : PolAt H g pd (both p1 p2) := by
  refine ⟨_, .inl hpd, fun o => ⟨(fun z => nomatch z), fun p hp => ?_⟩⟩
  have hp := Option.some.inj hp
  cases o with
  | true =>
    have hp : p1 = p := hp
    subst hp
    exact ⟨a1, valV_pos rfl, P1⟩
  | false =>
    have hp : p2 = p := hp
    subst hp
    refine ⟨a2, ?_, P2⟩
    unfold two
    rw [valV_neg (fun z => absurd (inr_inj z) (by decide +kernel))]
    exact valV_pos rfl
theorem bst_small {o : Bool} {l : List Rat} (hn : l ≠ []) (h : ∀ q ∈ l, Small q) : Small (bst o l) := h _ (bst_mem hn)
section
variable {P : Program} {w : World} {K : PySem.W.Frag} {mg : Str → Option Value} {base : Heap}
def spLaw (K : PySem.W.Frag) : Sp := fun vs H Q _ => ∃ (a : Addr) (ns : List Int), vs = [.ref a] ∧ SqL K H a (ns.map V.int) ∧ ∀ H', Q (.bl true) H'
theorem sc_law : FnScope ["_law_script", "_law_stream", "_law_turn", "_law_due", "_law_made", "_law_table", "_law_told", "_law_name", "_law_ours", "_law_theirs", "_law_rows", "_law_low", "_law_columns", "_law_high", "_law_one", "_law_other", "_law_at", "_law_row"] ["_law_script"] (defScope (top 50)) :=
  ⟨rfl, rfl, rfl, by decide +kernel, rfl, by decide +kernel, by decide +kernel⟩
theorem ok_law {f C : Addr} {fd : FuncData} (F : Fun K "law" "law" (top 50) f fd) (B : Bi mg) (T : GT K C) (c_law_start : Cal P w K mg base 1 "_law_start" (spStart (K := K)) []) (c_law_draw : Cal P w K mg base 1 "_law_draw" spDraw []) (c_law_t_game : Cal P w K mg base 5 "_law_t_game" spGame [])
    (c_Game : Mak P w K mg base 4 "Game" C (spGInit C) []) (c_law_t_worths : Cal P w K mg base 3 "_law_t_worths" spLW []) (c_worths : Cal P w K mg base 4 "worths" (spWorths C) []) (c_worth : Cal P w K mg base 5 "worth" (spWorth C) []) (c_law_same : Cal P w K mg base 3 "_law_same" (spSm (UpR (UpR (UpR NoR)))) [])
    (c_law_t_plans : Cal P w K mg base 1 "_law_t_plans" spPlans []) (c_law_t_best : Cal P w K mg base 2 "_law_t_best" spBest []) : FnOk P w K mg base CX0 6 f fd ["_law_script"] (spLaw K) := by
  refine F.ok sc_law (fun vs H Q E h => ?_) (fun cdv A outer s H vs Q E hr h => ?_)
  · obtain ⟨a, ns, rfl, _⟩ := h
    rfl
  · obtain ⟨a, ns, rfl, hS, k⟩ := h
    refine ⟨_, (pss_cons (ps_set (i := 1) sc_law.nd rfl (Or.inl rfl) (pe_c c_law_start hr (by decide) (by rfl) (pa_cons (pv 0) pa_nil)))
      (pss_cons (ps_for PassesOwn.never rfl (pi_range1 (by rfl) B.range_ (pa_cons pe_int pa_nil)) (pg_name (i := 2) sc_law.nd rfl (Or.inl rfl))
      (pss_cons (ps_set (i := 3) sc_law.nd rfl (Or.inr rfl) (pe_c c_law_t_game hr (by decide) (by rfl) (pa_cons (pv 1) (pa_cons (pe_op op_add pe_int (pe_c c_law_draw hr (by decide) (by rfl) (pa_cons (pv 1) (pa_cons pe_int pa_nil)))) (pa_cons pe_bl pa_nil)))))
      (pss_cons (ps_asg (pe_tup (pa_cons (pe_mk c_Game hr (by decide) (by rfl) (pa_cons (pv 3) pa_nil)) (pa_cons (pe_c c_law_t_worths hr (by decide) (by rfl) (pa_cons (pv 3) (pa_cons pe_dnewK pa_nil))) pa_nil))) (pg_tup rfl (pgs_cons (pg_name (i := 4) sc_law.nd rfl (Or.inr rfl)) (pgs_cons (pg_name (i := 5) sc_law.nd rfl (Or.inr rfl)) pgs_nil))))
      (pss_cons (ps_set (i := 6) sc_law.nd rfl (Or.inr rfl) (pe_c c_worths hr (by decide) (by rfl) (pa_cons (pv 4) pa_nil)))
      (pss_cons (ps_if (pw_or (pt_not (pt_val (pe_callB call_isi (by rfl) B.isinstance_ bt_isinstance (pa_cons (pv 6) (pa_cons (pe_bltn (v := .ty "dict") (by rfl) B.dict_ bt_dict rfl) pa_nil))))) (pw_or1 (pt_cmpR (op_neD hr.units) (pe_callTy (call_listD rfl) (by rfl) B.list_ bt_list (pa_cons (pv 6) pa_nil)) (pe_callTy (call_listD rfl) (by rfl) B.list_ bt_list (pa_cons (pv 3) pa_nil)) (nomark _)))).pt (pss_one (ps_ret pe_bl)) pss_nil)
      (pss_cons (ps_if (pt_not (pt_val (pe_callB (cr_all rfl) (by rfl) B.all_ bt_all (pa_cons (pe_lock (pe_lc (own := [("_law_name", 7)]) (g := gName 7) rfl sc_law.nd (pi_keys (pv 3)) (blkOk_by (by kernel_rfl)) (fun _ _ _ _ _ => (pg_name (i := 7) sc_law.nd rfl (Or.inl rfl))) (fun _ _ _ _ _ => pts_nil) (fun _ _ _ _ _ => (pe_and (pe_c c_law_same hr (by decide) (by rfl) (pa_cons (pe_dget (hu_of hr) (pv 6) (pv 7) (fun _ _ => rfl)) (pa_cons (pe_dget (hu_of hr) (pv 5) (pv 7) (fun _ _ => rfl)) pa_nil))) (pe_one (pe_c c_law_same hr (by decide) (by rfl) (pa_cons (pe_c c_worth hr (by decide) (by rfl) (pa_cons (pv 4) (pa_cons (pv 7) pa_nil))) (pa_cons (pe_dget (hu_of hr) (pv 5) (pv 7) (fun _ _ => rfl)) pa_nil)))))))) pa_nil)))) (pss_one (ps_ret pe_bl)) pss_nil)
      (pss_cons (ps_asg (pe_tup (pa_cons (pe_c c_law_t_plans hr (by decide) (by rfl) (pa_cons (pv 3) (pa_cons pe_str pa_nil))) (pa_cons (pe_c c_law_t_plans hr (by decide) (by rfl) (pa_cons (pv 3) (pa_cons pe_str pa_nil))) pa_nil))) (pg_tup rfl (pgs_cons (pg_name (i := 8) sc_law.nd rfl (Or.inl rfl)) (pgs_cons (pg_name (i := 9) sc_law.nd rfl (Or.inr rfl)) pgs_nil))))
      (Evl.pss_cut (ps_if (pt_chain op_lt op_le pe_int (pe_op op_mul (pe_callB call_len_seq (by rfl) B.len_ bt_len (pa_cons (pv 8) pa_nil)) (pe_callB call_len_seq (by rfl) B.len_ bt_len (pa_cons (pv 9) pa_nil))) pe_int) (pss_cons (ps_set (i := 10) sc_law.nd rfl (Or.inr rfl) (pe_lc (own := [("_law_one", 14)]) (g := gName 14) rfl sc_law.nd (pi_list (pv 8)) (blkOk_by (by kernel_rfl)) (fun _ _ _ _ _ => (pg_name (i := 14) sc_law.nd rfl (Or.inr rfl))) (fun _ _ _ _ _ => pts_nil) (fun _ _ _ _ _ => (pe_lc (own := [("_law_other", 15)]) (g := gName 15) rfl sc_law.nd (pi_listK K rfl (pi_list (pv 9))) (blkOk_by (by kernel_rfl)) (fun _ _ _ _ _ => (pg_name (i := 15) sc_law.nd rfl (Or.inl rfl))) (fun _ _ _ _ _ => pts_nil) (fun _ _ _ _ _ => (pe_c c_law_t_worths hr (by decide) (by rfl) (pa_cons (pv 3) (pa_cons (pe_disp (pps_cons pe_str (pv 14) (pps_cons pe_str (pv 15) pps_nil)) (by rfl) (by rfl) (fun z => by cases z) (by decide)) pa_nil))))))))
      (pss_one (ps_lock (ps_for PassesOwn.never rfl (pi_keys (pv 3)) (pg_name (i := 7) sc_law.nd rfl (Or.inr rfl))
      (pss_cons (ps_set (i := 11) sc_law.nd rfl (Or.inl rfl) (pe_c c_law_t_best hr (by decide) (by rfl) (pa_cons (pe_lc (own := [("_law_row", 17)]) (g := gName 17) rfl sc_law.nd (pi_list (pv 10)) (blkOk_by (by kernel_rfl)) (fun _ _ _ _ _ => (pg_name (i := 17) sc_law.nd rfl (Or.inl rfl))) (fun _ _ _ _ _ => pts_nil) (fun _ _ _ _ _ => (pe_c c_law_t_best hr (by decide) (by rfl) (pa_cons (pe_lc (own := [("_law_one", 14)]) (g := gName 14) rfl sc_law.nd (pi_listK K rfl (pi_list (pv 17))) (blkOk_by (by kernel_rfl)) (fun _ _ _ _ _ => (pg_name (i := 14) sc_law.nd rfl (Or.inl rfl))) (fun _ _ _ _ _ => pts_nil) (fun _ _ _ _ _ => (pe_dget (hu_of hr) (pv 14) (pv 7) (fun _ _ => rfl)))) (pa_cons pe_bl pa_nil))))) (pa_cons pe_bl pa_nil))))
      (pss_cons (ps_setLc (i := 12) (own := [("_law_at", 16)]) (g := gName 16) rfl sc_law.nd rfl rfl (sw_true rfl rfl rfl (by decide +kernel)) (pi_range1 (by rfl) B.range_ (pa_cons (pe_callB call_len_seq (by rfl) B.len_ bt_len (pa_cons (pv 9) pa_nil)) pa_nil)) (blkOk_by (by kernel_rfl)) (fun _ _ _ _ _ => (pg_name (i := 16) sc_law.nd rfl (Or.inr rfl))) (fun _ _ _ _ _ => pts_nil) (fun _ _ _ _ _ => (pe_lc (own := [("_law_row", 17)]) (g := gName 17) rfl sc_law.nd (pi_listK K rfl (pi_list (pv 10))) (blkOk_by (by kernel_rfl)) (fun _ _ _ _ _ => (pg_name (i := 17) sc_law.nd rfl (Or.inl rfl))) (fun _ _ _ _ _ => pts_nil) (fun _ _ _ _ _ => (pe_ix (ix_listK K rfl) (pv 17) (pv 16) (fun _ _ => rfl))))))
      (pss_cons (ps_set (i := 13) sc_law.nd rfl (Or.inl rfl) (pe_c c_law_t_best hr (by decide) (by rfl) (pa_cons (pe_lc (own := [("_law_row", 17)]) (g := gName 17) rfl sc_law.nd (pi_list (pv 12)) (blkOk_by (by kernel_rfl)) (fun _ _ _ _ _ => (pg_name (i := 17) sc_law.nd rfl (Or.inl rfl))) (fun _ _ _ _ _ => pts_nil) (fun _ _ _ _ _ => (pe_c c_law_t_best hr (by decide) (by rfl) (pa_cons (pe_lc (own := [("_law_one", 14)]) (g := gName 14) rfl sc_law.nd (pi_listK K rfl (pi_list (pv 17))) (blkOk_by (by kernel_rfl)) (fun _ _ _ _ _ => (pg_name (i := 14) sc_law.nd rfl (Or.inl rfl))) (fun _ _ _ _ _ => pts_nil) (fun _ _ _ _ _ => (pe_dget (hu_of hr) (pv 14) (pv 7) (fun _ _ => rfl)))) (pa_cons pe_bl pa_nil))))) (pa_cons pe_bl pa_nil))))
      (pss_one (ps_if (pt_not (pt_val (pe_c c_law_same hr (by decide) (by rfl) (pa_cons (pe_lst (pa_cons (pv 11) (pa_cons (pv 13) pa_nil))) (pa_cons (pe_op op_rep (pe_lst (pa_cons (pe_dget (hu_of hr) (pv 5) (pv 7) (fun _ _ => rfl)) pa_nil)) pe_int) pa_nil))))) (pss_one (ps_ret pe_bl)) pss_nil))))))))) pss_nil)
      (pss_cons (ps_dput (hu_of hr) (pv 6) pe_str pe_non rfl)
      (pss_one (ps_if (pt_cmpR (op_eqLen hr.units0) (pe_c c_worths hr (by decide) (by rfl) (pa_cons (pv 4) pa_nil)) (pv 6) (nomark _)) (pss_one (ps_ret pe_bl)) pss_nil)))))))))))
      (pss_one (ps_ret pe_bl)))), ?_⟩
    refine ⟨_, rfl, a, ns, rfl, hS, fun st c H1 s1 S1 => ?_⟩
    refine ⟨_, rfl, by decide, by decide, for_range (lo := 0) (n := 5) (fun i σ H' => ∃ x2 x3 x4 x5 x6 x7 x8 x9 x10 x11 x12 x13 x14 x15 x16 x17, σ = [some (.ref a), some (.ref st), x2, x3, x4, x5, x6, x7, x8, x9, x10, x11, x12, x13, x14, x15, x16, x17] ∧ Stm H' st c (1001 * i))
      ⟨_, _, _, _, _, _, _, _, _, _, _, _, _, _, _, _, rfl, S1⟩ ?_ ?_⟩
    · rintro i σ H2 hi ⟨x2, x3, x4, x5, x6, x7, x8, x9, x10, x11, x12, x13, x14, x15, x16, x17, rfl, S2⟩
      refine ⟨_, rfl, _, rfl, st, c, _, 1001 * i, rfl, by decide, by decide, by omega, S2, fun j H3 d3 S3 j0 j1 => ?_⟩
      refine ⟨_, _, rfl, rfl, st, c, _, 1001 * i + 1, rfl, by omega, by omega, by omega, S3, fun due H4 g rk d4 S4 due0 hg G nl => ?_⟩
      clear d3 d4 S2 S3 due0
      have gne := G.ne
      have S4' : Stm H4 st c (1001 * (i + 1)) := S4.le (by omega)
      clear S4
      refine ⟨_, rfl, fun x dx hx hdx hne => ?_⟩
      have sX : Same H4 (upd (upd H4 dx (.own x)) x (.ins C dx [])) := (same_upd hdx).trans (same_upd (by rw [upd_ne (Ne.symm hne)]; exact hx))
      refine ⟨x, dx, due, g, rk, rfl, upd_same, hg.mono sX, G, fun H5 kp ho => ⟨rfl, ?_⟩⟩
      obtain ⟨pt, o1, o2, o3⟩ := ho
      have s5 : Same H4 H5 := fun b o e => kp b o (ne_of_none e hx) (sX _ _ e)
      have ob5 : ObjD H5 C x due (nrmG g) := by
        obtain ⟨kd, hkd, _⟩ := hg
        exact ⟨pt, o1, o2, fun e => by rw [e, sX _ _ hkd] at o3; cases o3⟩
      have hg5 := hg.mono s5
      have S5 := S4'.mono s5
      clear o1 o2 o3 kp sX hx hdx s5 hg S4'
      refine ⟨_, rfl, fun pd hpd => ?_⟩
      have sP := same_upd (o := .dK []) hpd
      refine ⟨due, pd, g, rk, free, rfl, hg5.mono sP, G, ⟨[], .inl upd_same, fun o => ⟨fun _ => rfl, (fun _ z => nomatch z)⟩⟩, free_ok g, fun tb H6 s6 tb0 tab6 => ?_⟩
      refine ⟨by show 2 ≤ sizeLine; decide, fun T1 hT1 => ?_⟩
      refine ⟨T1, _, rfl, SqT.of upd_same, rfl, _, _, rfl, _, _, rfl, rfl, ?_⟩
      have sT := same_upd (o := .tup [.ref x, .ref tb]) hT1
      have s7 := (sP.trans s6).trans sT
      have ob7 := ob5.mono s7
      have hg7 := hg5.mono s7
      have S7 := S5.mono s7
      have tab7 := tab6.mono sT
      generalize upd H6 T1 (.tup [.ref x, .ref tb]) = H7 at s7 ob7 hg7 S7 tab7
      clear ob5 hg5 S5 sP s6 tb0 tab6 sT hT1 s7 hpd
      refine ⟨_, rfl, x, nrmG g, rk, rfl, ob7.g, G.nrm, red_nrm G, fun td H8 kvs s8 td0 htd tt => ?_⟩
      rw [val_nrm9 G, keys_nrm] at tt
      have ob8 := ob7.mono s8
      have hg8 := hg7.mono s8
      have S8 := S7.mono s8
      have tab8 := tab7.mono s8
      have told8 : TabAt H8 td g (val g free) := ⟨kvs, _, htd, tt, fun _ h => h⟩
      have ntd := S7.new td0
      clear ob7 hg7 S7 tab7 s8 td0
      -- a dict with the same names
      obtain ⟨kd, hd8, gk8⟩ := id hg8
      have nok : ∀ y ∈ g.map (·.1), SOk y := fun y hy => name_ok (G.nm y hy)
      refine ⟨_, rfl, _, _, _, _, _, rfl, .ty "dict", .base (.dK htd), kit_ty kb_dd, _, rfl, iteF ?_⟩
      refine ⟨_, rfl, td, kvs, rfl, .inl htd, fun p1 hp1 => ?_⟩
      have sa := same_upd (o := .lst (kvs.map fun kv => kV kv.1)) hp1
      refine ⟨_, rfl, due, kd, rfl, .inl (sa _ _ hd8), fun p2 hp2 => ?_⟩
      have sb := same_upd (o := .lst (kd.map fun kv => kV kv.1)) hp2
      have e1 : upd (upd H8 p1 (.lst (kvs.map fun kv => kV kv.1))) p2 (.lst (kd.map fun kv => kV kv.1)) p1 = some (.lst ((g.map (·.1)).map V.str)) := by
        rw [← tab_keys tt]
        exact sb _ _ upd_same
      have e2 : upd (upd H8 p1 (.lst (kvs.map fun kv => kV kv.1))) p2 (.lst (kd.map fun kv => kV kv.1)) p2 = some (.lst ((g.map (·.1)).map V.str)) := by
        rw [← gm_keysV gk8]
        exact upd_same
      refine neD e1 e2 nok nok ⟨_, rfl, ?_⟩
      rw [decide_eq_true rfl]
      refine iteF ?_
      clear e1 e2
      have s9 := sa.trans sb
      generalize upd (upd H8 p1 (.lst (kvs.map fun kv => kV kv.1))) p2 (.lst (kd.map fun kv => kV kv.1)) = H9 at s9
      have ob9 := ob8.mono s9
      have hd9 := s9 _ _ hd8
      have gk9 := gk8.mono s9
      have hg9 := hg8.mono s9
      have S9 := S8.mono s9
      have tab9 := tab8.mono s9
      have told9 := told8.mono s9
      have htd9 := s9 _ _ htd
      have tt9 := tt.mono s9
      clear ob8 hg8 S8 tab8 told8 htd tt hd8 gk8 s9 sa sb hp1 hp2
      -- the same worths
      refine ⟨due, _, hd9, mut_dK, fun od => ?_⟩
      have hdA : upd H9 due (.frz od (.dK kd)) due = some (.frz od (.dK kd)) := upd_same
      have obA := ob9.lock (o := .frz od (.dK kd)) hd9 gk9 gne
      have tabA := tab9.lock (o := .frz od (.dK kd)) gne hg9
      have toldA := told9.lock (o := .frz od (.dK kd)) gne hg9
      have gkA := gk9.lock (o := .frz od (.dK kd)) hd9 gne
      generalize eHA : upd H9 due (.frz od (.dK kd)) = HA at hdA obA tabA toldA gkA
      refine ⟨_, rfl, due, od, rfl, .inl ⟨_, hdA, fun D hD => lcm (n := kd.length) (fun j y _ => y = .bl true) hD (by rw [gk9.length]; have := G.tree.le; omega) (fun _ _ _ _ _ _ z => z) (go_k hdA) (stop_k hdA) ?_ ?_ gm_name⟩⟩
      · rintro j y HB HC Kt hj sB _ ⟨rfl, ky, u, hkv, rfl⟩ kt
        obtain ⟨q, hq, rfl, hp⟩ := gm_at gkA hkv
        have hqn : q.1 ∈ g.map (·.1) := List.mem_map.mpr ⟨q, List.mem_of_getElem? hq, rfl⟩
        obtain ⟨k1, v1, a1, b1, f1⟩ := (toldA.mono sB).look hqn
        obtain ⟨k2, v2, a2, b2, f2⟩ := (tabA.mono sB).look hqn
        refine ⟨rfl, _, rfl, _, rfl, td, _, rfl, dgetS (.inl a1) b1, _, rfl, _, rfl, tb, _, rfl, dgetS (.inl a2) b2, v1, v2, rfl, upR_up (fun _ _ h => upR_up (fun _ _ z => z.elim) h) (fr_same f1 f2), ?_⟩
        rintro z HD sD rfl
        refine ⟨_, rfl, iteT ⟨_, rfl, _, rfl, x, nrmG g, rk, q.1, rfl, obA.mono (sB.trans sD), G.nrm, red_nrm G, by rw [keys_nrm]; exact hqn, fun v3 HE sE f3 => ?_⟩⟩
        rw [val_nrm9 G] at f3
        refine ⟨_, rfl, _, rfl, tb, _, rfl, dgetS (.inl (sE _ _ (sD _ _ a2))) b2, v3, v2, rfl, upR_up (fun _ _ h => upR_up (fun _ _ z => z.elim) h) (fr_same f3 (f2.mono (sD.trans sE))), fun z HF sF ez => kt _ _ ((sD.trans sE).trans sF) ez⟩
      · intro zs HB sB h4 hl2 hy
        refine ⟨sB _ _ hdA, ?_⟩
        have sU : Same H9 (upd HB due (.dK kd)) := by subst eHA; exact same_unlock hd9 sB
        have e : zs = (List.replicate kd.length true).map V.bl := by
          rw [List.map_replicate]
          refine List.eq_replicate_iff.mpr ⟨hl2, fun y hyz => ?_⟩
          obtain ⟨j, hj⟩ := List.getElem?_of_mem hyz
          exact hy j y hj
        subst e
        have hDd : D ≠ due := fun e => by rw [e, hdA] at hD; cases hD
        refine ⟨D, _, rfl, SqL.of (by rw [upd_ne hDd]; exact h4), _, rfl, ?_⟩
        rw [all_rep]
        refine iteF ?_
        generalize upd HB due (.dK kd) = HG at sU
        clear hdA obA tabA toldA gkA eHA h4 hy hD sB hDd hl2
        have ob10 := ob9.mono sU
        have hd10 := sU _ _ hd9
        have gk10 := gk9.mono sU
        have hg10 := hg9.mono sU
        have S10 := S9.mono sU
        have tab10 := tab9.mono sU
        have htd10 := sU _ _ htd9
        have tt10 := tt9.mono sU
        clear ob9 hd9 gk9 hg9 S9 tab9 htd9 tt9 sU told9
        refine ⟨_, rfl, due, g, rk, true, rfl, hg10, G, fun l1 HP as1 pls1 sP l10 hl1 da1 pq1 len1 => ?_⟩
        refine ⟨_, rfl, due, g, rk, false, rfl, hg10.mono sP, G, fun l2 HQ as2 pls2 sQ l20 hl2 da2 pq2 len2 => ⟨by show 2 ≤ sizeLine; decide, fun T2 hT2 => ?_⟩⟩
        refine ⟨T2, _, rfl, SqT.of upd_same, rfl, _, _, rfl, _, _, rfl, rfl, ?_⟩
        have sT2 := same_upd (o := .tup [.ref l1, .ref l2]) hT2
        have sZ := (sP.trans sQ).trans sT2
        have da1' := das_mono da1 (sQ.trans sT2)
        have da2' := das_mono da2 sT2
        have hl1' := (sQ.trans sT2) _ _ hl1
        have hl2' := sT2 _ _ hl2
        have ln1 : as1.length = pls1.length := da1.length
        have ln2 : as2.length = pls2.length := da2.length
        generalize upd HQ T2 (.tup [.ref l1, .ref l2]) = HZ at sZ da1' da2' hl1' hl2'
        clear sP sQ sT2 da1 da2 hl1 hl2 hT2
        have obZ := ob10.mono sZ
        have hdZ := sZ _ _ hd10
        have gkZ := gk10.mono sZ
        have hgZ := hg10.mono sZ
        have SZ := S10.mono sZ
        have tabZ := tab10.mono sZ
        have htdZ := sZ _ _ htd10
        have ttZ := tt10.mono sZ
        clear ob10 hd10 gk10 hg10 S10 tab10 htd10 tt10
        have lkd : kd.length ≤ 9 := by rw [gkZ.length]; exact G.tree.le
        refine ⟨fun σ' H' => ∃ x7 x8 x9 x10 x11 x12 x13 x14 x15 x16 x17, σ' = [some (.ref a), some (.ref st), some (.int (0 + (i : Int))), some (.ref due), some (.ref x), some (.ref tb), some (.ref td), x7, x8, x9, x10, x11, x12, x13, x14, x15, x16, x17] ∧ Same HZ H', ?_, ?_⟩
        · refine ⟨_, rfl, l1, as1, rfl, .inl (SqL.of hl1'), _, rfl, l2, as2, rfl, .inl (SqL.of hl2'), _, _, rfl, rfl, (.inl ⟨by omega, by omega⟩), _, _, rfl, rfl, _, rfl, ite2 (fun c1 => ?_) (fun c1 => ?_)⟩
          · refine ⟨_, _, rfl, rfl, _, rfl, ite2 (fun c2 => ?_) (fun c2 => ?_)⟩
            · have c1 := of_decide_eq_true c1
              have n1 : as1.length ≠ 0 := fun e => by rw [e] at c1; simp at c1
              have n2 : as2.length ≠ 0 := fun e => by rw [e] at c1; simp at c1
              have e1 : pls1 = allPl true g := by
                rcases pq1 with e | e
                · rw [e] at ln1; exact absurd ln1 n1
                · exact e
              have e2 : pls2 = allPl false g := by
                rcases pq2 with e | e
                · rw [e] at ln2; exact absurd ln2 n2
                · exact e
              clear pq1 pq2 c2
              have T0 := G.tree
              -- all rows
              refine ⟨_, rfl, l1, rfl, ⟨_, SqL.of hl1'⟩, fun R hR => lcm (n := as1.length) (fun j v H => ∃ p1 a tvs, pls1[j]? = some p1 ∧ v = .ref a ∧ a ≠ R ∧ H a = some (.lst tvs) ∧ Paired (TbV g H) tvs (pls2.map (bothV g p1))) hR (by omega) (fun i y Ha Hb off hacc ⟨p1, a, tvs, z1, z2, z3, z4, z5⟩ => ⟨p1, a, tvs, z1, z2, z3, (RowV.off z4 z5 z3 hacc off).1, (RowV.off z4 z5 z3 hacc off).2⟩) (go_l hl1') (stop_l hl1') ?_ ?_ gm_name⟩
              · rintro j v HB HC Kt hj sB ⟨acc, hacc⟩ hy kt
                obtain ⟨rfl, hx⟩ := yl_l hl1' sB hy
                obtain ⟨p1, hp1, a1, rfl, _, ha1⟩ := Paired.nth da1' hx
                refine ⟨rfl, _, rfl, l2, rfl, ⟨_, SqL.of (sB _ _ hl2')⟩, fun D2 hD2 => lcm (n := as2.length) (fun j v H => ∃ p2 l, pls2[j]? = some p2 ∧ v = .ref l ∧ TabAt H l g (bothV g p1 p2)) hD2 (by omega) (fun i y Ha Hb off hacc ⟨p2, l, z1, z2, z3⟩ => ⟨p2, l, z1, z2, z3.offL hacc off⟩) (go_l (sB _ _ hl2')) (stop_l (sB _ _ hl2')) ?_ ?_ gm_name⟩
                · rintro j2 v2 HD HE Kt2 hj2 sD _ hy2 kt2
                  obtain ⟨rfl, hx2⟩ := yl_l (sB _ _ hl2') sD hy2
                  obtain ⟨p2, hp2, a2, rfl, _, ha2⟩ := Paired.nth da2' hx2
                  refine ⟨rfl, _, rfl, fun pd hpd => ⟨_, rfl, _, rfl, upd_same, two a1 a2, rfl, by show 2 ≤ 15; decide, ?_⟩⟩
                  rw [two_merge, upd_upd]
                  have s1' := same_upd (o := .dK (two a1 a2)) hpd
                  have s2' := (sB.trans sD).trans s1'
                  have m1 : p1 ∈ allPl true g := e1 ▸ List.mem_of_getElem? hp1
                  have m2 : p2 ∈ allPl false g := e2 ▸ List.mem_of_getElem? hp2
                  refine ⟨due, pd, g, rk, both (plF p1) (plF p2), rfl, hgZ.mono s2', G, pol_both upd_same (plan_at T0 m1 (s2' _ _ ha1)) (plan_at T0 m2 (s2' _ _ ha2)), both_ok (keeps_all T0 m1) (keeps_all T0 m2), fun l H' s3 l0 tab => kt2 _ _ (s1'.trans s3) ⟨p2, l, hp2, rfl, tab⟩⟩
                · intro ys HD sD hD2' lys hyy
                  refine kt _ _ sD ⟨p1, D2, ys, hp1, rfl, Ne.symm (ne_of_none hacc hD2), hD2', paired_of (by rw [List.length_map, lys, ln2]) fun j' y' hj' => ?_⟩
                  obtain ⟨p2, l, z1, z2, z3⟩ := hyy j' y' hj'
                  exact ⟨_, by rw [List.getElem?_map, z1]; rfl, l, z2, z3⟩
              intro rvs HS sS hRS lrv hyy
              have rowS : RowsAt g HS R (pls1.map fun p1 => pls2.map (bothV g p1)) := ⟨rvs, hRS, paired_of (by rw [List.length_map, lrv, ln1]) fun j' y' hj' => by
                obtain ⟨p1, a', tvs, z1, z2, z3, z4, z5⟩ := hyy j' y' hj'
                exact ⟨_, by rw [List.getElem?_map, z1]; rfl, a', tvs, z2, z4, z5⟩⟩
              clear hyy hRS
              have l1r : rvs.length = pls1.length := by rw [lrv, ln1]
              have sm1 : ∀ p1 ∈ pls1, ∀ p2 ∈ pls2, ∀ n ∈ g.map (·.1), Small (bothV g p1 p2 n) := fun p1 h1 p2 h2 n hn => both_small T0 (e1 ▸ h1) (e2 ▸ h2) hn
              -- the names one by one
              have hdS := sS _ _ hdZ
              have gkS := gkZ.mono sS
              have hgS := hgZ.mono sS
              have tabS := tabZ.mono sS
              refine ⟨due, _, hdS, mut_dK, fun od2 => ?_⟩
              have hdL : upd HS due (.frz od2 (.dK kd)) due = some (.frz od2 (.dK kd)) := upd_same
              have rowL := rowS.lock (o := .frz od2 (.dK kd)) gne hgS
              have tabL := tabS.lock (o := .frz od2 (.dK kd)) gne hgS
              have gkL := gkS.lock (o := .frz od2 (.dK kd)) hdS gne
              have hl2L : upd HS due (.frz od2 (.dK kd)) l2 = some (.lst as2) := upd_off hdS (sS _ _ hl2') (fun z => nomatch z)
              generalize eHL : upd HS due (.frz od2 (.dK kd)) = HL at hdL rowL tabL gkL hl2L
              obtain ⟨rv, rL, rP⟩ := rowL
              have rvl : rv.length = pls1.length := by rw [rP.length, List.length_map]
              have rn : ∀ fs ∈ pls1.map (fun p1 => pls2.map (bothV g p1)), 0 < fs.length ∧ fs.length ≤ 200 := fun fs h => by
                obtain ⟨p1, _, rfl⟩ := List.mem_map.mp h
                rw [List.length_map]
                omega
              have rs : ∀ fs ∈ pls1.map (fun p1 => pls2.map (bothV g p1)), ∀ f' ∈ fs, ∀ n ∈ g.map (·.1), Small (f' n) := fun fs h f' hf n hn => by
                obtain ⟨p1, h1, rfl⟩ := List.mem_map.mp h
                obtain ⟨p2, h2, rfl⟩ := List.mem_map.mp hf
                exact sm1 p1 h1 p2 h2 n hn
              refine ⟨_, rfl, due, od2, rfl, .inl ⟨_, hdL, forg (n := kd.length) (fun _ σ H' => ∃ x7 x11 x12 x13 x14 x15 x16 x17, σ = [some (.ref a), some (.ref st), some (.int (0 + (i : Int))), some (.ref due), some (.ref x), some (.ref tb), some (.ref td), x7, some (.ref l1), some (.ref l2), some (.ref R), x11, x12, x13, x14, x15, x16, x17] ∧ Same HL H') ⟨_, _, _, _, _, _, _, _, rfl, Same.refl _⟩ (fun j σ H' hj ⟨_, _, _, _, _, _, _, _, _, s⟩ => go_k hdL j H' hj s) (fun σ H' ⟨_, _, _, _, _, _, _, _, _, s⟩ => stop_k hdL H' s) ?_ ?_⟩⟩
              · rintro jn v σ H2' H3' hjn ⟨y7, y11, y12, y13, y14, y15, y16, y17, rfl, sL⟩ ⟨rfl, ky, u, hkv, rfl⟩
                obtain ⟨q, hq, rfl, hpq⟩ := gm_at gkL hkv
                have hqn : q.1 ∈ g.map (·.1) := List.mem_map.mpr ⟨q, List.mem_of_getElem? hq, rfl⟩
                refine ⟨_, rfl, R, rfl, ⟨_, SqL.of (sL _ _ rL)⟩, fun D hD => lcm (n := rv.length) (fun j v H => ∃ fs, (pls1.map fun p1 => pls2.map (bothV g p1))[j]? = some fs ∧ Fr H v (bst false (fs.map (fun f' : Str → Rat => f' q.1)))) hD (by omega) (fun i y Ha Hb off hacc ⟨fs, z1, z2⟩ => ⟨fs, z1, z2.offL hacc off⟩) (go_l (sL _ _ rL)) (stop_l (sL _ _ rL)) ?_ ?_ gm_name⟩
                · rintro j v HB HC Kt hj sB _ hy kt
                  obtain ⟨rfl, hx⟩ := yl_l (sL _ _ rL) sB hy
                  obtain ⟨fs, hfs, a', tvs, rfl, ha', hp'⟩ := Paired.nth rP hx
                  have hfm := List.mem_of_getElem? hfs
                  have ha2 := sB _ _ (sL _ _ ha')
                  have lt : tvs.length = fs.length := hp'.length
                  have lf := rn fs hfm
                  refine ⟨rfl, _, rfl, a', rfl, ⟨_, SqL.of ha2⟩, fun D2 hD2 => lcm (n := tvs.length) (fun j v H => ∃ f', fs[j]? = some f' ∧ Fr H v (f' q.1)) hD2 (by omega) (fun i y Ha Hb off hacc ⟨fs, z1, z2⟩ => ⟨fs, z1, z2.offL hacc off⟩) (go_l ha2) (stop_l ha2) ?_ ?_ gm_name⟩
                  · rintro j2 v2 HD HE Kt2 hj2 sD _ hy2 kt2
                    obtain ⟨rfl, hx2⟩ := yl_l ha2 sD hy2
                    obtain ⟨f', hf', l', rfl, tb'⟩ := Paired.nth hp' hx2
                    obtain ⟨k1, v1, w1, w2, w3⟩ := (tb'.mono ((sL.trans sB).trans sD)).look hqn
                    exact ⟨rfl, _, rfl, _, rfl, l', _, rfl, dgetS (.inl w1) w2, kt2 _ _ (Same.refl _) ⟨f', hf', w3⟩⟩
                  · intro ys HD sD hD2' lys hyy
                    refine ⟨D2, false, fs.map (fun f' : Str → Rat => f' q.1), rfl, ⟨ys, hD2', paired_of (by rw [List.length_map, lys, lt]) fun j' y' hj' => ?_⟩, ?_, ?_, fun v' HE sE fr' => kt _ _ (sD.trans sE) ⟨fs, hfs, fr'⟩⟩
                    · obtain ⟨f', z1, z2⟩ := hyy j' y' hj'
                      exact ⟨_, by rw [List.getElem?_map, z1]; rfl, z2⟩
                    · intro e
                      have := congrArg List.length e
                      rw [List.length_map] at this
                      have e0 : ([] : List Rat).length = 0 := rfl
                      omega
                    · intro q' hq'
                      obtain ⟨f', hf', rfl⟩ := List.mem_map.mp hq'
                      exact rs fs hfm f' hf' q.1 hqn
                intro ysr HUr sUr hDr lysr hyyr
                refine ⟨D, true, (pls1.map fun p1 => pls2.map (bothV g p1)).map (fun fs => bst false (fs.map (fun f' : Str → Rat => f' q.1))), rfl, ⟨ysr, hDr, paired_of (by rw [List.length_map, lysr, rP.length]) fun j' y' hj' => ?_⟩, ?_, ?_, fun vr HVr sVr frr => ?_⟩
                · obtain ⟨fs, z1, z2⟩ := hyyr j' y' hj'
                  exact ⟨_, by rw [List.getElem?_map, z1]; rfl, z2⟩
                · intro e
                  have := congrArg List.length e
                  rw [List.length_map, ← rP.length] at this
                  have e0 : ([] : List Rat).length = 0 := rfl
                  omega
                · intro q' hq'
                  obtain ⟨fs, hfs, rfl⟩ := List.mem_map.mp hq'
                  refine bst_small (fun e => ?_) fun q2 hq2 => ?_
                  · have := congrArg List.length e
                    rw [List.length_map] at this
                    have e0 : ([] : List Rat).length = 0 := rfl
                    have := rn fs hfs
                    omega
                  · obtain ⟨f', hf', rfl⟩ := List.mem_map.mp hq2
                    exact rs fs hfs f' hf' q.1 hqn
                -- the columns
                have sC0 := (sL.trans sUr).trans sVr
                refine ⟨_, rfl, l2, as2, rfl, .inl (SqL.of (sC0 _ _ hl2L)), _, rfl, by omega, by omega, fun D' hD' => lcm (n := as2.length) (fun j v H => ∃ p2 a tvs, pls2[j]? = some p2 ∧ v = .ref a ∧ a ≠ D' ∧ H a = some (.lst tvs) ∧ Paired (TbV g H) tvs (pls1.map fun p1 => bothV g p1 p2)) hD' (by omega) (fun i y Ha Hb off hacc ⟨p1, a, tvs, z1, z2, z3, z4, z5⟩ => ⟨p1, a, tvs, z1, z2, z3, (RowV.off z4 z5 z3 hacc off).1, (RowV.off z4 z5 z3 hacc off).2⟩) (fun i H hi _ => (by show i < ((as2.length : Nat) : Int).toNat; omega)) (fun _ _ => (by show ((as2.length : Nat) : Int).toNat ≤ as2.length; omega)) ?_ ?_ gm_name⟩
                · rintro j v HB HC Kt hj sB ⟨acc, hacc⟩ ⟨hy1, hy2⟩ kt
                  subst hy1 hy2
                  obtain ⟨p2, hp2⟩ : ∃ p2, pls2[j]? = some p2 := ⟨_, List.getElem?_eq_getElem (by omega)⟩
                  have rB := sB _ _ (sC0 _ _ rL)
                  refine ⟨rfl, _, rfl, R, rfl, ⟨_, SqL.of rB⟩, fun D2 hD2 => lcm (n := rv.length) (fun j v H => ∃ p1, pls1[j]? = some p1 ∧ TbV g H v (bothV g p1 p2)) hD2 (by omega) (fun i y Ha Hb off hacc ⟨p1, z1, l', z2, z3⟩ => ⟨p1, z1, l', z2, z3.offL hacc off⟩) (go_l rB) (stop_l rB) ?_ ?_ gm_name⟩
                  · rintro j2 v2 HD HE Kt2 hj2 sD _ hy2 kt2
                    obtain ⟨rfl, hx2⟩ := yl_l rB sD hy2
                    obtain ⟨fs, hfs, a', tvs, rfl, ha', hp'⟩ := Paired.nth rP hx2
                    rw [List.getElem?_map] at hfs
                    obtain ⟨p1, hp1, rfl⟩ := Option.map_eq_some_iff.mp hfs
                    obtain ⟨v', hv', f1⟩ := Paired.nth2 hp' (show (pls2.map (bothV g p1))[j]? = some (bothV g p1 p2) by rw [List.getElem?_map, hp2]; rfl)
                    exact ⟨rfl, _, rfl, _, rfl, a', _, _, v', rfl, rfl, SqL.of (((sC0.trans sB).trans sD) _ _ ha'), (by rw [Int.zero_add]; exact atI_nat hv'), kt2 _ _ (Same.refl _) ⟨p1, hp1, f1.mono ((sC0.trans sB).trans sD)⟩⟩
                  · intro ys HD sD hD2' lys hyy
                    refine kt _ _ sD ⟨p2, D2, ys, hp2, rfl, Ne.symm (ne_of_none hacc hD2), hD2', paired_of (by rw [List.length_map, lys, rvl]) fun j' y' hj' => ?_⟩
                    obtain ⟨p1, z1, z2⟩ := hyy j' y' hj'
                    exact ⟨_, by rw [List.getElem?_map, z1]; rfl, z2⟩
                intro cv HK sK cLK lcv hyc
                have colK : RowsAt g HK D' (pls2.map fun p2 => pls1.map fun p1 => bothV g p1 p2) := ⟨cv, cLK, paired_of (by rw [List.length_map, lcv, ln2]) fun j' y' hj' => by
                  obtain ⟨p2, a', tvs, z1, z2, z3, z4, z5⟩ := hyc j' y' hj'
                  exact ⟨_, by rw [List.getElem?_map, z1]; rfl, a', tvs, z2, z4, z5⟩⟩
                clear hyc cLK
                obtain ⟨cv, cL, cP⟩ := colK
                have cvl : cv.length = pls2.length := by rw [cP.length, List.length_map]
                have cn : ∀ fs ∈ pls2.map (fun p2 => pls1.map fun p1 => bothV g p1 p2), 0 < fs.length ∧ fs.length ≤ 200 := fun fs h => by
                  obtain ⟨p1, _, rfl⟩ := List.mem_map.mp h
                  rw [List.length_map]
                  omega
                have cs : ∀ fs ∈ pls2.map (fun p2 => pls1.map fun p1 => bothV g p1 p2), ∀ f' ∈ fs, ∀ n ∈ g.map (·.1), Small (f' n) := fun fs h f' hf n hn => by
                  obtain ⟨p2, h2, rfl⟩ := List.mem_map.mp h
                  obtain ⟨p1, h1, rfl⟩ := List.mem_map.mp hf
                  exact sm1 p1 h1 p2 h2 n hn
                have sR0 := Same.refl HK
                refine ⟨_, rfl, D', rfl, ⟨_, SqL.of (sR0 _ _ cL)⟩, fun D hD => lcm (n := cv.length) (fun j v H => ∃ fs, (pls2.map fun p2 => pls1.map fun p1 => bothV g p1 p2)[j]? = some fs ∧ Fr H v (bst true (fs.map (fun f' : Str → Rat => f' q.1)))) hD (by omega) (fun i y Ha Hb off hacc ⟨fs, z1, z2⟩ => ⟨fs, z1, z2.offL hacc off⟩) (go_l (sR0 _ _ cL)) (stop_l (sR0 _ _ cL)) ?_ ?_ gm_name⟩
                · rintro j v HB HC Kt hj sB _ hy kt
                  obtain ⟨rfl, hx⟩ := yl_l (sR0 _ _ cL) sB hy
                  obtain ⟨fs, hfs, a', tvs, rfl, ha', hp'⟩ := Paired.nth cP hx
                  have hfm := List.mem_of_getElem? hfs
                  have ha2 := sB _ _ (sR0 _ _ ha')
                  have lt : tvs.length = fs.length := hp'.length
                  have lf := cn fs hfm
                  refine ⟨rfl, _, rfl, a', rfl, ⟨_, SqL.of ha2⟩, fun D2 hD2 => lcm (n := tvs.length) (fun j v H => ∃ f', fs[j]? = some f' ∧ Fr H v (f' q.1)) hD2 (by omega) (fun i y Ha Hb off hacc ⟨fs, z1, z2⟩ => ⟨fs, z1, z2.offL hacc off⟩) (go_l ha2) (stop_l ha2) ?_ ?_ gm_name⟩
                  · rintro j2 v2 HD HE Kt2 hj2 sD _ hy2 kt2
                    obtain ⟨rfl, hx2⟩ := yl_l ha2 sD hy2
                    obtain ⟨f', hf', l', rfl, tb'⟩ := Paired.nth hp' hx2
                    obtain ⟨k1, v1, w1, w2, w3⟩ := (tb'.mono ((sR0.trans sB).trans sD)).look hqn
                    exact ⟨rfl, _, rfl, _, rfl, l', _, rfl, dgetS (.inl w1) w2, kt2 _ _ (Same.refl _) ⟨f', hf', w3⟩⟩
                  · intro ys HD sD hD2' lys hyy
                    refine ⟨D2, true, fs.map (fun f' : Str → Rat => f' q.1), rfl, ⟨ys, hD2', paired_of (by rw [List.length_map, lys, lt]) fun j' y' hj' => ?_⟩, ?_, ?_, fun v' HE sE fr' => kt _ _ (sD.trans sE) ⟨fs, hfs, fr'⟩⟩
                    · obtain ⟨f', z1, z2⟩ := hyy j' y' hj'
                      exact ⟨_, by rw [List.getElem?_map, z1]; rfl, z2⟩
                    · intro e
                      have := congrArg List.length e
                      rw [List.length_map] at this
                      have e0 : ([] : List Rat).length = 0 := rfl
                      omega
                    · intro q' hq'
                      obtain ⟨f', hf', rfl⟩ := List.mem_map.mp hq'
                      exact cs fs hfm f' hf' q.1 hqn
                intro ysc HUc sUc hDc lysc hyyc
                refine ⟨D, false, (pls2.map fun p2 => pls1.map fun p1 => bothV g p1 p2).map (fun fs => bst true (fs.map (fun f' : Str → Rat => f' q.1))), rfl, ⟨ysc, hDc, paired_of (by rw [List.length_map, lysc, cP.length]) fun j' y' hj' => ?_⟩, ?_, ?_, fun vc HVc sVc frc => ?_⟩
                · obtain ⟨fs, z1, z2⟩ := hyyc j' y' hj'
                  exact ⟨_, by rw [List.getElem?_map, z1]; rfl, z2⟩
                · intro e
                  have := congrArg List.length e
                  rw [List.length_map, ← cP.length] at this
                  have e0 : ([] : List Rat).length = 0 := rfl
                  omega
                · intro q' hq'
                  obtain ⟨fs, hfs, rfl⟩ := List.mem_map.mp hq'
                  refine bst_small (fun e => ?_) fun q2 hq2 => ?_
                  · have := congrArg List.length e
                    rw [List.length_map] at this
                    have e0 : ([] : List Rat).length = 0 := rfl
                    have := cn fs hfs
                    omega
                  · obtain ⟨f', hf', rfl⟩ := List.mem_map.mp hq2
                    exact cs fs hfs f' hf' q.1 hqn
                -- both are the worth
                have elow : bst true ((pls1.map fun p1 => pls2.map (bothV g p1)).map fun fs => bst false (fs.map (fun f' : Str → Rat => f' q.1))) = val g free q.1 := by
                  rw [← low_eq T0 hqn, List.map_map, List.map_map, e1, e2]
                  congr 1
                  refine List.map_congr_left fun p1 _ => ?_
                  show bst false (((allPl false g).map (bothV g p1)).map (fun f' : Str → Rat => f' q.1)) = _
                  rw [List.map_map]
                  rfl
                have ehigh : bst false ((pls2.map fun p2 => pls1.map fun p1 => bothV g p1 p2).map fun fs => bst true (fs.map (fun f' : Str → Rat => f' q.1))) = val g free q.1 := by
                  rw [← high_eq T0 hqn, List.map_map, List.map_map, e1, e2]
                  congr 1
                  refine List.map_congr_left fun p2 _ => ?_
                  show bst true (((allPl true g).map fun p1 => bothV g p1 p2).map (fun f' : Str → Rat => f' q.1)) = _
                  rw [List.map_map]
                  rfl
                rw [elow] at frr
                rw [ehigh] at frc
                have sE0 := ((sC0.trans sK).trans sUc).trans sVc
                have frr := frr.mono ((sK.trans sUc).trans sVc)
                refine ⟨_, rfl, _, rfl, by show 2 ≤ sizeLine; decide, fun e he => ?_⟩
                have sF := same_upd (o := .lst [vr, vc]) he
                obtain ⟨kt, vt, w1, w2, w3⟩ := (tabL.mono (sE0.trans sF)).look hqn
                refine ⟨_, rfl, _, rfl, tb, _, rfl, dgetS (.inl w1) w2, by show 1 ≤ sizeLine; decide, fun e' he' => ?_⟩
                have sG := same_upd (o := .lst [vt]) he'
                refine ⟨e', 2, _, rfl, rfl, upd_same, by decide, by decide, by show 1 * 2 ≤ sizeLine; decide, fun p hp => ?_⟩
                have sH := same_upd (o := .lst (List.replicate (2 : Int).toNat [vt]).flatten) hp
                have sFGH := (sG.trans sH)
                refine ⟨.ref e, .ref p, rfl, .inr ⟨e, p, [vr, vc], [vt, vt], rfl, rfl, .inl ⟨sFGH _ _ upd_same, upd_same⟩, .cons (fr_same (frr.mono (sF.trans sFGH)) (w3.mono sFGH)) (.cons (fr_same (frc.mono (sF.trans sFGH)) (w3.mono sFGH)) .nil), by show 2 ≤ 100; decide⟩, ?_⟩
                rintro z HW sW rfl
                exact ⟨_, rfl, iteF ⟨_, _, _, _, _, _, _, _, rfl, ((sE0.trans sF).trans sFGH).trans sW⟩⟩
              · rintro σ H2' ⟨y7, y11, y12, y13, y14, y15, y16, y17, rfl, sL⟩
                refine ⟨sL _ _ hdL, _, _, _, _, _, _, _, _, _, _, _, rfl, ?_⟩
                have sU : Same HS (upd H2' due (.dK kd)) := by subst eHL; exact same_unlock hdS sL
                exact sS.trans sU
            · exact ⟨_, _, _, _, _, _, _, _, _, _, _, rfl, Same.refl _⟩
          · refine ⟨_, rfl, iteF ?_⟩
            exact ⟨_, _, _, _, _, _, _, _, _, _, _, rfl, Same.refl _⟩
        · rintro σ' HM ⟨x7, x8, x9, x10, x11, x12, x13, x14, x15, x16, x17, rfl, sM⟩
          have htdM := sM _ _ htdZ
          have ttM := ttZ.mono sM
          have lk : kvs.length = g.length := by rw [ttM.length, List.length_map]
          have g9 := G.tree.le
          have nsne : g.map (·.1) ≠ [] := fun e => gne (List.map_eq_nil_iff.mp e)
          have nolate : valV kvs (Sum.inr ("late" : Str)) = none := ttM.no fun h => nl _ h rfl
          refine ⟨_, rfl, td, _, rfl, DPut.k (k := Sum.inr "late") htdM (sz_lt (by omega)), ?_⟩
          rw [putK_new _ nolate]
          have obM := (obZ.mono sM).g.tab (o := .dK (kvs ++ [((Sum.inr ("late" : Str) : Key), V.non)])) G.nrm htdM ttM nsne
          have hM : upd HM td (.dK (kvs ++ [((Sum.inr ("late" : Str) : Key), V.non)])) td = some (.dK (kvs ++ [((Sum.inr ("late" : Str) : Key), V.non)])) := upd_same
          have SM : Stm (upd HM td (.dK (kvs ++ [((Sum.inr ("late" : Str) : Key), V.non)]))) st c (1001 * (i + 1)) := by
            obtain ⟨cells, z1, z2, z3, q1, q2, q3⟩ := SZ.mono sM
            exact ⟨cells, z1, z2, z3, by rw [upd_ne (Ne.symm ntd.1)]; exact q1, by rw [upd_ne (Ne.symm ntd.2)]; exact q2, q3⟩
          generalize upd HM td (.dK (kvs ++ [((Sum.inr ("late" : Str) : Key), V.non)])) = HN at obM hM SM
          refine ⟨_, rfl, x, nrmG g, rk, rfl, obM, G.nrm, red_nrm G, fun lw HO kv2 sO lw0 hlw tt2 => ?_⟩
          refine ⟨_, rfl, lw, td, kv2, _, rfl, rfl, hlw, sO _ _ hM, ?_, _, rfl, iteF ⟨_, _, _, _, _, _, _, _, _, _, _, _, _, _, _, _, rfl, SM.mono sO⟩⟩
          have l2' : kv2.length = g.length := by rw [tt2.length, keys_nrm, List.length_map]
          rw [List.length_append, l2', lk]
          simp
    · rintro σ H2 ⟨x2, x3, x4, x5, x6, x7, x8, x9, x10, x11, x12, x13, x14, x15, x16, x17, rfl, S2⟩
      exact k H2
end
end Gw
end

section
set_option Elab.async false
set_option linter.all false
set_option maxRecDepth 100000
set_option maxHeartbeats 4000000
/-! all defs joined -/
namespace Gw
open PySem PySem.Spec PyProof.Rows L2
open C8 (Cal Mak Met pe_c pe_mk pe_mt pe_mt0 pe_gc)
open RZ (pi_zipA ItzT)
def frF (K : PySem.W.Frag) (x qual : Str) (st : Stmt) (f : Addr) (oc : Value) (od : Option Addr) (kV dc pm : Value) (an : Option Addr) (cd ct : Value) (sl : Array (Option Value)) : Prop := K.lookup f = some ⟨oc, od, .func (PySem.W.fnOf x qual (defArgs st) (defBody st) (defScope st) .none kV dc pm an cd ct), sl⟩
theorem noR_m : ∀ {H H' : Hp} {x y : V}, NoR H x y → Same H H' → NoR H' x y := fun h _ => h
theorem up1_m : ∀ {H H' : Hp} {x y : V}, UpR NoR H x y → Same H H' → UpR NoR H' x y := UpR.mono (R := NoR) noR_m
theorem up2_m : ∀ {H H' : Hp} {x y : V}, UpR (UpR NoR) H x y → Same H H' → UpR (UpR NoR) H' x y := UpR.mono (R := UpR NoR) up1_m
theorem sm_none {P : Program} {w : World} {K : PySem.W.Frag} {mg : Str → Option Value} {base : Heap} {f : Addr} {fd : FuncData} {ps : List Str} : FnOk P w K mg base CX0 0 f fd ps (spSm NoR) := ⟨fun _ _ _ _ h => by
  obtain ⟨_, _, _, h, _⟩ := h
  exact h.elim, fun _ _ _ _ _ _ _ _ _ _ _ _ _ h => by
  obtain ⟨_, _, _, h, _⟩ := h
  exact h.elim⟩
theorem all_mk {l : PySem.W.OpenLaw} {w : World} {K : PySem.W.Frag} {h : Heap} {mg : Str → Option Value} {fa C : Addr} (X : K.In h) (G : h.Ns mainGlobals mg) (hfa : mg "law" = some (.ref fa))
    {f_lowest f_is_less f_top_of f_bottom_of f_weighed f_is_integer f_is_list f_is_name f_is_fraction f_are_moves f_are_lots f_is_place f_kept_place f_led_from f_order_of f_worths f_worth f_law_t_lowest f_law_t_less f_law_t_best f_law_t_mean f_law_t_after f_law_t_worths f_law_t_plans f_law_draw f_law_pick f_law_start f_law_t_fraction f_law_mixed f_law_t_words f_law_t_leads f_law_t_game f_law_same f_m_init f_m_places f_m_check f_m_round f_zlaw : Addr} {od_lowest an_lowest od_is_less an_is_less od_top_of an_top_of od_bottom_of an_bottom_of od_weighed an_weighed od_is_integer an_is_integer od_is_list an_is_list od_is_name an_is_name od_is_fraction an_is_fraction od_are_moves an_are_moves od_are_lots an_are_lots od_is_place an_is_place od_kept_place an_kept_place od_led_from an_led_from od_order_of an_order_of od_worths an_worths od_worth an_worth od_law_t_lowest an_law_t_lowest od_law_t_less an_law_t_less od_law_t_best an_law_t_best od_law_t_mean an_law_t_mean od_law_t_after an_law_t_after od_law_t_worths an_law_t_worths od_law_t_plans an_law_t_plans od_law_draw an_law_draw od_law_pick an_law_pick od_law_start an_law_start od_law_t_fraction an_law_t_fraction od_law_mixed an_law_mixed od_law_t_words an_law_t_words od_law_t_leads an_law_t_leads od_law_t_game an_law_t_game od_law_same an_law_same od_m_init an_m_init od_m_places an_m_places od_m_check an_m_check od_m_round an_m_round od_zlaw an_zlaw : Option Addr} {sl_lowest sl_is_less sl_top_of sl_bottom_of sl_weighed sl_is_integer sl_is_list sl_is_name sl_is_fraction sl_are_moves sl_are_lots sl_is_place sl_kept_place sl_led_from sl_order_of sl_worths sl_worth sl_law_t_lowest sl_law_t_less sl_law_t_best sl_law_t_mean sl_law_t_after sl_law_t_worths sl_law_t_plans sl_law_draw sl_law_pick sl_law_start sl_law_t_fraction sl_law_mixed sl_law_t_words sl_law_t_leads sl_law_t_game sl_law_same sl_m_init sl_m_places sl_m_check sl_m_round sl_zlaw : Array (Option Value)}
    {oc_lowest kV_lowest dc_lowest pm_lowest cd_lowest ct_lowest oc_is_less kV_is_less dc_is_less pm_is_less cd_is_less ct_is_less oc_top_of kV_top_of dc_top_of pm_top_of cd_top_of ct_top_of oc_bottom_of kV_bottom_of dc_bottom_of pm_bottom_of cd_bottom_of ct_bottom_of oc_weighed kV_weighed dc_weighed pm_weighed cd_weighed ct_weighed oc_is_integer kV_is_integer dc_is_integer pm_is_integer cd_is_integer ct_is_integer oc_is_list kV_is_list dc_is_list pm_is_list cd_is_list ct_is_list oc_is_name kV_is_name dc_is_name pm_is_name cd_is_name ct_is_name oc_is_fraction kV_is_fraction dc_is_fraction pm_is_fraction cd_is_fraction ct_is_fraction oc_are_moves kV_are_moves dc_are_moves pm_are_moves cd_are_moves ct_are_moves oc_are_lots kV_are_lots dc_are_lots pm_are_lots cd_are_lots ct_are_lots oc_is_place kV_is_place dc_is_place pm_is_place cd_is_place ct_is_place oc_kept_place kV_kept_place dc_kept_place pm_kept_place cd_kept_place ct_kept_place oc_led_from kV_led_from dc_led_from pm_led_from cd_led_from ct_led_from oc_order_of kV_order_of dc_order_of pm_order_of cd_order_of ct_order_of oc_worths kV_worths dc_worths pm_worths cd_worths ct_worths oc_worth kV_worth dc_worth pm_worth cd_worth ct_worth oc_law_t_lowest kV_law_t_lowest dc_law_t_lowest pm_law_t_lowest cd_law_t_lowest ct_law_t_lowest oc_law_t_less kV_law_t_less dc_law_t_less pm_law_t_less cd_law_t_less ct_law_t_less oc_law_t_best kV_law_t_best dc_law_t_best pm_law_t_best cd_law_t_best ct_law_t_best oc_law_t_mean kV_law_t_mean dc_law_t_mean pm_law_t_mean cd_law_t_mean ct_law_t_mean oc_law_t_after kV_law_t_after dc_law_t_after pm_law_t_after cd_law_t_after ct_law_t_after oc_law_t_worths kV_law_t_worths dc_law_t_worths pm_law_t_worths cd_law_t_worths ct_law_t_worths oc_law_t_plans kV_law_t_plans dc_law_t_plans pm_law_t_plans cd_law_t_plans ct_law_t_plans oc_law_draw kV_law_draw dc_law_draw pm_law_draw cd_law_draw ct_law_draw oc_law_pick kV_law_pick dc_law_pick pm_law_pick cd_law_pick ct_law_pick oc_law_start kV_law_start dc_law_start pm_law_start cd_law_start ct_law_start oc_law_t_fraction kV_law_t_fraction dc_law_t_fraction pm_law_t_fraction cd_law_t_fraction ct_law_t_fraction oc_law_mixed kV_law_mixed dc_law_mixed pm_law_mixed cd_law_mixed ct_law_mixed oc_law_t_words kV_law_t_words dc_law_t_words pm_law_t_words cd_law_t_words ct_law_t_words oc_law_t_leads kV_law_t_leads dc_law_t_leads pm_law_t_leads cd_law_t_leads ct_law_t_leads oc_law_t_game kV_law_t_game dc_law_t_game pm_law_t_game cd_law_t_game ct_law_t_game oc_law_same kV_law_same dc_law_same pm_law_same cd_law_same ct_law_same oc_m_init kV_m_init dc_m_init pm_m_init cd_m_init ct_m_init oc_m_places kV_m_places dc_m_places pm_m_places cd_m_places ct_m_places oc_m_check kV_m_check dc_m_check pm_m_check cd_m_check ct_m_check oc_m_round kV_m_round dc_m_round pm_m_round cd_m_round ct_m_round oc_zlaw kV_zlaw dc_zlaw pm_zlaw cd_zlaw ct_zlaw us um : Value}
    (aC : PySem.W.nsIn K mainGlobals "Game" = some (some (.ref C)))
    (a_lowest : PySem.W.nsIn K mainGlobals "lowest" = some (some (.ref f_lowest)))
    (l_lowest : K.lookup f_lowest = some ⟨oc_lowest, od_lowest, .func (PySem.W.fnOf "lowest" "lowest" (defArgs (top 7)) (defBody (top 7)) (defScope (top 7)) .none kV_lowest dc_lowest pm_lowest an_lowest cd_lowest ct_lowest), sl_lowest⟩)
    (c_lowest : PySem.W.codeIn K cd_lowest "lowest" = true)
    (k_lowest : PySem.W.keepIn K (.ref f_lowest) = true)
    (a_is_less : PySem.W.nsIn K mainGlobals "is_less" = some (some (.ref f_is_less)))
    (l_is_less : K.lookup f_is_less = some ⟨oc_is_less, od_is_less, .func (PySem.W.fnOf "is_less" "is_less" (defArgs (top 8)) (defBody (top 8)) (defScope (top 8)) .none kV_is_less dc_is_less pm_is_less an_is_less cd_is_less ct_is_less), sl_is_less⟩)
    (c_is_less : PySem.W.codeIn K cd_is_less "is_less" = true)
    (k_is_less : PySem.W.keepIn K (.ref f_is_less) = true)
    (a_top_of : PySem.W.nsIn K mainGlobals "top_of" = some (some (.ref f_top_of)))
    (l_top_of : K.lookup f_top_of = some ⟨oc_top_of, od_top_of, .func (PySem.W.fnOf "top_of" "top_of" (defArgs (top 9)) (defBody (top 9)) (defScope (top 9)) .none kV_top_of dc_top_of pm_top_of an_top_of cd_top_of ct_top_of), sl_top_of⟩)
    (c_top_of : PySem.W.codeIn K cd_top_of "top_of" = true)
    (k_top_of : PySem.W.keepIn K (.ref f_top_of) = true)
    (a_bottom_of : PySem.W.nsIn K mainGlobals "bottom_of" = some (some (.ref f_bottom_of)))
    (l_bottom_of : K.lookup f_bottom_of = some ⟨oc_bottom_of, od_bottom_of, .func (PySem.W.fnOf "bottom_of" "bottom_of" (defArgs (top 10)) (defBody (top 10)) (defScope (top 10)) .none kV_bottom_of dc_bottom_of pm_bottom_of an_bottom_of cd_bottom_of ct_bottom_of), sl_bottom_of⟩)
    (c_bottom_of : PySem.W.codeIn K cd_bottom_of "bottom_of" = true)
    (k_bottom_of : PySem.W.keepIn K (.ref f_bottom_of) = true)
    (a_weighed : PySem.W.nsIn K mainGlobals "weighed" = some (some (.ref f_weighed)))
    (l_weighed : K.lookup f_weighed = some ⟨oc_weighed, od_weighed, .func (PySem.W.fnOf "weighed" "weighed" (defArgs (top 11)) (defBody (top 11)) (defScope (top 11)) .none kV_weighed dc_weighed pm_weighed an_weighed cd_weighed ct_weighed), sl_weighed⟩)
    (c_weighed : PySem.W.codeIn K cd_weighed "weighed" = true)
    (k_weighed : PySem.W.keepIn K (.ref f_weighed) = true)
    (a_is_integer : PySem.W.nsIn K mainGlobals "is_integer" = some (some (.ref f_is_integer)))
    (l_is_integer : K.lookup f_is_integer = some ⟨oc_is_integer, od_is_integer, .func (PySem.W.fnOf "is_integer" "is_integer" (defArgs (top 15)) (defBody (top 15)) (defScope (top 15)) .none kV_is_integer dc_is_integer pm_is_integer an_is_integer cd_is_integer ct_is_integer), sl_is_integer⟩)
    (c_is_integer : PySem.W.codeIn K cd_is_integer "is_integer" = true)
    (k_is_integer : PySem.W.keepIn K (.ref f_is_integer) = true)
    (a_is_list : PySem.W.nsIn K mainGlobals "is_list" = some (some (.ref f_is_list)))
    (l_is_list : K.lookup f_is_list = some ⟨oc_is_list, od_is_list, .func (PySem.W.fnOf "is_list" "is_list" (defArgs (top 16)) (defBody (top 16)) (defScope (top 16)) .none kV_is_list dc_is_list pm_is_list an_is_list cd_is_list ct_is_list), sl_is_list⟩)
    (c_is_list : PySem.W.codeIn K cd_is_list "is_list" = true)
    (k_is_list : PySem.W.keepIn K (.ref f_is_list) = true)
    (a_is_name : PySem.W.nsIn K mainGlobals "is_name" = some (some (.ref f_is_name)))
    (l_is_name : K.lookup f_is_name = some ⟨oc_is_name, od_is_name, .func (PySem.W.fnOf "is_name" "is_name" (defArgs (top 17)) (defBody (top 17)) (defScope (top 17)) .none kV_is_name dc_is_name pm_is_name an_is_name cd_is_name ct_is_name), sl_is_name⟩)
    (c_is_name : PySem.W.codeIn K cd_is_name "is_name" = true)
    (k_is_name : PySem.W.keepIn K (.ref f_is_name) = true)
    (a_is_fraction : PySem.W.nsIn K mainGlobals "is_fraction" = some (some (.ref f_is_fraction)))
    (l_is_fraction : K.lookup f_is_fraction = some ⟨oc_is_fraction, od_is_fraction, .func (PySem.W.fnOf "is_fraction" "is_fraction" (defArgs (top 18)) (defBody (top 18)) (defScope (top 18)) .none kV_is_fraction dc_is_fraction pm_is_fraction an_is_fraction cd_is_fraction ct_is_fraction), sl_is_fraction⟩)
    (c_is_fraction : PySem.W.codeIn K cd_is_fraction "is_fraction" = true)
    (k_is_fraction : PySem.W.keepIn K (.ref f_is_fraction) = true)
    (a_are_moves : PySem.W.nsIn K mainGlobals "are_moves" = some (some (.ref f_are_moves)))
    (l_are_moves : K.lookup f_are_moves = some ⟨oc_are_moves, od_are_moves, .func (PySem.W.fnOf "are_moves" "are_moves" (defArgs (top 21)) (defBody (top 21)) (defScope (top 21)) .none kV_are_moves dc_are_moves pm_are_moves an_are_moves cd_are_moves ct_are_moves), sl_are_moves⟩)
    (c_are_moves : PySem.W.codeIn K cd_are_moves "are_moves" = true)
    (k_are_moves : PySem.W.keepIn K (.ref f_are_moves) = true)
    (a_are_lots : PySem.W.nsIn K mainGlobals "are_lots" = some (some (.ref f_are_lots)))
    (l_are_lots : K.lookup f_are_lots = some ⟨oc_are_lots, od_are_lots, .func (PySem.W.fnOf "are_lots" "are_lots" (defArgs (top 22)) (defBody (top 22)) (defScope (top 22)) .none kV_are_lots dc_are_lots pm_are_lots an_are_lots cd_are_lots ct_are_lots), sl_are_lots⟩)
    (c_are_lots : PySem.W.codeIn K cd_are_lots "are_lots" = true)
    (k_are_lots : PySem.W.keepIn K (.ref f_are_lots) = true)
    (a_is_place : PySem.W.nsIn K mainGlobals "is_place" = some (some (.ref f_is_place)))
    (l_is_place : K.lookup f_is_place = some ⟨oc_is_place, od_is_place, .func (PySem.W.fnOf "is_place" "is_place" (defArgs (top 23)) (defBody (top 23)) (defScope (top 23)) .none kV_is_place dc_is_place pm_is_place an_is_place cd_is_place ct_is_place), sl_is_place⟩)
    (c_is_place : PySem.W.codeIn K cd_is_place "is_place" = true)
    (k_is_place : PySem.W.keepIn K (.ref f_is_place) = true)
    (a_kept_place : PySem.W.nsIn K mainGlobals "kept_place" = some (some (.ref f_kept_place)))
    (l_kept_place : K.lookup f_kept_place = some ⟨oc_kept_place, od_kept_place, .func (PySem.W.fnOf "kept_place" "kept_place" (defArgs (top 24)) (defBody (top 24)) (defScope (top 24)) .none kV_kept_place dc_kept_place pm_kept_place an_kept_place cd_kept_place ct_kept_place), sl_kept_place⟩)
    (c_kept_place : PySem.W.codeIn K cd_kept_place "kept_place" = true)
    (k_kept_place : PySem.W.keepIn K (.ref f_kept_place) = true)
    (a_led_from : PySem.W.nsIn K mainGlobals "led_from" = some (some (.ref f_led_from)))
    (l_led_from : K.lookup f_led_from = some ⟨oc_led_from, od_led_from, .func (PySem.W.fnOf "led_from" "led_from" (defArgs (top 25)) (defBody (top 25)) (defScope (top 25)) .none kV_led_from dc_led_from pm_led_from an_led_from cd_led_from ct_led_from), sl_led_from⟩)
    (c_led_from : PySem.W.codeIn K cd_led_from "led_from" = true)
    (k_led_from : PySem.W.keepIn K (.ref f_led_from) = true)
    (a_order_of : PySem.W.nsIn K mainGlobals "order_of" = some (some (.ref f_order_of)))
    (l_order_of : K.lookup f_order_of = some ⟨oc_order_of, od_order_of, .func (PySem.W.fnOf "order_of" "order_of" (defArgs (top 30)) (defBody (top 30)) (defScope (top 30)) .none kV_order_of dc_order_of pm_order_of an_order_of cd_order_of ct_order_of), sl_order_of⟩)
    (c_order_of : PySem.W.codeIn K cd_order_of "order_of" = true)
    (k_order_of : PySem.W.keepIn K (.ref f_order_of) = true)
    (a_worths : PySem.W.nsIn K mainGlobals "worths" = some (some (.ref f_worths)))
    (l_worths : K.lookup f_worths = some ⟨oc_worths, od_worths, .func (PySem.W.fnOf "worths" "worths" (defArgs (top 31)) (defBody (top 31)) (defScope (top 31)) .none kV_worths dc_worths pm_worths an_worths cd_worths ct_worths), sl_worths⟩)
    (c_worths : PySem.W.codeIn K cd_worths "worths" = true)
    (k_worths : PySem.W.keepIn K (.ref f_worths) = true)
    (a_worth : PySem.W.nsIn K mainGlobals "worth" = some (some (.ref f_worth)))
    (l_worth : K.lookup f_worth = some ⟨oc_worth, od_worth, .func (PySem.W.fnOf "worth" "worth" (defArgs (top 32)) (defBody (top 32)) (defScope (top 32)) .none kV_worth dc_worth pm_worth an_worth cd_worth ct_worth), sl_worth⟩)
    (c_worth : PySem.W.codeIn K cd_worth "worth" = true)
    (k_worth : PySem.W.keepIn K (.ref f_worth) = true)
    (a_law_t_lowest : PySem.W.nsIn K mainGlobals "_law_t_lowest" = some (some (.ref f_law_t_lowest)))
    (l_law_t_lowest : K.lookup f_law_t_lowest = some ⟨oc_law_t_lowest, od_law_t_lowest, .func (PySem.W.fnOf "_law_t_lowest" "_law_t_lowest" (defArgs (top 34)) (defBody (top 34)) (defScope (top 34)) .none kV_law_t_lowest dc_law_t_lowest pm_law_t_lowest an_law_t_lowest cd_law_t_lowest ct_law_t_lowest), sl_law_t_lowest⟩)
    (c_law_t_lowest : PySem.W.codeIn K cd_law_t_lowest "_law_t_lowest" = true)
    (k_law_t_lowest : PySem.W.keepIn K (.ref f_law_t_lowest) = true)
    (a_law_t_less : PySem.W.nsIn K mainGlobals "_law_t_less" = some (some (.ref f_law_t_less)))
    (l_law_t_less : K.lookup f_law_t_less = some ⟨oc_law_t_less, od_law_t_less, .func (PySem.W.fnOf "_law_t_less" "_law_t_less" (defArgs (top 35)) (defBody (top 35)) (defScope (top 35)) .none kV_law_t_less dc_law_t_less pm_law_t_less an_law_t_less cd_law_t_less ct_law_t_less), sl_law_t_less⟩)
    (c_law_t_less : PySem.W.codeIn K cd_law_t_less "_law_t_less" = true)
    (k_law_t_less : PySem.W.keepIn K (.ref f_law_t_less) = true)
    (a_law_t_best : PySem.W.nsIn K mainGlobals "_law_t_best" = some (some (.ref f_law_t_best)))
    (l_law_t_best : K.lookup f_law_t_best = some ⟨oc_law_t_best, od_law_t_best, .func (PySem.W.fnOf "_law_t_best" "_law_t_best" (defArgs (top 37)) (defBody (top 37)) (defScope (top 37)) .none kV_law_t_best dc_law_t_best pm_law_t_best an_law_t_best cd_law_t_best ct_law_t_best), sl_law_t_best⟩)
    (c_law_t_best : PySem.W.codeIn K cd_law_t_best "_law_t_best" = true)
    (k_law_t_best : PySem.W.keepIn K (.ref f_law_t_best) = true)
    (a_law_t_mean : PySem.W.nsIn K mainGlobals "_law_t_mean" = some (some (.ref f_law_t_mean)))
    (l_law_t_mean : K.lookup f_law_t_mean = some ⟨oc_law_t_mean, od_law_t_mean, .func (PySem.W.fnOf "_law_t_mean" "_law_t_mean" (defArgs (top 36)) (defBody (top 36)) (defScope (top 36)) .none kV_law_t_mean dc_law_t_mean pm_law_t_mean an_law_t_mean cd_law_t_mean ct_law_t_mean), sl_law_t_mean⟩)
    (c_law_t_mean : PySem.W.codeIn K cd_law_t_mean "_law_t_mean" = true)
    (k_law_t_mean : PySem.W.keepIn K (.ref f_law_t_mean) = true)
    (a_law_t_after : PySem.W.nsIn K mainGlobals "_law_t_after" = some (some (.ref f_law_t_after)))
    (l_law_t_after : K.lookup f_law_t_after = some ⟨oc_law_t_after, od_law_t_after, .func (PySem.W.fnOf "_law_t_after" "_law_t_after" (defArgs (top 42)) (defBody (top 42)) (defScope (top 42)) .none kV_law_t_after dc_law_t_after pm_law_t_after an_law_t_after cd_law_t_after ct_law_t_after), sl_law_t_after⟩)
    (c_law_t_after : PySem.W.codeIn K cd_law_t_after "_law_t_after" = true)
    (k_law_t_after : PySem.W.keepIn K (.ref f_law_t_after) = true)
    (a_law_t_worths : PySem.W.nsIn K mainGlobals "_law_t_worths" = some (some (.ref f_law_t_worths)))
    (l_law_t_worths : K.lookup f_law_t_worths = some ⟨oc_law_t_worths, od_law_t_worths, .func (PySem.W.fnOf "_law_t_worths" "_law_t_worths" (defArgs (top 43)) (defBody (top 43)) (defScope (top 43)) .none kV_law_t_worths dc_law_t_worths pm_law_t_worths an_law_t_worths cd_law_t_worths ct_law_t_worths), sl_law_t_worths⟩)
    (c_law_t_worths : PySem.W.codeIn K cd_law_t_worths "_law_t_worths" = true)
    (k_law_t_worths : PySem.W.keepIn K (.ref f_law_t_worths) = true)
    (a_law_t_plans : PySem.W.nsIn K mainGlobals "_law_t_plans" = some (some (.ref f_law_t_plans)))
    (l_law_t_plans : K.lookup f_law_t_plans = some ⟨oc_law_t_plans, od_law_t_plans, .func (PySem.W.fnOf "_law_t_plans" "_law_t_plans" (defArgs (top 44)) (defBody (top 44)) (defScope (top 44)) .none kV_law_t_plans dc_law_t_plans pm_law_t_plans an_law_t_plans cd_law_t_plans ct_law_t_plans), sl_law_t_plans⟩)
    (c_law_t_plans : PySem.W.codeIn K cd_law_t_plans "_law_t_plans" = true)
    (k_law_t_plans : PySem.W.keepIn K (.ref f_law_t_plans) = true)
    (a_law_draw : PySem.W.nsIn K mainGlobals "_law_draw" = some (some (.ref f_law_draw)))
    (l_law_draw : K.lookup f_law_draw = some ⟨oc_law_draw, od_law_draw, .func (PySem.W.fnOf "_law_draw" "_law_draw" (defArgs (top 46)) (defBody (top 46)) (defScope (top 46)) .none kV_law_draw dc_law_draw pm_law_draw an_law_draw cd_law_draw ct_law_draw), sl_law_draw⟩)
    (c_law_draw : PySem.W.codeIn K cd_law_draw "_law_draw" = true)
    (k_law_draw : PySem.W.keepIn K (.ref f_law_draw) = true)
    (a_law_pick : PySem.W.nsIn K mainGlobals "_law_pick" = some (some (.ref f_law_pick)))
    (l_law_pick : K.lookup f_law_pick = some ⟨oc_law_pick, od_law_pick, .func (PySem.W.fnOf "_law_pick" "_law_pick" (defArgs (top 47)) (defBody (top 47)) (defScope (top 47)) .none kV_law_pick dc_law_pick pm_law_pick an_law_pick cd_law_pick ct_law_pick), sl_law_pick⟩)
    (c_law_pick : PySem.W.codeIn K cd_law_pick "_law_pick" = true)
    (k_law_pick : PySem.W.keepIn K (.ref f_law_pick) = true)
    (a_law_start : PySem.W.nsIn K mainGlobals "_law_start" = some (some (.ref f_law_start)))
    (l_law_start : K.lookup f_law_start = some ⟨oc_law_start, od_law_start, .func (PySem.W.fnOf "_law_start" "_law_start" (defArgs (top 45)) (defBody (top 45)) (defScope (top 45)) .none kV_law_start dc_law_start pm_law_start an_law_start cd_law_start ct_law_start), sl_law_start⟩)
    (c_law_start : PySem.W.codeIn K cd_law_start "_law_start" = true)
    (k_law_start : PySem.W.keepIn K (.ref f_law_start) = true)
    (a_law_t_fraction : PySem.W.nsIn K mainGlobals "_law_t_fraction" = some (some (.ref f_law_t_fraction)))
    (l_law_t_fraction : K.lookup f_law_t_fraction = some ⟨oc_law_t_fraction, od_law_t_fraction, .func (PySem.W.fnOf "_law_t_fraction" "_law_t_fraction" (defArgs (top 38)) (defBody (top 38)) (defScope (top 38)) .none kV_law_t_fraction dc_law_t_fraction pm_law_t_fraction an_law_t_fraction cd_law_t_fraction ct_law_t_fraction), sl_law_t_fraction⟩)
    (c_law_t_fraction : PySem.W.codeIn K cd_law_t_fraction "_law_t_fraction" = true)
    (k_law_t_fraction : PySem.W.keepIn K (.ref f_law_t_fraction) = true)
    (a_law_mixed : PySem.W.nsIn K mainGlobals "_law_mixed" = some (some (.ref f_law_mixed)))
    (l_law_mixed : K.lookup f_law_mixed = some ⟨oc_law_mixed, od_law_mixed, .func (PySem.W.fnOf "_law_mixed" "_law_mixed" (defArgs (top 48)) (defBody (top 48)) (defScope (top 48)) .none kV_law_mixed dc_law_mixed pm_law_mixed an_law_mixed cd_law_mixed ct_law_mixed), sl_law_mixed⟩)
    (c_law_mixed : PySem.W.codeIn K cd_law_mixed "_law_mixed" = true)
    (k_law_mixed : PySem.W.keepIn K (.ref f_law_mixed) = true)
    (a_law_t_words : PySem.W.nsIn K mainGlobals "_law_t_words" = some (some (.ref f_law_t_words)))
    (l_law_t_words : K.lookup f_law_t_words = some ⟨oc_law_t_words, od_law_t_words, .func (PySem.W.fnOf "_law_t_words" "_law_t_words" (defArgs (top 39)) (defBody (top 39)) (defScope (top 39)) .none kV_law_t_words dc_law_t_words pm_law_t_words an_law_t_words cd_law_t_words ct_law_t_words), sl_law_t_words⟩)
    (c_law_t_words : PySem.W.codeIn K cd_law_t_words "_law_t_words" = true)
    (k_law_t_words : PySem.W.keepIn K (.ref f_law_t_words) = true)
    (a_law_t_leads : PySem.W.nsIn K mainGlobals "_law_t_leads" = some (some (.ref f_law_t_leads)))
    (l_law_t_leads : K.lookup f_law_t_leads = some ⟨oc_law_t_leads, od_law_t_leads, .func (PySem.W.fnOf "_law_t_leads" "_law_t_leads" (defArgs (top 40)) (defBody (top 40)) (defScope (top 40)) .none kV_law_t_leads dc_law_t_leads pm_law_t_leads an_law_t_leads cd_law_t_leads ct_law_t_leads), sl_law_t_leads⟩)
    (c_law_t_leads : PySem.W.codeIn K cd_law_t_leads "_law_t_leads" = true)
    (k_law_t_leads : PySem.W.keepIn K (.ref f_law_t_leads) = true)
    (a_law_t_game : PySem.W.nsIn K mainGlobals "_law_t_game" = some (some (.ref f_law_t_game)))
    (l_law_t_game : K.lookup f_law_t_game = some ⟨oc_law_t_game, od_law_t_game, .func (PySem.W.fnOf "_law_t_game" "_law_t_game" (defArgs (top 41)) (defBody (top 41)) (defScope (top 41)) .none kV_law_t_game dc_law_t_game pm_law_t_game an_law_t_game cd_law_t_game ct_law_t_game), sl_law_t_game⟩)
    (c_law_t_game : PySem.W.codeIn K cd_law_t_game "_law_t_game" = true)
    (k_law_t_game : PySem.W.keepIn K (.ref f_law_t_game) = true)
    (a_law_same : PySem.W.nsIn K mainGlobals "_law_same" = some (some (.ref f_law_same)))
    (l_law_same : K.lookup f_law_same = some ⟨oc_law_same, od_law_same, .func (PySem.W.fnOf "_law_same" "_law_same" (defArgs (top 49)) (defBody (top 49)) (defScope (top 49)) .none kV_law_same dc_law_same pm_law_same an_law_same cd_law_same ct_law_same), sl_law_same⟩)
    (c_law_same : PySem.W.codeIn K cd_law_same "_law_same" = true)
    (k_law_same : PySem.W.keepIn K (.ref f_law_same) = true)
    (a_m_init : PySem.W.findIn K (.ref C) "__init__" = some (some (.ref f_m_init)))
    (i_m_init : PySem.W.isFn K (.ref f_m_init) = true)
    (l_m_init : K.lookup f_m_init = some ⟨oc_m_init, od_m_init, .func (PySem.W.fnOf "__init__" "Game.__init__" (defArgs (inClass (top 26) 0)) (defBody (inClass (top 26) 0)) (defScope (inClass (top 26) 0)) .none kV_m_init dc_m_init pm_m_init an_m_init cd_m_init ct_m_init), sl_m_init⟩)
    (c_m_init : PySem.W.codeIn K cd_m_init "Game.__init__" = true)
    (k_m_init : PySem.W.keepIn K (.ref f_m_init) = true)
    (a_m_places : PySem.W.findIn K (.ref C) "places" = some (some (.ref f_m_places)))
    (i_m_places : PySem.W.isFn K (.ref f_m_places) = true)
    (l_m_places : K.lookup f_m_places = some ⟨oc_m_places, od_m_places, .func (PySem.W.fnOf "places" "Game.places" (defArgs (inClass (top 26) 1)) (defBody (inClass (top 26) 1)) (defScope (inClass (top 26) 1)) .none kV_m_places dc_m_places pm_m_places an_m_places cd_m_places ct_m_places), sl_m_places⟩)
    (c_m_places : PySem.W.codeIn K cd_m_places "Game.places" = true)
    (k_m_places : PySem.W.keepIn K (.ref f_m_places) = true)
    (a_m_check : PySem.W.findIn K (.ref C) "check_place" = some (some (.ref f_m_check)))
    (i_m_check : PySem.W.isFn K (.ref f_m_check) = true)
    (l_m_check : K.lookup f_m_check = some ⟨oc_m_check, od_m_check, .func (PySem.W.fnOf "check_place" "Game.check_place" (defArgs (inClass (top 26) 2)) (defBody (inClass (top 26) 2)) (defScope (inClass (top 26) 2)) .none kV_m_check dc_m_check pm_m_check an_m_check cd_m_check ct_m_check), sl_m_check⟩)
    (c_m_check : PySem.W.codeIn K cd_m_check "Game.check_place" = true)
    (k_m_check : PySem.W.keepIn K (.ref f_m_check) = true)
    (a_m_round : PySem.W.findIn K (.ref C) "round_place" = some (some (.ref f_m_round)))
    (i_m_round : PySem.W.isFn K (.ref f_m_round) = true)
    (l_m_round : K.lookup f_m_round = some ⟨oc_m_round, od_m_round, .func (PySem.W.fnOf "round_place" "Game.round_place" (defArgs (inClass (top 26) 14)) (defBody (inClass (top 26) 14)) (defScope (inClass (top 26) 14)) .none kV_m_round dc_m_round pm_m_round an_m_round cd_m_round ct_m_round), sl_m_round⟩)
    (c_m_round : PySem.W.codeIn K cd_m_round "Game.round_place" = true)
    (k_m_round : PySem.W.keepIn K (.ref f_m_round) = true)
    (a_zlaw : PySem.W.nsIn K mainGlobals "law" = some (some (.ref f_zlaw)))
    (l_zlaw : K.lookup f_zlaw = some ⟨oc_zlaw, od_zlaw, .func (PySem.W.fnOf "law" "law" (defArgs (top 50)) (defBody (top 50)) (defScope (top 50)) .none kV_zlaw dc_zlaw pm_zlaw an_zlaw cd_zlaw ct_zlaw), sl_zlaw⟩)
    (c_zlaw : PySem.W.codeIn K cd_zlaw "law" = true)
    (k_zlaw : PySem.W.keepIn K (.ref f_zlaw) = true)
    (pg : PySem.W.plainGet K C Str.empty = true)
    (hd : PySem.W.hasDictIn K C = true)
    (po : PySem.W.plainOver K C = true)
    (sa : PySem.W.findIn K (.ref C) "__setattr__" = some (some (.builtin "object.__setattr__")))
    (mk : PySem.W.makesIn K C = true)
    (kc : PySem.W.keepIn K (.ref C) = true)
    (nP : PySem.W.findIn K (.ref C) "place_table" = some none)
    (z_len : PySem.W.nsIn K mainGlobals "len" = some none)
    (z_abs : PySem.W.nsIn K mainGlobals "abs" = some none)
    (z_all : PySem.W.nsIn K mainGlobals "all" = some none)
    (z_sum : PySem.W.nsIn K mainGlobals "sum" = some none)
    (z_isinstance : PySem.W.nsIn K mainGlobals "isinstance" = some none)
    (z_list : PySem.W.nsIn K mainGlobals "list" = some none)
    (z_dict : PySem.W.nsIn K mainGlobals "dict" = some none)
    (z_tuple : PySem.W.nsIn K mainGlobals "tuple" = some none)
    (z_int : PySem.W.nsIn K mainGlobals "int" = some none)
    (z_bool : PySem.W.nsIn K mainGlobals "bool" = some none)
    (z_str : PySem.W.nsIn K mainGlobals "str" = some none)
    (z_range : PySem.W.nsIn K mainGlobals "range" = some none)
    (z_enumerate : PySem.W.nsIn K mainGlobals "enumerate" = some none)
    (z_zip : PySem.W.nsIn K mainGlobals "zip" = some none)
    (uS : PySem.W.nsIn K mainGlobals "SIGNS" = some (some us))
    (uM : PySem.W.nsIn K mainGlobals "MOST_SIGNS" = some (some um))
    (rS : RelV (.str SIGNS) us) (rM : RelV (.int 60) um) :
    ∃ fd : FuncData, (∀ (s : Shared) (v : Value), BindsTo s fd ⟨[v], []⟩ [("_law_script", v)]) ∧ ∀ base : Heap, K.In base → base.Ns mainGlobals mg → FnOk l.prog w K mg base CX0 6 fa fd ["_law_script"] (spLaw K) := by
  have e := hfa.symm.trans (PySem.W.mg_of X G a_zlaw)
  cases e
  have T : GT K C := ⟨⟨pg, hd, po, sa⟩, nP⟩
  have B : Bi mg := ⟨PySem.W.mg_none_of X G z_len, PySem.W.mg_none_of X G z_abs, PySem.W.mg_none_of X G z_all, PySem.W.mg_none_of X G z_sum, PySem.W.mg_none_of X G z_isinstance, PySem.W.mg_none_of X G z_list, PySem.W.mg_none_of X G z_dict, PySem.W.mg_none_of X G z_tuple, PySem.W.mg_none_of X G z_int, PySem.W.mg_none_of X G z_bool, PySem.W.mg_none_of X G z_str, PySem.W.mg_none_of X G z_range, PySem.W.mg_none_of X G z_enumerate, PySem.W.mg_none_of X G z_zip, ⟨_, PySem.W.mg_of X G uS, rS⟩, ⟨_, PySem.W.mg_of X G uM, rM⟩⟩
  have F_lowest := fun_mk (st := (top 7)) l_lowest c_lowest k_lowest
  have b_lowest := F_lowest.binds (ps := ["top", "bottom"]) fun _ _ _ _ _ _ us hl => match us, hl with | [_, _], _ => rfl
  have F_is_less := fun_mk (st := (top 8)) l_is_less c_is_less k_is_less
  have b_is_less := F_is_less.binds (ps := ["one", "other"]) fun _ _ _ _ _ _ us hl => match us, hl with | [_, _], _ => rfl
  have F_top_of := fun_mk (st := (top 9)) l_top_of c_top_of k_top_of
  have b_top_of := F_top_of.binds (ps := ["fractions"]) fun _ _ _ _ _ _ us hl => match us, hl with | [_], _ => rfl
  have F_bottom_of := fun_mk (st := (top 10)) l_bottom_of c_bottom_of k_bottom_of
  have b_bottom_of := F_bottom_of.binds (ps := ["fractions"]) fun _ _ _ _ _ _ us hl => match us, hl with | [_], _ => rfl
  have F_weighed := fun_mk (st := (top 11)) l_weighed c_weighed k_weighed
  have b_weighed := F_weighed.binds (ps := ["rows"]) fun _ _ _ _ _ _ us hl => match us, hl with | [_], _ => rfl
  have F_is_integer := fun_mk (st := (top 15)) l_is_integer c_is_integer k_is_integer
  have b_is_integer := F_is_integer.binds (ps := ["thing"]) fun _ _ _ _ _ _ us hl => match us, hl with | [_], _ => rfl
  have F_is_list := fun_mk (st := (top 16)) l_is_list c_is_list k_is_list
  have b_is_list := F_is_list.binds (ps := ["thing"]) fun _ _ _ _ _ _ us hl => match us, hl with | [_], _ => rfl
  have F_is_name := fun_mk (st := (top 17)) l_is_name c_is_name k_is_name
  have b_is_name := F_is_name.binds (ps := ["thing"]) fun _ _ _ _ _ _ us hl => match us, hl with | [_], _ => rfl
  have F_is_fraction := fun_mk (st := (top 18)) l_is_fraction c_is_fraction k_is_fraction
  have b_is_fraction := F_is_fraction.binds (ps := ["thing"]) fun _ _ _ _ _ _ us hl => match us, hl with | [_], _ => rfl
  have F_are_moves := fun_mk (st := (top 21)) l_are_moves c_are_moves k_are_moves
  have b_are_moves := F_are_moves.binds (ps := ["thing", "names"]) fun _ _ _ _ _ _ us hl => match us, hl with | [_, _], _ => rfl
  have F_are_lots := fun_mk (st := (top 22)) l_are_lots c_are_lots k_are_lots
  have b_are_lots := F_are_lots.binds (ps := ["thing", "names"]) fun _ _ _ _ _ _ us hl => match us, hl with | [_, _], _ => rfl
  have F_is_place := fun_mk (st := (top 23)) l_is_place c_is_place k_is_place
  have b_is_place := F_is_place.binds (ps := ["thing", "names"]) fun _ _ _ _ _ _ us hl => match us, hl with | [_, _], _ => rfl
  have F_kept_place := fun_mk (st := (top 24)) l_kept_place c_kept_place k_kept_place
  have b_kept_place := F_kept_place.binds (ps := ["thing"]) fun _ _ _ _ _ _ us hl => match us, hl with | [_], _ => rfl
  have F_led_from := fun_mk (st := (top 25)) l_led_from c_led_from k_led_from
  have b_led_from := F_led_from.binds (ps := ["thing"]) fun _ _ _ _ _ _ us hl => match us, hl with | [_], _ => rfl
  have F_order_of := fun_mk (st := (top 30)) l_order_of c_order_of k_order_of
  have b_order_of := F_order_of.binds (ps := ["game"]) fun _ _ _ _ _ _ us hl => match us, hl with | [_], _ => rfl
  have F_worths := fun_mk (st := (top 31)) l_worths c_worths k_worths
  have b_worths := F_worths.binds (ps := ["game"]) fun _ _ _ _ _ _ us hl => match us, hl with | [_], _ => rfl
  have F_worth := fun_mk (st := (top 32)) l_worth c_worth k_worth
  have b_worth := F_worth.binds (ps := ["game", "name"]) fun _ _ _ _ _ _ us hl => match us, hl with | [_, _], _ => rfl
  have F_law_t_lowest := fun_mk (st := (top 34)) l_law_t_lowest c_law_t_lowest k_law_t_lowest
  have b_law_t_lowest := F_law_t_lowest.binds (ps := ["_law_top", "_law_bottom"]) fun _ _ _ _ _ _ us hl => match us, hl with | [_, _], _ => rfl
  have F_law_t_less := fun_mk (st := (top 35)) l_law_t_less c_law_t_less k_law_t_less
  have b_law_t_less := F_law_t_less.binds (ps := ["_law_one", "_law_other"]) fun _ _ _ _ _ _ us hl => match us, hl with | [_, _], _ => rfl
  have F_law_t_best := fun_mk (st := (top 37)) l_law_t_best c_law_t_best k_law_t_best
  have b_law_t_best := F_law_t_best.binds (ps := ["_law_some", "_law_is_ours"]) fun _ _ _ _ _ _ us hl => match us, hl with | [_, _], _ => rfl
  have F_law_t_mean := fun_mk (st := (top 36)) l_law_t_mean c_law_t_mean k_law_t_mean
  have b_law_t_mean := F_law_t_mean.binds (ps := ["_law_rows"]) fun _ _ _ _ _ _ us hl => match us, hl with | [_], _ => rfl
  have F_law_t_after := fun_mk (st := (top 42)) l_law_t_after c_law_t_after k_law_t_after
  have b_law_t_after := F_law_t_after.binds (ps := ["_law_game", "_law_name"]) fun _ _ _ _ _ _ us hl => match us, hl with | [_, _], _ => rfl
  have F_law_t_worths := fun_mk (st := (top 43)) l_law_t_worths c_law_t_worths k_law_t_worths
  have b_law_t_worths := F_law_t_worths.binds (ps := ["_law_game", "_law_plans"]) fun _ _ _ _ _ _ us hl => match us, hl with | [_, _], _ => rfl
  have F_law_t_plans := fun_mk (st := (top 44)) l_law_t_plans c_law_t_plans k_law_t_plans
  have b_law_t_plans := F_law_t_plans.binds (ps := ["_law_game", "_law_side"]) fun _ _ _ _ _ _ us hl => match us, hl with | [_, _], _ => rfl
  have F_law_draw := fun_mk (st := (top 46)) l_law_draw c_law_draw k_law_draw
  have b_law_draw := F_law_draw.binds (ps := ["_law_stream", "_law_many"]) fun _ _ _ _ _ _ us hl => match us, hl with | [_, _], _ => rfl
  have F_law_pick := fun_mk (st := (top 47)) l_law_pick c_law_pick k_law_pick
  have b_law_pick := F_law_pick.binds (ps := ["_law_stream", "_law_some"]) fun _ _ _ _ _ _ us hl => match us, hl with | [_, _], _ => rfl
  have F_law_start := fun_mk (st := (top 45)) l_law_start c_law_start k_law_start
  have b_law_start := F_law_start.binds (ps := ["_law_script"]) fun _ _ _ _ _ _ us hl => match us, hl with | [_], _ => rfl
  have F_law_t_fraction := fun_mk (st := (top 38)) l_law_t_fraction c_law_t_fraction k_law_t_fraction
  have b_law_t_fraction := F_law_t_fraction.binds (ps := ["_law_stream"]) fun _ _ _ _ _ _ us hl => match us, hl with | [_], _ => rfl
  have F_law_mixed := fun_mk (st := (top 48)) l_law_mixed c_law_mixed k_law_mixed
  have b_law_mixed := F_law_mixed.binds (ps := ["_law_stream", "_law_some"]) fun _ _ _ _ _ _ us hl => match us, hl with | [_, _], _ => rfl
  have F_law_t_words := fun_mk (st := (top 39)) l_law_t_words c_law_t_words k_law_t_words
  have b_law_t_words := F_law_t_words.binds (ps := ["_law_stream", "_law_many"]) fun _ _ _ _ _ _ us hl => match us, hl with | [_, _], _ => rfl
  have F_law_t_leads := fun_mk (st := (top 40)) l_law_t_leads c_law_t_leads k_law_t_leads
  have b_law_t_leads := F_law_t_leads.binds (ps := ["_law_stream", "_law_word", "_law_some"]) fun _ _ _ _ _ _ us hl => match us, hl with | [_, _, _], _ => rfl
  have F_law_t_game := fun_mk (st := (top 41)) l_law_t_game c_law_t_game k_law_t_game
  have b_law_t_game := F_law_t_game.binds (ps := ["_law_stream", "_law_many", "_law_is_tree"]) fun _ _ _ _ _ _ us hl => match us, hl with | [_, _, _], _ => rfl
  have F_law_same := fun_mk (st := (top 49)) l_law_same c_law_same k_law_same
  have b_law_same := F_law_same.binds (ps := ["_law_found", "_law_due"]) fun _ _ _ _ _ _ us hl => match us, hl with | [_, _], _ => rfl
  have F_m_init := fun_mk (st := (inClass (top 26) 0)) l_m_init c_m_init k_m_init
  have b_m_init := F_m_init.binds (ps := ["self", "places"]) fun _ _ _ _ _ _ us hl => match us, hl with | [_, _], _ => rfl
  have F_m_places := fun_mk (st := (inClass (top 26) 1)) l_m_places c_m_places k_m_places
  have b_m_places := F_m_places.binds (ps := ["self"]) fun _ _ _ _ _ _ us hl => match us, hl with | [_], _ => rfl
  have F_m_check := fun_mk (st := (inClass (top 26) 2)) l_m_check c_m_check k_m_check
  have b_m_check := F_m_check.binds (ps := ["self", "name"]) fun _ _ _ _ _ _ us hl => match us, hl with | [_, _], _ => rfl
  have F_m_round := fun_mk (st := (inClass (top 26) 14)) l_m_round c_m_round k_m_round
  have b_m_round := F_m_round.binds (ps := ["self"]) fun _ _ _ _ _ _ us hl => match us, hl with | [_], _ => rfl
  have F_zlaw := fun_mk (st := (top 50)) l_zlaw c_zlaw k_zlaw
  refine ⟨PySem.W.fnOf "law" "law" (defArgs (top 50)) (defBody (top 50)) (defScope (top 50)) .none kV_zlaw dc_zlaw pm_zlaw an_zlaw cd_zlaw ct_zlaw, fun s v => .of_eq rfl, fun base _ _ => ?_⟩
  have q_lowest : Cal l.prog w K mg base 1 "lowest" spLow [] := ⟨_, _, _, _, ok_lowest F_lowest B , PySem.W.mg_of X G a_lowest, k_lowest, b_lowest, .nil⟩
  have q_is_less : Cal l.prog w K mg base 1 "is_less" spLess [] := ⟨_, _, _, _, ok_is_less F_is_less B , PySem.W.mg_of X G a_is_less, k_is_less, b_is_less, .nil⟩
  have q_top_of : Cal l.prog w K mg base 2 "top_of" (spBst true) [] := ⟨_, _, _, _, ok_top_of F_top_of B q_is_less, PySem.W.mg_of X G a_top_of, k_top_of, b_top_of, .nil⟩
  have q_bottom_of : Cal l.prog w K mg base 2 "bottom_of" (spBst false) [] := ⟨_, _, _, _, ok_bottom_of F_bottom_of B q_is_less, PySem.W.mg_of X G a_bottom_of, k_bottom_of, b_bottom_of, .nil⟩
  have q_weighed : Cal l.prog w K mg base 2 "weighed" spMean [] := ⟨_, _, _, _, ok_weighed F_weighed B q_lowest, PySem.W.mg_of X G a_weighed, k_weighed, b_weighed, .nil⟩
  have q_is_integer : Cal l.prog w K mg base 1 "is_integer" spInt [] := ⟨_, _, _, _, ok_is_integer F_is_integer B , PySem.W.mg_of X G a_is_integer, k_is_integer, b_is_integer, .nil⟩
  have q_is_list : Cal l.prog w K mg base 1 "is_list" spIsl [] := ⟨_, _, _, _, ok_is_list F_is_list B , PySem.W.mg_of X G a_is_list, k_is_list, b_is_list, .nil⟩
  have q_is_name : Cal l.prog w K mg base 1 "is_name" spNm [] := ⟨_, _, _, _, ok_is_name F_is_name B , PySem.W.mg_of X G a_is_name, k_is_name, b_is_name, .nil⟩
  have q_is_fraction : Cal l.prog w K mg base 2 "is_fraction" spFrc [] := ⟨_, _, _, _, ok_is_fraction F_is_fraction B q_is_list q_is_integer, PySem.W.mg_of X G a_is_fraction, k_is_fraction, b_is_fraction, .nil⟩
  have q_are_moves : Cal l.prog w K mg base 2 "are_moves" spMoves [] := ⟨_, _, _, _, ok_are_moves F_are_moves B q_is_name, PySem.W.mg_of X G a_are_moves, k_are_moves, b_are_moves, .nil⟩
  have q_are_lots : Cal l.prog w K mg base 2 "are_lots" spLots [] := ⟨_, _, _, _, ok_are_lots F_are_lots B q_is_list q_is_name q_is_integer, PySem.W.mg_of X G a_are_lots, k_are_lots, b_are_lots, .nil⟩
  have q_is_place : Cal l.prog w K mg base 3 "is_place" spPlace [] := ⟨_, _, _, _, ok_is_place F_is_place B q_is_list q_are_moves q_are_lots q_is_fraction, PySem.W.mg_of X G a_is_place, k_is_place, b_is_place, .nil⟩
  have q_kept_place : Cal l.prog w K mg base 2 "kept_place" spKept [] := ⟨_, _, _, _, ok_kept_place F_kept_place B q_lowest, PySem.W.mg_of X G a_kept_place, k_kept_place, b_kept_place, .nil⟩
  have q_led_from : Cal l.prog w K mg base 1 "led_from" spLed [] := ⟨_, _, _, _, ok_led_from F_led_from B , PySem.W.mg_of X G a_led_from, k_led_from, b_led_from, .nil⟩
  have q_Game : Mak l.prog w K mg base 4 "Game" C (spGInit C) [] := ⟨_, _, _, _, ⟨mk, a_m_init, i_m_init, kc⟩, ok_ginit F_m_init B T q_is_name q_is_place q_kept_place, PySem.W.mg_of X G aC, b_m_init, .nil⟩
  have m_places : Met l.prog w K mg base 1 C "places" (spPlaces C) [] := ⟨_, _, _, _, T.cl, ⟨a_m_places, i_m_places, k_m_places⟩, ok_places F_m_places B T, b_m_places, .nil⟩
  have m_check : Met l.prog w K mg base 1 C "check_place" (spCheck C) [] := ⟨_, _, _, _, T.cl, ⟨a_m_check, i_m_check, k_m_check⟩, ok_check F_m_check B T, b_m_check, .nil⟩
  have m_round : Met l.prog w K mg base 2 C "round_place" (spRound C) [] := ⟨_, _, _, _, T.cl, ⟨a_m_round, i_m_round, k_m_round⟩, ok_round F_m_round B T q_led_from, b_m_round, .nil⟩
  have q_order_of : Cal l.prog w K mg base 3 "order_of" (spOrder C) [] := ⟨_, _, _, _, ok_order F_order_of B T q_led_from m_round m_places, PySem.W.mg_of X G a_order_of, k_order_of, b_order_of, .nil⟩
  have q_worths : Cal l.prog w K mg base 4 "worths" (spWorths C) [] := ⟨_, _, _, _, ok_worths F_worths B T q_order_of q_weighed q_top_of q_bottom_of m_places, PySem.W.mg_of X G a_worths, k_worths, b_worths, .nil⟩
  have q_worth : Cal l.prog w K mg base 5 "worth" (spWorth C) [] := ⟨_, _, _, _, ok_worth F_worth B T q_worths m_check, PySem.W.mg_of X G a_worth, k_worth, b_worth, .nil⟩
  have q_law_t_lowest : Cal l.prog w K mg base 1 "_law_t_lowest" spLow [] := ⟨_, _, _, _, ok_law_t_lowest F_law_t_lowest B , PySem.W.mg_of X G a_law_t_lowest, k_law_t_lowest, b_law_t_lowest, .nil⟩
  have q_law_t_less : Cal l.prog w K mg base 1 "_law_t_less" spLess [] := ⟨_, _, _, _, ok_law_t_less F_law_t_less B , PySem.W.mg_of X G a_law_t_less, k_law_t_less, b_law_t_less, .nil⟩
  have q_law_t_best : Cal l.prog w K mg base 2 "_law_t_best" spBest [] := ⟨_, _, _, _, ok_law_t_best F_law_t_best B q_law_t_less, PySem.W.mg_of X G a_law_t_best, k_law_t_best, b_law_t_best, .nil⟩
  have q_law_t_mean : Cal l.prog w K mg base 2 "_law_t_mean" spMean [] := ⟨_, _, _, _, ok_law_t_mean F_law_t_mean B q_law_t_lowest, PySem.W.mg_of X G a_law_t_mean, k_law_t_mean, b_law_t_mean, .nil⟩
  have q_law_t_after : Cal l.prog w K mg base 1 "_law_t_after" spAfter [] := ⟨_, _, _, _, ok_law_t_after F_law_t_after B , PySem.W.mg_of X G a_law_t_after, k_law_t_after, b_law_t_after, .nil⟩
  have q_law_t_worths : Cal l.prog w K mg base 3 "_law_t_worths" spLW [] := ⟨_, _, _, _, ok_law_t_worths F_law_t_worths B q_law_t_after q_law_t_lowest q_law_t_mean q_law_t_best, PySem.W.mg_of X G a_law_t_worths, k_law_t_worths, b_law_t_worths, .nil⟩
  have q_law_t_plans : Cal l.prog w K mg base 1 "_law_t_plans" spPlans [] := ⟨_, _, _, _, ok_law_t_plans F_law_t_plans B , PySem.W.mg_of X G a_law_t_plans, k_law_t_plans, b_law_t_plans, .nil⟩
  have q_law_draw : Cal l.prog w K mg base 1 "_law_draw" spDraw [] := ⟨_, _, _, _, ok_law_draw F_law_draw B , PySem.W.mg_of X G a_law_draw, k_law_draw, b_law_draw, .nil⟩
  have q_law_pick : Cal l.prog w K mg base 2 "_law_pick" spPick [] := ⟨_, _, _, _, ok_law_pick F_law_pick B q_law_draw, PySem.W.mg_of X G a_law_pick, k_law_pick, b_law_pick, .nil⟩
  have q_law_start : Cal l.prog w K mg base 1 "_law_start" (spStart (K := K)) [] := ⟨_, _, _, _, ok_law_start F_law_start B , PySem.W.mg_of X G a_law_start, k_law_start, b_law_start, .nil⟩
  have q_law_t_fraction : Cal l.prog w K mg base 2 "_law_t_fraction" spFra [] := ⟨_, _, _, _, ok_law_t_fraction F_law_t_fraction B q_law_draw, PySem.W.mg_of X G a_law_t_fraction, k_law_t_fraction, b_law_t_fraction, .nil⟩
  have q_law_mixed : Cal l.prog w K mg base 2 "_law_mixed" spMix [] := ⟨_, _, _, _, ok_law_mixed F_law_mixed B q_law_draw, PySem.W.mg_of X G a_law_mixed, k_law_mixed, b_law_mixed, .nil⟩
  have q_law_t_words : Cal l.prog w K mg base 3 "_law_t_words" spWords [] := ⟨_, _, _, _, ok_law_t_words F_law_t_words B q_law_draw q_law_pick, PySem.W.mg_of X G a_law_t_words, k_law_t_words, b_law_t_words, .nil⟩
  have q_law_t_leads : Cal l.prog w K mg base 4 "_law_t_leads" spLeads [] := ⟨_, _, _, _, ok_law_t_leads F_law_t_leads B q_law_draw q_law_pick q_law_mixed q_law_t_words, PySem.W.mg_of X G a_law_t_leads, k_law_t_leads, b_law_t_leads, .nil⟩
  have q_law_t_game : Cal l.prog w K mg base 5 "_law_t_game" spGame [] := ⟨_, _, _, _, ok_law_t_game F_law_t_game B q_law_t_words q_law_pick q_law_t_fraction q_law_t_leads q_law_mixed, PySem.W.mg_of X G a_law_t_game, k_law_t_game, b_law_t_game, .nil⟩
  have c0 : Cal l.prog w K mg base 0 "_law_same" (spSm NoR) [] := ⟨_, _, _, _, sm_none, PySem.W.mg_of X G a_law_same, k_law_same, b_law_same, .nil⟩
  have c1 : Cal l.prog w K mg base 1 "_law_same" (spSm (UpR NoR)) [] := ⟨_, _, _, _, ok_law_same (k := 0) (R := NoR) noR_m F_law_same B c0, PySem.W.mg_of X G a_law_same, k_law_same, b_law_same, .nil⟩
  have c2 : Cal l.prog w K mg base 2 "_law_same" (spSm (UpR (UpR NoR))) [] := ⟨_, _, _, _, ok_law_same (k := 1) (R := (UpR NoR)) up1_m F_law_same B c1, PySem.W.mg_of X G a_law_same, k_law_same, b_law_same, .nil⟩
  have c3 : Cal l.prog w K mg base 3 "_law_same" (spSm (UpR (UpR (UpR NoR)))) [] := ⟨_, _, _, _, ok_law_same (k := 2) (R := (UpR (UpR NoR))) up2_m F_law_same B c2, PySem.W.mg_of X G a_law_same, k_law_same, b_law_same, .nil⟩
  exact ok_law F_zlaw B T q_law_start q_law_draw q_law_t_game q_Game q_law_t_worths q_worths q_worth c3 q_law_t_plans q_law_t_best
theorem walk {l : PySem.W.OpenLaw} {q : Program} {loose : List Str} {XP : (Str → Option Value) → Heap → Prop} {YP : World → Heap → Prop} {d : DefRec} {K : Params → PySem.W.Frag} (hn : l.most = some 63) (hdf : d.params.defaults = [])
    (hY : ∀ (w : World) (h : Heap), YP w h → (K w.params).In h)
    (F : ∀ (w : World) (mg : Str → Option Value) (fa : Addr) (h : Heap), (K w.params).In h → h.Ns mainGlobals mg → mg d.name = some (.ref fa) →
      ∃ fd : FuncData, (∀ (s : Shared) (u : Value), BindsTo s fd ⟨[u], []⟩ [("_law_script", u)]) ∧ ∀ base : Heap, (K w.params).In base → base.Ns mainGlobals mg → FnOk l.prog w (K w.params) mg base CX0 6 fa fd ["_law_script"] (spLaw (K w.params))) :
    PySem.W.WalkO q loose XP YP l.row.toRowW d [] (fun f vs => PySem.call f vs) :=
  L2.walk_of (n := 63) (k := 6) (x := "_law_script") (CX := fun _ => CX0) (sp := fun w => spLaw (K w.params)) hn (by decide) hdf ⟨rfl, by decide, by decide⟩ hY F (fun _ _ a ns _ _ hS => ⟨a, ns, rfl, hS, fun _ => rfl⟩) fun _ _ _ _ _ z => z
end Gw

open PySem PySem.W PyProof.Rows in
set_option maxRecDepth 100000 in
set_option maxHeartbeats 0 in
theorem PySem.Challenge.cw_gameworths_k04_whole_worths_holds : PySem.Challenge.rw_gameworths_k04_whole_worths.Holds := by
  w_on; o_law; k_head; (case hw => w_witness2)
  k_fill
  refine Gw.walk (l := PySem.Challenge.rw_gameworths_k04_whole_worths) rfl rfl (fun w h Y => PySem.W.kIn_of Y) ?F
  case F =>
    intro w mg fa h KX G hmg
    refine' Gw.all_mk KX G hmg ?aC ?a_lowest ?l_lowest ?c_lowest ?k_lowest ?a_is_less ?l_is_less ?c_is_less ?k_is_less ?a_top_of ?l_top_of ?c_top_of ?k_top_of ?a_bottom_of ?l_bottom_of ?c_bottom_of ?k_bottom_of ?a_weighed ?l_weighed ?c_weighed ?k_weighed ?a_is_integer ?l_is_integer ?c_is_integer ?k_is_integer ?a_is_list ?l_is_list ?c_is_list ?k_is_list ?a_is_name ?l_is_name ?c_is_name ?k_is_name ?a_is_fraction ?l_is_fraction ?c_is_fraction ?k_is_fraction ?a_are_moves ?l_are_moves ?c_are_moves ?k_are_moves ?a_are_lots ?l_are_lots ?c_are_lots ?k_are_lots ?a_is_place ?l_is_place ?c_is_place ?k_is_place ?a_kept_place ?l_kept_place ?c_kept_place ?k_kept_place ?a_led_from ?l_led_from ?c_led_from ?k_led_from ?a_order_of ?l_order_of ?c_order_of ?k_order_of ?a_worths ?l_worths ?c_worths ?k_worths ?a_worth ?l_worth ?c_worth ?k_worth ?a_law_t_lowest ?l_law_t_lowest ?c_law_t_lowest ?k_law_t_lowest ?a_law_t_less ?l_law_t_less ?c_law_t_less ?k_law_t_less ?a_law_t_best ?l_law_t_best ?c_law_t_best ?k_law_t_best ?a_law_t_mean ?l_law_t_mean ?c_law_t_mean ?k_law_t_mean ?a_law_t_after ?l_law_t_after ?c_law_t_after ?k_law_t_after ?a_law_t_worths ?l_law_t_worths ?c_law_t_worths ?k_law_t_worths ?a_law_t_plans ?l_law_t_plans ?c_law_t_plans ?k_law_t_plans ?a_law_draw ?l_law_draw ?c_law_draw ?k_law_draw ?a_law_pick ?l_law_pick ?c_law_pick ?k_law_pick ?a_law_start ?l_law_start ?c_law_start ?k_law_start ?a_law_t_fraction ?l_law_t_fraction ?c_law_t_fraction ?k_law_t_fraction ?a_law_mixed ?l_law_mixed ?c_law_mixed ?k_law_mixed ?a_law_t_words ?l_law_t_words ?c_law_t_words ?k_law_t_words ?a_law_t_leads ?l_law_t_leads ?c_law_t_leads ?k_law_t_leads ?a_law_t_game ?l_law_t_game ?c_law_t_game ?k_law_t_game ?a_law_same ?l_law_same ?c_law_same ?k_law_same ?a_m_init ?i_m_init ?l_m_init ?c_m_init ?k_m_init ?a_m_places ?i_m_places ?l_m_places ?c_m_places ?k_m_places ?a_m_check ?i_m_check ?l_m_check ?c_m_check ?k_m_check ?a_m_round ?i_m_round ?l_m_round ?c_m_round ?k_m_round ?a_zlaw ?l_zlaw ?c_zlaw ?k_zlaw ?pg ?hd ?po ?sa ?mk ?kc ?nP ?z_len ?z_abs ?z_all ?z_sum ?z_isinstance ?z_list ?z_dict ?z_tuple ?z_int ?z_bool ?z_str ?z_range ?z_enumerate ?z_zip ?uS ?uM ?rS ?rM
    (case aC => k_is)
    (case a_lowest => k_is)
    (case l_lowest => k_is)
    (case c_lowest => k_is)
    (case k_lowest => k_is)
    (case a_is_less => k_is)
    (case l_is_less => k_is)
    (case c_is_less => k_is)
    (case k_is_less => k_is)
    (case a_top_of => k_is)
    (case l_top_of => k_is)
    (case c_top_of => k_is)
    (case k_top_of => k_is)
    (case a_bottom_of => k_is)
    (case l_bottom_of => k_is)
    (case c_bottom_of => k_is)
    (case k_bottom_of => k_is)
    (case a_weighed => k_is)
    (case l_weighed => k_is)
    (case c_weighed => k_is)
    (case k_weighed => k_is)
    (case a_is_integer => k_is)
    (case l_is_integer => k_is)
    (case c_is_integer => k_is)
    (case k_is_integer => k_is)
    (case a_is_list => k_is)
    (case l_is_list => k_is)
    (case c_is_list => k_is)
    (case k_is_list => k_is)
    (case a_is_name => k_is)
    (case l_is_name => k_is)
    (case c_is_name => k_is)
    (case k_is_name => k_is)
    (case a_is_fraction => k_is)
    (case l_is_fraction => k_is)
    (case c_is_fraction => k_is)
    (case k_is_fraction => k_is)
    (case a_are_moves => k_is)
    (case l_are_moves => k_is)
    (case c_are_moves => k_is)
    (case k_are_moves => k_is)
    (case a_are_lots => k_is)
    (case l_are_lots => k_is)
    (case c_are_lots => k_is)
    (case k_are_lots => k_is)
    (case a_is_place => k_is)
    (case l_is_place => k_is)
    (case c_is_place => k_is)
    (case k_is_place => k_is)
    (case a_kept_place => k_is)
    (case l_kept_place => k_is)
    (case c_kept_place => k_is)
    (case k_kept_place => k_is)
    (case a_led_from => k_is)
    (case l_led_from => k_is)
    (case c_led_from => k_is)
    (case k_led_from => k_is)
    (case a_order_of => k_is)
    (case l_order_of => k_is)
    (case c_order_of => k_is)
    (case k_order_of => k_is)
    (case a_worths => k_is)
    (case l_worths => k_is)
    (case c_worths => k_is)
    (case k_worths => k_is)
    (case a_worth => k_is)
    (case l_worth => k_is)
    (case c_worth => k_is)
    (case k_worth => k_is)
    (case a_law_t_lowest => k_is)
    (case l_law_t_lowest => k_is)
    (case c_law_t_lowest => k_is)
    (case k_law_t_lowest => k_is)
    (case a_law_t_less => k_is)
    (case l_law_t_less => k_is)
    (case c_law_t_less => k_is)
    (case k_law_t_less => k_is)
    (case a_law_t_best => k_is)
    (case l_law_t_best => k_is)
    (case c_law_t_best => k_is)
    (case k_law_t_best => k_is)
    (case a_law_t_mean => k_is)
    (case l_law_t_mean => k_is)
    (case c_law_t_mean => k_is)
    (case k_law_t_mean => k_is)
    (case a_law_t_after => k_is)
    (case l_law_t_after => k_is)
    (case c_law_t_after => k_is)
    (case k_law_t_after => k_is)
    (case a_law_t_worths => k_is)
    (case l_law_t_worths => k_is)
    (case c_law_t_worths => k_is)
    (case k_law_t_worths => k_is)
    (case a_law_t_plans => k_is)
    (case l_law_t_plans => k_is)
    (case c_law_t_plans => k_is)
    (case k_law_t_plans => k_is)
    (case a_law_draw => k_is)
    (case l_law_draw => k_is)
    (case c_law_draw => k_is)
    (case k_law_draw => k_is)
    (case a_law_pick => k_is)
    (case l_law_pick => k_is)
    (case c_law_pick => k_is)
    (case k_law_pick => k_is)
    (case a_law_start => k_is)
    (case l_law_start => k_is)
    (case c_law_start => k_is)
    (case k_law_start => k_is)
    (case a_law_t_fraction => k_is)
    (case l_law_t_fraction => k_is)
    (case c_law_t_fraction => k_is)
    (case k_law_t_fraction => k_is)
    (case a_law_mixed => k_is)
    (case l_law_mixed => k_is)
    (case c_law_mixed => k_is)
    (case k_law_mixed => k_is)
    (case a_law_t_words => k_is)
    (case l_law_t_words => k_is)
    (case c_law_t_words => k_is)
    (case k_law_t_words => k_is)
    (case a_law_t_leads => k_is)
    (case l_law_t_leads => k_is)
    (case c_law_t_leads => k_is)
    (case k_law_t_leads => k_is)
    (case a_law_t_game => k_is)
    (case l_law_t_game => k_is)
    (case c_law_t_game => k_is)
    (case k_law_t_game => k_is)
    (case a_law_same => k_is)
    (case l_law_same => k_is)
    (case c_law_same => k_is)
    (case k_law_same => k_is)
    (case a_m_init => k_is)
    (case i_m_init => k_is)
    (case l_m_init => k_is)
    (case c_m_init => k_is)
    (case k_m_init => k_is)
    (case a_m_places => k_is)
    (case i_m_places => k_is)
    (case l_m_places => k_is)
    (case c_m_places => k_is)
    (case k_m_places => k_is)
    (case a_m_check => k_is)
    (case i_m_check => k_is)
    (case l_m_check => k_is)
    (case c_m_check => k_is)
    (case k_m_check => k_is)
    (case a_m_round => k_is)
    (case i_m_round => k_is)
    (case l_m_round => k_is)
    (case c_m_round => k_is)
    (case k_m_round => k_is)
    (case a_zlaw => k_is)
    (case l_zlaw => k_is)
    (case c_zlaw => k_is)
    (case k_zlaw => k_is)
    (case pg => k_is)
    (case hd => k_is)
    (case po => k_is)
    (case sa => k_is)
    (case mk => k_is)
    (case kc => k_is)
    (case nP => k_is)
    (case z_len => k_is)
    (case z_abs => k_is)
    (case z_all => k_is)
    (case z_sum => k_is)
    (case z_isinstance => k_is)
    (case z_list => k_is)
    (case z_dict => k_is)
    (case z_tuple => k_is)
    (case z_int => k_is)
    (case z_bool => k_is)
    (case z_str => k_is)
    (case z_range => k_is)
    (case z_enumerate => k_is)
    (case z_zip => k_is)
    (case uS => k_is)
    (case uM => k_is)
    (case rS => exact ⟨_, rfl⟩)
    (case rM => exact ⟨_, rfl⟩)
end

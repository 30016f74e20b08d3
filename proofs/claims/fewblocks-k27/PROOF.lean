import PyProof.Rows.All
import Wide.All
import OpenK.AllK
import Wide.FinOn
import KE.GoesEnum
import KE.KAssignIn
import PyProof.ReprRoads
import HandS.ForMost
import HandS.Exc
import HandS.ExcOwn
import HandS.TryOnly
import HandS.WordsExc
import HandS.StrMore
import HandS.TupAny
import HandS.Style
import HandS.Conv
import HandS.Property
import HandS.Defaults
import HandS.IsInst
import HandS.Codes
import HandS.Deep
import PySem.Challenge.RW_fewblocks_k27_whole_rows_parted_by_a_con
set_option Elab.async false
set_option linter.all false
set_option maxRecDepth 100000
set_option maxHeartbeats 4000000
/-! The plain mathematics of the law: what a sender's plan, hear and close compute, and that two twin senders agree. -/
namespace Fb
inductive Wd | silent | still1 | still2 | doubt | holes | marked | opn
  deriving DecidableEq
inductive Dd | clear | free | first | holes | unmarked | all | new | one
  deriving DecidableEq
abbrev Cond := Wd × Bool
abbrev Row := List Cond × List Dd
abbrev Blk := Int × Int
abbrev Ans := Int × List Blk

def outs (b t : Int) : List Int := (List.range (t - b).toNat).map fun i : Nat => b + (i : Int)
def unm (b t : Int) (m : List Int) : List Int := (outs b t).filter fun p => !m.contains p
def below (u m : List Int) : List Int := u.filter fun p => m.any fun q => decide (p < q)
def cond (w : Wd) (b t : Int) (m : List Int) (s : Int) (h : Bool) : Bool := match w with
  | .silent => !h
  | .doubt => m.contains b
  | .holes => !(below (unm b t m) m).isEmpty
  | .marked => !m.isEmpty
  | .opn => !(unm b t m).isEmpty
  | .still1 => decide (1 ≤ s)
  | .still2 => decide (2 ≤ s)
def conds (cs : List Cond) (b t : Int) (m : List Int) (s : Int) (h : Bool) : Bool := cs.all fun c => cond c.1 b t m s h == c.2
def named (d : Dd) (b t : Int) (m : List Int) : List Int := match d with
  | .first => (outs b t).take 1
  | .holes => below (unm b t m) m
  | .unmarked => unm b t m
  | .all => outs b t
  | _ => []
def asked (d : Dd) (f : Int) : Int := match d with
  | .new => f
  | .one => if 0 < f then 1 else 0
  | _ => 0
structure PS where
  m : List Int
  f : List Int
  n : List Int
  a : Int
def deedM (d : Dd) (m : List Int) : List Int := if d = .clear then [] else m
def deedF (b t : Int) (d : Dd) (m f : List Int) : List Int := if d = .free then (outs b t).filter (fun p => f.contains p || m.contains p) else f
def mx (more a : Int) : Int := if more > a then more else a
def deed (b t win : Int) (x : PS) (d : Dd) : PS :=
  ⟨deedM d x.m, deedF b t d x.m x.f, x.n ++ named d b t (deedM d x.m), mx (asked d (b + win - t)) x.a⟩
def deeds (b t win : Int) (x : PS) (ds : List Dd) : PS := ds.foldl (deed b t win) x
def row (b t win s : Int) (h : Bool) (x : PS) (r : Row) : PS := if conds r.1 b t x.m s h = true then deeds b t win x r.2 else x
def rowsF (b t win s : Int) (h : Bool) (x : PS) (rs : List Row) : PS := rs.foldl (row b t win s h) x
structure Mem where
  base : Int
  top : Int
  marked : List Int
  freed : List Int
  still : Int
  heard : Bool
def planPS (win : Int) (rows : List Row) (S : Mem) : PS := rowsF S.base S.top win S.still S.heard ⟨S.marked, S.freed, [], 0⟩ rows
def lettersOf (b t : Int) (x : PS) : List Int := (outs b t).filter (fun p => x.n.contains p && !x.f.contains p) ++ outs t (t + x.a)
def letters (win : Int) (rows : List Row) (S : Mem) : List Int := lettersOf S.base S.top (planPS win rows S)
def planOf (S : Mem) (x : PS) : Mem := ⟨S.base, S.top + x.a, x.m, x.f, S.still, false⟩
def plan (win : Int) (rows : List Row) (S : Mem) : Mem := planOf S (planPS win rows S)
def toldOf (b t : Int) (bs : List Blk) : List Int := (outs b t).filter fun p => bs.any fun k => decide (k.1 ≤ p) && decide (p < k.2)
def heardOf (last : Bool) (b t : Int) (bs : List Blk) (m : List Int) : List Int :=
  if last = true then toldOf b t bs else (outs b t).filter fun p => (toldOf b t bs).contains p || m.contains p
def up (n b : Int) : Int := if n > b then n else b
def hear (last asksS : Bool) (S : Mem) (a : Ans) : Mem :=
  ⟨up a.1 S.base, S.top, heardOf last (up a.1 S.base) S.top a.2 S.marked, S.freed.filter (fun p => decide (up a.1 S.base ≤ p)), S.still, asksS⟩
def close (asksT : Int) (S : Mem) (begun : Int) : Mem :=
  if S.base > begun then ⟨S.base, S.top, S.marked, S.freed, 0, S.heard⟩ else ⟨S.base, S.top, S.marked, S.freed, (if S.still < asksT then S.still + 1 else S.still), S.heard⟩
def words (rs : List Row) : List Wd := rs.flatMap fun r => r.1.map (·.1)
def asksS (rs : List Row) : Bool := (words rs).contains .silent
def asksT (rs : List Row) : Int := if (words rs).contains .still2 = true then 2 else if (words rs).contains .still1 = true then 1 else 0
def after (win : Int) (last : Bool) (rs : List Row) (S : Mem) (as : List Ans) : Mem :=
  close (asksT rs) (as.foldl (hear last (asksS rs)) (plan win rs S)) S.base
def begin : Mem := ⟨0, 0, [], [], 0, false⟩

/-! ### twins -/
inductive Split : Row → List Row → Prop
  | dup {c : List Cond} {d : List Dd} {k : Nat} (hk : k < d.length) : Split (c, d) [(c ++ c.take 1, d.take (k + 1) ++ d.drop k)]
  | part {c : List Cond} {d : List Dd} {k : Nat} {w : Wd} {b : Bool} (hd : ¬ Dd.clear ∈ d) : Split (c, d) [(c.take k ++ (w, b) :: c.drop k, d), (c.take k ++ (w, !b) :: c.drop k, d)]
def Twin (one other : List Row) : Prop := ∃ pre r post rs, one = pre ++ r :: post ∧ other = pre ++ (rs ++ post) ∧ Split r rs

/-- what two plans have in common: named as a set -/
structure Eqv (x y : PS) : Prop where
  m : x.m = y.m
  f : x.f = y.f
  n : ∀ p, p ∈ x.n ↔ p ∈ y.n
  a : x.a = y.a
theorem Eqv.rfl {x : PS} : Eqv x x := ⟨by rfl, by rfl, fun _ => Iff.rfl, by rfl⟩
theorem Eqv.trans {x y z : PS} (a : Eqv x y) (b : Eqv y z) : Eqv x z := ⟨a.m.trans b.m, a.f.trans b.f, fun p => (a.n p).trans (b.n p), a.a.trans b.a⟩
theorem eqv_deed {b t win : Int} {x y : PS} (d : Dd) (h : Eqv x y) : Eqv (deed b t win x d) (deed b t win y d) := by
  obtain ⟨h1, h2, h3, h4⟩ := h
  refine ⟨?_, ?_, fun p => ?_, ?_⟩
  · show deedM d x.m = deedM d y.m
    rw [h1]
  · show deedF b t d x.m x.f = deedF b t d y.m y.f
    rw [h1, h2]
  · show p ∈ x.n ++ named d b t (deedM d x.m) ↔ p ∈ y.n ++ named d b t (deedM d y.m)
    rw [h1, List.mem_append, List.mem_append, h3 p]
  · show mx _ x.a = mx _ y.a
    rw [h4]
theorem eqv_deeds {b t win : Int} : ∀ (ds : List Dd) {x y : PS}, Eqv x y → Eqv (deeds b t win x ds) (deeds b t win y ds)
  | [], _, _, h => h
  | d :: ds, _, _, h => eqv_deeds ds (eqv_deed d h)
theorem eqv_row {b t win s s' : Int} {h h' : Bool} {r : Row} (hc : ∀ m, conds r.1 b t m s h = conds r.1 b t m s' h') {x y : PS} (e : Eqv x y) : Eqv (row b t win s h x r) (row b t win s' h' y r) := by
  unfold row
  rw [← e.m, ← hc x.m]
  by_cases q : conds r.1 b t x.m s h = true
  · rw [if_pos q, if_pos q]
    exact eqv_deeds _ e
  · rw [if_neg q, if_neg q]
    exact e
theorem eqv_rows {b t win s s' : Int} {h h' : Bool} : ∀ (rs : List Row), (∀ r ∈ rs, ∀ m, conds r.1 b t m s h = conds r.1 b t m s' h') → ∀ {x y : PS}, Eqv x y → Eqv (rowsF b t win s h x rs) (rowsF b t win s' h' y rs)
  | [], _, _, _, e => e
  | r :: rs, hc, _, _, e => eqv_rows rs (fun q hq => hc q (List.mem_cons_of_mem _ hq)) (eqv_row (hc r List.mem_cons_self) e)
/-- a deed done twice -/
theorem contains_filter_or {l f m : List Int} : (l.filter fun p => (l.filter fun p => f.contains p || m.contains p).contains p || m.contains p) = l.filter fun p => f.contains p || m.contains p := by
  apply List.filter_congr
  intro p hp
  have e : (l.filter fun p => f.contains p || m.contains p).contains p = (f.contains p || m.contains p) := by
    rw [Bool.eq_iff_iff]
    simp [List.mem_filter, hp]
  rw [e]
  cases f.contains p <;> cases m.contains p <;> rfl
theorem deedM_twice (d : Dd) (m : List Int) : deedM d (deedM d m) = deedM d m := by
  unfold deedM
  split <;> rfl
theorem deed_twice {b t win : Int} (x : PS) (d : Dd) : Eqv (deed b t win (deed b t win x d) d) (deed b t win x d) := by
  refine ⟨deedM_twice _ _, ?_, fun p => ?_, ?_⟩
  · show deedF b t d (deedM d x.m) (deedF b t d x.m x.f) = deedF b t d x.m x.f
    by_cases e : d = .free
    · subst e
      show deedF b t .free x.m (deedF b t .free x.m x.f) = deedF b t .free x.m x.f
      unfold deedF
      rw [if_pos (by rfl), if_pos (by rfl)]
      exact contains_filter_or
    · unfold deedF
      rw [if_neg e, if_neg e]
  · show p ∈ (x.n ++ named d b t (deedM d x.m)) ++ named d b t (deedM d (deedM d x.m)) ↔ p ∈ x.n ++ named d b t (deedM d x.m)
    rw [deedM_twice]
    simp only [List.mem_append, or_assoc, or_self]
  · show mx _ (mx _ x.a) = mx _ x.a
    generalize asked d (b + win - t) = z
    unfold mx
    split <;> (try split) <;> omega
theorem deeds_append {b t win : Int} {x : PS} (l r : List Dd) : deeds b t win x (l ++ r) = deeds b t win (deeds b t win x l) r := by
  unfold deeds
  rw [List.foldl_append]
theorem deeds_dup {b t win : Int} {d : List Dd} {k : Nat} (hk : k < d.length) (x : PS) : Eqv (deeds b t win x (d.take (k + 1) ++ d.drop k)) (deeds b t win x d) := by
  have e1 : d.take (k + 1) = d.take k ++ [d[k]] := (List.take_append_getElem hk).symm
  have e2 : d.drop k = d[k] :: d.drop (k + 1) := List.drop_eq_getElem_cons hk
  have e3 : d = d.take k ++ (d[k] :: d.drop (k + 1)) := by rw [← e2, List.take_append_drop]
  rw [deeds_append, e1, deeds_append]
  conv => rhs; rw [e3, deeds_append]
  rw [e2]
  show Eqv (deeds b t win (deed b t win (deed b t win (deeds b t win x (d.take k)) d[k]) d[k]) (d.drop (k + 1))) (deeds b t win (deed b t win (deeds b t win x (d.take k)) d[k]) (d.drop (k + 1)))
  exact eqv_deeds _ (deed_twice _ _)
theorem conds_dup {c : List Cond} {b t : Int} {m : List Int} {s : Int} {h : Bool} : conds (c ++ c.take 1) b t m s h = conds c b t m s h := by
  unfold conds
  rw [List.all_append]
  cases c with
  | nil => rfl
  | cons a r =>
    show ((a :: r).all _ && [a].all _) = (a :: r).all _
    simp only [List.all_cons, List.all_nil, Bool.and_true]
    cases cond a.1 b t m s h == a.2 <;> simp
theorem conds_part {c : List Cond} {k : Nat} {w : Wd} {v : Bool} {b t : Int} {m : List Int} {s : Int} {h : Bool} : conds (c.take k ++ (w, v) :: c.drop k) b t m s h = (conds c b t m s h && (cond w b t m s h == v)) := by
  unfold conds
  conv => rhs; rw [← List.take_append_drop k c]
  rw [List.all_append, List.all_append, List.all_cons]
  cases (c.take k).all fun c => cond c.1 b t m s h == c.2 <;> cases (c.drop k).all fun c => cond c.1 b t m s h == c.2 <;> cases cond w b t m s h == v <;> rfl
theorem deeds_keepM {b t win : Int} : ∀ (d : List Dd) (x : PS), ¬ Dd.clear ∈ d → (deeds b t win x d).m = x.m
  | [], _, _ => rfl
  | e :: d, x, h => by
    show (deeds b t win (deed b t win x e) d).m = x.m
    rw [deeds_keepM d _ (fun q => h (List.mem_cons_of_mem _ q))]
    show deedM e x.m = x.m
    unfold deedM
    rw [if_neg (fun q : e = .clear => h (by rw [q]; exact List.mem_cons_self))]
/-- the parted row does what the row does; s, h | s', h': the memories' still and heard -/
theorem eqv_split {b t win s s' : Int} {h h' : Bool} {r : Row} {rs : List Row} (sp : Split r rs) (hc : ∀ m, conds r.1 b t m s h = conds r.1 b t m s' h') {x y : PS} (e : Eqv x y) : Eqv (row b t win s h x r) (rowsF b t win s' h' y rs) := by
  cases sp with
  | @dup c d k hk =>
    show Eqv (row b t win s h x (c, d)) (row b t win s' h' y (c ++ c.take 1, d.take (k + 1) ++ d.drop k))
    unfold row
    have e1 : conds (c ++ c.take 1) b t y.m s' h' = conds c b t x.m s h := by rw [conds_dup, ← e.m]; exact (hc x.m).symm
    show Eqv (if conds c b t x.m s h = true then deeds b t win x d else x) (if conds (c ++ c.take 1) b t y.m s' h' = true then deeds b t win y (d.take (k + 1) ++ d.drop k) else y)
    rw [e1]
    by_cases q : conds c b t x.m s h = true
    · rw [if_pos q, if_pos q]
      have z := deeds_dup (b := b) (t := t) (win := win) hk y
      exact (eqv_deeds d e).trans ⟨z.m.symm, z.f.symm, fun p => (z.n p).symm, z.a.symm⟩
    · rw [if_neg q, if_neg q]
      exact e
  | @part c d k w v hd =>
    show Eqv (row b t win s h x (c, d)) (row b t win s' h' (row b t win s' h' y (c.take k ++ (w, v) :: c.drop k, d)) (c.take k ++ (w, !v) :: c.drop k, d))
    have e0 : conds c b t y.m s' h' = conds c b t x.m s h := by rw [← e.m]; exact (hc x.m).symm
    have r1 : row b t win s' h' y (c.take k ++ (w, v) :: c.drop k, d) = if (conds c b t y.m s' h' && (cond w b t y.m s' h' == v)) = true then deeds b t win y d else y := by
      unfold row
      show (if conds (c.take k ++ (w, v) :: c.drop k) b t y.m s' h' = true then _ else _) = _
      rw [conds_part]
    have r2 : ∀ z : PS, z.m = y.m → row b t win s' h' z (c.take k ++ (w, !v) :: c.drop k, d) = if (conds c b t y.m s' h' && (cond w b t y.m s' h' == !v)) = true then deeds b t win z d else z := fun z hz => by
      unfold row
      show (if conds (c.take k ++ (w, !v) :: c.drop k) b t z.m s' h' = true then _ else _) = _
      rw [conds_part, hz]
    rw [r1]
    unfold row
    show Eqv (if conds c b t x.m s h = true then deeds b t win x d else x) _
    rw [e0] at r2 ⊢
    cases q : conds c b t x.m s h with
    | false =>
      rw [q] at r2
      rw [if_neg Bool.false_ne_true, Bool.false_and, if_neg Bool.false_ne_true]
      have z := r2 y rfl
      rw [Bool.false_and, if_neg Bool.false_ne_true] at z
      unfold row at z
      rw [z]
      exact e
    | true =>
      rw [q] at r2
      rw [if_pos rfl, Bool.true_and]
      cases u : cond w b t y.m s' h' == v with
      | true =>
        rw [if_pos rfl]
        have z := r2 (deeds b t win y d) (deeds_keepM d y hd)
        have u2 : (cond w b t y.m s' h' == !v) = false := by
          revert u
          cases cond w b t y.m s' h' <;> cases v <;> simp
        rw [u2, Bool.true_and, if_neg Bool.false_ne_true] at z
        unfold row at z
        rw [z]
        exact eqv_deeds d e
      | false =>
        rw [if_neg Bool.false_ne_true]
        have z := r2 y rfl
        have u2 : (cond w b t y.m s' h' == !v) = true := by
          revert u
          cases cond w b t y.m s' h' <;> cases v <;> simp
        rw [u2, Bool.true_and, if_pos rfl] at z
        unfold row at z
        rw [z]
        exact eqv_deeds d e
/-! ### what both remember -/
structure Rel (one other : List Row) (S S' : Mem) : Prop where
  base : S.base = S'.base
  top : S.top = S'.top
  marked : S.marked = S'.marked
  freed : S.freed = S'.freed
  still : ∃ n : Int, 0 ≤ n ∧ S.still = (if n < asksT one then n else asksT one) ∧ S'.still = (if n < asksT other then n else asksT other)
  heard : ∃ g : Bool, S.heard = (asksS one && g) ∧ S'.heard = (asksS other && g)
theorem asksT_cases (rs : List Row) : asksT rs = 0 ∨ asksT rs = 1 ∨ asksT rs = 2 := by
  unfold asksT
  split
  · exact .inr (.inr rfl)
  · split
    · exact .inr (.inl rfl)
    · exact .inl rfl
theorem rel_begin (one other : List Row) : Rel one other begin begin := by
  refine ⟨rfl, rfl, rfl, rfl, ⟨0, Int.le_refl 0, ?_, ?_⟩, ⟨false, ?_, ?_⟩⟩
  · show (0 : Int) = _
    rcases asksT_cases one with e | e | e <;> rw [e] <;> decide
  · show (0 : Int) = _
    rcases asksT_cases other with e | e | e <;> rw [e] <;> decide
  · show false = _
    rw [Bool.and_false]
  · show false = _
    rw [Bool.and_false]
theorem split_words {r : Row} {rs : List Row} (sp : Split r rs) : ∀ w ∈ r.1.map (·.1), w ∈ words rs := by
  intro w hw
  cases sp with
  | @dup c d k hk =>
    simp only [words, List.flatMap_cons, List.flatMap_nil, List.append_nil, List.map_append, List.mem_append]
    exact .inl hw
  | @part c d k u v hd =>
    simp only [words, List.flatMap_cons, List.mem_append, List.map_append, List.map_cons, List.mem_cons]
    have hw2 : w ∈ (c.take k ++ c.drop k).map (·.1) := by rw [List.take_append_drop]; exact hw
    rw [List.map_append, List.mem_append] at hw2
    rcases hw2 with z | z
    · exact .inl (.inl z)
    · exact .inl (.inr (.inr z))
theorem twin_words {one other : List Row} (tw : Twin one other) : ∀ w ∈ words one, w ∈ words other := by
  obtain ⟨pre, r, post, rs, rfl, rfl, sp⟩ := tw
  intro w hw
  unfold words at hw ⊢
  rw [List.flatMap_append, List.flatMap_append, List.mem_append] at *
  rw [List.flatMap_cons, List.mem_append] at hw
  rw [List.mem_append]
  rcases hw with z | z | z
  · exact .inl z
  · exact .inr (.inl (split_words sp w z))
  · exact .inr (.inr z)
theorem mem_words {rs : List Row} {r : Row} {c : Cond} (hr : r ∈ rs) (hc : c ∈ r.1) : c.1 ∈ words rs := by
  unfold words
  rw [List.mem_flatMap]
  exact ⟨r, hr, List.mem_map.mpr ⟨c, hc, rfl⟩⟩
theorem rel_cond {one other : List Row} (tw : Twin one other) {S S' : Mem} (R : Rel one other S S') {w : Wd} (hw : w ∈ words one) (b t : Int) (m : List Int) : cond w b t m S.still S.heard = cond w b t m S'.still S'.heard := by
  have hw' := twin_words tw w hw
  cases w with
  | silent =>
    obtain ⟨g, e1, e2⟩ := R.heard
    have a1 : asksS one = true := by unfold asksS; exact List.contains_iff_mem.mpr hw
    have a2 : asksS other = true := by unfold asksS; exact List.contains_iff_mem.mpr hw'
    show (!S.heard) = !S'.heard
    rw [e1, e2, a1, a2]
  | doubt => rfl
  | holes => rfl
  | marked => rfl
  | opn => rfl
  | still1 =>
    obtain ⟨n, h0, e1, e2⟩ := R.still
    have a1 : 1 ≤ asksT one := by
      unfold asksT
      rw [if_pos (List.contains_iff_mem.mpr hw)]
      split <;> decide
    have a2 : 1 ≤ asksT other := by
      unfold asksT
      rw [if_pos (List.contains_iff_mem.mpr hw')]
      split <;> decide
    show decide (1 ≤ S.still) = decide (1 ≤ S'.still)
    rw [e1, e2, decide_eq_decide]
    split <;> split <;> omega
  | still2 =>
    obtain ⟨n, h0, e1, e2⟩ := R.still
    have a1 : asksT one = 2 := by
      unfold asksT
      rw [if_pos (List.contains_iff_mem.mpr hw)]
    have a2 : asksT other = 2 := by
      unfold asksT
      rw [if_pos (List.contains_iff_mem.mpr hw')]
    show decide (2 ≤ S.still) = decide (2 ≤ S'.still)
    rw [e1, e2, a1, a2]
theorem rel_conds {one other : List Row} (tw : Twin one other) {S S' : Mem} (R : Rel one other S S') {r : Row} (hr : r ∈ one) (b t : Int) (m : List Int) : conds r.1 b t m S.still S.heard = conds r.1 b t m S'.still S'.heard := by
  unfold conds
  rw [Bool.eq_iff_iff, List.all_eq_true, List.all_eq_true]
  constructor
  · intro h c hc
    rw [← rel_cond tw R (mem_words hr hc)]
    exact h c hc
  · intro h c hc
    rw [rel_cond tw R (mem_words hr hc)]
    exact h c hc
theorem rel_plan {one other : List Row} (tw : Twin one other) {S S' : Mem} (R : Rel one other S S') (win : Int) : Eqv (planPS win one S) (planPS win other S') := by
  have hc := fun r hr => rel_conds tw R (r := r) hr S.base S.top
  obtain ⟨pre, r, post, rs, rfl, rfl, sp⟩ := tw
  unfold planPS
  rw [← R.base, ← R.top, ← R.marked, ← R.freed]
  unfold rowsF
  rw [List.foldl_append, List.foldl_append, List.foldl_append, List.foldl_cons]
  refine eqv_rows post (fun q hq => hc q (by simp [hq])) ?_
  refine eqv_split sp (hc r (by simp)) ?_
  exact eqv_rows pre (fun q hq => hc q (by simp [hq])) .rfl
theorem letters_eqv {b t : Int} {x y : PS} (e : Eqv x y) : lettersOf b t x = lettersOf b t y := by
  unfold lettersOf
  rw [e.a, e.f]
  congr 1
  apply List.filter_congr
  intro p _
  have : x.n.contains p = y.n.contains p := by
    rw [Bool.eq_iff_iff, List.contains_iff_mem, List.contains_iff_mem]
    exact e.n p
  rw [this]
theorem rel_letters {one other : List Row} (tw : Twin one other) {S S' : Mem} (R : Rel one other S S') (win : Int) : letters win one S = letters win other S' := by
  unfold letters
  rw [← R.base, ← R.top]
  exact letters_eqv (rel_plan tw R win)
/-- within a round: heard is what the asks say -/
structure Mid (one other : List Row) (S S' : Mem) : Prop where
  base : S.base = S'.base
  top : S.top = S'.top
  marked : S.marked = S'.marked
  freed : S.freed = S'.freed
  still : ∃ n : Int, 0 ≤ n ∧ S.still = (if n < asksT one then n else asksT one) ∧ S'.still = (if n < asksT other then n else asksT other)
  heard : ∃ g : Bool, S.heard = (asksS one && g) ∧ S'.heard = (asksS other && g)
theorem rel_plan2 {one other : List Row} (tw : Twin one other) {S S' : Mem} (R : Rel one other S S') (win : Int) : Rel one other (plan win one S) (plan win other S') := by
  have e := rel_plan tw R win
  refine ⟨R.base, ?_, e.m, e.f, R.still, ⟨false, ?_, ?_⟩⟩
  · show S.top + _ = S'.top + _
    rw [R.top, e.a]
  · show false = _
    rw [Bool.and_false]
  · show false = _
    rw [Bool.and_false]
theorem rel_hear {one other : List Row} {S S' : Mem} (R : Rel one other S S') (last : Bool) (a : Ans) : Rel one other (hear last (asksS one) S a) (hear last (asksS other) S' a) := by
  refine ⟨?_, R.top, ?_, ?_, R.still, ⟨true, ?_, ?_⟩⟩
  · show up a.1 S.base = up a.1 S'.base
    rw [R.base]
  · show heardOf last (up a.1 S.base) S.top a.2 S.marked = heardOf last (up a.1 S'.base) S'.top a.2 S'.marked
    rw [R.base, R.top, R.marked]
  · show S.freed.filter (fun p => decide (up a.1 S.base ≤ p)) = S'.freed.filter (fun p => decide (up a.1 S'.base ≤ p))
    rw [R.base, R.freed]
  · show asksS one = _
    rw [Bool.and_true]
  · show asksS other = _
    rw [Bool.and_true]
theorem rel_hears {one other : List Row} (last : Bool) : ∀ (as : List Ans) {S S' : Mem}, Rel one other S S' → Rel one other (as.foldl (hear last (asksS one)) S) (as.foldl (hear last (asksS other)) S')
  | [], _, _, R => R
  | a :: as, _, _, R => rel_hears last as (rel_hear R last a)
theorem still_up {T n : Int} : (if (if n < T then n else T) < T then (if n < T then n else T) + 1 else (if n < T then n else T)) = (if n + 1 < T then n + 1 else T) := by
  split <;> split <;> (try split) <;> omega
theorem asksT_nn (rs : List Row) : 0 ≤ asksT rs := by rcases asksT_cases rs with e | e | e <;> rw [e] <;> decide
theorem rel_close {one other : List Row} {S S' : Mem} (R : Rel one other S S') {b b' : Int} (hb : b = b') : Rel one other (close (asksT one) S b) (close (asksT other) S' b') := by
  subst hb
  unfold close
  rw [← R.base]
  by_cases h : S.base > b
  · rw [if_pos h, if_pos h]
    refine ⟨rfl, R.top, R.marked, R.freed, ⟨0, Int.le_refl 0, ?_, ?_⟩, R.heard⟩
    · show (0 : Int) = _
      rcases asksT_cases one with e | e | e <;> rw [e] <;> decide
    · show (0 : Int) = _
      rcases asksT_cases other with e | e | e <;> rw [e] <;> decide
  · rw [if_neg h, if_neg h]
    obtain ⟨n, h0, e1, e2⟩ := R.still
    refine ⟨rfl, R.top, R.marked, R.freed, ⟨n + 1, by omega, ?_, ?_⟩, R.heard⟩
    · show (if S.still < asksT one then S.still + 1 else S.still) = _
      rw [e1]
      exact still_up
    · show (if S'.still < asksT other then S'.still + 1 else S'.still) = _
      rw [e2]
      exact still_up
theorem rel_after {one other : List Row} (tw : Twin one other) {S S' : Mem} (R : Rel one other S S') (win : Int) (last : Bool) (as : List Ans) : Rel one other (after win last one S as) (after win last other S' as) :=
  rel_close (rel_hears last as (rel_plan2 tw R win)) R.base
end Fb
/-! Bounds that the walk needs, and the blocks of rising pieces. -/
namespace Fb
structure StOk (win : Int) (S : Mem) : Prop where
  w1 : 1 ≤ win
  w4 : win ≤ 4
  b0 : 0 ≤ S.base
  bt : S.base ≤ S.top
  tw : S.top ≤ S.base + win
  ml : S.marked.length ≤ 4
  fl : S.freed.length ≤ 4
  mb : ∀ p ∈ S.marked, S.base ≤ p ∧ p < S.top
  fb : ∀ p ∈ S.freed, S.base ≤ p ∧ p < S.top
theorem outs_len (b t : Int) : (outs b t).length = (t - b).toNat := by
  unfold outs
  rw [List.length_map, List.length_range]
theorem outs_mem {b t p : Int} : p ∈ outs b t ↔ b ≤ p ∧ p < t := by
  unfold outs
  rw [List.mem_map]
  constructor
  · rintro ⟨i, hi, rfl⟩
    rw [List.mem_range] at hi
    omega
  · rintro ⟨h1, h2⟩
    exact ⟨(p - b).toNat, by rw [List.mem_range]; omega, by omega⟩
theorem begin_ok {win : Int} (h1 : 1 ≤ win) (h4 : win ≤ 4) : StOk win begin := by
  refine ⟨h1, h4, ?_, ?_, ?_, ?_, ?_, ?_, ?_⟩
  · exact Int.le_refl 0
  · exact Int.le_refl 0
  · show (0 : Int) ≤ 0 + win
    omega
  · exact Nat.zero_le _
  · exact Nat.zero_le _
  · intro p hp
    cases hp
  · intro p hp
    cases hp
/-- what holds of a plan on its way -/
structure PsOk (b t win : Int) (x : PS) : Prop where
  ml : x.m.length ≤ 4
  fl : x.f.length ≤ 4
  mb : ∀ p ∈ x.m, b ≤ p ∧ p < t
  fb : ∀ p ∈ x.f, b ≤ p ∧ p < t
  a0 : 0 ≤ x.a
  a1 : x.a ≤ b + win - t
theorem filter_len_le {α : Type} (f : α → Bool) (l : List α) : (l.filter f).length ≤ l.length := List.length_filter_le f l
theorem named_len (d : Dd) (b t : Int) (m : List Int) : (named d b t m).length ≤ (t - b).toNat := by
  have h1 : (unm b t m).length ≤ (t - b).toNat := by
    unfold unm
    have := filter_len_le (fun p => !m.contains p) (outs b t)
    rw [outs_len] at this
    exact this
  have h2 : (below (unm b t m) m).length ≤ (t - b).toNat := by
    unfold below
    exact Nat.le_trans (filter_len_le _ _) h1
  cases d with
  | first =>
    show ((outs b t).take 1).length ≤ _
    rw [List.length_take, outs_len]
    omega
  | holes => exact h2
  | unmarked => exact h1
  | all =>
    show (outs b t).length ≤ _
    rw [outs_len]
    exact Nat.le_refl _
  | clear => exact Nat.zero_le _
  | free => exact Nat.zero_le _
  | new => exact Nat.zero_le _
  | one => exact Nat.zero_le _
theorem deed_ok {b t win : Int} (h0 : b ≤ t) (h1 : t ≤ b + win) (h4 : win ≤ 4) {x : PS} (d : Dd) (o : PsOk b t win x) : PsOk b t win (deed b t win x d) := by
  have hm : ∀ p ∈ deedM d x.m, p ∈ x.m := by
    intro p hp
    unfold deedM at hp
    split at hp
    · cases hp
    · exact hp
  refine ⟨?_, ?_, fun p hp => o.mb p (hm p hp), ?_, ?_, ?_⟩
  · show (deedM d x.m).length ≤ 4
    unfold deedM
    split
    · exact Nat.zero_le _
    · exact o.ml
  · show (deedF b t d x.m x.f).length ≤ 4
    unfold deedF
    split
    · refine Nat.le_trans (filter_len_le _ _) ?_
      rw [outs_len]
      omega
    · exact o.fl
  · intro p hp
    have hp' : p ∈ deedF b t d x.m x.f := hp
    unfold deedF at hp'
    split at hp'
    · exact outs_mem.mp (List.mem_filter.mp hp').1
    · exact o.fb p hp'
  · show 0 ≤ mx (asked d (b + win - t)) x.a
    have := o.a0
    unfold mx
    split <;> omega
  · show mx (asked d (b + win - t)) x.a ≤ b + win - t
    have h := o.a1
    have ha : asked d (b + win - t) ≤ b + win - t := by
      cases d <;> simp only [asked] <;> (try split) <;> omega
    unfold mx
    split <;> omega
theorem deeds_ok {b t win : Int} (h0 : b ≤ t) (h1 : t ≤ b + win) (h4 : win ≤ 4) : ∀ (ds : List Dd) {x : PS}, PsOk b t win x → PsOk b t win (deeds b t win x ds)
  | [], _, o => o
  | d :: ds, _, o => deeds_ok h0 h1 h4 ds (deed_ok h0 h1 h4 d o)
theorem row_ok {b t win s : Int} {h : Bool} (h0 : b ≤ t) (h1 : t ≤ b + win) (h4 : win ≤ 4) {x : PS} (r : Row) (o : PsOk b t win x) : PsOk b t win (row b t win s h x r) := by
  unfold row
  split
  · exact deeds_ok h0 h1 h4 _ o
  · exact o
theorem rows_ok {b t win s : Int} {h : Bool} (h0 : b ≤ t) (h1 : t ≤ b + win) (h4 : win ≤ 4) : ∀ (rs : List Row) {x : PS}, PsOk b t win x → PsOk b t win (rowsF b t win s h x rs)
  | [], _, o => o
  | r :: rs, _, o => rows_ok h0 h1 h4 rs (row_ok h0 h1 h4 r o)
theorem start_ok {win : Int} {S : Mem} (o : StOk win S) : PsOk S.base S.top win ⟨S.marked, S.freed, [], 0⟩ :=
  ⟨o.ml, o.fl, o.mb, o.fb, Int.le_refl 0, by have := o.tw; show (0 : Int) ≤ _; omega⟩
theorem planPS_ok {win : Int} {S : Mem} (rows : List Row) (o : StOk win S) : PsOk S.base S.top win (planPS win rows S) := rows_ok o.bt o.tw o.w4 rows (start_ok o)
theorem plan_ok {win : Int} {S : Mem} (rows : List Row) (o : StOk win S) : StOk win (plan win rows S) := by
  have q := planPS_ok rows o
  have ha := q.a0
  have hb := q.a1
  have hbt := o.bt
  refine ⟨o.w1, o.w4, o.b0, ?_, ?_, q.ml, q.fl, ?_, ?_⟩
  · show S.base ≤ S.top + (planPS win rows S).a
    omega
  · show S.top + (planPS win rows S).a ≤ S.base + win
    omega
  · intro p hp
    have := q.mb p hp
    exact ⟨this.1, by show p < S.top + (planPS win rows S).a; omega⟩
  · intro p hp
    have := q.fb p hp
    exact ⟨this.1, by show p < S.top + (planPS win rows S).a; omega⟩
theorem plan_base (win : Int) (rows : List Row) (S : Mem) : (plan win rows S).base = S.base := rfl
theorem plan_top {win : Int} {S : Mem} (rows : List Row) (o : StOk win S) : S.top ≤ (plan win rows S).top := by
  have := (planPS_ok rows o).a0
  show S.top ≤ S.top + _
  omega
theorem letters_bound {win : Int} {S : Mem} (rows : List Row) (o : StOk win S) : ∀ p ∈ letters win rows S, 0 ≤ p ∧ p < (plan win rows S).top := by
  intro p hp
  have q := planPS_ok rows o
  have h0 := o.b0
  have h1 := o.bt
  have h2 := q.a0
  unfold letters lettersOf at hp
  show 0 ≤ p ∧ p < S.top + (planPS win rows S).a
  rcases List.mem_append.mp hp with z | z
  · have := outs_mem.mp (List.mem_filter.mp z).1
    omega
  · have := outs_mem.mp z
    omega
theorem letters_len {win : Int} {S : Mem} (rows : List Row) (o : StOk win S) : (letters win rows S).length ≤ 8 := by
  have q := planPS_ok rows o
  have h0 := o.bt
  have h1 := o.tw
  have h4 := o.w4
  have ha := q.a0
  have hb := q.a1
  unfold letters lettersOf
  rw [List.length_append, outs_len]
  have := filter_len_le (fun p => (planPS win rows S).n.contains p && !(planPS win rows S).f.contains p) (outs S.base S.top)
  rw [outs_len] at this
  omega
/-- the letters that are new ones -/
theorem letters_new {win : Int} {S : Mem} (rows : List Row) (o : StOk win S) : S.top + (((letters win rows S).filter fun p => decide (S.top ≤ p)).length : Int) = (plan win rows S).top := by
  have q := planPS_ok rows o
  have ha := q.a0
  unfold letters lettersOf
  rw [List.filter_append]
  have e1 : ((outs S.base S.top).filter fun p => (planPS win rows S).n.contains p && !(planPS win rows S).f.contains p).filter (fun p => decide (S.top ≤ p)) = [] := by
    rw [List.filter_eq_nil_iff]
    intro p hp
    have := outs_mem.mp (List.mem_filter.mp hp).1
    simp
    omega
  have e2 : (outs S.top (S.top + (planPS win rows S).a)).filter (fun p => decide (S.top ≤ p)) = outs S.top (S.top + (planPS win rows S).a) := by
    rw [List.filter_eq_self]
    intro p hp
    have := outs_mem.mp hp
    simp
    omega
  rw [e1, e2, List.nil_append, outs_len]
  show _ = S.top + (planPS win rows S).a
  omega
theorem heard_ok {last : Bool} {b t : Int} {bs : List Blk} {m : List Int} : (heardOf last b t bs m).length ≤ (t - b).toNat ∧ ∀ p ∈ heardOf last b t bs m, b ≤ p ∧ p < t := by
  unfold heardOf toldOf
  split
  · refine ⟨?_, fun p hp => outs_mem.mp (List.mem_filter.mp hp).1⟩
    have := filter_len_le (fun p => bs.any fun k => decide (k.1 ≤ p) && decide (p < k.2)) (outs b t)
    rw [outs_len] at this
    exact this
  · refine ⟨?_, fun p hp => outs_mem.mp (List.mem_filter.mp hp).1⟩
    have := filter_len_le (fun p => (List.filter (fun p => bs.any fun k => decide (k.1 ≤ p) && decide (p < k.2)) (outs b t)).contains p || m.contains p) (outs b t)
    rw [outs_len] at this
    exact this
theorem hear_ok {win : Int} {last asks : Bool} {S : Mem} {a : Ans} (o : StOk win S) (h : a.1 ≤ S.top) : StOk win (hear last asks S a) := by
  have h1 := o.bt
  have h2 := o.tw
  have h4 := o.w4
  have h0 := o.b0
  have hu : S.base ≤ up a.1 S.base ∧ up a.1 S.base ≤ S.top := by
    unfold up
    split <;> omega
  obtain ⟨e1, e2⟩ := @heard_ok last (up a.1 S.base) S.top a.2 S.marked
  refine ⟨o.w1, o.w4, ?_, hu.2, ?_, ?_, ?_, e2, ?_⟩
  · show 0 ≤ up a.1 S.base
    omega
  · show S.top ≤ up a.1 S.base + win
    omega
  · show (heardOf last (up a.1 S.base) S.top a.2 S.marked).length ≤ 4
    omega
  · exact Nat.le_trans (filter_len_le _ _) o.fl
  · intro p hp
    obtain ⟨z1, z2⟩ := List.mem_filter.mp hp
    exact ⟨of_decide_eq_true z2, (o.fb p z1).2⟩
theorem hear_top (last asks : Bool) (S : Mem) (a : Ans) : (hear last asks S a).top = S.top := rfl
theorem hear_base {last asks : Bool} {S : Mem} {a : Ans} (h : S.base ≤ a.1) : (hear last asks S a).base = a.1 := by
  show up a.1 S.base = a.1
  unfold up
  split <;> omega
theorem close_ok {win asks : Int} {S : Mem} {b : Int} (o : StOk win S) : StOk win (close asks S b) := by
  unfold close
  split
  · exact ⟨o.w1, o.w4, o.b0, o.bt, o.tw, o.ml, o.fl, o.mb, o.fb⟩
  · exact ⟨o.w1, o.w4, o.b0, o.bt, o.tw, o.ml, o.fl, o.mb, o.fb⟩
theorem close_top (asks : Int) (S : Mem) (b : Int) : (close asks S b).top = S.top := by
  unfold close
  split <;> rfl
/-! ### answers -/
structure BlksOk (n : Int) (bs : List Blk) : Prop where
  n0 : 0 ≤ n
  len : bs.length ≤ 3
  each : ∀ k ∈ bs, n < k.1 ∧ k.1 < k.2
  apart : bs.Pairwise fun x y => y.2 < x.1 ∨ x.2 < y.1
/-- an answer with a number from lo to top and blocks below top -/
structure AnsOk (lo top : Int) (a : Ans) : Prop where
  lo : lo ≤ a.1
  hi : a.1 ≤ top
  ends : ∀ k ∈ a.2, k.2 ≤ top
  bs : BlksOk a.1 a.2
inductive Anss (top : Int) : Int → List Ans → Prop
  | nil {lo : Int} : Anss top lo []
  | cons {lo : Int} {a : Ans} {r : List Ans} : AnsOk lo top a → Anss top a.1 r → Anss top lo (a :: r)
theorem anss_each {top : Int} : ∀ {lo : Int} {as : List Ans}, Anss top lo as → ∀ a ∈ as, BlksOk a.1 a.2
  | _, _, .cons h r, a, ha => by
    rcases List.mem_cons.mp ha with e | ha
    · subst e
      exact h.bs
    · exact anss_each r a ha
theorem anss_snoc {top : Int} : ∀ {lo : Int} {as : List Ans} {a : Ans}, Anss top lo as → AnsOk ((as.getLast?.map (·.1)).getD lo) top a → Anss top lo (as ++ [a])
  | _, [], _, _, h => .cons h .nil
  | _, [x], _, .cons h1 _, h => .cons h1 (.cons h .nil)
  | _, x :: y :: r, a, .cons h1 h2, h => by
    refine .cons h1 (anss_snoc h2 ?_)
    have e : (x :: y :: r).getLast? = (y :: r).getLast? := by rw [List.getLast?_cons_cons]
    rw [e] at h
    have e2 : ∃ z, (y :: r).getLast? = some z := ⟨_, List.getLast?_eq_some_getLast (by simp)⟩
    obtain ⟨z, hz⟩ := e2
    rw [hz] at h ⊢
    exact h
theorem hears_ok {win : Int} {last asks : Bool} : ∀ {lo : Int} (as : List Ans) {S : Mem}, StOk win S → Anss S.top lo as → StOk win (as.foldl (hear last asks) S) ∧ (as.foldl (hear last asks) S).top = S.top
  | _, [], _, o, _ => ⟨o, rfl⟩
  | _, a :: as, S, o, .cons h r => by
    have z := hears_ok (last := last) (asks := asks) as (hear_ok (last := last) (asks := asks) o h.hi) (by rw [hear_top]; exact r)
    rw [hear_top] at z
    exact z
theorem after_ok {win : Int} {last : Bool} {rs : List Row} {S : Mem} {as : List Ans} (o : StOk win S) (h : Anss (plan win rs S).top S.base as) : StOk win (after win last rs S as) ∧ (after win last rs S as).top = (plan win rs S).top := by
  have z := hears_ok (last := last) (asks := asksS rs) as (plan_ok rs o) h
  unfold after
  exact ⟨close_ok z.1, by rw [close_top]; exact z.2⟩
/-! ### the blocks of rising pieces -/
def blkStep (bs : List Blk) (p : Int) : List Blk := match bs.getLast? with
  | some k => if k.2 = p then bs.dropLast ++ [(k.1, p + 1)] else bs ++ [(p, p + 1)]
  | none => [(p, p + 1)]
def blksOf (ps : List Int) : List Blk := ps.foldl blkStep []
/-- what holds of the blocks of some rising pieces, all from lo on and below e -/
structure BlkInv (lo e : Int) (bs : List Blk) : Prop where
  each : ∀ k ∈ bs, lo ≤ k.1 ∧ k.1 < k.2 ∧ k.2 ≤ e
  sep : bs.Pairwise fun x y => x.2 < y.1
theorem blkInv_step {lo e p : Int} {bs : List Blk} (h : BlkInv lo e bs) (h1 : e ≤ p) (h0 : lo ≤ p) : BlkInv lo (p + 1) (blkStep bs p) := by
  unfold blkStep
  cases hl : bs.getLast? with
  | none =>
    refine ⟨?_, List.pairwise_singleton _ _⟩
    intro k hk
    have hk' : k = (p, p + 1) := by simpa using hk
    subst hk'
    exact ⟨h0, by show p < p + 1; omega, Int.le_refl _⟩
  | some k =>
    have eb : bs = bs.dropLast ++ [k] := by
      have hne : bs ≠ [] := by
        intro z
        rw [z] at hl
        cases hl
      have z := List.dropLast_concat_getLast hne
      have z2 : bs.getLast hne = k := by
        rw [List.getLast?_eq_some_getLast hne] at hl
        exact Option.some.inj hl
      rw [z2] at z
      exact z.symm
    show BlkInv lo (p + 1) (if k.2 = p then bs.dropLast ++ [(k.1, p + 1)] else bs ++ [(p, p + 1)])
    have hs := h.sep
    have hea := h.each
    rw [eb] at hs
    have hs2 := List.pairwise_append.mp hs
    have hk := hea k (by rw [eb]; simp)
    by_cases c : k.2 = p
    · rw [if_pos c]
      refine ⟨?_, ?_⟩
      · intro q hq
        rcases List.mem_append.mp hq with z | z
        · have := hea q (by rw [eb]; exact List.mem_append_left _ z)
          exact ⟨this.1, this.2.1, by omega⟩
        · have e' : q = (k.1, p + 1) := by simpa using z
          subst e'
          exact ⟨hk.1, by show k.1 < p + 1; omega, Int.le_refl _⟩
      · refine List.pairwise_append.mpr ⟨hs2.1, List.pairwise_singleton _ _, ?_⟩
        intro x hx y hy
        have e' : y = (k.1, p + 1) := by simpa using hy
        subst e'
        exact hs2.2.2 x hx k (by simp)
    · rw [if_neg c]
      refine ⟨?_, ?_⟩
      · intro q hq
        rcases List.mem_append.mp hq with z | z
        · have := hea q z
          exact ⟨this.1, this.2.1, by omega⟩
        · have e' : q = (p, p + 1) := by simpa using z
          subst e'
          exact ⟨h0, by show p < p + 1; omega, Int.le_refl _⟩
      · refine List.pairwise_append.mpr ⟨h.sep, List.pairwise_singleton _ _, ?_⟩
        intro x hx y hy
        have e' : y = (p, p + 1) := by simpa using hy
        subst e'
        show x.2 < p
        have hx2 := hea x hx
        rw [eb] at hx
        rcases List.mem_append.mp hx with z | z
        · have := hs2.2.2 x z k (by simp)
          omega
        · have e' : x = k := by simpa using z
          subst e'
          omega
theorem blkStep_len (bs : List Blk) (p : Int) : (blkStep bs p).length ≤ bs.length + 1 := by
  unfold blkStep
  split
  · split
    · rw [List.length_append, List.length_dropLast]
      simp
    · simp
  · simp
theorem blkFold_len : ∀ (ps : List Int) (bs : List Blk), (ps.foldl blkStep bs).length ≤ bs.length + ps.length
  | [], bs => by simp
  | p :: ps, bs => by
    have h1 := blkFold_len ps (blkStep bs p)
    have h2 := blkStep_len bs p
    show (ps.foldl blkStep (blkStep bs p)).length ≤ _
    simp only [List.length_cons]
    omega
theorem blkFold_inv {lo : Int} : ∀ (ps : List Int) {e : Int} {bs : List Blk}, BlkInv lo e bs → lo ≤ e → (∀ p ∈ ps, e ≤ p) → ps.Pairwise (· < ·) → ∀ t, (∀ p ∈ ps, p < t) → e ≤ t → BlkInv lo t (ps.foldl blkStep bs)
  | [], e, bs, h, _, _, _, t, _, het => ⟨fun k hk => by have := h.each k hk; exact ⟨this.1, this.2.1, by omega⟩, h.sep⟩
  | p :: ps, e, bs, h, hlo, h1, h2, t, ht, het => by
    have hp := h1 p List.mem_cons_self
    have h3 := List.pairwise_cons.mp h2
    refine blkFold_inv ps (blkInv_step h hp (by omega)) (by omega) ?_ h3.2 t (fun q hq => ht q (List.mem_cons_of_mem _ hq)) ?_
    · intro q hq
      have := h3.1 q hq
      omega
    · have := ht p List.mem_cons_self
      omega
theorem blksOf_ok {n top : Int} {ps : List Int} (h0 : 0 ≤ n) (h1 : ∀ p ∈ ps, n < p ∧ p < top) (h2 : ps.Pairwise (· < ·)) (h3 : ps.length ≤ 3) (ht : n < top) (rev : Bool) :
    BlksOk n (if rev = true then (blksOf ps).reverse else blksOf ps) ∧ ∀ k ∈ (if rev = true then (blksOf ps).reverse else blksOf ps), k.2 ≤ top := by
  have I : BlkInv (n + 1) top (blksOf ps) := blkFold_inv ps (e := n + 1) ⟨fun k hk => (by cases hk), List.Pairwise.nil⟩ (Int.le_refl _) (fun p hp => by have := h1 p hp; omega) h2 top (fun p hp => (h1 p hp).2) (by omega)
  have hl := blkFold_len ps []
  have hl' : (blksOf ps).length ≤ 3 := by
    have : ([] : List Blk).length = 0 := rfl
    unfold blksOf
    omega
  cases rev with
  | false =>
    rw [if_neg Bool.false_ne_true]
    refine ⟨⟨h0, hl', fun k hk => ?_, I.sep.imp fun h => Or.inr h⟩, fun k hk => (I.each k hk).2.2⟩
    have := I.each k hk
    exact ⟨by omega, this.2.1⟩
  | true =>
    rw [if_pos rfl]
    refine ⟨⟨h0, by rw [List.length_reverse]; exact hl', fun k hk => ?_, ?_⟩, fun k hk => (I.each k (List.mem_reverse.mp hk)).2.2⟩
    · have := I.each k (List.mem_reverse.mp hk)
      exact ⟨by omega, this.2.1⟩
    · rw [List.pairwise_reverse]
      exact I.sep.imp fun h => Or.inl h
theorem anss_hi {top : Int} : ∀ {lo : Int} {as : List Ans}, Anss top lo as → ∀ a ∈ as, 0 ≤ a.1 ∧ a.1 ≤ top ∧ a.2.length ≤ 3
  | _, _, .cons h r, a, ha => by
    rcases List.mem_cons.mp ha with e | ha
    · subst e
      exact ⟨h.bs.n0, h.hi, h.bs.len⟩
    · exact anss_hi r a ha
end Fb
/-! Rules of our own over the hand layer: a module's constant, o.f as one of several targets, enumerate of a tuple, None in a tuple of tuples, repr of data, calls of defs that know that no repr is under way. -/
namespace Fb
open PySem PySem.Spec PyProof.Rows L2
section
variable {X : Cx}
/-- a constant of the module, told by what is known of it -/
theorem pe_globE {x : Str} {v : V} {pos : Pos} (hg : Gl X x) (hm : ∃ u, X.mg x = some u ∧ RelV v u) (hd : (x == ("__debug__" : Str)) = false := by decide) : PE X (.Name x pos) (tC v) := by
  obtain ⟨u, h1, h2⟩ := hm
  exact pe_glob hg h1 h2 hd
/-- o.f as a target -/
def gFld (K : PySem.W.Frag) (ta : TE) (f : Str) : TG := fun v σ H Q => ta σ H fun x H2 => ∃ a C dx fs, x = .ref a ∧ H2 a = some (.ins C dx fs) ∧ Cls K C ∧ NoAttr K C f ∧ fs.length < 1000 ∧ Q σ (upd H2 a (.ins C dx (putF f v fs)))
theorem pg_fld {o : Expr} {f : Str} {pos : Pos} {ta : TE} (ho : PE X o ta) : PG X (.Attribute o f pos) (gFld X.K ta f) := by
  constructor
  intro pins s σ H v u Q I rv hq
  apply PySem.W.kas_attr
  refine thn (ho.run pins s σ H _ I hq) ?_
  rintro ov s2 ⟨x, H2, I2, rx, a, C, dx, fs, ex, ea, hc, hn, hl, q⟩
  subst ex
  obtain rfl : ov = Value.ref a := rx
  exact setattr_ok I2 ea hc hn hl rv fun s3 I3 => ⟨σ, _, I3, q⟩
/-- None in a tuple of tuples -/
def rNoneT (K : PySem.W.Frag) : R2 := fun x y H Q => ∃ p xs, x = .non ∧ y = .ref p ∧ SqT K H p xs ∧ (∀ z ∈ xs, ∃ t ys, z = .ref t ∧ SqT K H t ys) ∧ Q (.bl false) H
theorem op_noneInT (hu : X.A.units + 64 < cLine) : OpR X (compareOp .In) (rNoneT X.K) := by
  rintro pins s σ H x y v u Q I rx ry ⟨p, xs, rfl, rfl, hq, hz, q⟩
  cases rx
  cases ry
  obtain ⟨its, rv, ht, _⟩ := I.tuple hq
  have hu1 : X.A.in1.units < cLine := by
    show X.A.units + 1 < cLine
    omega
  have hall : ∀ (ys : List V) (us : List Value), Vals ys us → (∀ z ∈ ys, ∃ t zs, z = V.ref t ∧ SqT X.K H t zs) → ∀ w ∈ us, SeqAt.EqAt X.A.in1 s w .none false := by
    intro ys us r
    induction r with
    | nil => intro _ w hw; cases hw
    | cons r0 rt ih =>
      intro h w hw
      rcases List.mem_cons.mp hw with e | hw
      · subst e
        obtain ⟨t, zs, e2, h2⟩ := h _ List.mem_cons_self
        subst e2
        cases r0
        obtain ⟨its2, _, ht2, _⟩ := I.tuple h2
        exact SeqAt.EqAt.tuple_none (show s.heap.IsTuple t its2.toArray from ht2) hu1
      · exact ih (fun z hz => h z (List.mem_cons_of_mem _ hz)) w hw
  refine SeqAt.in_tupleAt (fun _ => false) (show s.heap.IsTuple p its.toArray from ht) (fun w hw => hall _ _ rv hz w (by simpa using hw)) ⟨.bl _, H, I, rfl, ?_⟩
  have e : its.toArray.any (fun _ => false) = false := by simp
  rw [e]
  exact q
/-! ### enumerate of a tuple -/
set_option maxHeartbeats 1000000 in
theorem meets_enumT {v : Value} {o : Obj} {G : Heap → Prop} (B : Begins v o G) :
    Meets (Builtin.«enumerate.__new__» ⟨[.type "enumerate", v], []⟩) (fun _ R s => G s.heap ∧
      R (.ok (.ret (.ref (s.heap.push o).objs.size))) { s with heap := (s.heap.push o).push ⟨.type "enumerate", none, .fields #[.none, .bool false, .ref s.heap.objs.size, rawInt 0, .none, .none], #[]⟩ }) := by
  refine .of_wp fun prog w A R s h => ?_
  obtain ⟨hp, g, d, tk, os⟩ := s
  obtain ⟨h1, h⟩ := h
  have hsub := sub_enumerate
  have q1 : ∀ {A' : Around} {E : Value → Shared → Prop} {Q : Value → Shared → Prop}, Q (.ref hp.objs.size) ⟨hp.push o, g, d, tk, os⟩ → wpAny (model prog w) A' (pyIter v) Q E ⟨hp, g, d, tk, os⟩ := fun q => B.iter prog w _ _ _ _ h1 q
  wp_walk using q1
  refine wpAny_stack_any fun st => wpAny_pure ?_
  split
  · rename_i c _ _ _ _ _
    by_cases hc : (c == Value.type "enumerate") = true
    · rw [hc]
      wp_walk using q1
      exact ⟨_, rfl, h⟩
    · rw [Bool.not_eq_true] at hc
      rw [hc]
      wp_walk using q1
      exact ⟨_, rfl, h⟩
  · wp_walk using q1
    exact ⟨_, rfl, h⟩
theorem call_enumT {prog : Program} {w : World} {A : Around} {E : Value → Shared → Prop} {s : Shared} {t : Addr} {items : Array Value} {Q : Value → Shared → Prop} (ht : s.heap.IsTuple t items)
    (h : ∀ h', IsEnum h' (s.heap.objs.size + 1) s.heap.objs.size 0 .none → h'.IsTupleIter s.heap.objs.size t 0 → (∀ b u, s.heap.get? b = some u → h'.get? b = some u) → Q (.ref (s.heap.objs.size + 1)) { s with heap := h' }) :
    wpAny (model prog w) A (call (.type "enumerate") [.ref t]) Q E s := by
  refine callType_new F.called_enumerate (by decide) (F.typeCall_enumerate_1 _) (F.newCall_enumerate_1 _) (fun obj => F.args_object_init_2 obj _) F.entry_enumerate_new (meets_enumT (begins_tuple t items)) ⟨ht, ?_⟩
  generalize hI : (⟨.type "tuple_iterator", none, .fields #[.ref t, .int 0 0], #[]⟩ : Obj) = o1
  have hz : (s.heap.push o1).objs.size = s.heap.objs.size + 1 := Heap.size_push ..
  show _ ∧ _
  rw [hz]
  have f1 : o1.isFreed = false := by rw [← hI]; rfl
  have he : IsEnum ((s.heap.push o1).push ⟨.type "enumerate", none, .fields #[.none, .bool false, .ref s.heap.objs.size, rawInt 0, .none, .none], #[]⟩) (s.heap.objs.size + 1) s.heap.objs.size 0 .none := by
    have z := Heap.get?_push_size (s.heap.push o1) (o := ⟨.type "enumerate", none, .fields #[.none, .bool false, .ref s.heap.objs.size, rawInt 0, .none, .none], #[]⟩) rfl
    rw [hz] at z
    exact z
  refine ⟨⟨_, he, rfl⟩, h _ he ⟨o1, Heap.get?_push_of_some _ (Heap.get?_push_size _ f1), by rw [← hI], by rw [← hI]; rfl⟩ fun b u e => Heap.get?_push_of_some _ (Heap.get?_push_of_some _ e)⟩
/-- the turns: (0, x0), (1, x1), .., a new tuple each -/
def IteT (K : PySem.W.Frag) (a : Addr) : It where
  go := fun i H => ∃ (xs : List V) (x : V), SqT K H a xs ∧ xs[i]? = some x
  yld := fun i H v H' => ∃ T x, v = .ref T ∧ H T = none ∧ H' = upd H T (.tup [.int (i : Nat), x]) ∧ ∀ xs, SqT K H a xs → xs[i]? = some x
  stop := fun i H => ∃ xs : List V, SqT K H a xs ∧ xs.length = i
theorem turn_enumT {P : Program} {w : World} {K : PySem.W.Frag} {elts : List Expr} {kk : Nat} {tpos : Pos} (a e it : Addr) :
    Turn P w K (.Tuple elts kk tpos) (IteT K a) [e, it] e (fun i h => (∃ old, IsEnum h e it ((i : Nat) : Int) old) ∧ h.IsTupleIter it a i ∧ e ≠ it) := by
  refine ⟨by simp, ?_, ?_, ?_, ?_, fun A i s Q E st h => ?_⟩
  · rintro i h ⟨⟨old, he⟩, ⟨o, ho, hc, hd⟩, _⟩ b hb
    have e' : b = e ∨ b = it := by simpa using hb
    rcases e' with z | z
    · rw [z]
      exact ⟨_, he, fun v q => nomatch q⟩
    · rw [z]
      exact ⟨o, ho, fun v q => by rw [hd] at q; cases q⟩
  · rintro i h h' ⟨⟨old, he⟩, hi, hne⟩ k
    exact ⟨⟨old, k e (by simp) _ he⟩, hi.at fun o q => k it (by simp) o q, hne⟩
  · intro X hP hw hK hc i pins s σ H E I hf st hg
    subst hP hw hK
    obtain ⟨⟨old, he⟩, hit, hne⟩ := st
    obtain ⟨xs, x, hq, hx⟩ := hg
    obtain ⟨its, rv, p, hz⟩ := I.tuple hq
    obtain ⟨u, hu, ru⟩ := rv.get hx
    have hel : e < s.heap.objs.size := Heap.lt_size he
    have hil : it < s.heap.objs.size := by
      obtain ⟨_, q, _⟩ := hit
      exact Heap.lt_size q
    have p0 : s.heap.IsTuple a its.toArray := p
    have hait : a ≠ it := by
      rintro rfl
      obtain ⟨o1, a1, a2, a3⟩ := hit
      obtain ⟨o2, b1, b2, b3⟩ := p0
      rw [a1] at b1
      cases b1
      rw [a2] at b2
      simp at b2
    have hae : e ≠ a := by
      rintro rfl
      obtain ⟨o2, b1, b2, b3⟩ := p0
      have he1 : s.heap.get? e = some _ := he
      rw [he1] at b1
      cases b1
      simp at b2
    have hlen := rv.length
    have hlt : i < its.length := (List.getElem?_eq_some_iff.mp hu).1
    have hA : X.A.in1.handled = none := I.ok.hd hc
    refine wpAny_pyNext_enum_itemC (c := (i : Int)) (Draws.tuple (prog := X.prog) (w := X.w) (A := X.A.in1) hA it a hait its.toArray) he ⟨hit, p0⟩ (by simpa using hlt) hne (by simp [hne, hae]) ?_
    intro x' h' tk hP ho hst' hT hsz hk
    have ex : x' = u := by
      have hP' : its.toArray[i]? = some x' := hP
      have : its[i]? = some x' := by simpa using hP'
      rw [hu] at this
      exact (Option.some.inj this).symm
    subst ex
    refine ⟨_, rfl, wpAny_letOwnedTupleGo_enum (s := { s with heap := h', toks := tk + 1 }) ho fun h2 he' sb => ?_⟩
    have hT2 : h2.get? s.heap.objs.size = some ⟨.type "tuple", none, .seq #[.int i tk, x'] 0, #[]⟩ := (sb.2 _ (Nat.ne_of_gt hel)).trans hT
    have new : ObjOk X.prog X.w (upd H s.heap.objs.size (.tup [.int (i : Nat), x])) h2 s.heap.objs.size (.tup [.int (i : Nat), x]) :=
      ⟨by show 2 ≤ sizeLine; decide, [.int i tk, x'], .cons ⟨_, rfl⟩ (.cons ru .nil), ⟨_, hT2, rfl, _, rfl⟩⟩
    have I1 : Inv X pins σ (upd H s.heap.objs.size (.tup [.int (i : Nat), x])) { s with heap := h2, toks := tk + 1 } :=
      I.turnedNew (ch := [e, it]) (fun b ob hb q => (sb.2 b (fun z => hb (by simp [z]))).trans (hk b ob (fun z => hb (by simp [z])) (fun z => hb (by simp [z])) q)) hf (Nat.le_refl _) new
    refine ⟨.ref s.heap.objs.size, _, I1, rfl, ⟨_, x, rfl, I.hok.fresh (Nat.le_refl _), rfl, fun ys hy => by rw [I.tuple_inj hy hq]; exact hx⟩, ⟨⟨x', ?_⟩, hst'.1.at fun o q => (sb.2 it (Ne.symm hne)).trans q, hne⟩, fun b hb => ?_⟩
    · have e1 : ((i + 1 : Nat) : Int) = (i : Int) + 1 := by omega
      rw [e1]
      exact he'
    · have hb' : b < s.heap.objs.size := by
        have e' : b = e ∨ b = it := by simpa using hb
        rcases e' with z | z
        · rw [z]
          exact hel
        · rw [z]
          exact hil
      rw [upd_ne (Nat.ne_of_lt hb')]
      exact (hf b hb).1
  · intro X hP hw hK hc i pins s σ H E I hf st hg
    subst hP hw hK
    obtain ⟨⟨old, he⟩, hit, hne⟩ := st
    obtain ⟨xs, hq, hx⟩ := hg
    obtain ⟨its, rv, p, hz⟩ := I.tuple hq
    obtain ⟨f0, f1, f2, f3, f4, f5⟩ := hf it (by simp)
    have hl := rv.length
    have p0 : s.heap.IsTuple a its.toArray := p
    have hait : a ≠ it := by
      rintro rfl
      obtain ⟨o1, a1, a2, a3⟩ := hit
      obtain ⟨o2, b1, b2, b3⟩ := p0
      rw [a1] at b1
      cases b1
      rw [a2] at b2
      simp at b2
    have hn : its.toArray.size = i := by
      simp
      omega
    have hA : X.A.in1.handled = none := I.ok.hd hc
    refine wpAny_pyNext_enum_endD (Draws.tuple (prog := X.prog) (w := X.w) (A := X.A.in1) hA it a hait its.toArray) he (by rw [hn]; exact ⟨hit, p0⟩) fun h' eb => ⟨rfl, I.turned (t' := s.toks) (fun b o hb q => eb b o hb q) f0 f1 f3 f4 f5⟩
  · obtain ⟨⟨_, he⟩, _⟩ := st
    exact wpAny_pyIter_enum he h
def iEnumT (K : PySem.W.Frag) (ta : TA) : TI := fun σ H R => ta σ H fun vs H1 => ∃ a xs, vs = [.ref a] ∧ SqT K H1 a xs ∧ R (IteT K a) H1
theorem pi_enumT {e : Expr} {ta : TA} {p pos tpos : Pos} {elts : List Expr} {kk : Nat} (hg : Gl X "enumerate") (hm : X.mg "enumerate" = none) (ha : PA X [e] ta) (hs : starEach [e] X.env = [(false, eval e X.env)] := by rfl) :
    PI X (.Tuple elts kk tpos) (.Call (.Name "enumerate" p) [e] [] pos) (iEnumT X.K ta) := by
  constructor
  intro pins s σ H R I h
  refine Call_ (ld_blt I hg hm boot_enumerate (PyProof.Rows.callWith_type1 (thn (ha.run pos pins s σ H _ I h) ?_) hs rfl))
  rintro us s1 ⟨vs, H1, I1, r1, a, xs, ex, hq, q⟩
  subst ex
  cases r1 with
  | cons r rr =>
    cases rr
    cases r
    obtain ⟨its, rv, p', hz⟩ := I1.tuple hq
    refine call_enumT (show s1.heap.IsTuple a its.toArray from p') fun h' he hit hk => wpAny_pyIter_enum he ?_
    have I2 : Inv X pins σ H1 { s1 with heap := h' } := I1.kept (t' := s1.toks) hk
    refine ⟨s1.heap.objs.size + 1, [s1.heap.objs.size + 1, s1.heap.objs.size], _, _, H1, rfl, I2, turn_enumT a (s1.heap.objs.size + 1) s1.heap.objs.size, ⟨⟨.none, he⟩, hit, Nat.succ_ne_self _⟩, fun b hb => ?_, q⟩
    have e' : b = s1.heap.objs.size + 1 ∨ b = s1.heap.objs.size := by simpa using hb
    have hn : s1.heap.objs.size ≤ b := by
      rcases e' with z | z
      · rw [z]
        exact Nat.le_succ _
      · rw [z]
        exact Nat.le_refl _
    exact I1.fpOk hn (I1.hok.fresh hn)
end
/-- over an enumerated tuple that stands still -/
theorem for_enumT {K : PySem.W.Frag} {a : Addr} {xs : List V} {g : TG} {tb : TS} {D : Ends} {σ : L2.St} {H : Hp} (Pv : Nat → L2.St → Hp → Prop) (h0 : Pv 0 σ H) (hl : ∀ i σ H, i ≤ xs.length → Pv i σ H → SqT K H a xs)
    (hs : ∀ i x T σ H, xs[i]? = some x → Pv i σ H → H T = none → g (.ref T) σ (upd H T (.tup [.int (i : Nat), x])) fun σ2 H2 => tb { D with nx := Pv (i + 1), ct := Pv (i + 1), bk := D.nx } σ2 H2) (hd : ∀ σ H, Pv xs.length σ H → D.nx σ H) :
    ∃ W : Nat → Nat → L2.St → Hp → Prop, (∃ m, W 0 m σ H) ∧ ∀ i m σ H, W i m σ H → ((IteT K a).stop i H ∧ D.nx σ H) ∨
      ((IteT K a).go i H ∧ ∃ N : L2.St → Hp → Prop, (∀ σ' H', N σ' H' → ∃ m', m' < m ∧ W (i + 1) m' σ' H') ∧ ∀ x H', (IteT K a).yld i H x H' → g x σ H' fun σ2 H2 => tb { D with nx := N, ct := N, bk := D.nx } σ2 H2) := by
  refine ⟨fun i m σ H => i + m = xs.length ∧ Pv i σ H, ⟨xs.length, by omega, h0⟩, ?_⟩
  rintro i m σ H ⟨e, p⟩
  cases m with
  | zero =>
    have e' : i = xs.length := by omega
    subst e'
    exact .inl ⟨⟨xs, hl _ _ _ (Nat.le_refl _) p, rfl⟩, hd _ _ p⟩
  | succ m =>
    have hlt : i < xs.length := by omega
    have hq := hl i σ H (Nat.le_of_lt hlt) p
    refine .inr ⟨⟨xs, xs[i], hq, List.getElem?_eq_getElem hlt⟩, Pv (i + 1), fun σ' H' p' => ⟨m, Nat.lt_succ_self _, by omega, p'⟩, ?_⟩
    rintro v H' ⟨T, x, rfl, hT, rfl, hx⟩
    exact hs i x T σ H (hx xs hq) p hT
end Fb
/-! Defs that are called where no repr is under way: their promise (FnG), its rule, their calls, the law's end; repr of data. -/
namespace Fb
open PySem PySem.Spec PyProof.Rows L2
structure FnG (P : Program) (w : World) (K : PySem.W.Frag) (mg : Str → Option Value) (base : Heap) (k : Nat) (f : Addr) (fd : FuncData) (ps : List Str) (sp : Sp) : Prop where
  len : ∀ vs H Q E, sp vs H Q E → vs.length = ps.length
  go : ∀ (A : Around) (outer : List Env) (s : Shared) (H : Hp) (args : Args) (us : List Value) (vs : List V) (Q : VK) (E : XK), A.guards = some [] → Room k A → Env0 P w K mg base A outer s H →
    BindsTo s fd args (ps.zip us) → Vals vs us → sp vs H Q E → codeAny (model P w) A (.call (.ref f) args) (CR CX0 outer P w H s Q E) s
section
variable {X : Cx} {k : Nat} {f : Addr} {fd : FuncData} {ps : List Str} {sp : Sp} {x : Str} {p pos : Pos} {e : Expr} {es : List Expr} {t : TA}
theorem pe_callG (F : FnG X.prog X.w X.K X.mg X.base k f fd ps sp) (hG : X.A.guards = some []) (hr : Room k X.A) (hg : Gl X x) (hm : X.mg x = some (.ref f)) (hk : PySem.W.keepIn X.K (.ref f) = true) (hb : Binds X.K fd ps [])
    (ha : PA X (e :: es) t) (hdb : (x == ("__debug__" : Str)) = false := by decide) (he : starEach (e :: es) X.env = (false, eval e X.env) :: starEach es X.env := by rfl) (hpl : (backTo pos (starEach es X.env)).any (·.1) = false := by rfl) :
    PE X (.Call (.Name x p) (e :: es) [] pos) (tCall sp [] E0 t) := by
  constructor
  intro pins s σ H Q I h
  refine wpAny_Call_Name_kw (ld_glob I hg hm ?_ hdb)
  refine PySem.W.callWith_K (h₀ := X.base) I.ok.mod.kin hk (thn (ha.run pos pins s σ H _ I h) ?_) he hpl
  rintro us s1 ⟨vs, H1, I1, r, q⟩
  refine ⟨I1.kIn, ?_⟩
  have q' : sp vs H1 Q E0 := by
    have z : sp (vs ++ []) H1 Q E0 := q
    rw [List.append_nil] at z
    exact z
  have hl : (us ++ []).length = ps.length := by
    rw [List.append_nil, ← r.length]
    exact F.len _ _ _ _ q'
  have hb' := hb s1 us I1.kIn hl
  rw [List.append_nil] at hb'
  refine wpAny_call (codeAny_mono (F.go X.A X.stack s1 H1 ⟨us, []⟩ us vs Q E0 hG hr I1.env0 hb' r q') fun res s' hq => ?_)
  cases res with
  | error y => exact False.elim hq
  | ok fl =>
    cases fl with
    | ret u => exact I1.after hq
    | next => exact False.elim hq
    | brk => exact False.elim hq
    | cont => exact False.elim hq
end
section
variable {P : Program} {w : World} {K : PySem.W.Frag} {mg : Str → Option Value} {base : Heap}
theorem okG {x qual : Str} {st : Stmt} {f : Addr} {fd : FuncData} {N ps : List Str} {k : Nat} {sp : Sp} (F : Fun K x qual st f fd) (S : FnScope N ps (defScope st)) (len : ∀ vs H Q E, sp vs H Q E → vs.length = ps.length)
    (hbody : ∀ (cdv : Value) (A : Around) (outer : List Env) (s : Shared) (H : Hp) (vs : List V) (Q : VK) (E : XK), A.guards = some [] → Room k (A.deeper (envOfC qual (defScope st) s.heap.objs.size f cdv)) → sp vs H Q E →
      ∃ t, PSs (cxOf CX0 P w K mg base N qual (defScope st) f cdv A outer s H E).nox (defBody st) t ∧ t { nx := fun _ H' => Q .non H', rt := Q } (start N vs) H) : FnG P w K mg base (k + 1) f fd ps sp := by
  obtain ⟨oc, od, kV, doc, pm, an, cdv, ct, osl, rfl, lk, hcd⟩ := F.ex
  refine ⟨len, ?_⟩
  intro A outer s H args us vs Q E hG hr e0 hb r hsp
  have hl := len _ _ _ _ hsp
  have KX : K.In s.heap := e0.mod.kin.keeps fun b o q => (e0.bs b o q).1
  have lim : s.heap.NoLimit := e0.mod.nolimit.keeps fun b o q => (e0.bs b o q).1
  have hkind : ∀ y ∈ ps.zip us, (defScope st).names.lookup y.1 = some .local ∨ ((defScope st).names.lookup y.1 = some .cell ∧ ((cellsFrom (s.heap.objs.size + 1) (defScope st).names []).lookup y.1).isSome = true) := by
    rintro ⟨n, v⟩ hy
    rcases S.par n (List.of_mem_zip hy).1 with q | q
    · exact Or.inl q
    · exact Or.inr ⟨q, PySem.W.cellsFrom_some _ _ _ (Or.inl q)⟩
  refine codeAny_call_function hr.depth (KX _ _ lk) rfl S.co S.gen rfl (PySem.W.codeRec_of KX hcd) (hb _ _ _ _ ?_)
  refine wpAny_newFunctionEnv_cells S.kind hkind ?_
  intro env he s1 z
  subst he
  refine ⟨lim.keeps z.toInCall.keep, codeAny_func ?_⟩
  obtain ⟨t, ht, hq⟩ := hbody cdv A outer s H vs Q E hG (hr.deeper _) hsp
  have I : Inv (cxOf CX0 P w K mg base N qual (defScope st) f cdv A outer s H E) [] (start N vs) H s1 := inv_start S hr.hd e0 hl r z
  refine wpAny_mono (ht.nox.run [] s1 (start N vs) H _ I hq) ?_ (fun y s' hs => hs)
  intro fl s' hs
  cases fl with
  | ret u =>
    obtain ⟨v, σ', H', J, rv, q⟩ := hs
    exact ⟨v, H', J.os, J.bare, J.base, J.hok, rv, q⟩
  | next =>
    obtain ⟨σ', H', J, q⟩ := hs
    exact ⟨V.non, H', J.os, J.bare, J.base, J.hok, rfl, q⟩
  | brk =>
    obtain ⟨_, _, _, q⟩ := hs
    exact False.elim q
  | cont =>
    obtain ⟨_, _, _, q⟩ := hs
    exact False.elim q
end
/-! ### repr of a list of data -/
section
variable {X : Cx}
def rReprD (K : PySem.W.Frag) : List V → Hp → VK → Prop := fun xs H Q => ∃ (a : Addr) (d : PyData), xs = [.ref a] ∧ Dp K H (.ref a) d ∧ d.showable = true ∧ d.hasDict = false ∧ d.depth ≤ 10 ∧ d.shown.length ≤ sizeLine ∧ Q (.str d.shown) H
theorem call_reprD (hG : X.A.guards = some []) (hu : X.A.units + 64 < cLine) : CallR X (.builtin "repr") (rReprD X.K) := by
  intro pins s σ H xs us Q I r h
  obtain ⟨a, d, rfl, hd, h1, h2, h3, h4, q⟩ := h
  cases r with
  | cons r0 rr =>
    cases rr
    obtain ⟨as, rd⟩ := Dp.reads I d _ _ hd r0
    cases r0
    refine repr_of_reads' rd h1 (fun z => by rw [h2] at z; cases z) hG (by omega) (fun b o e => e) (fun h' u tk hk => ?_) h4
    exact ⟨.str d.shown, H, I.kept (t' := tk) hk, ⟨u, rfl⟩, q⟩
end
/-! ### the end -/
theorem law_callG {P : Program} {w : World} {K : PySem.W.Frag} {mg mb : Str → Option Value} {k : Nat} {fa a : Addr} {fd : FuncData} {x : Str} {sp : Sp} {s₁ : Shared} {vs : List Value} {ns : List Int}
    (KX : K.In s₁.heap) (hns : s₁.heap.Ns mainGlobals mg) (hb : s₁.heap.Ns builtinsNs mb) (hbb : ∀ x : Str, x ≠ "__name__" → mb x = bootBuiltins x) (hlim : s₁.heap.NoLimit) (hg : s₁.gens = #[])
    (ha : s₁.heap.get? a = some ⟨.type "list", none, .seq vs.toArray 0, #[]⟩) (hi : IntsAre vs ns) (hl : ns.length ≤ sizeLine) (hr : Room k callerA)
    (F : ∀ base : Heap, K.In base → base.Ns mainGlobals mg → FnG P w K mg base k fa fd [x] sp) (hbind : ∀ (s : Shared) (u : Value), BindsTo s fd ⟨[u], []⟩ [(x, u)])
    (hsp : ∀ H : Hp, SqL K H a (ns.map V.int) → sp [.ref a] H (fun v _ => v = .bl true) fun _ _ _ => False) :
    codeAny (model P w) callerA (.call (.ref fa) ⟨[.ref a], []⟩) (fun r s' => r = .ok (.ret (.bool true)) ∧ OldK s₁.heap s'.heap ∧ s'.os = s₁.os ∧ AllBare s'.gens) s₁ := by
  have rv := vals_ints hi
  have lenV := hi.length
  have core : ∀ H : Hp, (∀ b, H b = none ∨ ∃ o xs, H b = some (.frz o (.lst xs))) → SqL K H a (ns.map V.int) → HOk P w H s₁.heap → (∀ b, H b ≠ none → b = a) → (H a ≠ none → K.lookup a = none) →
      codeAny (model P w) callerA (.call (.ref fa) ⟨[.ref a], []⟩) (fun r s' => r = .ok (.ret (.bool true)) ∧ OldK s₁.heap s'.heap ∧ s'.os = s₁.os ∧ AllBare s'.gens) s₁ := by
    intro H hO hS hok hA hK
    have isA : ∀ {b : Addr} {u : HO}, H b = some u → b = a := by
      intro b u q
      exact hA b (by rw [q]; simp)
    have noA : ∀ {b : Addr} {o : Obj} {es : Array DictEntry} {ep : Nat}, s₁.heap.get? b = some o → o.data = .dict es ep → H b = none := by
      intro b o es ep q d
      cases z : H b with
      | none => rfl
      | some u =>
        have e' := isA z
        subst e'
        rw [ha] at q
        cases q
        have d' : Data.seq vs.toArray 0 = Data.dict es ep := d
        cases d'
    have nsK : ∀ {b : Addr} {m : Str → Option Value}, s₁.heap.Ns b m → (hidT s₁.heap H).Ns b m := by
      rintro b m ⟨o, es, ep, q, d, r⟩
      exact ⟨o, es, ep, hidT_get q (noA q d), d, r⟩
    have hKb : K.In (hidT s₁.heap H) := by
      intro b o q
      refine hidT_get (KX b o q) ?_
      cases z : H b with
      | none => rfl
      | some u =>
        have e' := isA z
        subst e'
        rw [hK (by rw [z]; simp)] at q
        cases q
    have hM : Mod K mg (hidT s₁.heap H) := by
      obtain ⟨mc, m1, m2⟩ := hlim
      exact ⟨hKb, nsK hns, ⟨mb, nsK hb, hbb⟩, mc, nsK m1, m2⟩
    have e0 : Env0 P w K mg (hidT s₁.heap H) callerA [] s₁ H :=
      ⟨rfl, hM, fun b o q => of_hidT q, Nat.le_of_eq (hidT_size _ _), trivial, fun b hb => absurd (show b ∈ ([] : List Addr) from hb) (by simp), hok, .of_eq hg⟩
    refine codeAny_mono ((F _ hKb (nsK hns)).go callerA [] s₁ H ⟨[.ref a], []⟩ [.ref a] [.ref a] _ _ rfl hr e0 (hbind s₁ (.ref a)) (.cons rfl .nil) (hsp H hS)) ?_
    intro res s' h
    cases res with
    | error y => exact False.elim h
    | ok fl =>
      cases fl with
      | next => exact False.elim h
      | brk => exact False.elim h
      | cont => exact False.elim h
      | ret u =>
        obtain ⟨v, H', os, bare, un, hok', r', q⟩ := h
        have q' : v = .bl true := q
        subst q'
        obtain rfl : u = Value.bool true := r'
        refine ⟨rfl, OldK.of_keep ?_, os, bare⟩
        intro b o z
        cases q : H b with
        | none => exact un.keep b o z q (by intro y; exact absurd (show b ∈ ([] : List Addr) from y) (by simp)) (by simp)
        | some u =>
          rcases hO b with y | ⟨ob, xs, y⟩
          · rw [q] at y
            cases y
          · obtain ⟨e1, _⟩ := hok b _ y
            obtain ⟨e2, _⟩ := hok' b _ (un.frzs b ob _ y)
            rw [z] at e1
            cases e1
            exact e2
  cases hk : K.lookup a with
  | some o =>
    have q := KX a o hk
    rw [ha] at q
    cases q
    refine core (fun _ => none) (fun _ => Or.inl rfl) (Or.inr ⟨_, vs.toArray, _, hk, rfl, rfl, rfl, by rw [List.size_toArray, lenV]; exact hl, by simpa using rv⟩) ?_ (fun b z => absurd rfl z) (fun z => absurd rfl z)
    intro b u z
    have z' : (none : Option HO) = some u := z
    cases z'
  | none =>
    refine core (fun b => if b = a then some (.frz ⟨.type "list", none, .seq vs.toArray 0, #[]⟩ (.lst (ns.map V.int))) else none) ?_ (Or.inl (Or.inr ⟨⟨.type "list", none, .seq vs.toArray 0, #[]⟩, if_pos rfl⟩)) ?_ ?_ (fun _ => hk)
    · intro b
      by_cases hb : b = a
      · exact Or.inr ⟨_, _, if_pos hb⟩
      · exact Or.inl (if_neg hb)
    · intro b u z
      by_cases hb : b = a
      · have z' := (if_pos hb).symm.trans z
        cases z'
        subst hb
        exact ⟨ha, by rw [List.length_map]; exact hl, vs, _, rv, ha⟩
      · have z' := (if_neg hb).symm.trans z
        cases z'
    · intro b z
      by_cases hb : b = a
      · exact hb
      · exact absurd (if_neg hb) z
theorem walk_G {l : PySem.W.OpenLaw} {n k : Nat} {q : Program} {loose : List Str} {XP : (Str → Option Value) → Heap → Prop} {YP : World → Heap → Prop} {d : DefRec} {K : Params → PySem.W.Frag} {sp : World → Sp} {x : Str}
    (hn : l.most = some n) (hn2 : n ≤ sizeLine) (hdf : d.params.defaults = []) (hr : Room k callerA)
    (hY : ∀ (w : World) (h : Heap), YP w h → (K w.params).In h)
    (F : ∀ (w : World) (mg : Str → Option Value) (fa : Addr) (h : Heap), (K w.params).In h → h.Ns mainGlobals mg → mg d.name = some (.ref fa) →
      ∃ fd : FuncData, (∀ (s : Shared) (u : Value), BindsTo s fd ⟨[u], []⟩ [(x, u)]) ∧
        ∀ base : Heap, (K w.params).In base → base.Ns mainGlobals mg → FnG l.prog w (K w.params) mg base k fa fd [x] (sp w))
    (hsp : ∀ (w : World) (H : Hp) (a : Addr) (ns : List Int), ns.length ≤ n → SqL (K w.params) H a (ns.map V.int) → sp w [.ref a] H (fun v _ => v = .bl true) fun _ _ _ => False) :
    PySem.W.WalkO q loose XP YP l.row.toRowW d [] (fun f vs => PySem.call f vs) := by
  refine Att.attach_call hn hdf ?_
  intro w s₀ s₁ mg mb fa o pm cd doc a vs ns G Y ho hd hcd hmg hobj hints hlen hg
  have KX := hY w _ Y
  obtain ⟨fd, hb, hF⟩ := F w mg fa _ KX G.T.g hmg
  exact law_callG KX G.T.g G.T.b G.T.builtins G.T.nolimit hg hobj hints (Nat.le_trans hlen hn2) hr hF hb (fun H hS => hsp w H a ns hlen hS)
end Fb
/-! The layer's rules that speak of the context's written part, with that part named: within a comprehension's block it must not hang on the block. -/
namespace Fb
open PySem PySem.Spec PyProof.Rows L2
def rLenK (K : PySem.W.Frag) : List V → Hp → VK → Prop := fun xs H Q => ∃ p ys, xs = [.ref p] ∧ (SqL K H p ys ∨ SqT K H p ys) ∧ Q (.int ys.length) H
def rTupleK (K : PySem.W.Frag) : List V → Hp → VK → Prop := fun xs H Q => ∃ p ys, xs = [.ref p] ∧ ((SqL K H p ys ∧ ∀ l, H l = none → Q (.ref l) (upd H l (.tup ys))) ∨ (SqT K H p ys ∧ Q (.ref p) H))
def rJoinK (K : PySem.W.Frag) : V → List V → Hp → VK → Prop := fun x xs H Q => ∃ a p, ∃ ys : List Str, x = .str a ∧ xs = [.ref p] ∧ (SqL K H p (ys.map V.str) ∨ SqT K H p (ys.map V.str)) ∧ (ys.map (·.length)).sum + ys.length * a.length ≤ 16777216 ∧ Q (.str (Txt.join a ys)) H
section
variable {X : Cx} {K : PySem.W.Frag} (hK : X.K = K)
include hK
theorem k_ixL : IxR X (rIxL K) := by subst hK; exact ix_list
theorem k_ixT : IxR X (rIxT K) := by subst hK; exact ix_tup
theorem k_ixS : IxR X (rIx K) := by subst hK; exact ix_seq
theorem k_slL : SlR X (rSlL K) := by subst hK; exact sl_list
theorem k_slT : SlR X (rSlA K) := by subst hK; exact sl_tupA
theorem k_in : OpR X (compareOp .In) (rIn K false) := by subst hK; exact op_in_seq
theorem k_notIn : OpR X (compareOp .NotIn) (rIn K true) := by subst hK; exact op_notIn_seq
theorem k_eqD (hu : X.A.units + 64 < cLine) : OpR X (compareOp .Eq) (rEqD K) := by subst hK; exact op_eqD hu
theorem k_neD (hu : X.A.units + 64 < cLine) : OpR X (compareOp .NotEq) (rNeD K) := by subst hK; exact op_neD hu
theorem k_noneT (hu : X.A.units + 64 < cLine) : OpR X (compareOp .In) (rNoneT K) := by subst hK; exact op_noneInT hu
theorem k_len : CallR X (.builtin "len") (rLenK K) := by subst hK; exact call_len_seq
theorem k_isi : CallR X (.builtin "isinstance") (rIsi K) := by subst hK; exact call_isi
theorem k_any (hc : X.calm = true) : CallR X (.builtin "any") (rAny K) := by subst hK; exact cr_any hc
theorem k_all (hc : X.calm = true) : CallR X (.builtin "all") (rAll K) := by subst hK; exact cr_all hc
theorem k_tuple : CallR X (.type "tuple") (rTupleK K) := by subst hK; exact call_tuple_of
theorem k_repr (hG : X.A.guards = some []) (hu : X.A.units + 64 < cLine) : CallR X (.builtin "repr") (rReprD K) := by subst hK; exact call_reprD hG hu
theorem k_list {tg l : Expr} {tl : TE} (hl : PE X l tl) : PI X tg l (iList K tl) := by subst hK; exact pi_list hl
theorem k_tup {tg l : Expr} {tl : TE} (hl : PE X l tl) : PI X tg l (iTup K tl) := by subst hK; exact pi_tup hl
theorem k_enumT {e : Expr} {ta : TA} {p pos tpos : Pos} {elts : List Expr} {kk : Nat} (hg : Gl X "enumerate") (hm : X.mg "enumerate" = none) (ha : PA X [e] ta) (hs : starEach [e] X.env = [(false, eval e X.env)] := by rfl) :
    PI X (.Tuple elts kk tpos) (.Call (.Name "enumerate" p) [e] [] pos) (iEnumT K ta) := by subst hK; exact pi_enumT hg hm ha hs
theorem k_fld {e : Expr} {f : Str} {pos : Pos} {ta : TE} (he : PE X e ta) (hb : attributeBase e f X.env (eval e X.env) = eval e X.env) : PE X (.Attribute e f pos) (tFld K ta f) := by subst hK; exact pe_fld he hb
theorem k_gfld {o : Expr} {f : Str} {pos : Pos} {ta : TE} (ho : PE X o ta) : PG X (.Attribute o f pos) (gFld K ta f) := by subst hK; exact pg_fld ho
theorem k_gtup {es : List Expr} {k : Nat} {pos : Pos} {t : TGs} {n : Nat} (hc : X.calm = true) (h : PGs X es t) (hn : (assignEach es X.env).length = n := by rfl) (hst : (assignEach es X.env).findIdx? (·.1) = none := by rfl) : PG X (.Tuple es k pos) (gTup K n t) := by
  subst hK
  exact pg_tup hc h hn hst
theorem k_revL {e : Expr} {te : TE} {k : Nat} {p1 p2 p3 pos : Pos} (he : PE X e te) : PE X (.Subscript e (.Slice none none (some (.UnaryOp .USub (.Constant (.int 1) k p1) p2)) p3) pos) (tRevL K te) := by subst hK; exact pe_revL he
theorem k_join {o e : Expr} {to te : TE} {apos pos : Pos} (ho : PE X o to) (he : PE X e te) (hs : starEach [e] X.env = [(false, eval e X.env)] := by rfl) (hbase : attributeBase o "join" X.env (eval o X.env) = eval o X.env := by rfl) (hline : (apos.endLine == pos.line) = true := by rfl) :
    PE X (.Call (.Attribute o "join" apos) [e] [] pos) (tM1 (rJoinK K) to te) := by
  subst hK
  exact pe_join ho he hs hbase hline
end
end Fb
/-! The line of a row, and that row_in's text operations read it back. -/
namespace Fb
open PySem PySem.Spec PyProof.Rows L2
def wS : Wd → Str
  | .silent => "silent" | .still1 => "still 1" | .still2 => "still 2" | .doubt => "doubt" | .holes => "holes" | .marked => "marked" | .opn => "open"
def dS : Dd → Str
  | .clear => "clear" | .free => "free" | .first => "again first" | .holes => "again holes" | .unmarked => "again unmarked" | .all => "again all" | .new => "new" | .one => "one"
def cS (c : Cond) : Str := if c.2 = true then wS c.1 else ("not " : Str) ++ wS c.1
def headS (cs : List Cond) : Str := Txt.join " and " (cs.map cS)
def deedsS (ds : List Dd) : Str := Txt.join ", " (ds.map dS)
def line (r : Row) : Str := (if r.1.isEmpty = true then ("" : Str) else ("if " : Str) ++ headS r.1 ++ (": " : Str)) ++ deedsS r.2
structure RowOk (r : Row) : Prop where
  c3 : r.1.length ≤ 3
  d1 : 1 ≤ r.2.length
  d3 : r.2.length ≤ 3
def allW : List Wd := [.silent, .still1, .still2, .doubt, .holes, .marked, .opn]
def allC : List Cond := allW.flatMap fun w => [(w, true), (w, false)]
def allD : List Dd := [.clear, .free, .first, .holes, .unmarked, .all, .new, .one]
theorem memW (w : Wd) : w ∈ allW := by cases w <;> decide
theorem memC (c : Cond) : c ∈ allC := by obtain ⟨w, b⟩ := c; cases w <;> cases b <;> decide
theorem memD (d : Dd) : d ∈ allD := by cases d <;> decide
theorem remove_not (c : Cond) : Txt.removeprefix (cS c) "not " = wS c.1 := by
  have h : ∀ c ∈ allC, Txt.removeprefix (cS c) "not " = wS c.1 := by decide +kernel
  exact h c (memC c)
theorem word_is (c : Cond) : decide (wS c.1 = cS c) = c.2 := by
  have h : ∀ c ∈ allC, decide (wS c.1 = cS c) = c.2 := by decide +kernel
  exact h c (memC c)
theorem wS_inj {a b : Wd} (h : wS a = wS b) : a = b := by
  have q : ∀ a ∈ allW, ∀ b ∈ allW, wS a = wS b → a = b := by decide +kernel
  exact q a (memW a) b (memW b) h
theorem dS_inj {a b : Dd} (h : dS a = dS b) : a = b := by
  have q : ∀ a ∈ allD, ∀ b ∈ allD, dS a = dS b → a = b := by decide +kernel
  exact q a (memD a) b (memD b) h
theorem cS_len (c : Cond) : (cS c).length ≤ 11 := by
  have h : ∀ c ∈ allC, (cS c).length ≤ 11 := by decide +kernel
  exact h c (memC c)
theorem dS_len (d : Dd) : (dS d).length ≤ 14 := by
  have h : ∀ d ∈ allD, (dS d).length ≤ 14 := by decide +kernel
  exact h d (memD d)
theorem dS_comma (d : Dd) : ¬ (44 : Nat) ∈ TL.tl (dS d) := by
  have h : ∀ d ∈ allD, ¬ (44 : Nat) ∈ TL.tl (dS d) := by decide +kernel
  exact h d (memD d)
theorem cS_colon (c : Cond) : ¬ (58 : Nat) ∈ TL.tl (cS c) := by
  have h : ∀ c ∈ allC, ¬ (58 : Nat) ∈ TL.tl (cS c) := by decide +kernel
  exact h c (memC c)
theorem split_deeds {ds : List Dd} (h : ds ≠ []) : Txt.split (deedsS ds) ", " = ds.map dS := by
  unfold deedsS
  refine TL.split_join (s := 44) (S := [32]) rfl (by decide +kernel) (fun e => h (List.map_eq_nil_iff.mp e)) ?_
  intro p hp
  obtain ⟨d, _, rfl⟩ := List.mem_map.mp hp
  exact dS_comma d
def sepA : List Nat := [32, 97, 110, 100, 32]
theorem spl_ands : (∀ a ∈ allC, TL.spl sepA 0 [] (TL.joinL sepA [TL.tl (cS a)]) = [TL.tl (cS a)]) ∧ (∀ a ∈ allC, ∀ b ∈ allC, TL.spl sepA 0 [] (TL.joinL sepA [TL.tl (cS a), TL.tl (cS b)]) = [TL.tl (cS a), TL.tl (cS b)]) ∧
    (∀ a ∈ allC, ∀ b ∈ allC, ∀ c ∈ allC, TL.spl sepA 0 [] (TL.joinL sepA [TL.tl (cS a), TL.tl (cS b), TL.tl (cS c)]) = [TL.tl (cS a), TL.tl (cS b), TL.tl (cS c)]) := by decide +kernel
theorem split_head {cs : List Cond} (h0 : cs ≠ []) (h3 : cs.length ≤ 3) : Txt.split (headS cs) " and " = cs.map cS := by
  unfold headS
  refine TL.map_tl_inj ?_
  have ek : TL.tl (" and " : Str) = sepA := rfl
  rw [TL.split_spl _ _ (by rw [ek]; decide) (TL.kind_ok (by decide +kernel)), TL.join_eq, TL.tl_join, ek]
  match cs, h0, h3 with
  | [a], _, _ => exact spl_ands.1 a (memC a)
  | [a, b], _, _ => exact spl_ands.2.1 a (memC a) b (memC b)
  | [a, b, c], _, _ => exact spl_ands.2.2 a (memC a) b (memC b) c (memC c)
theorem join_mem (s : List Nat) (c : Nat) (hs : ¬ c ∈ s) : ∀ ps : List (List Nat), (∀ p ∈ ps, ¬ c ∈ p) → ¬ c ∈ TL.joinL s ps
  | [], _ => by intro h; cases h
  | [p], hp => hp p List.mem_cons_self
  | p :: q :: r, hp => by
    show ¬ c ∈ p ++ (s ++ TL.joinL s (q :: r))
    rw [List.mem_append, List.mem_append]
    rintro (z | z | z)
    · exact hp p List.mem_cons_self z
    · exact hs z
    · exact join_mem s c hs (q :: r) (fun p hp' => hp p (List.mem_cons_of_mem _ hp')) z
theorem head_colon (cs : List Cond) : ¬ (58 : Nat) ∈ TL.tl (headS cs) := by
  unfold headS
  rw [TL.join_eq, TL.tl_join]
  refine join_mem _ _ (by decide +kernel) _ ?_
  intro p hp
  rw [List.map_map] at hp
  obtain ⟨c, _, rfl⟩ := List.mem_map.mp hp
  exact cS_colon c
theorem part_line (cs : List Cond) (t : Str) : Txt.partition (headS cs ++ (": " : Str) ++ t) ": " = (headS cs, (": " : Str), t) :=
  TL.partition_app (s := 58) (S := [32]) rfl (head_colon cs)
theorem tl_app (a b : Str) : TL.tl (a ++ b) = TL.tl a ++ TL.tl b := TL.tl_append a b
theorem str_ext {a b : Str} (h : TL.tl a = TL.tl b) : a = b := by
  obtain ⟨⟨a⟩⟩ := a
  obtain ⟨⟨b⟩⟩ := b
  exact congrArg (fun z : List Nat => (⟨⟨z⟩⟩ : Str)) h
theorem len_tl (a : Str) : a.length = (TL.tl a).length := by
  rw [TL.len_tl]
theorem len_app (a b : Str) : (a ++ b).length = a.length + b.length := by
  rw [len_tl, len_tl, len_tl, tl_app, List.length_append]
theorem cut_line {cs : List Cond} (h : cs ≠ []) (ds : List Dd) : cutS (line (cs, ds)) (some 3) none = headS cs ++ (": " : Str) ++ deedsS ds := by
  have e : line (cs, ds) = ("if " : Str) ++ (headS cs ++ (": " : Str) ++ deedsS ds) := by
    apply str_ext
    cases cs with
    | nil => exact absurd rfl h
    | cons c r =>
      show TL.tl ((("if " : Str) ++ headS (c :: r) ++ (": " : Str)) ++ deedsS ds) = _
      simp only [tl_app, List.append_assoc]
  rw [e]
  generalize headS cs ++ (": " : Str) ++ deedsS ds = t
  apply str_ext
  have h3 : (("if " : Str) ++ t).length = 3 + t.length := by
    rw [len_app]
    rfl
  have e1 : HT.sIx (("if " : Str) ++ t).length 0 (some 3) = 3 := by
    rw [h3]
    unfold HT.sIx
    simp
  have e2 : HT.sIx (("if " : Str) ++ t).length (("if " : Str) ++ t).length none = 3 + t.length := by
    rw [h3]
    rfl
  show ((TL.tl (("if " : Str) ++ t)).drop (HT.sIx _ 0 (some 3))).take _ = TL.tl t
  rw [e1, e2, tl_app]
  have e3 : TL.tl ("if " : Str) = [105, 102, 32] := rfl
  rw [e3]
  show (TL.tl t).take (3 + t.length - 3) = TL.tl t
  rw [List.take_of_length_le]
  rw [← len_tl]
  omega
theorem starts_iff (x : Str) : Txt.startswith x "if " = TL.pre [105, 102, 32] (TL.tl x) := by
  have z := TL.at_iff (x := x) (y := ("if " : Str)) (by decide +kernel) 0
  rw [Bool.eq_iff_iff]
  rw [List.drop_zero] at z
  rw [show TL.pre [105, 102, 32] (TL.tl x) = TL.pre (TL.tl ("if " : Str)) (TL.tl x) from rfl, ← z]
  unfold Txt.startswith
  simp only [Bool.and_eq_true, decide_eq_true_eq]
  exact Iff.rfl
theorem starts_line (cs : List Cond) {ds : List Dd} (h : ds ≠ []) : Txt.startswith (line (cs, ds)) "if " = !cs.isEmpty := by
  rw [starts_iff]
  cases cs with
  | cons c r =>
    show TL.pre [105, 102, 32] (TL.tl ((("if " : Str) ++ headS (c :: r) ++ (": " : Str)) ++ deedsS ds)) = true
    simp only [tl_app, List.append_assoc]
    rfl
  | nil =>
    show TL.pre [105, 102, 32] (TL.tl (("" : Str) ++ deedsS ds)) = false
    rw [tl_app]
    have e0 : TL.tl ("" : Str) = [] := rfl
    rw [e0, List.nil_append]
    unfold deedsS
    rw [TL.join_eq, TL.tl_join, List.map_map]
    have q : ∀ d ∈ allD, ∀ t : List Nat, TL.pre [105, 102, 32] (TL.tl (dS d) ++ t) = false := by
      intro d hd t
      cases d <;> rfl
    cases ds with
    | nil => exact absurd rfl h
    | cons d r =>
      cases r with
      | nil =>
        have z := q d (memD d) []
        rw [List.append_nil] at z
        exact z
      | cons e r => exact q d (memD d) _
theorem joinL_len (s : List Nat) (n : Nat) : ∀ ps : List (List Nat), (∀ p ∈ ps, p.length ≤ n) → (TL.joinL s ps).length ≤ ps.length * (n + s.length)
  | [], _ => by simp [TL.joinL]
  | [p], h => by
    have := h p List.mem_cons_self
    show p.length ≤ 1 * (n + s.length)
    omega
  | p :: q :: r, h => by
    have h1 := h p List.mem_cons_self
    have h2 := joinL_len s n (q :: r) fun p hp => h p (List.mem_cons_of_mem _ hp)
    show (p ++ (s ++ TL.joinL s (q :: r))).length ≤ (q :: r).length.succ * (n + s.length)
    rw [List.length_append, List.length_append, Nat.succ_mul]
    omega
theorem head_len {cs : List Cond} (h : cs.length ≤ 3) : (headS cs).length ≤ 48 := by
  unfold headS
  rw [len_tl, TL.join_eq, TL.tl_join]
  have z := joinL_len (TL.tl (" and " : Str)) 11 (List.map TL.tl (List.map cS cs)) (by
    intro p hp
    rw [List.map_map] at hp
    obtain ⟨c, _, rfl⟩ := List.mem_map.mp hp
    have := cS_len c
    rw [len_tl] at this
    exact this)
  rw [List.length_map, List.length_map] at z
  have e : (TL.tl (" and " : Str)).length = 5 := rfl
  rw [e] at z
  have : cs.length * (11 + 5) ≤ 3 * (11 + 5) := Nat.mul_le_mul_right _ h
  omega
theorem deeds_len {ds : List Dd} (h : ds.length ≤ 3) : (deedsS ds).length ≤ 48 := by
  unfold deedsS
  rw [len_tl, TL.join_eq, TL.tl_join]
  have z := joinL_len (TL.tl (", " : Str)) 14 (List.map TL.tl (List.map dS ds)) (by
    intro p hp
    rw [List.map_map] at hp
    obtain ⟨d, _, rfl⟩ := List.mem_map.mp hp
    have := dS_len d
    rw [len_tl] at this
    exact this)
  rw [List.length_map, List.length_map] at z
  have e : (TL.tl (", " : Str)).length = 2 := rfl
  rw [e] at z
  have : ds.length * (14 + 2) ≤ 3 * (14 + 2) := Nat.mul_le_mul_right _ h
  omega
theorem line_len {r : Row} (h : RowOk r) : (line r).length ≤ 200 := by
  unfold line
  have h1 := head_len h.c3
  have h2 := deeds_len h.d3
  have e1 : ("if " : Str).length = 3 := rfl
  have e2 : (": " : Str).length = 2 := rfl
  have e3 : ("" : Str).length = 0 := rfl
  rw [len_app]
  split
  · rw [e3]
    omega
  · rw [len_app, len_app, e1, e2]
    omega
theorem line_nil (ds : List Dd) : line ([], ds) = deedsS ds := by
  apply str_ext
  show TL.tl (("" : Str) ++ deedsS ds) = _
  rw [tl_app]
  rfl
end Fb
/-! The text by places, the names of each def by slots, and what the walk asks of the module as the top has made it (Ad: the addresses, Txt: the facts). Printed by a program of ours. -/
namespace Fb
open PySem PySem.Spec PyProof.Rows L2
def topS (i : Nat) : Stmt := PySem.Challenge.pw_fewblocks_k27_whole_rows_parted_by_a_con.main.body.getD i (.Pass ⟨0, 0, 0, 0⟩)
abbrev s_is_integer : Stmt := topS 13
abbrev n_is_integer : List Str := ["value"]
theorem sc_is_integer : FnScope n_is_integer ["value"] (defScope s_is_integer) := ⟨rfl, rfl, rfl, by decide +kernel, rfl, by decide +kernel, by decide +kernel⟩
abbrev s_is_number : Stmt := topS 14
abbrev n_is_number : List Str := ["value"]
theorem sc_is_number : FnScope n_is_number ["value"] (defScope s_is_number) := ⟨rfl, rfl, rfl, by decide +kernel, rfl, by decide +kernel, by decide +kernel⟩
abbrev s_check_number : Stmt := topS 15
abbrev n_check_number : List Str := ["value"]
theorem sc_check_number : FnScope n_check_number ["value"] (defScope s_check_number) := ⟨rfl, rfl, rfl, by decide +kernel, rfl, by decide +kernel, by decide +kernel⟩
abbrev s_is_block : Stmt := topS 18
abbrev n_is_block : List Str := ["value"]
theorem sc_is_block : FnScope n_is_block ["value"] (defScope s_is_block) := ⟨rfl, rfl, rfl, by decide +kernel, rfl, by decide +kernel, by decide +kernel⟩
abbrev s_a_init : Stmt := inClass (topS 22) 0
abbrev n_a_init : List Str := ["self", "number", "blocks", "k"]
theorem sc_a_init : FnScope n_a_init ["self", "number", "blocks"] (defScope s_a_init) := ⟨rfl, rfl, rfl, by decide +kernel, rfl, by decide +kernel, by decide +kernel⟩
abbrev s_a_number : Stmt := inClass (topS 22) 2
abbrev n_a_number : List Str := ["self"]
theorem sc_a_number : FnScope n_a_number ["self"] (defScope s_a_number) := ⟨rfl, rfl, rfl, by decide +kernel, rfl, by decide +kernel, by decide +kernel⟩
abbrev s_a_blocks : Stmt := inClass (topS 22) 3
abbrev n_a_blocks : List Str := ["self"]
theorem sc_a_blocks : FnScope n_a_blocks ["self"] (defScope s_a_blocks) := ⟨rfl, rfl, rfl, by decide +kernel, rfl, by decide +kernel, by decide +kernel⟩
abbrev s_is_next_block : Stmt := topS 23
abbrev n_is_next_block : List Str := ["number", "ahead", "value", "first", "end"]
theorem sc_is_next_block : FnScope n_is_next_block ["number", "ahead", "value"] (defScope s_is_next_block) := ⟨rfl, rfl, rfl, by decide +kernel, rfl, by decide +kernel, by decide +kernel⟩
abbrev s_condition_in : Stmt := topS 29
abbrev n_condition_in : List Str := ["text", "word"]
theorem sc_condition_in : FnScope n_condition_in ["text"] (defScope s_condition_in) := ⟨rfl, rfl, rfl, by decide +kernel, rfl, by decide +kernel, by decide +kernel⟩
abbrev s_row_in : Stmt := topS 30
abbrev n_row_in : List Str := ["text", "conditions", "rest", "head", "colon", "deeds", "word", "deed"]
theorem sc_row_in : FnScope n_row_in ["text"] (defScope s_row_in) := ⟨rfl, rfl, rfl, by decide +kernel, rfl, by decide +kernel, by decide +kernel⟩
abbrev s_condition_holds : Stmt := topS 31
abbrev n_condition_holds : List Str := ["word", "base", "top", "marked", "still", "heard", "unmarked", "piece"]
theorem sc_condition_holds : FnScope n_condition_holds ["word", "base", "top", "marked", "still", "heard"] (defScope s_condition_holds) := ⟨rfl, rfl, rfl, by decide +kernel, rfl, by decide +kernel, by decide +kernel⟩
abbrev s_holes_below : Stmt := topS 32
abbrev n_holes_below : List Str := ["unmarked", "marked", "other", "piece"]
theorem sc_holes_below : FnScope n_holes_below ["unmarked", "marked"] (defScope s_holes_below) := ⟨rfl, rfl, rfl, by decide +kernel, rfl, by decide +kernel, by decide +kernel⟩
abbrev s_named_by : Stmt := topS 33
abbrev n_named_by : List Str := ["deed", "base", "top", "marked", "outstanding", "unmarked", "piece"]
theorem sc_named_by : FnScope n_named_by ["deed", "base", "top", "marked"] (defScope s_named_by) := ⟨rfl, rfl, rfl, by decide +kernel, rfl, by decide +kernel, by decide +kernel⟩
abbrev s_asked_by : Stmt := topS 34
abbrev n_asked_by : List Str := ["deed", "free"]
theorem sc_asked_by : FnScope n_asked_by ["deed", "free"] (defScope s_asked_by) := ⟨rfl, rfl, rfl, by decide +kernel, rfl, by decide +kernel, by decide +kernel⟩
abbrev s_check_rows : Stmt := topS 37
abbrev n_check_rows : List Str := ["rows", "index", "row"]
theorem sc_check_rows : FnScope n_check_rows ["rows"] (defScope s_check_rows) := ⟨rfl, rfl, rfl, by decide +kernel, rfl, by decide +kernel, by decide +kernel⟩
abbrev s_check_answers : Stmt := topS 38
abbrev n_check_answers : List Str := ["answers", "base", "top", "least", "index", "answer", "first", "end"]
theorem sc_check_answers : FnScope n_check_answers ["answers", "base", "top"] (defScope s_check_answers) := ⟨rfl, rfl, rfl, by decide +kernel, rfl, by decide +kernel, by decide +kernel⟩
abbrev s_s_init : Stmt := inClass (topS 41) 0
abbrev n_s_init : List Str := ["self", "window", "rows", "last", "asked", "row", "conditions", "deeds", "word", "wanted"]
theorem sc_s_init : FnScope n_s_init ["self", "window", "rows", "last"] (defScope s_s_init) := ⟨rfl, rfl, rfl, by decide +kernel, rfl, by decide +kernel, by decide +kernel⟩
abbrev s_s_begin : Stmt := inClass (topS 41) 3
abbrev n_s_begin : List Str := ["self"]
theorem sc_s_begin : FnScope n_s_begin ["self"] (defScope s_s_begin) := ⟨rfl, rfl, rfl, by decide +kernel, rfl, by decide +kernel, by decide +kernel⟩
abbrev s_s_plan : Stmt := inClass (topS 41) 4
abbrev n_s_plan : List Str := ["self", "state", "base", "top", "marked", "freed", "still", "heard", "named", "asked", "conditions", "deeds", "deed", "more", "again", "word", "wanted", "piece"]
theorem sc_s_plan : FnScope n_s_plan ["self", "state"] (defScope s_s_plan) := ⟨rfl, rfl, rfl, by decide +kernel, rfl, by decide +kernel, by decide +kernel⟩
abbrev s_s_hear : Stmt := inClass (topS 41) 5
abbrev n_s_hear : List Str := ["self", "state", "number", "blocks", "base", "top", "marked", "freed", "still", "heard", "told", "first", "end", "piece"]
theorem sc_s_hear : FnScope n_s_hear ["self", "state", "number", "blocks"] (defScope s_s_hear) := ⟨rfl, rfl, rfl, by decide +kernel, rfl, by decide +kernel, by decide +kernel⟩
abbrev s_s_close : Stmt := inClass (topS 41) 6
abbrev n_s_close : List Str := ["self", "state", "begun", "base", "top", "marked", "freed", "still", "heard"]
theorem sc_s_close : FnScope n_s_close ["self", "state", "begun"] (defScope s_s_close) := ⟨rfl, rfl, rfl, by decide +kernel, rfl, by decide +kernel, by decide +kernel⟩
abbrev s_m_init : Stmt := inClass (topS 42) 0
abbrev n_m_init : List Str := ["self", "sender", "state"]
theorem sc_m_init : FnScope n_m_init ["self", "sender", "state"] (defScope s_m_init) := ⟨rfl, rfl, rfl, by decide +kernel, rfl, by decide +kernel, by decide +kernel⟩
abbrev s_m_after : Stmt := inClass (topS 42) 1
abbrev n_m_after : List Str := ["self", "answers", "state", "answer"]
theorem sc_m_after : FnScope n_m_after ["self", "answers"] (defScope s_m_after) := ⟨rfl, rfl, rfl, by decide +kernel, rfl, by decide +kernel, by decide +kernel⟩
abbrev s_l_purse : Stmt := topS 44
abbrev n_l_purse : List Str := ["_law_script", "_law_k", "_law_cell", "_law_other", "_law_figures"]
theorem sc_l_purse : FnScope n_l_purse ["_law_script", "_law_k"] (defScope s_l_purse) := ⟨rfl, rfl, rfl, by decide +kernel, rfl, by decide +kernel, by decide +kernel⟩
abbrev s_l_draw : Stmt := topS 45
abbrev n_l_draw : List Str := ["_law_purse_here", "_law_many", "_law_figure"]
theorem sc_l_draw : FnScope n_l_draw ["_law_purse_here", "_law_many"] (defScope s_l_draw) := ⟨rfl, rfl, rfl, by decide +kernel, rfl, by decide +kernel, by decide +kernel⟩
abbrev s_l_condition : Stmt := topS 46
abbrev n_l_condition : List Str := ["_law_purse_here", "_law_word"]
theorem sc_l_condition : FnScope n_l_condition ["_law_purse_here"] (defScope s_l_condition) := ⟨rfl, rfl, rfl, by decide +kernel, rfl, by decide +kernel, by decide +kernel⟩
abbrev s_l_deed : Stmt := topS 47
abbrev n_l_deed : List Str := ["_law_purse_here", "_law_menu"]
theorem sc_l_deed : FnScope n_l_deed ["_law_purse_here"] (defScope s_l_deed) := ⟨rfl, rfl, rfl, by decide +kernel, rfl, by decide +kernel, by decide +kernel⟩
abbrev s_l_row : Stmt := topS 48
abbrev n_l_row : List Str := ["_law_purse_here", "_law_deeds", "_law_turn"]
theorem sc_l_row : FnScope n_l_row ["_law_purse_here"] (defScope s_l_row) := ⟨rfl, rfl, rfl, by decide +kernel, rfl, by decide +kernel, by decide +kernel⟩
abbrev s_l_sender : Stmt := topS 49
abbrev n_l_sender : List Str := ["_law_purse_here", "_law_most", "_law_way", "_law_wide", "_law_found", "_law_turn"]
theorem sc_l_sender : FnScope n_l_sender ["_law_purse_here", "_law_most"] (defScope s_l_sender) := ⟨rfl, rfl, rfl, by decide +kernel, rfl, by decide +kernel, by decide +kernel⟩
abbrev s_l_line : Stmt := topS 50
abbrev n_l_line : List Str := ["_law_row_here", "_law_words", "_law_head", "_law_word", "_law_must"]
theorem sc_l_line : FnScope n_l_line ["_law_row_here"] (defScope s_l_line) := ⟨rfl, rfl, rfl, by decide +kernel, rfl, by decide +kernel, by decide +kernel⟩
abbrev s_l_lines : Stmt := topS 51
abbrev n_l_lines : List Str := ["_law_giver", "_law_row_here"]
theorem sc_l_lines : FnScope n_l_lines ["_law_giver"] (defScope s_l_lines) := ⟨rfl, rfl, rfl, by decide +kernel, rfl, by decide +kernel, by decide +kernel⟩
abbrev s_l_made_sender : Stmt := topS 52
abbrev n_l_made_sender : List Str := ["_law_giver"]
theorem sc_l_made_sender : FnScope n_l_made_sender ["_law_giver"] (defScope s_l_made_sender) := ⟨rfl, rfl, rfl, by decide +kernel, rfl, by decide +kernel, by decide +kernel⟩
abbrev s_l_blocks : Stmt := topS 53
abbrev n_l_blocks : List Str := ["_law_pieces", "_law_found", "_law_piece"]
theorem sc_l_blocks : FnScope n_l_blocks ["_law_pieces"] (defScope s_l_blocks) := ⟨rfl, rfl, rfl, by decide +kernel, rfl, by decide +kernel, by decide +kernel⟩
abbrev s_l_answer : Stmt := topS 54
abbrev n_l_answer : List Str := ["_law_purse_here", "_law_low", "_law_top_here", "_law_number", "_law_turned", "_law_blocks_here", "_law_piece"]
theorem sc_l_answer : FnScope n_l_answer ["_law_purse_here", "_law_low", "_law_top_here"] (defScope s_l_answer) := ⟨rfl, rfl, rfl, by decide +kernel, rfl, by decide +kernel, by decide +kernel⟩
abbrev s_l_answers : Stmt := topS 55
abbrev n_l_answers : List Str := ["_law_purse_here", "_law_low", "_law_top_here", "_law_many", "_law_found", "_law_least", "_law_turn"]
theorem sc_l_answers : FnScope n_l_answers ["_law_purse_here", "_law_low", "_law_top_here", "_law_many"] (defScope s_l_answers) := ⟨rfl, rfl, rfl, by decide +kernel, rfl, by decide +kernel, by decide +kernel⟩
abbrev s_l_made_answers : Stmt := topS 56
abbrev n_l_made_answers : List Str := ["_law_found", "_law_number", "_law_blocks_here"]
theorem sc_l_made_answers : FnScope n_l_made_answers ["_law_found"] (defScope s_l_made_answers) := ⟨rfl, rfl, rfl, by decide +kernel, rfl, by decide +kernel, by decide +kernel⟩
abbrev s_l_top : Stmt := topS 57
abbrev n_l_top : List Str := ["_law_memory", "_law_piece"]
theorem sc_l_top : FnScope n_l_top ["_law_memory"] (defScope s_l_top) := ⟨rfl, rfl, rfl, by decide +kernel, rfl, by decide +kernel, by decide +kernel⟩
abbrev s_l_twins : Stmt := topS 58
abbrev n_l_twins : List Str := ["_law_purse_here", "_law_wide", "_law_listed", "_law_only", "_law_at", "_law_way", "_law_conditions", "_law_deeds", "_law_k", "_law_others", "_law_word", "_law_must", "_law_one", "_law_deed_here", "_law_flag"]
theorem sc_l_twins : FnScope n_l_twins ["_law_purse_here"] (defScope s_l_twins) := ⟨rfl, rfl, rfl, by decide +kernel, rfl, by decide +kernel, by decide +kernel⟩
abbrev s_l_kept : Stmt := topS 59
abbrev n_l_kept : List Str := ["_law_memory"]
theorem sc_l_kept : FnScope n_l_kept ["_law_memory"] (defScope s_l_kept) := ⟨rfl, rfl, rfl, by decide +kernel, rfl, by decide +kernel, by decide +kernel⟩
abbrev s_l_right : Stmt := topS 60
abbrev n_l_right : List Str := ["_law_purse_here", "_law_one", "_law_other", "_law_memory", "_law_mate", "_law_turn", "_law_replies"]
theorem sc_l_right : FnScope n_l_right ["_law_purse_here"] (defScope s_l_right) := ⟨rfl, rfl, rfl, by decide +kernel, rfl, by decide +kernel, by decide +kernel⟩
abbrev s_law : Stmt := topS 61
abbrev n_law : List Str := ["_law_script", "_law_k"]
theorem sc_law : FnScope n_law ["_law_script"] (defScope s_law) := ⟨rfl, rfl, rfl, by decide +kernel, rfl, by decide +kernel, by decide +kernel⟩
def condStrs : List Str := ["silent", "still 1", "still 2", "doubt", "holes", "marked", "open"]
def deedStrs : List Str := ["clear", "free", "again first", "again holes", "again unmarked", "again all", "new", "one"]
structure Ad where
  f_is_integer : Addr
  d_is_integer : FuncData
  f_is_number : Addr
  d_is_number : FuncData
  f_check_number : Addr
  d_check_number : FuncData
  f_is_block : Addr
  d_is_block : FuncData
  f_a_init : Addr
  d_a_init : FuncData
  f_a_number : Addr
  d_a_number : FuncData
  f_a_blocks : Addr
  d_a_blocks : FuncData
  f_is_next_block : Addr
  d_is_next_block : FuncData
  f_condition_in : Addr
  d_condition_in : FuncData
  f_row_in : Addr
  d_row_in : FuncData
  f_condition_holds : Addr
  d_condition_holds : FuncData
  f_holes_below : Addr
  d_holes_below : FuncData
  f_named_by : Addr
  d_named_by : FuncData
  f_asked_by : Addr
  d_asked_by : FuncData
  f_check_rows : Addr
  d_check_rows : FuncData
  f_check_answers : Addr
  d_check_answers : FuncData
  f_s_init : Addr
  d_s_init : FuncData
  f_s_begin : Addr
  d_s_begin : FuncData
  f_s_plan : Addr
  d_s_plan : FuncData
  f_s_hear : Addr
  d_s_hear : FuncData
  f_s_close : Addr
  d_s_close : FuncData
  f_m_init : Addr
  d_m_init : FuncData
  f_m_after : Addr
  d_m_after : FuncData
  f_l_purse : Addr
  d_l_purse : FuncData
  f_l_draw : Addr
  d_l_draw : FuncData
  f_l_condition : Addr
  d_l_condition : FuncData
  f_l_deed : Addr
  d_l_deed : FuncData
  f_l_row : Addr
  d_l_row : FuncData
  f_l_sender : Addr
  d_l_sender : FuncData
  f_l_line : Addr
  d_l_line : FuncData
  f_l_lines : Addr
  d_l_lines : FuncData
  f_l_made_sender : Addr
  d_l_made_sender : FuncData
  f_l_blocks : Addr
  d_l_blocks : FuncData
  f_l_answer : Addr
  d_l_answer : FuncData
  f_l_answers : Addr
  d_l_answers : FuncData
  f_l_made_answers : Addr
  d_l_made_answers : FuncData
  f_l_top : Addr
  d_l_top : FuncData
  f_l_twins : Addr
  d_l_twins : FuncData
  f_l_kept : Addr
  d_l_kept : FuncData
  f_l_right : Addr
  d_l_right : FuncData
  f_law : Addr
  d_law : FuncData
  c_Sender : Addr
  c_Memory : Addr
  c_Answer : Addr
  p_number : Addr
  p_blocks : Addr
  t_CONDITIONS : Addr
  t_DEEDS : Addr
  t_empty : Addr
structure Txt (K : PySem.W.Frag) (mg : Str → Option Value) (a : Ad) : Prop where
  n_isinstance : mg "isinstance" = none
  n_int : mg "int" = none
  n_bool : mg "bool" = none
  n_tuple : mg "tuple" = none
  n_str : mg "str" = none
  n_len : mg "len" = none
  n_list : mg "list" = none
  n_range : mg "range" = none
  n_enumerate : mg "enumerate" = none
  n_all : mg "all" = none
  n_any : mg "any" = none
  n_min : mg "min" = none
  n_max : mg "max" = none
  n_abs : mg "abs" = none
  n_divmod : mg "divmod" = none
  n_repr : mg "repr" = none
  c_MOST_SELECTORS : ∃ u, mg "MOST_SELECTORS" = some u ∧ RelV (.int 3) u
  c_MOST_WINDOW : ∃ u, mg "MOST_WINDOW" = some u ∧ RelV (.int 4) u
  c_MOST_ROWS : ∃ u, mg "MOST_ROWS" = some u ∧ RelV (.int 8) u
  c_MOST_PARTS : ∃ u, mg "MOST_PARTS" = some u ∧ RelV (.int 3) u
  c_MOST_ANSWERS : ∃ u, mg "MOST_ANSWERS" = some u ∧ RelV (.int 5) u
  c_CONDITIONS : ∃ u, mg "CONDITIONS" = some u ∧ RelV (.ref a.t_CONDITIONS) u
  q_CONDITIONS : ∀ H : Hp, SqT K H a.t_CONDITIONS (condStrs.map V.str)
  c_DEEDS : ∃ u, mg "DEEDS" = some u ∧ RelV (.ref a.t_DEEDS) u
  q_DEEDS : ∀ H : Hp, SqT K H a.t_DEEDS (deedStrs.map V.str)
  m_Sender : mg "Sender" = some (.ref a.c_Sender)
  cl_Sender : Cls K a.c_Sender
  mk_Sender : Mk K a.c_Sender a.f_s_init
  na_Sender_window : NoAttr K a.c_Sender "window"
  na_Sender_rows : NoAttr K a.c_Sender "rows"
  na_Sender_marks_last : NoAttr K a.c_Sender "marks_last"
  na_Sender_program : NoAttr K a.c_Sender "program"
  na_Sender_asks_silent : NoAttr K a.c_Sender "asks_silent"
  na_Sender_asks_still : NoAttr K a.c_Sender "asks_still"
  m_Memory : mg "Memory" = some (.ref a.c_Memory)
  cl_Memory : Cls K a.c_Memory
  mk_Memory : Mk K a.c_Memory a.f_m_init
  na_Memory_sender : NoAttr K a.c_Memory "sender"
  na_Memory_state : NoAttr K a.c_Memory "state"
  na_Memory_base : NoAttr K a.c_Memory "base"
  na_Memory_top : NoAttr K a.c_Memory "top"
  na_Memory_marked : NoAttr K a.c_Memory "marked"
  na_Memory_freed : NoAttr K a.c_Memory "freed"
  na_Memory_still : NoAttr K a.c_Memory "still"
  na_Memory_heard : NoAttr K a.c_Memory "heard"
  na_Memory_letters : NoAttr K a.c_Memory "letters"
  m_Answer : mg "Answer" = some (.ref a.c_Answer)
  cl_Answer : Cls K a.c_Answer
  mk_Answer : Mk K a.c_Answer a.f_a_init
  na_Answer_told_number : NoAttr K a.c_Answer "told_number"
  na_Answer_told_blocks : NoAttr K a.c_Answer "told_blocks"
  ic_Answer : C8.InsC K a.c_Answer
  F_is_integer : Fun K "is_integer" "is_integer" s_is_integer a.f_is_integer a.d_is_integer
  b_is_integer : Binds K a.d_is_integer ["value"] []
  m_is_integer : mg "is_integer" = some (.ref a.f_is_integer)
  F_is_number : Fun K "is_number" "is_number" s_is_number a.f_is_number a.d_is_number
  b_is_number : Binds K a.d_is_number ["value"] []
  m_is_number : mg "is_number" = some (.ref a.f_is_number)
  F_check_number : Fun K "check_number" "check_number" s_check_number a.f_check_number a.d_check_number
  b_check_number : Binds K a.d_check_number ["value"] []
  m_check_number : mg "check_number" = some (.ref a.f_check_number)
  F_is_block : Fun K "is_block" "is_block" s_is_block a.f_is_block a.d_is_block
  b_is_block : Binds K a.d_is_block ["value"] []
  m_is_block : mg "is_block" = some (.ref a.f_is_block)
  F_a_init : FunD K "__init__" "Answer.__init__" (defArgs s_a_init) (defBody s_a_init) (defScope s_a_init) [V.ref a.t_empty] [] a.f_a_init a.d_a_init
  b_a_init : Binds K a.d_a_init ["self", "number", "blocks"] []
  F_a_number : Fun K "number" "Answer.number" s_a_number a.f_a_number a.d_a_number
  b_a_number : Binds K a.d_a_number ["self"] []
  pr_a_number : PropOf K a.c_Answer "number" a.p_number a.f_a_number
  F_a_blocks : Fun K "blocks" "Answer.blocks" s_a_blocks a.f_a_blocks a.d_a_blocks
  b_a_blocks : Binds K a.d_a_blocks ["self"] []
  pr_a_blocks : PropOf K a.c_Answer "blocks" a.p_blocks a.f_a_blocks
  F_is_next_block : Fun K "is_next_block" "is_next_block" s_is_next_block a.f_is_next_block a.d_is_next_block
  b_is_next_block : Binds K a.d_is_next_block ["number", "ahead", "value"] []
  m_is_next_block : mg "is_next_block" = some (.ref a.f_is_next_block)
  F_condition_in : Fun K "condition_in" "condition_in" s_condition_in a.f_condition_in a.d_condition_in
  b_condition_in : Binds K a.d_condition_in ["text"] []
  m_condition_in : mg "condition_in" = some (.ref a.f_condition_in)
  F_row_in : Fun K "row_in" "row_in" s_row_in a.f_row_in a.d_row_in
  b_row_in : Binds K a.d_row_in ["text"] []
  m_row_in : mg "row_in" = some (.ref a.f_row_in)
  F_condition_holds : Fun K "condition_holds" "condition_holds" s_condition_holds a.f_condition_holds a.d_condition_holds
  b_condition_holds : Binds K a.d_condition_holds ["word", "base", "top", "marked", "still", "heard"] []
  m_condition_holds : mg "condition_holds" = some (.ref a.f_condition_holds)
  F_holes_below : Fun K "holes_below" "holes_below" s_holes_below a.f_holes_below a.d_holes_below
  b_holes_below : Binds K a.d_holes_below ["unmarked", "marked"] []
  m_holes_below : mg "holes_below" = some (.ref a.f_holes_below)
  F_named_by : Fun K "named_by" "named_by" s_named_by a.f_named_by a.d_named_by
  b_named_by : Binds K a.d_named_by ["deed", "base", "top", "marked"] []
  m_named_by : mg "named_by" = some (.ref a.f_named_by)
  F_asked_by : Fun K "asked_by" "asked_by" s_asked_by a.f_asked_by a.d_asked_by
  b_asked_by : Binds K a.d_asked_by ["deed", "free"] []
  m_asked_by : mg "asked_by" = some (.ref a.f_asked_by)
  F_check_rows : Fun K "check_rows" "check_rows" s_check_rows a.f_check_rows a.d_check_rows
  b_check_rows : Binds K a.d_check_rows ["rows"] []
  m_check_rows : mg "check_rows" = some (.ref a.f_check_rows)
  F_check_answers : Fun K "check_answers" "check_answers" s_check_answers a.f_check_answers a.d_check_answers
  b_check_answers : Binds K a.d_check_answers ["answers", "base", "top"] []
  m_check_answers : mg "check_answers" = some (.ref a.f_check_answers)
  F_s_init : FunD K "__init__" "Sender.__init__" (defArgs s_s_init) (defBody s_s_init) (defScope s_s_init) [V.bl false] [] a.f_s_init a.d_s_init
  b_s_init : Binds K a.d_s_init ["self", "window", "rows", "last"] []
  F_s_begin : Fun K "begin" "Sender.begin" s_s_begin a.f_s_begin a.d_s_begin
  b_s_begin : Binds K a.d_s_begin ["self"] []
  mt_s_begin : Meth K a.c_Sender "begin" a.f_s_begin
  F_s_plan : Fun K "plan" "Sender.plan" s_s_plan a.f_s_plan a.d_s_plan
  b_s_plan : Binds K a.d_s_plan ["self", "state"] []
  mt_s_plan : Meth K a.c_Sender "plan" a.f_s_plan
  F_s_hear : Fun K "hear" "Sender.hear" s_s_hear a.f_s_hear a.d_s_hear
  b_s_hear : Binds K a.d_s_hear ["self", "state", "number", "blocks"] []
  mt_s_hear : Meth K a.c_Sender "hear" a.f_s_hear
  F_s_close : Fun K "close" "Sender.close" s_s_close a.f_s_close a.d_s_close
  b_s_close : Binds K a.d_s_close ["self", "state", "begun"] []
  mt_s_close : Meth K a.c_Sender "close" a.f_s_close
  F_m_init : Fun K "__init__" "Memory.__init__" s_m_init a.f_m_init a.d_m_init
  b_m_init : Binds K a.d_m_init ["self", "sender", "state"] []
  F_m_after : Fun K "after" "Memory.after" s_m_after a.f_m_after a.d_m_after
  b_m_after : Binds K a.d_m_after ["self", "answers"] []
  mt_m_after : Meth K a.c_Memory "after" a.f_m_after
  F_l_purse : Fun K "_law_purse" "_law_purse" s_l_purse a.f_l_purse a.d_l_purse
  b_l_purse : Binds K a.d_l_purse ["_law_script", "_law_k"] []
  m_l_purse : mg "_law_purse" = some (.ref a.f_l_purse)
  F_l_draw : Fun K "_law_draw" "_law_draw" s_l_draw a.f_l_draw a.d_l_draw
  b_l_draw : Binds K a.d_l_draw ["_law_purse_here", "_law_many"] []
  m_l_draw : mg "_law_draw" = some (.ref a.f_l_draw)
  F_l_condition : Fun K "_law_condition" "_law_condition" s_l_condition a.f_l_condition a.d_l_condition
  b_l_condition : Binds K a.d_l_condition ["_law_purse_here"] []
  m_l_condition : mg "_law_condition" = some (.ref a.f_l_condition)
  F_l_deed : Fun K "_law_deed" "_law_deed" s_l_deed a.f_l_deed a.d_l_deed
  b_l_deed : Binds K a.d_l_deed ["_law_purse_here"] []
  m_l_deed : mg "_law_deed" = some (.ref a.f_l_deed)
  F_l_row : Fun K "_law_row" "_law_row" s_l_row a.f_l_row a.d_l_row
  b_l_row : Binds K a.d_l_row ["_law_purse_here"] []
  m_l_row : mg "_law_row" = some (.ref a.f_l_row)
  F_l_sender : Fun K "_law_sender" "_law_sender" s_l_sender a.f_l_sender a.d_l_sender
  b_l_sender : Binds K a.d_l_sender ["_law_purse_here", "_law_most"] []
  m_l_sender : mg "_law_sender" = some (.ref a.f_l_sender)
  F_l_line : Fun K "_law_line" "_law_line" s_l_line a.f_l_line a.d_l_line
  b_l_line : Binds K a.d_l_line ["_law_row_here"] []
  m_l_line : mg "_law_line" = some (.ref a.f_l_line)
  F_l_lines : Fun K "_law_lines" "_law_lines" s_l_lines a.f_l_lines a.d_l_lines
  b_l_lines : Binds K a.d_l_lines ["_law_giver"] []
  m_l_lines : mg "_law_lines" = some (.ref a.f_l_lines)
  F_l_made_sender : Fun K "_law_made_sender" "_law_made_sender" s_l_made_sender a.f_l_made_sender a.d_l_made_sender
  b_l_made_sender : Binds K a.d_l_made_sender ["_law_giver"] []
  m_l_made_sender : mg "_law_made_sender" = some (.ref a.f_l_made_sender)
  F_l_blocks : Fun K "_law_blocks" "_law_blocks" s_l_blocks a.f_l_blocks a.d_l_blocks
  b_l_blocks : Binds K a.d_l_blocks ["_law_pieces"] []
  m_l_blocks : mg "_law_blocks" = some (.ref a.f_l_blocks)
  F_l_answer : Fun K "_law_answer" "_law_answer" s_l_answer a.f_l_answer a.d_l_answer
  b_l_answer : Binds K a.d_l_answer ["_law_purse_here", "_law_low", "_law_top_here"] []
  m_l_answer : mg "_law_answer" = some (.ref a.f_l_answer)
  F_l_answers : Fun K "_law_answers" "_law_answers" s_l_answers a.f_l_answers a.d_l_answers
  b_l_answers : Binds K a.d_l_answers ["_law_purse_here", "_law_low", "_law_top_here", "_law_many"] []
  m_l_answers : mg "_law_answers" = some (.ref a.f_l_answers)
  F_l_made_answers : Fun K "_law_made_answers" "_law_made_answers" s_l_made_answers a.f_l_made_answers a.d_l_made_answers
  b_l_made_answers : Binds K a.d_l_made_answers ["_law_found"] []
  m_l_made_answers : mg "_law_made_answers" = some (.ref a.f_l_made_answers)
  F_l_top : Fun K "_law_top" "_law_top" s_l_top a.f_l_top a.d_l_top
  b_l_top : Binds K a.d_l_top ["_law_memory"] []
  m_l_top : mg "_law_top" = some (.ref a.f_l_top)
  F_l_twins : Fun K "_law_twins" "_law_twins" s_l_twins a.f_l_twins a.d_l_twins
  b_l_twins : Binds K a.d_l_twins ["_law_purse_here"] []
  m_l_twins : mg "_law_twins" = some (.ref a.f_l_twins)
  F_l_kept : Fun K "_law_kept" "_law_kept" s_l_kept a.f_l_kept a.d_l_kept
  b_l_kept : Binds K a.d_l_kept ["_law_memory"] []
  m_l_kept : mg "_law_kept" = some (.ref a.f_l_kept)
  F_l_right : Fun K "_law_right" "_law_right" s_l_right a.f_l_right a.d_l_right
  b_l_right : Binds K a.d_l_right ["_law_purse_here"] []
  m_l_right : mg "_law_right" = some (.ref a.f_l_right)
  F_law : Fun K "law" "law" s_law a.f_law a.d_law
  b_law : Binds K a.d_law ["_law_script"] []
  m_law : mg "law" = some (.ref a.f_law)
end Fb
/-! How the heap bears the data (each word is kept when the heap grows), and the promise of each def. -/
namespace Fb
open PySem PySem.Spec PyProof.Rows L2
abbrev iVs (ns : List Int) : List V := ns.map V.int
abbrev refs (as : List Addr) : List V := as.map V.ref
theorem Paired.up {α : Type} {F : Hp → Addr → α → Prop} {H H' : Hp} (m : ∀ a x, F H a x → F H' a x) {as : List Addr} {xs : List α} (h : Paired (F H) as xs) : Paired (F H') as xs := Paired.mapP h m
theorem Paired.at {α β : Type} {F : α → β → Prop} : ∀ {as : List α} {bs : List β} {i : Nat} {a : α}, Paired F as bs → as[i]? = some a → ∃ b, bs[i]? = some b ∧ F a b
  | _, _, _, _, .nil, e => by cases e
  | _, _, 0, _, .cons r _, e => by
    cases e
    exact ⟨_, rfl, r⟩
  | _, _, i + 1, a, .cons _ t, e => Paired.at (i := i) (a := a) t e
theorem Paired.app {α β : Type} {F : α → β → Prop} : ∀ {as cs : List α} {bs ds : List β}, Paired F as bs → Paired F cs ds → Paired F (as ++ cs) (bs ++ ds)
  | _, _, _, _, .nil, s => s
  | _, _, _, _, .cons r t, s => .cons r (Paired.app t s)
theorem Paired.tk {α β : Type} {F : α → β → Prop} : ∀ {as : List α} {bs : List β} (n : Nat), Paired F as bs → Paired F (as.take n) (bs.take n)
  | _, _, 0, _ => .nil
  | _, _, _ + 1, .nil => .nil
  | _, _, n + 1, .cons r t => .cons r (Paired.tk n t)
theorem Paired.dp {α β : Type} {F : α → β → Prop} : ∀ {as : List α} {bs : List β} (n : Nat), Paired F as bs → Paired F (as.drop n) (bs.drop n)
  | _, _, 0, r => r
  | _, _, _ + 1, .nil => .nil
  | _, _, n + 1, .cons _ t => Paired.dp n t
theorem Paired.rev {α β : Type} {F : α → β → Prop} : ∀ {as : List α} {bs : List β}, Paired F as bs → Paired F as.reverse bs.reverse
  | _, _, .nil => .nil
  | _, _, .cons r t => by
    rw [List.reverse_cons, List.reverse_cons]
    exact Paired.app (Paired.rev t) (.cons r .nil)
/-! ### the purse: what is known of the heap but for it -/
def hid (p : Addr) (H : Hp) : Hp := fun b => if b = p then none else H b
theorem hid_ne {p b : Addr} {H : Hp} (h : b ≠ p) : hid p H b = H b := if_neg h
theorem hid_self {p : Addr} {H : Hp} : hid p H p = none := if_pos rfl
theorem hid_some {p b : Addr} {H : Hp} {o : HO} (h : hid p H b = some o) : H b = some o ∧ b ≠ p := by
  unfold hid at h
  split at h
  · cases h
  · exact ⟨h, by assumption⟩
theorem hid_same {p : Addr} {H : Hp} : Same (hid p H) H := fun b o h => (hid_some h).1
abbrev Ext (p : Addr) (H H' : Hp) : Prop := Same (hid p H) (hid p H')
theorem Ext.of {p : Addr} {H H' : Hp} (h : Same H H') : Ext p H H' := by
  intro b o e
  obtain ⟨e1, e2⟩ := hid_some e
  rw [hid_ne e2]
  exact h b o e1
theorem Ext.keep {p b : Addr} {H H' : Hp} {o : HO} (x : Ext p H H') (e : H b = some o) (ne : b ≠ p) : H' b = some o := (hid_some (x b o (by rw [hid_ne ne]; exact e))).1
theorem Ext.upd {p : Addr} {H : Hp} {o : HO} : Ext p H (upd H p o) := by
  intro b u e
  obtain ⟨e1, e2⟩ := hid_some e
  rw [hid_ne e2, upd_ne e2]
  exact e1
def PurseAt (H : Hp) (p : Addr) : Prop := ∃ x y z : Int, H p = some (.lst [.int x, .int y, .int z])
theorem PurseAt.up {H H' : Hp} {p : Addr} (e : Same H H') (h : PurseAt H p) : PurseAt H' p := by
  obtain ⟨x, y, z, h⟩ := h
  exact ⟨x, y, z, e _ _ h⟩
theorem Same.new {H : Hp} {p : Addr} {o : HO} (h : H p = none) : Same H (upd H p o) := fun b u e => by
  rw [upd_ne (ne_of_none e h)]
  exact e
/-- an object that H does not know may change -/
theorem Same.mut {H H' : Hp} {p : Addr} {o : HO} (e : Same H H') (h : H p = none) : Same H (upd H' p o) := fun b u e' => by
  rw [upd_ne (ne_of_none e' h)]
  exact e b u e'
theorem Same.made2 {H H1 : Hp} {x dx : Addr} {o : HO} (nx : H x = none) (nd : H dx = none) (k : Same (upd (upd H dx (.own x)) x o) H1 ∨ ∀ b u, (upd (upd H dx (.own x)) x o) b = some u → b ≠ x → H1 b = some u) : Same H H1 := by
  intro b u e
  have h1 : b ≠ x := ne_of_none e nx
  have e2 : (upd (upd H dx (.own x)) x o) b = some u := by
    rw [upd_ne h1, upd_ne (ne_of_none e nd)]
    exact e
  rcases k with k | k
  · exact k b u e2
  · exact k b u e2 h1
/-- what is new -/
def nw (H H' : Hp) : Hp := fun b => match H b with
  | none => H' b
  | some _ => none
theorem nw_some {H H' : Hp} {b : Addr} {o : HO} (h : nw H H' b = some o) : H b = none ∧ H' b = some o := by
  unfold nw at h
  split at h
  · exact ⟨by assumption, h⟩
  · cases h
theorem nw_of {H H' : Hp} {b : Addr} {o : HO} (h : H b = none) (h' : H' b = some o) : nw H H' b = some o := by
  unfold nw
  rw [h]
  exact h'
/-! ### blocks, answers -/
def BlkAt (H : Hp) (a : Addr) (k : Blk) : Prop := H a = some (.tup [.int k.1, .int k.2])
def BlksT (H : Hp) (p : Addr) (bs : List Blk) : Prop := ∃ as, H p = some (.tup (refs as)) ∧ Paired (BlkAt H) as bs
theorem BlkAt.up {H H' : Hp} (e : Same H H') {a : Addr} {k : Blk} (h : BlkAt H a k) : BlkAt H' a k := e _ _ h
theorem BlksT.up {H H' : Hp} (e : Same H H') {p : Addr} {bs : List Blk} (h : BlksT H p bs) : BlksT H' p bs := by
  obtain ⟨as, h1, h2⟩ := h
  exact ⟨as, e _ _ h1, Paired.mapP h2 fun _ _ => BlkAt.up e⟩
/-- an answer as the law holds it: (number, blocks) -/
def AnsT (H : Hp) (a : Addr) (x : Ans) : Prop := ∃ b, H a = some (.tup [.int x.1, .ref b]) ∧ BlksT H b x.2
theorem AnsT.up {H H' : Hp} (e : Same H H') {a : Addr} {x : Ans} (h : AnsT H a x) : AnsT H' a x := by
  obtain ⟨b, h1, h2⟩ := h
  exact ⟨b, e _ _ h1, h2.up e⟩
def AnssL (H : Hp) (l : Addr) (xs : List Ans) : Prop := ∃ as, H l = some (.lst (refs as)) ∧ Paired (AnsT H) as xs
theorem AnssL.up {H H' : Hp} (e : Same H H') {l : Addr} {xs : List Ans} (h : AnssL H l xs) : AnssL H' l xs := by
  obtain ⟨as, h1, h2⟩ := h
  exact ⟨as, e _ _ h1, Paired.mapP h2 fun _ _ => AnsT.up e⟩
/-- an Answer -/
def AnsI (C : Addr) (H : Hp) (a : Addr) (x : Ans) : Prop := ∃ dx fs b, H a = some (.ins C dx fs) ∧ fs.lookup ("told_number" : Str) = some (.int x.1) ∧ fs.lookup ("told_blocks" : Str) = some (.ref b) ∧ BlksT H b x.2
theorem AnsI.up {C : Addr} {H H' : Hp} (e : Same H H') {a : Addr} {x : Ans} (h : AnsI C H a x) : AnsI C H' a x := by
  obtain ⟨dx, fs, b, h1, h2, h3, h4⟩ := h
  exact ⟨dx, fs, b, e _ _ h1, h2, h3, h4.up e⟩
def AnssI (C : Addr) (H : Hp) (t : Addr) (xs : List Ans) : Prop := ∃ as, H t = some (.tup (refs as)) ∧ Paired (AnsI C H) as xs
theorem AnssI.up {C : Addr} {H H' : Hp} (e : Same H H') {t : Addr} {xs : List Ans} (h : AnssI C H t xs) : AnssI C H' t xs := by
  obtain ⟨as, h1, h2⟩ := h
  exact ⟨as, e _ _ h1, Paired.mapP h2 fun _ _ => AnsI.up e⟩
/-! ### rows: as the law holds them (lists), as the program does (tuples) -/
def CondAt (H : Hp) (a : Addr) (c : Cond) : Prop := H a = some (.tup [.str (wS c.1), .bl c.2])
theorem CondAt.up {H H' : Hp} (e : Same H H') {a : Addr} {c : Cond} (h : CondAt H a c) : CondAt H' a c := e _ _ h
abbrev dVs (ds : List Dd) : List V := ds.map fun d => V.str (dS d)
def CondsL (H : Hp) (l : Addr) (cs : List Cond) : Prop := ∃ as, H l = some (.lst (refs as)) ∧ Paired (CondAt H) as cs
def CondsT (H : Hp) (l : Addr) (cs : List Cond) : Prop := ∃ as, H l = some (.tup (refs as)) ∧ Paired (CondAt H) as cs
theorem CondsL.up {H H' : Hp} (e : Same H H') {l : Addr} {cs : List Cond} (h : CondsL H l cs) : CondsL H' l cs := by
  obtain ⟨as, h1, h2⟩ := h
  exact ⟨as, e _ _ h1, Paired.mapP h2 fun _ _ => CondAt.up e⟩
theorem CondsT.up {H H' : Hp} (e : Same H H') {l : Addr} {cs : List Cond} (h : CondsT H l cs) : CondsT H' l cs := by
  obtain ⟨as, h1, h2⟩ := h
  exact ⟨as, e _ _ h1, Paired.mapP h2 fun _ _ => CondAt.up e⟩
def RowL (H : Hp) (a : Addr) (r : Row) : Prop := ∃ c d, H a = some (.tup [.ref c, .ref d]) ∧ CondsL H c r.1 ∧ H d = some (.lst (dVs r.2))
def RowT (H : Hp) (a : Addr) (r : Row) : Prop := ∃ c d, H a = some (.tup [.ref c, .ref d]) ∧ CondsT H c r.1 ∧ H d = some (.tup (dVs r.2))
theorem RowL.up {H H' : Hp} (e : Same H H') {a : Addr} {r : Row} (h : RowL H a r) : RowL H' a r := by
  obtain ⟨c, d, h1, h2, h3⟩ := h
  exact ⟨c, d, e _ _ h1, h2.up e, e _ _ h3⟩
theorem RowT.up {H H' : Hp} (e : Same H H') {a : Addr} {r : Row} (h : RowT H a r) : RowT H' a r := by
  obtain ⟨c, d, h1, h2, h3⟩ := h
  exact ⟨c, d, e _ _ h1, h2.up e, e _ _ h3⟩
def RowsL (H : Hp) (l : Addr) (rs : List Row) : Prop := ∃ as, H l = some (.lst (refs as)) ∧ Paired (RowL H) as rs
def RowsT (H : Hp) (l : Addr) (rs : List Row) : Prop := ∃ as, H l = some (.tup (refs as)) ∧ Paired (RowT H) as rs
theorem RowsL.up {H H' : Hp} (e : Same H H') {l : Addr} {rs : List Row} (h : RowsL H l rs) : RowsL H' l rs := by
  obtain ⟨as, h1, h2⟩ := h
  exact ⟨as, e _ _ h1, Paired.mapP h2 fun _ _ => RowL.up e⟩
theorem RowsT.up {H H' : Hp} (e : Same H H') {l : Addr} {rs : List Row} (h : RowsT H l rs) : RowsT H' l rs := by
  obtain ⟨as, h1, h2⟩ := h
  exact ⟨as, e _ _ h1, Paired.mapP h2 fun _ _ => RowT.up e⟩
/-- (window, rows, whether it marks last) -/
def GiverAt (H : Hp) (g : Addr) (win : Int) (rs : List Row) (last : Bool) : Prop := ∃ l, H g = some (.tup [.int win, .ref l, .bl last]) ∧ RowsL H l rs
theorem GiverAt.up {H H' : Hp} (e : Same H H') {g : Addr} {win : Int} {rs : List Row} {last : Bool} (h : GiverAt H g win rs last) : GiverAt H' g win rs last := by
  obtain ⟨l, h1, h2⟩ := h
  exact ⟨l, e _ _ h1, h2.up e⟩
/-! ### senders, states, memories -/
structure SFields (fs : List (Str × V)) (win : Int) (last : Bool) (pt : Addr) (aS : Bool) (aT : Int) : Prop where
  window : fs.lookup ("window" : Str) = some (.int win)
  last : fs.lookup ("marks_last" : Str) = some (.bl last)
  program : fs.lookup ("program" : Str) = some (.ref pt)
  silent : fs.lookup ("asks_silent" : Str) = some (.bl aS)
  still : fs.lookup ("asks_still" : Str) = some (.int aT)
  noPlan : fs.lookup ("plan" : Str) = none
  noHear : fs.lookup ("hear" : Str) = none
  noClose : fs.lookup ("close" : Str) = none
  noBegin : fs.lookup ("begin" : Str) = none
structure RsOk (rs : List Row) : Prop where
  l1 : 1 ≤ rs.length
  l8 : rs.length ≤ 8
  each : ∀ r ∈ rs, RowOk r
def SenAt (C : Addr) (H : Hp) (s : Addr) (win : Int) (last : Bool) (rs : List Row) : Prop := ∃ dx fs pt, H s = some (.ins C dx fs) ∧ SFields fs win last pt (asksS rs) (asksT rs) ∧ RowsT H pt rs
theorem SenAt.up {C : Addr} {H H' : Hp} (e : Same H H') {s : Addr} {win : Int} {last : Bool} {rs : List Row} (h : SenAt C H s win last rs) : SenAt C H' s win last rs := by
  obtain ⟨dx, fs, pt, h1, h2, h3⟩ := h
  exact ⟨dx, fs, pt, e _ _ h1, h2, h3.up e⟩
def StT (H : Hp) (t : Addr) (S : Mem) : Prop := ∃ m f, H t = some (.tup [.int S.base, .int S.top, .ref m, .ref f, .int S.still, .bl S.heard]) ∧ H m = some (.tup (iVs S.marked)) ∧ H f = some (.tup (iVs S.freed))
theorem StT.up {H H' : Hp} (e : Same H H') {t : Addr} {S : Mem} (h : StT H t S) : StT H' t S := by
  obtain ⟨m, f, h1, h2, h3⟩ := h
  exact ⟨m, f, e _ _ h1, e _ _ h2, e _ _ h3⟩
structure MFields (fs : List (Str × V)) (s t : Addr) (S : Mem) (m f l : Addr) : Prop where
  sender : fs.lookup ("sender" : Str) = some (.ref s)
  state : fs.lookup ("state" : Str) = some (.ref t)
  base : fs.lookup ("base" : Str) = some (.int S.base)
  top : fs.lookup ("top" : Str) = some (.int S.top)
  marked : fs.lookup ("marked" : Str) = some (.ref m)
  freed : fs.lookup ("freed" : Str) = some (.ref f)
  letters : fs.lookup ("letters" : Str) = some (.ref l)
  noAfter : fs.lookup ("after" : Str) = none
def MemAt (CS CM : Addr) (H : Hp) (x : Addr) (win : Int) (last : Bool) (rs : List Row) (S : Mem) : Prop := ∃ dx fs s t m f l, H x = some (.ins CM dx fs) ∧ MFields fs s t S m f l ∧ SenAt CS H s win last rs ∧ StT H t S ∧
  H m = some (.tup (iVs S.marked)) ∧ H f = some (.tup (iVs S.freed)) ∧ H l = some (.tup (iVs (letters win rs S)))
theorem MemAt.up {CS CM : Addr} {H H' : Hp} (e : Same H H') {x : Addr} {win : Int} {last : Bool} {rs : List Row} {S : Mem} (h : MemAt CS CM H x win last rs S) : MemAt CS CM H' x win last rs S := by
  obtain ⟨dx, fs, s, t, m, f, l, h1, h2, h3, h4, h5, h6, h7⟩ := h
  exact ⟨dx, fs, s, t, m, f, l, e _ _ h1, h2, h3.up e, h4.up e, e _ _ h5, e _ _ h6, e _ _ h7⟩
/-! ### the promises of the program's defs -/
section
variable (K : PySem.W.Frag) (a : Ad)
def sp_is_integer : Sp := fun vs H Q _ => ∃ i : Int, vs = [.int i] ∧ Q (.bl true) H
def sp_is_number : Sp := fun vs H Q _ => ∃ i : Int, vs = [.int i] ∧ Q (.bl (decide (0 ≤ i))) H
def sp_check_number : Sp := fun vs H Q _ => ∃ i : Int, vs = [.int i] ∧ 0 ≤ i ∧ Q .non H
def sp_is_block : Sp := fun vs H Q _ => ∃ (t : Addr) (k : Blk), vs = [.ref t] ∧ BlkAt H t k ∧ 0 ≤ k.1 ∧ k.1 < k.2 ∧ Q (.bl true) H
def sp_is_next_block : Sp := fun vs H Q _ => ∃ (n : Int) (p q : Addr) (bs : List Blk) (k : Blk), vs = [.int n, .ref p, .ref q] ∧ BlksT H p bs ∧ BlkAt H q k ∧ 0 ≤ n ∧ n < k.1 ∧ k.1 < k.2 ∧ bs.length ≤ 3 ∧ (∀ x ∈ bs, k.2 < x.1 ∨ x.2 < k.1) ∧
  ∀ H', Same H H' → Q (.bl true) H'
def sp_a_init : Sp := fun vs H Q _ => ∃ (x dx t : Addr) (y : Ans), vs = [.ref x, .int y.1, .ref t] ∧ H x = some (.ins a.c_Answer dx []) ∧ BlksT H t y.2 ∧ BlksOk y.1 y.2 ∧
  ∀ H', AnsI a.c_Answer H' x y → (∀ b o, H b = some o → b ≠ x → H' b = some o) → Q .non H'
def sp_a_number : Sp := fun vs H Q _ => ∃ (x : Addr) (y : Ans), vs = [.ref x] ∧ AnsI a.c_Answer H x y ∧ Q (.int y.1) H
def sp_a_blocks : Sp := fun vs H Q _ => ∃ (x : Addr) (y : Ans), vs = [.ref x] ∧ AnsI a.c_Answer H x y ∧ ∀ b, BlksT H b y.2 → Q (.ref b) H
def sp_condition_in : Sp := fun vs H Q _ => ∃ c : Cond, vs = [.str (cS c)] ∧ ∀ r H', Same H H' → CondAt H' r c → Q (.ref r) H'
def sp_row_in : Sp := fun vs H Q _ => ∃ r : Row, vs = [.str (line r)] ∧ RowOk r ∧ ∀ t H', Same H H' → RowT H' t r → Q (.ref t) H'
def sp_holes_below : Sp := fun vs H Q _ => ∃ (u m : Addr) (us ms : List Int), vs = [.ref u, .ref m] ∧ H u = some (.lst (iVs us)) ∧ H m = some (.tup (iVs ms)) ∧ us.length ≤ 1000 ∧ ms.length ≤ 1000 ∧
  ∀ l H', Same H H' → H' l = some (.lst (iVs (below us ms))) → Q (.ref l) H'
def sp_condition_holds : Sp := fun vs H Q _ => ∃ (w : Wd) (b t : Int) (m : Addr) (ms : List Int) (s : Int) (h : Bool), vs = [.str (wS w), .int b, .int t, .ref m, .int s, .bl h] ∧ H m = some (.tup (iVs ms)) ∧ 0 ≤ b ∧ b ≤ t ∧ t ≤ b + 1000 ∧ t ≤ 100000 ∧ ms.length ≤ 1000 ∧
  ∀ H', Same H H' → Q (.bl (cond w b t ms s h)) H'
def sp_named_by : Sp := fun vs H Q _ => ∃ (d : Dd) (b t : Int) (m : Addr) (ms : List Int), vs = [.str (dS d), .int b, .int t, .ref m] ∧ H m = some (.tup (iVs ms)) ∧ 0 ≤ b ∧ b ≤ t ∧ t ≤ b + 1000 ∧ t ≤ 100000 ∧ ms.length ≤ 1000 ∧
  ∀ l H', Same H H' → H' l = some (.lst (iVs (named d b t ms))) → Q (.ref l) H'
def sp_asked_by : Sp := fun vs H Q _ => ∃ (d : Dd) (f : Int), vs = [.str (dS d), .int f] ∧ Q (.int (asked d f)) H
def sp_check_rows : Sp := fun vs H Q _ => ∃ (t : Addr) (rs : List Row), vs = [.ref t] ∧ H t = some (.tup (rs.map fun r => V.str (line r))) ∧ RsOk rs ∧ ∀ H', Same H H' → Q .non H'
def sp_check_answers : Sp := fun vs H Q _ => ∃ (t : Addr) (b top : Int) (xs : List Ans), vs = [.ref t, .int b, .int top] ∧ AnssI a.c_Answer H t xs ∧ Anss top b xs ∧ xs.length ≤ 5 ∧ ∀ H', Same H H' → Q .non H'
def sp_s_init : Sp := fun vs H Q _ => ∃ (x dx t : Addr) (win : Int) (last : Bool) (rs : List Row), vs = [.ref x, .int win, .ref t, .bl last] ∧ H x = some (.ins a.c_Sender dx []) ∧ H t = some (.tup (rs.map fun r => V.str (line r))) ∧ RsOk rs ∧ 1 ≤ win ∧ win ≤ 4 ∧
  ∀ H', SenAt a.c_Sender H' x win last rs → (∀ b o, H b = some o → b ≠ x → H' b = some o) → Q .non H'
def sp_s_begin : Sp := fun vs H Q _ => ∃ (s : Addr) (win : Int) (last : Bool) (rs : List Row), vs = [.ref s] ∧ SenAt a.c_Sender H s win last rs ∧ RsOk rs ∧ 1 ≤ win ∧ win ≤ 4 ∧
  ∀ x H', Same H H' → MemAt a.c_Sender a.c_Memory H' x win last rs begin → Q (.ref x) H'
def sp_s_plan : Sp := fun vs H Q _ => ∃ (s t : Addr) (win : Int) (last : Bool) (rs : List Row) (S : Mem), vs = [.ref s, .ref t] ∧ SenAt a.c_Sender H s win last rs ∧ RsOk rs ∧ StT H t S ∧ StOk win S ∧ S.top ≤ 1000 ∧
  ∀ r l t2 H', Same H H' → H' r = some (.tup [.ref l, .ref t2]) → H' l = some (.tup (iVs (letters win rs S))) → StT H' t2 (plan win rs S) → Q (.ref r) H'
def sp_s_hear : Sp := fun vs H Q _ => ∃ (s t b : Addr) (win : Int) (last : Bool) (rs : List Row) (S : Mem) (y : Ans), vs = [.ref s, .ref t, .int y.1, .ref b] ∧ SenAt a.c_Sender H s win last rs ∧ StT H t S ∧ StOk win S ∧ S.top ≤ 10000 ∧ BlksT H b y.2 ∧ y.2.length ≤ 3 ∧ 0 ≤ y.1 ∧ y.1 ≤ S.top ∧
  ∀ r H', Same H H' → StT H' r (hear last (asksS rs) S y) → Q (.ref r) H'
def sp_s_close : Sp := fun vs H Q _ => ∃ (s t : Addr) (win : Int) (last : Bool) (rs : List Row) (S : Mem) (b : Int), vs = [.ref s, .ref t, .int b] ∧ SenAt a.c_Sender H s win last rs ∧ StT H t S ∧
  ∀ r H', Same H H' → StT H' r (close (asksT rs) S b) → Q (.ref r) H'
def sp_m_init : Sp := fun vs H Q _ => ∃ (x dx s t : Addr) (win : Int) (last : Bool) (rs : List Row) (S : Mem), vs = [.ref x, .ref s, .ref t] ∧ H x = some (.ins a.c_Memory dx []) ∧ SenAt a.c_Sender H s win last rs ∧ RsOk rs ∧ StT H t S ∧ StOk win S ∧ S.top ≤ 1000 ∧
  ∀ H', MemAt a.c_Sender a.c_Memory H' x win last rs S → (∀ b o, H b = some o → b ≠ x → H' b = some o) → Q .non H'
def sp_m_after : Sp := fun vs H Q _ => ∃ (x t : Addr) (win : Int) (last : Bool) (rs : List Row) (S : Mem) (ys : List Ans), vs = [.ref x, .ref t] ∧ MemAt a.c_Sender a.c_Memory H x win last rs S ∧ RsOk rs ∧ StOk win S ∧ S.top ≤ 900 ∧ AnssI a.c_Answer H t ys ∧ Anss (plan win rs S).top S.base ys ∧ ys.length ≤ 5 ∧
  ∀ y H', Same H H' → MemAt a.c_Sender a.c_Memory H' y win last rs (after win last rs S ys) → Q (.ref y) H'
/-! ### the promises of the law's defs -/
def sp_l_purse : Sp := fun vs H Q _ => ∃ (s : Addr) (ns : List Int) (k : Int), vs = [.ref s, .int k] ∧ SqL K H s (iVs ns) ∧ ns.length ≤ 63 ∧ 0 ≤ k ∧ k ≤ 100 ∧ ∀ p H', Same H H' → H p = none → PurseAt H' p → Q (.ref p) H'
def sp_l_draw : Sp := fun vs H Q _ => ∃ (p : Addr) (n : Int), vs = [.ref p, .int n] ∧ PurseAt H p ∧ 0 < n ∧ n < 1000 ∧ ∀ (r : Int) H', 0 ≤ r → r < n → PurseAt H' p → Ext p H H' → Q (.int r) H'
def sp_l_condition : Sp := fun vs H Q _ => ∃ p : Addr, vs = [.ref p] ∧ PurseAt H p ∧ ∀ (c : Cond) t H', PurseAt H' p → Ext p H H' → CondAt (nw H H') t c → Q (.ref t) H'
def sp_l_deed : Sp := fun vs H Q _ => ∃ p : Addr, vs = [.ref p] ∧ PurseAt H p ∧ ∀ (d : Dd) H', PurseAt H' p → Ext p H H' → Q (.str (dS d)) H'
def sp_l_row : Sp := fun vs H Q _ => ∃ p : Addr, vs = [.ref p] ∧ PurseAt H p ∧ ∀ (r : Row) t H', PurseAt H' p → Ext p H H' → RowOk r → RowL (nw H H') t r → Q (.ref t) H'
def sp_l_sender : Sp := fun vs H Q _ => ∃ p : Addr, vs = [.ref p, .int 7] ∧ PurseAt H p ∧ ∀ (win : Int) (rs : List Row) (last : Bool) t H', PurseAt H' p → Ext p H H' → 1 ≤ win → win ≤ 4 → 1 ≤ rs.length → rs.length ≤ 7 → (∀ r ∈ rs, RowOk r) → GiverAt (hid p H') t win rs last → Q (.ref t) H'
def sp_l_twins : Sp := fun vs H Q _ => ∃ p : Addr, vs = [.ref p] ∧ PurseAt H p ∧ ∀ (win : Int) (one other : List Row) (last : Bool) t g1 g2 H', PurseAt H' p → Ext p H H' → 1 ≤ win → win ≤ 4 → Twin one other → RsOk one → RsOk other →
  hid p H' t = some (.tup [.ref g1, .ref g2]) → GiverAt (hid p H') g1 win one last → GiverAt (hid p H') g2 win other last → Q (.ref t) H'
def sp_l_line : Sp := fun vs H Q _ => ∃ (t : Addr) (r : Row), vs = [.ref t] ∧ RowL H t r ∧ RowOk r ∧ ∀ H', Same H H' → Q (.str (line r)) H'
def sp_l_lines : Sp := fun vs H Q _ => ∃ (g : Addr) (win : Int) (rs : List Row) (last : Bool), vs = [.ref g] ∧ GiverAt H g win rs last ∧ RsOk rs ∧ ∀ t H', Same H H' → H' t = some (.tup (rs.map fun r => V.str (line r))) → Q (.ref t) H'
def sp_l_made_sender : Sp := fun vs H Q _ => ∃ (g : Addr) (win : Int) (rs : List Row) (last : Bool), vs = [.ref g] ∧ GiverAt H g win rs last ∧ RsOk rs ∧ 1 ≤ win ∧ win ≤ 4 ∧ ∀ s H', Same H H' → SenAt a.c_Sender H' s win last rs → Q (.ref s) H'
def sp_l_blocks : Sp := fun vs H Q _ => ∃ (l : Addr) (ps : List Int), vs = [.ref l] ∧ H l = some (.lst (iVs ps)) ∧ ps.length ≤ 100 ∧ ∀ r as H', Same H H' → H' r = some (.lst (refs as)) → Paired (BlkAt H') as (blksOf ps) → Q (.ref r) H'
def sp_l_answer : Sp := fun vs H Q _ => ∃ (p : Addr) (lo top : Int), vs = [.ref p, .int lo, .int top] ∧ PurseAt H p ∧ 0 ≤ lo ∧ lo ≤ top ∧ top ≤ lo + 4 ∧ top ≤ 10000 ∧ ∀ (y : Ans) t H', PurseAt H' p → Ext p H H' → AnsOk lo top y → AnsT (hid p H') t y → Q (.ref t) H'
def sp_l_answers : Sp := fun vs H Q _ => ∃ (p : Addr) (lo top n : Int), vs = [.ref p, .int lo, .int top, .int n] ∧ PurseAt H p ∧ 0 ≤ lo ∧ lo ≤ top ∧ top ≤ lo + 4 ∧ top ≤ 10000 ∧ 0 ≤ n ∧ n ≤ 5 ∧
  ∀ (ys : List Ans) l H', PurseAt H' p → Ext p H H' → Anss top lo ys → ys.length ≤ 5 → AnssL (hid p H') l ys → Q (.ref l) H'
def sp_l_made_answers : Sp := fun vs H Q _ => ∃ (l : Addr) (ys : List Ans), vs = [.ref l] ∧ AnssL H l ys ∧ ys.length ≤ 5 ∧ (∀ y ∈ ys, BlksOk y.1 y.2) ∧ ∀ t H', Same H H' → AnssI a.c_Answer H' t ys → Q (.ref t) H'
def sp_l_top : Sp := fun vs H Q _ => ∃ (x : Addr) (win : Int) (last : Bool) (rs : List Row) (S : Mem), vs = [.ref x] ∧ MemAt a.c_Sender a.c_Memory H x win last rs S ∧ StOk win S ∧ ∀ H', Same H H' → Q (.int (plan win rs S).top) H'
/-- what the law looks at of a memory, as data -/
def keptD (b t : Int) (m f l : List Int) : PyData := .list [.int b, .int t, .tuple (m.map PyData.int), .tuple (f.map PyData.int), .tuple (l.map PyData.int)]
def sp_l_kept : Sp := fun vs H Q _ => ∃ (x : Addr) (win : Int) (last : Bool) (rs : List Row) (S : Mem), vs = [.ref x] ∧ MemAt a.c_Sender a.c_Memory H x win last rs S ∧ StOk win S ∧ S.top ≤ 900 ∧
  ∀ H', Same H H' → Q (.str (keptD S.base S.top S.marked S.freed (letters win rs S)).shown) H'
def sp_l_right : Sp := fun vs H Q _ => ∃ p : Addr, vs = [.ref p] ∧ PurseAt H p ∧ ∀ H', Ext p H H' → Q (.bl true) H'
def sp_law : Sp := fun vs H Q _ => ∃ (s : Addr) (ns : List Int), vs = [.ref s] ∧ SqL K H s (iVs ns) ∧ ns.length ≤ 63 ∧ ∀ H', Q (.bl true) H'
end
end Fb
/-! Small lemmas for the readings. -/
namespace Fb
open PySem PySem.Spec PyProof.Rows L2
theorem size1000 {n : Nat} (h : n ≤ 1000) : n ≤ sizeLine := Nat.le_trans h (by decide)
/-- a place of a list that is written -/
theorem at0 {x : V} {r : List V} : atI (x :: r) 0 = some x := atI_nat (j := 0) rfl
theorem at1 {x y : V} {r : List V} : atI (x :: y :: r) 1 = some y := atI_nat (j := 1) rfl
theorem at2 {x y z : V} {r : List V} : atI (x :: y :: z :: r) 2 = some z := atI_nat (j := 2) rfl
theorem dIs {d e : Dd} {x : Str} (hx : dS e = x) (h : decide (V.str (dS d) = V.str x) = true) : d = e := by
  subst hx
  exact dS_inj (V.str.inj (of_decide_eq_true h))
theorem wIs {d e : Wd} {x : Str} (hx : wS e = x) (h : decide (V.str (wS d) = V.str x) = true) : d = e := by
  subst hx
  exact wS_inj (V.str.inj (of_decide_eq_true h))
theorem Same.seqT {K : PySem.W.Frag} {H H' : Hp} {a : Addr} {xs : List V} (e : Same H H') (h : SqT K H a xs) : SqT K H' a xs := by
  rcases h with (h | ⟨o, h⟩) | h
  · exact .inl (.inl (e _ _ h))
  · exact .inl (.inr ⟨o, e _ _ h⟩)
  · exact .inr h
/-! ### comprehensions: what each turn gives (some value, or nothing) is told by f -/
section
variable {α : Type} {K : PySem.W.Frag} {a : Addr} {xs : List V} {ys : List α} {R : V → α → Prop} {g : TG} {tt : TT} {te : TE} {vs : List Nat} {σ : L2.St} {H1 : Hp} {Q : Addr → Hp → Prop}
theorem take_fm {f : α → Option V} {i : Nat} {y : α} (h : ys[i]? = some y) : (ys.take (i + 1)).filterMap f = (ys.take i).filterMap f ++ (f y).toList := by
  rw [List.take_add_one, h, List.filterMap_append]
  congr 1
theorem fm_len (f : α → Option V) (l : List α) : (l.filterMap f).length ≤ l.length := List.length_filterMap_le f l
def LcPv (H1 : Hp) (f : α → Option V) (ys : List α) (D : Addr) (i : Nat) (H : Hp) : Prop := Same H1 H ∧ H D = some (.lst ((ys.take i).filterMap f))
/-- the turn as lc_list, lc_tup, lc_range ask it, from a turn for any end -/
theorem lc_step {f : α → Option V} {D : Addr} {i : Nat} {x : V} {y : α} {H : Hp} (hy : ys[i]? = some y) (hz : ys.length ≤ 1000) (hD : H1 D = none) (p : LcPv H1 f ys D i H)
    (hs : ∀ S : Option V → Hp → Prop, (∀ H2, Same H H2 → S (f y) H2) → g x (wipe σ vs) H fun σ2 H2 => wipe σ2 vs = wipe σ vs ∧ tt σ2 H2 fun b H3 => if b = true then te σ2 H3 fun v H4 => S (some v) H4 else S none H3) :
    g x (wipe σ vs) H fun σ2 H2 => wipe σ2 vs = wipe σ vs ∧ tt σ2 H2 fun b H3 => if b = true then te σ2 H3 fun v H4 => ∃ acc, H4 D = some (.lst acc) ∧ acc.length < sizeLine ∧ LcPv H1 f ys D (i + 1) (upd H4 D (.lst (acc ++ [v]))) else LcPv H1 f ys D (i + 1) H3 := by
  obtain ⟨p1, p2⟩ := p
  have hlen : ((ys.take i).filterMap f).length < sizeLine := by
    have h1 := fm_len f (ys.take i)
    rw [List.length_take] at h1
    have : (1000 : Nat) < sizeLine := by decide
    omega
  refine hs (fun o H4 => match o with
    | some v => ∃ acc, H4 D = some (.lst acc) ∧ acc.length < sizeLine ∧ LcPv H1 f ys D (i + 1) (upd H4 D (.lst (acc ++ [v])))
    | none => LcPv H1 f ys D (i + 1) H4) ?_
  intro H2 e
  have p2' := e _ _ p2
  cases hf : f y with
  | some v =>
    refine ⟨_, p2', hlen, Same.mut (p1.trans e) hD, ?_⟩
    rw [take_fm hy, hf]
    exact upd_same
  | none =>
    refine ⟨p1.trans e, ?_⟩
    rw [take_fm hy, hf]
    show H2 D = some (.lst (_ ++ []))
    rw [List.append_nil]
    exact p2'
theorem lcL (f : α → Option V) (hx : SqL K H1 a xs) (hp : Paired R xs ys) (hz : ys.length ≤ 1000)
    (hs : ∀ (i : Nat) x y H, ys[i]? = some y → R x y → Same H1 H → ∀ S : Option V → Hp → Prop, (∀ H2, Same H H2 → S (f y) H2) → g x (wipe σ vs) H fun σ2 H2 => wipe σ2 vs = wipe σ vs ∧ tt σ2 H2 fun b H3 => if b = true then te σ2 H3 fun v H4 => S (some v) H4 else S none H3)
    (hd : ∀ D H', H1 D = none → Same H1 H' → H' D = some (.lst (ys.filterMap f)) → Q D H') :
    ∀ D, H1 D = none → ∃ W : Nat → Nat → Hp → Prop, (∃ m, W 0 m (upd H1 D (.lst []))) ∧ ∀ i m H, W i m H → ((Itl K a).stop i H ∧ Q D H) ∨ ((Itl K a).go i H ∧ ∃ Nx : Hp → Prop, (∀ H', Nx H' → ∃ m', m' < m ∧ W (i + 1) m' H') ∧ ∀ x H', (Itl K a).yld i H x H' →
      g x (wipe σ vs) H' fun σ2 H2 => wipe σ2 vs = wipe σ vs ∧ tt σ2 H2 fun b H3 => if b = true then te σ2 H3 fun y H4 => ∃ acc, H4 D = some (.lst acc) ∧ acc.length < sizeLine ∧ Nx (upd H4 D (.lst (acc ++ [y]))) else Nx H3) := by
  intro D hD
  refine lc_list (xs := xs) (Qd := fun H => Q D H) (LcPv H1 f ys D) ⟨Same.new hD, upd_same⟩ (fun i H _ p => p.1.seq hx) ?_ ?_
  · intro i x H hi p
    obtain ⟨y, hy, r⟩ := Paired.at hp hi
    exact lc_step hy hz hD p (hs i x y H hy r p.1)
  · intro H p
    have e : ys.take xs.length = ys := by rw [hp.length]; exact List.take_length
    have p2 := p.2
    rw [e] at p2
    exact hd D H hD p.1 p2
theorem lcT (f : α → Option V) (hx : SqT K H1 a xs) (hp : Paired R xs ys) (hz : ys.length ≤ 1000)
    (hs : ∀ (i : Nat) x y H, ys[i]? = some y → R x y → Same H1 H → ∀ S : Option V → Hp → Prop, (∀ H2, Same H H2 → S (f y) H2) → g x (wipe σ vs) H fun σ2 H2 => wipe σ2 vs = wipe σ vs ∧ tt σ2 H2 fun b H3 => if b = true then te σ2 H3 fun v H4 => S (some v) H4 else S none H3)
    (hd : ∀ D H', H1 D = none → Same H1 H' → H' D = some (.lst (ys.filterMap f)) → Q D H') :
    ∀ D, H1 D = none → ∃ W : Nat → Nat → Hp → Prop, (∃ m, W 0 m (upd H1 D (.lst []))) ∧ ∀ i m H, W i m H → ((Itt K a).stop i H ∧ Q D H) ∨ ((Itt K a).go i H ∧ ∃ Nx : Hp → Prop, (∀ H', Nx H' → ∃ m', m' < m ∧ W (i + 1) m' H') ∧ ∀ x H', (Itt K a).yld i H x H' →
      g x (wipe σ vs) H' fun σ2 H2 => wipe σ2 vs = wipe σ vs ∧ tt σ2 H2 fun b H3 => if b = true then te σ2 H3 fun y H4 => ∃ acc, H4 D = some (.lst acc) ∧ acc.length < sizeLine ∧ Nx (upd H4 D (.lst (acc ++ [y]))) else Nx H3) := by
  intro D hD
  refine lc_tup (xs := xs) (Qd := fun H => Q D H) (LcPv H1 f ys D) ⟨Same.new hD, upd_same⟩ (fun i H _ p => Same.seqT p.1 hx) ?_ ?_
  · intro i x H hi p
    obtain ⟨y, hy, r⟩ := Paired.at hp hi
    exact lc_step hy hz hD p (hs i x y H hy r p.1)
  · intro H p
    have e : ys.take xs.length = ys := by rw [hp.length]; exact List.take_length
    have p2 := p.2
    rw [e] at p2
    exact hd D H hD p.1 p2
theorem outs_get {b t : Int} {i : Nat} (h : i < (t - b).toNat) : (outs b t)[i]? = some (b + (i : Int)) := by
  unfold outs
  rw [List.getElem?_map, List.getElem?_range h]
  rfl
theorem lcR {b t : Int} (f : Int → Option V) (hz : t ≤ b + 1000)
    (hs : ∀ (i : Nat) p H, (outs b t)[i]? = some p → b ≤ p → p < t → Same H1 H → ∀ S : Option V → Hp → Prop, (∀ H2, Same H H2 → S (f p) H2) → g (.int p) (wipe σ vs) H fun σ2 H2 => wipe σ2 vs = wipe σ vs ∧ tt σ2 H2 fun b H3 => if b = true then te σ2 H3 fun v H4 => S (some v) H4 else S none H3)
    (hd : ∀ D H', H1 D = none → Same H1 H' → H' D = some (.lst ((outs b t).filterMap f)) → Q D H') :
    ∀ D, H1 D = none → ∃ W : Nat → Nat → Hp → Prop, (∃ m, W 0 m (upd H1 D (.lst []))) ∧ ∀ i m H, W i m H → ((Itr b (t - b).toNat).stop i H ∧ Q D H) ∨ ((Itr b (t - b).toNat).go i H ∧ ∃ Nx : Hp → Prop, (∀ H', Nx H' → ∃ m', m' < m ∧ W (i + 1) m' H') ∧ ∀ x H', (Itr b (t - b).toNat).yld i H x H' →
      g x (wipe σ vs) H' fun σ2 H2 => wipe σ2 vs = wipe σ vs ∧ tt σ2 H2 fun b H3 => if b = true then te σ2 H3 fun y H4 => ∃ acc, H4 D = some (.lst acc) ∧ acc.length < sizeLine ∧ Nx (upd H4 D (.lst (acc ++ [y]))) else Nx H3) := by
  intro D hD
  have hl : (outs b t).length ≤ 1000 := by
    rw [outs_len]
    omega
  refine lc_range (Qd := fun H => Q D H) (LcPv H1 f (outs b t) D) ⟨Same.new hD, upd_same⟩ ?_ ?_
  · intro i H hi p
    exact lc_step (outs_get hi) hl hD p (hs i _ H (outs_get hi) (by omega) (by omega) p.1)
  · intro H p
    have e : (outs b t).take (t - b).toNat = outs b t := by rw [← outs_len]; exact List.take_length
    have p2 := p.2
    rw [e] at p2
    exact hd D H hD p.1 p2
end
theorem paired_ints : ∀ ns : List Int, Paired (fun v n => v = V.int n) (iVs ns) ns
  | [] => .nil
  | _ :: r => .cons rfl (paired_ints r)
theorem paired_map {α : Type} (f : α → V) : ∀ ns : List α, Paired (fun v n => v = f n) (ns.map f) ns
  | [] => .nil
  | _ :: r => .cons rfl (paired_map f r)
theorem paired_refs {α : Type} {F : Addr → α → Prop} : ∀ {as : List Addr} {bs : List α}, Paired F as bs → Paired (fun v b => ∃ r, v = V.ref r ∧ F r b) (refs as) bs
  | _, _, .nil => .nil
  | _, _, .cons r t => .cons ⟨_, rfl, r⟩ (paired_refs t)
/-- kept items as they are -/
theorem fm_filter (c : Int → Bool) : ∀ ns : List Int, ns.filterMap (fun p => if c p = true then some (V.int p) else none) = iVs (ns.filter c)
  | [] => rfl
  | p :: r => by
    rw [List.filterMap_cons, List.filter_cons, fm_filter c r]
    cases c p <;> rfl
theorem fm_map {α : Type} (f : α → V) : ∀ ns : List α, ns.filterMap (fun p => some (f p)) = ns.map f
  | [] => rfl
  | p :: r => by
    rw [List.filterMap_cons, List.map_cons, fm_map f r]
/-- in, not in, of ints -/
theorem inV_ints (p : Int) : ∀ ns : List Int, inV (.int p) (iVs ns) = ns.contains p
  | [] => rfl
  | n :: r => by
    have ih := inV_ints p r
    have e : (n == p) = (p == n) := by
      rw [Bool.eq_iff_iff, beq_iff_eq, beq_iff_eq]
      exact eq_comm
    show ((n == p) || inV (.int p) (iVs r)) = (n :: r).contains p
    rw [ih, e, List.contains_cons]
theorem flat_ints : ∀ ns : List Int, (iVs ns).all flatV = true
  | [] => rfl
  | _ :: r => flat_ints r
theorem fm_bools {α : Type} (c : α → Bool) (ys : List α) : ys.filterMap (fun y => some (V.bl (c y))) = (ys.map c).map V.bl := by
  rw [fm_map, List.map_map]
  rfl
theorem all_bools {α : Type} (c : α → Bool) (ys : List α) : (ys.map c).all id = ys.all c := by
  rw [List.all_map]
  rfl
theorem any_bools {α : Type} (c : α → Bool) (ys : List α) : (ys.map c).any id = ys.any c := by
  rw [List.any_map]
  rfl
theorem sIx_none (n d : Nat) : HT.sIx n d none = d := rfl
theorem sIx_nat {n d k : Nat} (h : k ≤ n) : HT.sIx n d (some (k : Int)) = k := by
  rw [HT.sIx_nat]
  exact Nat.min_eq_left h
theorem cut_take {xs : List V} {k : Nat} (h : k ≤ xs.length) : cutV xs none (some (k : Int)) = xs.take k := by
  unfold cutV
  rw [sIx_nat h, sIx_none, List.drop_zero]
  rfl
theorem cut_drop {xs : List V} {k : Nat} (h : k ≤ xs.length) : cutV xs (some (k : Int)) none = xs.drop k := by
  unfold cutV
  rw [sIx_nat h, sIx_none]
  rw [List.take_of_length_le]
  rw [List.length_drop]
  exact Nat.le_refl _
theorem atN {xs : List V} {k : Nat} {v : V} (h : xs[k]? = some v) : atI xs (k : Int) = some v := atI_nat h
theorem yesT {σ : L2.St} {H : Hp} {A B : Hp → Prop} (h : A H) : tYes σ H (fun b H3 => if b = true then A H3 else B H3) := by
  show (if true = true then A H else B H)
  rw [if_pos rfl]
  exact h
/-! ### data: what == and repr are asked of -/
theorem lay_map {α : Type} (f : α → PyData) (n : Nat) (h : ∀ x, (f x).canLay0 = true ∧ (f x).depth ≤ n) : ∀ xs : List α, PyData.canLayAll0 (xs.map f) = true ∧ PyData.depthAll (xs.map f) ≤ n
  | [] => ⟨by simp only [List.map_nil, PyData.canLayAll0], by simp only [List.map_nil, PyData.depthAll]; exact Nat.zero_le _⟩
  | x :: r => by
    obtain ⟨h1, h2⟩ := lay_map f n h r
    obtain ⟨g1, g2⟩ := h x
    simp only [List.map_cons, PyData.canLayAll0, PyData.depthAll, h1, g1, Bool.and_self, true_and]
    omega
theorem shaped_lst {ds : List PyData} {n : Nat} (h : PyData.canLayAll0 ds = true ∧ PyData.depthAll ds ≤ n) (hn : n ≤ 60) : SeqAt.shaped (.list ds) = true := by
  refine Bool.and_eq_true_iff.mpr ⟨by simp only [PyData.canLay0]; exact h.1, decide_eq_true ?_⟩
  have h2 := h.2
  simp only [PyData.depth]
  omega
theorem shaped_tup {ds : List PyData} {n : Nat} (h : PyData.canLayAll0 ds = true ∧ PyData.depthAll ds ≤ n) (hn : n ≤ 60) : SeqAt.shaped (.tuple ds) = true := by
  refine Bool.and_eq_true_iff.mpr ⟨by simp only [PyData.canLay0]; exact h.1, decide_eq_true ?_⟩
  have h2 := h.2
  simp only [PyData.depth]
  omega
theorem lay_int (i : Int) : (PyData.int i).canLay0 = true ∧ (PyData.int i).depth ≤ 0 := ⟨by simp only [PyData.canLay0], by simp only [PyData.depth]; exact Nat.le_refl _⟩
theorem lay_ints (ns : List Int) : PyData.canLayAll0 (ns.map PyData.int) = true ∧ PyData.depthAll (ns.map PyData.int) ≤ 0 := lay_map _ 0 lay_int ns
theorem lay_nil : PyData.canLayAll0 [] = true ∧ PyData.depthAll [] ≤ 0 := ⟨by simp only [PyData.canLayAll0], by simp only [PyData.depthAll]; exact Nat.le_refl _⟩
theorem dp_ints {K : PySem.W.Frag} {H : Hp} : ∀ ns : List Int, DpAll K H (iVs ns) (ns.map PyData.int)
  | [] => .nil
  | n :: r => .cons (.int n) (dp_ints r)
theorem eqv_nilL (ds : List PyData) : PyData.eqv (.list ds) (.list []) = ds.isEmpty := by
  cases ds <;> simp only [PyData.eqv, PyData.eqvAll, List.isEmpty_nil, List.isEmpty_cons]
theorem eqv_nilT (ds : List PyData) : PyData.eqv (.tuple ds) (.tuple []) = ds.isEmpty := by
  cases ds <;> simp only [PyData.eqv, PyData.eqvAll, List.isEmpty_nil, List.isEmpty_cons]
theorem empty_map {α β : Type} (f : α → β) (l : List α) : (l.map f).isEmpty = l.isEmpty := by cases l <;> rfl
/-- xs != [] of ints, the empty list new -/
theorem ne_nilL {K : PySem.W.Frag} {H : Hp} {l e : Addr} {ns : List Int} {Q : VK} (h : SqL K H l (iVs ns)) (he : H e = some (.lst [])) (q : Q (.bl (!ns.isEmpty)) H) : rNeD K (.ref l) (.ref e) H Q := by
  refine ⟨.list (ns.map PyData.int), .list [], .lst h (dp_ints ns), .lst (SqL.of he) .nil, shaped_lst (lay_ints ns) (by decide), shaped_lst lay_nil (by decide), ?_⟩
  rw [eqv_nilL, empty_map]
  exact q
theorem ne_nilT {K : PySem.W.Frag} {H : Hp} {l e : Addr} {ns : List Int} {Q : VK} (h : SqT K H l (iVs ns)) (he : H e = some (.tup [])) (q : Q (.bl (!ns.isEmpty)) H) : rNeD K (.ref l) (.ref e) H Q := by
  refine ⟨.tuple (ns.map PyData.int), .tuple [], .tup h (dp_ints ns), .tup (SqT.of he) .nil, shaped_tup (lay_ints ns) (by decide), shaped_tup lay_nil (by decide), ?_⟩
  rw [eqv_nilT, empty_map]
  exact q
/-- p in, not in a row of ints -/
theorem in_ints {K : PySem.W.Frag} {H : Hp} {m : Addr} {p : Int} {ns : List Int} {Q : VK} (h : SqL K H m (iVs ns) ∨ SqT K H m (iVs ns)) (q : Q (.bl (ns.contains p)) H) : rIn K false (.int p) (.ref m) H Q := by
  refine ⟨m, iVs ns, rfl, h, rfl, flat_ints ns, ?_⟩
  show Q (.bl (inV (.int p) (iVs ns))) H
  rw [inV_ints]
  exact q
theorem notIn_ints {K : PySem.W.Frag} {H : Hp} {m : Addr} {p : Int} {ns : List Int} {Q : VK} (h : SqL K H m (iVs ns) ∨ SqT K H m (iVs ns)) (q : Q (.bl (!ns.contains p)) H) : rIn K true (.int p) (.ref m) H Q := by
  refine ⟨m, iVs ns, rfl, h, rfl, flat_ints ns, ?_⟩
  show Q (.bl (!inV (.int p) (iVs ns))) H
  rw [inV_ints]
  exact q
theorem rg_ok {b t : Int} (h0 : 0 ≤ b) (h1 : b ≤ t) (h2 : t ≤ b + 1000) (h3 : t ≤ 100000) : RgOk b t := RgOk.of_le h0 (by omega) (by omega) (by omega)
theorem rgV_outs (b t : Int) : rgV b t = iVs (outs b t) := by
  unfold rgV outs
  show _ = List.map V.int (List.map _ _)
  rw [List.map_map]
  rfl
/-! ### comprehensions whose items are new objects -/
theorem hid_hid {p q : Addr} {H : Hp} {b : Addr} {o : HO} (h : H b = some o) (h1 : b ≠ p) (h2 : b ≠ q) : hid p (hid q H) b = some o := by
  rw [hid_ne h1, hid_ne h2]
  exact h
theorem hid_up {D : Addr} {H H' : Hp} (e : Same H H') : Same (hid D H) (hid D H') := Ext.of e
theorem hid_mut {D : Addr} {H : Hp} {o : HO} : Same (hid D H) (hid D (upd H D o)) := Ext.upd
theorem not_lst {H : Hp} {D r : Addr} {o : HO} {l : List V} (h : H r = some o) (hD : H D = some (.lst l)) (hn : ∀ xs, o ≠ .lst xs) : r ≠ D := by
  rintro rfl
  rw [h] at hD
  exact hn _ (Option.some.inj hD)
theorem CondAt.hide {H : Hp} {D r : Addr} {l : List V} {c : Cond} (h : CondAt H r c) (hD : H D = some (.lst l)) : CondAt (hid D H) r c := by
  unfold CondAt
  rw [hid_ne (not_lst h hD (fun _ q => by cases q))]
  exact h
theorem CondsT.hide {H : Hp} {D r : Addr} {l : List V} {cs : List Cond} (h : CondsT H r cs) (hD : H D = some (.lst l)) : CondsT (hid D H) r cs := by
  obtain ⟨as, h1, h2⟩ := h
  exact ⟨as, by rw [hid_ne (not_lst h1 hD (fun _ q => by cases q))]; exact h1, Paired.mapP h2 fun _ _ q => q.hide hD⟩
theorem RowT.hide {H : Hp} {D r : Addr} {l : List V} {x : Row} (h : RowT H r x) (hD : H D = some (.lst l)) : RowT (hid D H) r x := by
  obtain ⟨c, d, h1, h2, h3⟩ := h
  exact ⟨c, d, by rw [hid_ne (not_lst h1 hD (fun _ q => by cases q))]; exact h1, h2.hide hD, by rw [hid_ne (not_lst h3 hD (fun _ q => by cases q))]; exact h3⟩
theorem BlkAt.hide {H : Hp} {D r : Addr} {l : List V} {k : Blk} (h : BlkAt H r k) (hD : H D = some (.lst l)) : BlkAt (hid D H) r k := by
  unfold BlkAt
  rw [hid_ne (not_lst h hD (fun _ q => by cases q))]
  exact h
theorem BlksT.hide {H : Hp} {D r : Addr} {l : List V} {bs : List Blk} (h : BlksT H r bs) (hD : H D = some (.lst l)) : BlksT (hid D H) r bs := by
  obtain ⟨as, h1, h2⟩ := h
  exact ⟨as, by rw [hid_ne (not_lst h1 hD (fun _ q => by cases q))]; exact h1, Paired.mapP h2 fun _ _ q => q.hide hD⟩
theorem AnsI.hide {C : Addr} {H : Hp} {D r : Addr} {l : List V} {y : Ans} (h : AnsI C H r y) (hD : H D = some (.lst l)) : AnsI C (hid D H) r y := by
  obtain ⟨dx, fs, b, h1, h2, h3, h4⟩ := h
  exact ⟨dx, fs, b, by rw [hid_ne (not_lst h1 hD (fun _ q => by cases q))]; exact h1, h2, h3, h4.hide hD⟩
theorem AnsT.hide {H : Hp} {D r : Addr} {l : List V} {y : Ans} (h : AnsT H r y) (hD : H D = some (.lst l)) : AnsT (hid D H) r y := by
  obtain ⟨b, h1, h4⟩ := h
  exact ⟨b, by rw [hid_ne (not_lst h1 hD (fun _ q => by cases q))]; exact h1, h4.hide hD⟩
section
variable {α : Type} {K : PySem.W.Frag} {a : Addr} {xs : List V} {ys : List α} {R : V → α → Prop} {g : TG} {tt : TT} {te : TE} {vs : List Nat} {σ : L2.St} {H1 : Hp} {Q : Addr → Hp → Prop} {F : Hp → V → α → Prop}
def LdPv (H1 : Hp) (F : Hp → V → α → Prop) (ys : List α) (D : Addr) (i : Nat) (H : Hp) : Prop := Same H1 H ∧ ∃ zs, H D = some (.lst zs) ∧ Paired (F (hid D H)) zs (ys.take i)
theorem Paired.snoc' {α β : Type} {F : α → β → Prop} {as : List α} {bs : List β} {x : α} {y : β} (h : Paired F as bs) (r : F x y) : Paired F (as ++ [x]) (bs ++ [y]) := Paired.app h (.cons r .nil)
theorem ld_step (mono : ∀ H H', Same H H' → ∀ v y, F H v y → F H' v y) {D : Addr} {i : Nat} {x : V} {y : α} {H : Hp} (hy : ys[i]? = some y) (hz : ys.length ≤ 1000) (hD : H1 D = none) (p : LdPv H1 F ys D i H)
    (hs : ∀ l, H D = some (.lst l) → ∀ S : V → Hp → Prop, (∀ v H2, Same H H2 → F (hid D H2) v y → S v H2) → g x (wipe σ vs) H fun σ2 H2 => wipe σ2 vs = wipe σ vs ∧ tt σ2 H2 fun b H3 => if b = true then te σ2 H3 fun v H4 => S v H4 else LdPv H1 F ys D (i + 1) H3) :
    g x (wipe σ vs) H fun σ2 H2 => wipe σ2 vs = wipe σ vs ∧ tt σ2 H2 fun b H3 => if b = true then te σ2 H3 fun v H4 => ∃ acc, H4 D = some (.lst acc) ∧ acc.length < sizeLine ∧ LdPv H1 F ys D (i + 1) (upd H4 D (.lst (acc ++ [v]))) else LdPv H1 F ys D (i + 1) H3 := by
  obtain ⟨p1, zs, p2, p3⟩ := p
  have hlen : zs.length < sizeLine := by
    have h1 := p3.length
    rw [List.length_take] at h1
    have : (1000 : Nat) < sizeLine := by decide
    omega
  refine hs zs p2 _ ?_
  intro v H2 e hF
  refine ⟨zs, e _ _ p2, hlen, Same.mut (p1.trans e) hD, zs ++ [v], upd_same, ?_⟩
  rw [List.take_add_one, hy]
  refine Paired.snoc' (Paired.mapP p3 fun u w q => mono _ _ (Same.trans (hid_up e) hid_mut) _ _ q) (mono _ _ hid_mut _ _ hF)
theorem lcLd (F : Hp → V → α → Prop) (mono : ∀ H H', Same H H' → ∀ v y, F H v y → F H' v y) (hx : SqL K H1 a xs) (hp : Paired R xs ys) (hz : ys.length ≤ 1000)
    (hs : ∀ (i : Nat) x y H D l, ys[i]? = some y → R x y → Same H1 H → H D = some (.lst l) → ∀ (Z : Hp → Prop) (S : V → Hp → Prop), (∀ v H2, Same H H2 → F (hid D H2) v y → S v H2) → g x (wipe σ vs) H fun σ2 H2 => wipe σ2 vs = wipe σ vs ∧ tt σ2 H2 fun b H3 => if b = true then te σ2 H3 fun v H4 => S v H4 else Z H3)
    (hd : ∀ D H' zs, H1 D = none → Same H1 H' → H' D = some (.lst zs) → Paired (F H') zs ys → Q D H') :
    ∀ D, H1 D = none → ∃ W : Nat → Nat → Hp → Prop, (∃ m, W 0 m (upd H1 D (.lst []))) ∧ ∀ i m H, W i m H → ((Itl K a).stop i H ∧ Q D H) ∨ ((Itl K a).go i H ∧ ∃ Nx : Hp → Prop, (∀ H', Nx H' → ∃ m', m' < m ∧ W (i + 1) m' H') ∧ ∀ x H', (Itl K a).yld i H x H' →
      g x (wipe σ vs) H' fun σ2 H2 => wipe σ2 vs = wipe σ vs ∧ tt σ2 H2 fun b H3 => if b = true then te σ2 H3 fun y H4 => ∃ acc, H4 D = some (.lst acc) ∧ acc.length < sizeLine ∧ Nx (upd H4 D (.lst (acc ++ [y]))) else Nx H3) := by
  intro D hD
  refine lc_list (xs := xs) (Qd := fun H => Q D H) (LdPv H1 F ys D) ⟨Same.new hD, [], upd_same, .nil⟩ (fun i H _ p => p.1.seq hx) ?_ ?_
  · intro i x H hi p
    obtain ⟨y, hy, r⟩ := Paired.at hp hi
    exact ld_step mono hy hz hD p fun l hl => hs i x y H D l hy r p.1 hl _
  · rintro H ⟨p1, zs, p2, p3⟩
    have e : ys.take xs.length = ys := by rw [hp.length]; exact List.take_length
    rw [e] at p3
    exact hd D H zs hD p1 p2 (Paired.mapP p3 fun _ _ q => mono _ _ hid_same _ _ q)
theorem lcTd (F : Hp → V → α → Prop) (mono : ∀ H H', Same H H' → ∀ v y, F H v y → F H' v y) (hx : SqT K H1 a xs) (hp : Paired R xs ys) (hz : ys.length ≤ 1000)
    (hs : ∀ (i : Nat) x y H D l, ys[i]? = some y → R x y → Same H1 H → H D = some (.lst l) → ∀ (Z : Hp → Prop) (S : V → Hp → Prop), (∀ v H2, Same H H2 → F (hid D H2) v y → S v H2) → g x (wipe σ vs) H fun σ2 H2 => wipe σ2 vs = wipe σ vs ∧ tt σ2 H2 fun b H3 => if b = true then te σ2 H3 fun v H4 => S v H4 else Z H3)
    (hd : ∀ D H' zs, H1 D = none → Same H1 H' → H' D = some (.lst zs) → Paired (F H') zs ys → Q D H') :
    ∀ D, H1 D = none → ∃ W : Nat → Nat → Hp → Prop, (∃ m, W 0 m (upd H1 D (.lst []))) ∧ ∀ i m H, W i m H → ((Itt K a).stop i H ∧ Q D H) ∨ ((Itt K a).go i H ∧ ∃ Nx : Hp → Prop, (∀ H', Nx H' → ∃ m', m' < m ∧ W (i + 1) m' H') ∧ ∀ x H', (Itt K a).yld i H x H' →
      g x (wipe σ vs) H' fun σ2 H2 => wipe σ2 vs = wipe σ vs ∧ tt σ2 H2 fun b H3 => if b = true then te σ2 H3 fun y H4 => ∃ acc, H4 D = some (.lst acc) ∧ acc.length < sizeLine ∧ Nx (upd H4 D (.lst (acc ++ [y]))) else Nx H3) := by
  intro D hD
  refine lc_tup (xs := xs) (Qd := fun H => Q D H) (LdPv H1 F ys D) ⟨Same.new hD, [], upd_same, .nil⟩ (fun i H _ p => Same.seqT p.1 hx) ?_ ?_
  · intro i x H hi p
    obtain ⟨y, hy, r⟩ := Paired.at hp hi
    exact ld_step mono hy hz hD p fun l hl => hs i x y H D l hy r p.1 hl _
  · rintro H ⟨p1, zs, p2, p3⟩
    have e : ys.take xs.length = ys := by rw [hp.length]; exact List.take_length
    rw [e] at p3
    exact hd D H zs hD p1 p2 (Paired.mapP p3 fun _ _ q => mono _ _ hid_same _ _ q)
end
/-- values that are references -/
theorem refs_of {α : Type} {F : Addr → α → Prop} : ∀ {zs : List V} {ys : List α}, Paired (fun v y => ∃ r, v = V.ref r ∧ F r y) zs ys → ∃ as, zs = refs as ∧ Paired F as ys
  | _, _, .nil => ⟨[], rfl, .nil⟩
  | _, _, .cons ⟨r, e, h⟩ t => by
    obtain ⟨as, e2, h2⟩ := refs_of t
    exact ⟨r :: as, by rw [e, e2]; rfl, .cons h h2⟩
theorem decide_bl (a b : Bool) : decide (V.bl a = V.bl b) = (a == b) := by cases a <;> cases b <;> decide
theorem rowsF_take {b t win s : Int} {h : Bool} {x : PS} {rs : List Row} {i : Nat} {r : Row} (e : rs[i]? = some r) : rowsF b t win s h x (rs.take (i + 1)) = row b t win s h (rowsF b t win s h x (rs.take i)) r := by
  unfold rowsF
  rw [List.take_add_one, e, List.foldl_append]
  rfl
theorem deeds_take {b t win : Int} {x : PS} {ds : List Dd} {j : Nat} {d : Dd} (e : ds[j]? = some d) : deeds b t win x (ds.take (j + 1)) = deed b t win (deeds b t win x (ds.take j)) d := by
  unfold deeds
  rw [List.take_add_one, e, List.foldl_append]
  rfl
/-! ### an instance that is being made: what stands beside it -/
theorem not_ins {H : Hp} {x b C dx : Addr} {fs : List (Str × V)} {xs : List V} (h : H b = some (.tup xs)) (hx : H x = some (.ins C dx fs)) : b ≠ x := ne_of h hx (fun z => by cases z)
theorem CondAt.hideI {H : Hp} {x r C dx : Addr} {fs : List (Str × V)} {c : Cond} (h : CondAt H r c) (hx : H x = some (.ins C dx fs)) : CondAt (hid x H) r c := by
  unfold CondAt
  rw [hid_ne (not_ins h hx)]
  exact h
theorem RowT.hideI {H : Hp} {x r C dx : Addr} {fs : List (Str × V)} {y : Row} (h : RowT H r y) (hx : H x = some (.ins C dx fs)) : RowT (hid x H) r y := by
  obtain ⟨c, d, h1, ⟨as, h2, h3⟩, h4⟩ := h
  exact ⟨c, d, by rw [hid_ne (not_ins h1 hx)]; exact h1, ⟨as, by rw [hid_ne (not_ins h2 hx)]; exact h2, Paired.mapP h3 fun _ _ z => z.hideI hx⟩, by rw [hid_ne (not_ins h4 hx)]; exact h4⟩
theorem RowsT.hideI {H : Hp} {x pt C dx : Addr} {fs : List (Str × V)} {rs : List Row} (h : RowsT H pt rs) (hx : H x = some (.ins C dx fs)) : RowsT (hid x H) pt rs := by
  obtain ⟨as, h1, h2⟩ := h
  exact ⟨as, by rw [hid_ne (not_ins h1 hx)]; exact h1, Paired.mapP h2 fun _ _ z => z.hideI hx⟩
abbrev wVs (ws : List Wd) : List V := ws.map fun w => V.str (wS w)
theorem in_words {K : PySem.W.Frag} {H : Hp} {l : Addr} {w : Wd} {ws : List Wd} {Q : VK} (h : SqL K H l (wVs ws)) (q : Q (.bl (ws.contains w)) H) : rIn K false (.str (wS w)) (.ref l) H Q := by
  have e : ∀ ws : List Wd, (wVs ws).all flatV = true ∧ inV (.str (wS w)) (wVs ws) = ws.contains w := by
    intro ws
    induction ws with
    | nil => exact ⟨rfl, rfl⟩
    | cons u r ih =>
      refine ⟨ih.1, ?_⟩
      have e1 : eqV (V.str (wS u)) (V.str (wS w)) = (w == u) := by
        rw [Bool.eq_iff_iff, beq_iff_eq]
        constructor
        · intro z
          exact (wS_inj (by simpa [eqV] using z)).symm
        · rintro rfl
          simp [eqV]
      show (eqV (V.str (wS u)) (V.str (wS w)) || inV (.str (wS w)) (wVs r)) = (u :: r).contains w
      rw [ih.2, e1, List.contains_cons]
  refine ⟨l, wVs ws, rfl, .inl h, rfl, (e ws).1, ?_⟩
  show Q (.bl (inV (.str (wS w)) (wVs ws))) H
  rw [(e ws).2]
  exact q
theorem words_take {rs : List Row} {i : Nat} {r : Row} (e : rs[i]? = some r) : words (rs.take (i + 1)) = words (rs.take i) ++ r.1.map (·.1) := by
  unfold words
  rw [List.take_add_one, e, List.flatMap_append]
  show _ ++ List.flatMap _ [r] = _
  rw [List.flatMap_cons, List.flatMap_nil, List.append_nil]
theorem words_len : ∀ rs : List Row, (∀ r ∈ rs, RowOk r) → (words rs).length ≤ 3 * rs.length
  | [], _ => Nat.zero_le _
  | r :: rs, h => by
    have h1 := words_len rs fun q hq => h q (List.mem_cons_of_mem _ hq)
    have h2 := (h r List.mem_cons_self).c3
    unfold words at h1 ⊢
    rw [List.flatMap_cons, List.length_append, List.length_map, List.length_cons]
    omega
/-! ### what the law's draws leave -/
theorem PurseAt.some {H : Hp} {p : Addr} (h : PurseAt H p) : H p ≠ none := by
  obtain ⟨x, y, z, h⟩ := h
  rw [h]
  simp
theorem nw_sub {H H' : Hp} : Same (nw H H') H' := fun _ _ e => (nw_some e).2
theorem nw_hid {p : Addr} {H H' : Hp} (hp : H p ≠ none) : Same (nw H H') (hid p H') := by
  intro b o e
  obtain ⟨e1, e2⟩ := nw_some e
  rw [hid_ne (by rintro rfl; exact hp e1)]
  exact e2
theorem none_back {p b : Addr} {H0 H : Hp} (E : Ext p H0 H) (hp : H p ≠ none) (h : H b = none) : H0 b = none := by
  cases q : H0 b with
  | none => rfl
  | some o =>
    have ne : b ≠ p := by
      rintro rfl
      exact hp h
    rw [Ext.keep E q ne] at h
    cases h
theorem nw_ext {p : Addr} {H0 H H' : Hp} (E : Ext p H0 H) (hp : H p ≠ none) : Same (nw H H') (nw H0 H') := by
  intro b o e
  obtain ⟨e1, e2⟩ := nw_some e
  exact nw_of (none_back E hp e1) e2
theorem nw_step {p : Addr} {H H' H'' : Hp} (hp : H p ≠ none) (E : Ext p H' H'') : Same (nw H H') (nw H H'') := by
  intro b o e
  obtain ⟨e1, e2⟩ := nw_some e
  exact nw_of e1 (Ext.keep E e2 (by rintro rfl; exact hp e1))
/-- new behind H is new behind H0, and not an object that H has -/
theorem nw_in {p D : Addr} {H0 H H' : Hp} (E : Ext p H0 H) (hp : H p ≠ none) (hD : H D ≠ none) : Same (nw H H') (hid D (nw H0 H')) := by
  intro b o e
  obtain ⟨e1, e2⟩ := nw_some e
  rw [hid_ne (by rintro rfl; exact hD e1)]
  exact nw_of (none_back E hp e1) e2
theorem nw_mut {D : Addr} {H0 H : Hp} {o : HO} : Same (hid D (nw H0 H)) (hid D (nw H0 (upd H D o))) := by
  intro b u e
  obtain ⟨e1, e2⟩ := hid_some e
  obtain ⟨e3, e4⟩ := nw_some e1
  rw [hid_ne e2]
  exact nw_of e3 (by rw [upd_ne e2]; exact e4)
theorem Ext.new {p D : Addr} {H : Hp} {o : HO} (h : H D = none) : Ext p H (L2.upd H D o) := Ext.of (Same.new h)
theorem Ext.mut {p D : Addr} {H H' : Hp} {o : HO} (E : Ext p H H') (h : H D = none) : Ext p H (L2.upd H' D o) := by
  intro b u e
  have e' := E b u e
  obtain ⟨e1, e2⟩ := hid_some e'
  obtain ⟨e3, _⟩ := hid_some e
  rw [hid_ne e2, upd_ne (ne_of_none e3 h)]
  exact e1
theorem PurseAt.new {p D : Addr} {H : Hp} {o : HO} (h : PurseAt H p) (hD : H D = none) : PurseAt (upd H D o) p := h.up (Same.new hD)
theorem PurseAt.mut {p D : Addr} {H : Hp} {o : HO} (h : PurseAt H p) (ne : p ≠ D) : PurseAt (upd H D o) p := by
  obtain ⟨x, y, z, h⟩ := h
  exact ⟨x, y, z, by rw [upd_ne ne]; exact h⟩
section
variable {p : Addr} {g : TG} {tt : TT} {te : TE} {vs : List Nat} {σ : L2.St} {H1 : Hp} {Q : Addr → Hp → Prop} {lo : Int} {n : Nat}
/-- [e for .. in range(..)], e drawn -/
theorem lcP (F : Hp → V → Prop) (mono : ∀ H H', Same H H' → ∀ v, F H v → F H' v) (hP : PurseAt H1 p) (hz : n ≤ 1000)
    (hs : ∀ (i : Nat) H D l, i < n → PurseAt H p → Ext p H1 H → H D = some (.lst l) → H1 D = none → ∀ (Z : Hp → Prop) (S : V → Hp → Prop), (∀ v H2, PurseAt H2 p → Ext p H H2 → F (hid D (nw H1 H2)) v → S v H2) →
      g (.int (lo + i)) (wipe σ vs) H fun σ2 H2 => wipe σ2 vs = wipe σ vs ∧ tt σ2 H2 fun b H3 => if b = true then te σ2 H3 fun v H4 => S v H4 else Z H3)
    (hd : ∀ D H' zs, H1 D = none → PurseAt H' p → Ext p H1 H' → H' D = some (.lst zs) → zs.length = n → (∀ z ∈ zs, F (hid D (nw H1 H')) z) → Q D H') :
    ∀ D, H1 D = none → ∃ W : Nat → Nat → Hp → Prop, (∃ m, W 0 m (upd H1 D (.lst []))) ∧ ∀ i m H, W i m H → ((Itr lo n).stop i H ∧ Q D H) ∨ ((Itr lo n).go i H ∧ ∃ Nx : Hp → Prop, (∀ H', Nx H' → ∃ m', m' < m ∧ W (i + 1) m' H') ∧ ∀ x H', (Itr lo n).yld i H x H' →
      g x (wipe σ vs) H' fun σ2 H2 => wipe σ2 vs = wipe σ vs ∧ tt σ2 H2 fun b H3 => if b = true then te σ2 H3 fun y H4 => ∃ acc, H4 D = some (.lst acc) ∧ acc.length < sizeLine ∧ Nx (upd H4 D (.lst (acc ++ [y]))) else Nx H3) := by
  intro D hD
  have pD : p ≠ D := by
    rintro rfl
    exact hP.some hD
  refine lc_range (Qd := fun H => Q D H) (fun i H => PurseAt H p ∧ Ext p H1 H ∧ ∃ zs, H D = some (.lst zs) ∧ zs.length = i ∧ ∀ z ∈ zs, F (hid D (nw H1 H)) z) ⟨hP.new hD, Ext.new hD, [], upd_same, rfl, fun z hz => by cases hz⟩ ?_ ?_
  · rintro i H hi ⟨h1, h2, zs, h3, h4, h5⟩
    refine hs i H D zs hi h1 h2 h3 hD _ _ ?_
    intro v H2 k1 k2 k3
    have h3' := Ext.keep k2 h3 (Ne.symm pD)
    refine ⟨zs, h3', ?_, k1.mut pD, Ext.mut (Same.trans h2 k2) hD, zs ++ [v], upd_same, by rw [List.length_append, h4]; rfl, ?_⟩
    · have : (1000 : Nat) < sizeLine := by decide
      omega
    · intro z hz
      rcases List.mem_append.mp hz with q | q
      · refine mono _ _ (Same.trans ?_ nw_mut) _ (h5 z q)
        exact hid_up (nw_step hP.some k2)
      · have e : z = v := by simpa using q
        subst e
        exact mono _ _ nw_mut _ k3
  · rintro H ⟨h1, h2, zs, h3, h4, h5⟩
    exact hd D H zs hD h1 h2 h3 h4 h5
end
theorem deeds_of : ∀ {zs : List V}, (∀ z ∈ zs, ∃ d, z = V.str (dS d)) → ∃ ds, zs = dVs ds
  | [], _ => ⟨[], rfl⟩
  | z :: r, h => by
    obtain ⟨d, e⟩ := h z List.mem_cons_self
    obtain ⟨ds, e2⟩ := deeds_of (zs := r) fun q hq => h q (List.mem_cons_of_mem _ hq)
    exact ⟨d :: ds, by rw [e, e2]; rfl⟩
theorem items_of {α : Type} {F : Addr → α → Prop} : ∀ {zs : List V}, (∀ z ∈ zs, ∃ t c, z = V.ref t ∧ F t c) → ∃ as cs, zs = refs as ∧ Paired F as cs
  | [], _ => ⟨[], [], rfl, .nil⟩
  | z :: r, h => by
    obtain ⟨t, c, e, hF⟩ := h z List.mem_cons_self
    obtain ⟨as, cs, e2, h2⟩ := items_of (zs := r) fun q hq => h q (List.mem_cons_of_mem _ hq)
    exact ⟨t :: as, c :: cs, by rw [e, e2]; rfl, .cons hF h2⟩
theorem refs_snoc (as : List Addr) (t : Addr) : refs (as ++ [t]) = refs as ++ [V.ref t] := List.map_append
end Fb
namespace Fb
open PySem PySem.Spec PyProof.Rows L2
section
variable {P : Program} {w : World} {K : PySem.W.Frag} {mg : Str → Option Value} {base : Heap} {a : Ad}
theorem ok_is_integer (T : Txt K mg a) : FnOk P w K mg base CX0 1 a.f_is_integer a.d_is_integer ["value"] sp_is_integer := by
  refine T.F_is_integer.ok sc_is_integer (fun vs H Q E h => ?_) (fun cdv A outer s H vs Q E hr h => ?_)
  · obtain ⟨i, rfl, _⟩ := h
    rfl
  · obtain ⟨i, rfl, q⟩ := h
    refine ⟨_, (pss_one (ps_ret (pe_and (pe_callB (k_isi (K := K) rfl) (by rfl) T.n_isinstance (by decide +kernel) (pa_cons (pv 0) (pa_cons (pe_bltn (v := .ty "int") (u := .type "int") (by rfl) T.n_int (by decide +kernel) rfl) pa_nil))) (pe_one (pe_not (pe_callB (k_isi (K := K) rfl) (by rfl) T.n_isinstance (by decide +kernel) (pa_cons (pv 0) (pa_cons (pe_bltn (v := .ty "bool") (u := .type "bool") (by rfl) T.n_bool (by decide +kernel) rfl) pa_nil)))))))), ?_⟩
    refine ⟨_, rfl, _, _, _, _, true, rfl, .ty "int", .base (.int i), kit_ty (by decide +kernel), true, rfl, iteT ?_⟩
    exact ⟨_, rfl, _, _, _, _, false, rfl, .ty "bool", .base (.int i), kit_ty (by decide +kernel), false, rfl, q⟩
theorem ok_is_number (T : Txt K mg a) : FnOk P w K mg base CX0 2 a.f_is_number a.d_is_number ["value"] sp_is_number := by
  refine T.F_is_number.ok sc_is_number (fun vs H Q E h => ?_) (fun cdv A outer s H vs Q E hr h => ?_)
  · obtain ⟨i, rfl, _⟩ := h
    rfl
  · obtain ⟨i, rfl, q⟩ := h
    refine ⟨_, (pss_one (ps_ret (pe_and (pe_call (ok_is_integer T) (hr.mono (by decide)) (by rfl) T.m_is_integer T.F_is_integer.kp T.b_is_integer .nil pass0 (pa_cons (pv 0) pa_nil)) (pe_one (pe_cmpR op_ge (pv 0) pe_int (nomark _)))))), ?_⟩
    refine ⟨_, rfl, i, rfl, true, rfl, iteT ?_⟩
    exact ⟨_, rfl, _, _, rfl, rfl, q⟩
theorem ok_check_number (T : Txt K mg a) : FnOk P w K mg base CX0 3 a.f_check_number a.d_check_number ["value"] sp_check_number := by
  refine T.F_check_number.ok sc_check_number (fun vs H Q E h => ?_) (fun cdv A outer s H vs Q E hr h => ?_)
  · obtain ⟨i, rfl, _⟩ := h
    rfl
  · obtain ⟨i, rfl, h0, q⟩ := h
    refine ⟨_, (pss_one (ps_if (pt_not (pt_val (pe_call (ok_is_number T) (hr.mono (by decide)) (by rfl) T.m_is_number T.F_is_number.kp T.b_is_number .nil pass0 (pa_cons (pv 0) pa_nil))))
        (pss_one ps_never)
        pss_nil)), ?_⟩
    refine ⟨_, rfl, i, rfl, decide (0 ≤ i), rfl, ?_⟩
    rw [decide_eq_true h0]
    exact iteF q
theorem ok_is_block (T : Txt K mg a) : FnOk P w K mg base CX0 3 a.f_is_block a.d_is_block ["value"] sp_is_block := by
  refine T.F_is_block.ok sc_is_block (fun vs H Q E h => ?_) (fun cdv A outer s H vs Q E hr h => ?_)
  · obtain ⟨t, k, rfl, _⟩ := h
    rfl
  · obtain ⟨t, k, rfl, hk, h0, h1, q⟩ := h
    refine ⟨_, (pss_cons (ps_if (PW.pt (pw_or (pt_not (pt_val (pe_callB (k_isi (K := K) rfl) (by rfl) T.n_isinstance (by decide +kernel) (pa_cons (pv 0) (pa_cons (pe_bltn (v := .ty "tuple") (u := .type "tuple") (by rfl) T.n_tuple (by decide +kernel) rfl) pa_nil))))) (pw_or1 (pt_cmpR op_ne (pe_callB (k_len (K := K) rfl) (by rfl) T.n_len PySem.boot_len (pa_cons (pv 0) pa_nil)) pe_int (nomark _)))))
        (pss_one (ps_ret pe_bl))
        pss_nil)
      (pss_one (ps_ret (pe_and (pe_call (ok_is_number T) (hr.mono (by decide)) (by rfl) T.m_is_number T.F_is_number.kp T.b_is_number .nil pass0 (pa_cons (pe_ix (k_ixT (K := K) rfl) (pv 0) pe_int (fun _ _ => rfl)) pa_nil)) (pe_and (pe_call (ok_is_integer T) (hr.mono (by decide)) (by rfl) T.m_is_integer T.F_is_integer.kp T.b_is_integer .nil pass0 (pa_cons (pe_ix (k_ixT (K := K) rfl) (pv 0) pe_int (fun _ _ => rfl)) pa_nil)) (pe_one (pe_cmpR op_lt (pe_ix (k_ixT (K := K) rfl) (pv 0) pe_int (fun _ _ => rfl)) (pe_ix (k_ixT (K := K) rfl) (pv 0) pe_int (fun _ _ => rfl)) (nomark _)))))))), ?_⟩
    have ht : SqT K H t [.int k.1, .int k.2] := SqT.of hk
    refine ⟨_, rfl, _, _, _, _, true, rfl, .ty "tuple", .base (.tup hk), kit_ty (by decide +kernel), true, rfl, iteF ?_⟩
    refine ⟨_, rfl, t, _, rfl, .inr ht, rfl, _, rfl, iteF ?_⟩
    refine ⟨_, rfl, t, _, 0, _, rfl, rfl, ht, at0, k.1, rfl, true, ?_, iteT ?_⟩
    · rw [decide_eq_true h0]
    refine ⟨_, rfl, t, _, 1, _, rfl, rfl, ht, at1, k.2, rfl, true, rfl, iteT ?_⟩
    refine ⟨_, rfl, t, _, 0, _, rfl, rfl, ht, at0, _, rfl, t, _, 1, _, rfl, rfl, ht, at1, k.1, k.2, rfl, rfl, ?_⟩
    show Q (V.bl (decide (k.1 < k.2))) H
    rw [decide_eq_true h1]
    exact q
theorem ok_is_next_block (T : Txt K mg a) : FnOk P w K mg base CX0 4 a.f_is_next_block a.d_is_next_block ["number", "ahead", "value"] sp_is_next_block := by
  refine T.F_is_next_block.ok sc_is_next_block (fun vs H Q E h => ?_) (fun cdv A outer s H vs Q E hr h => ?_)
  · obtain ⟨n, p, q, bs, k, rfl, _⟩ := h
    rfl
  · obtain ⟨n, p, q, bs, k, rfl, ⟨as, hp, hpr⟩, hk, h0, h1, h2, h3, h4, qq⟩ := h
    refine ⟨_, (pss_cons (ps_if (PW.pt (pw_or (pt_not (pt_val (pe_call (ok_is_block T) (hr.mono (by decide)) (by rfl) T.m_is_block T.F_is_block.kp T.b_is_block .nil pass0 (pa_cons (pv 2) pa_nil)))) (pw_or1 (pt_cmpR op_le (pe_ix (k_ixT (K := K) rfl) (pv 2) pe_int (fun _ _ => rfl)) (pv 0) (nomark _)))))
        (pss_one (ps_ret pe_bl))
        pss_nil)
      (pss_one (ps_ret (pe_callB (k_all (K := K) rfl rfl) (by rfl) T.n_all (by decide +kernel) (pa_cons (pe_lc (own := [("first", 3), ("end", 4)]) (g := (gTup K 2 (gCons (gName 3) (gCons (gName 4) gNil)))) (tt := tYes) rfl sc_is_next_block.nd (k_tup (K := K) rfl (pv 1)) (blkOk_by (own := [("first", 3), ("end", 4)]) (N := n_is_next_block) (sc := (defScope s_is_next_block)) (by decide +kernel)) (fun _ _ _ _ _ => (k_gtup (K := K) rfl rfl (pgs_cons (pg_name (i := 3) sc_is_next_block.nd rfl (Or.inl rfl)) (pgs_cons (pg_name (i := 4) sc_is_next_block.nd rfl (Or.inl rfl)) pgs_nil)))) (fun _ _ _ _ _ => pts_nil) (fun _ _ _ _ _ => (pe_or (pe_cmpR op_lt (pe_ix (k_ixT (K := K) rfl) (pv 2) pe_int (fun _ _ => rfl)) (pv 3) (nomark _)) (pe_one (pe_cmpR op_lt (pv 4) (pe_ix (k_ixT (K := K) rfl) (pv 2) pe_int (fun _ _ => rfl)) (nomark _)))))) pa_nil))))), ?_⟩
    have hq : SqT K H q [.int k.1, .int k.2] := SqT.of hk
    refine ⟨_, rfl, q, k, rfl, hk, by omega, h2, true, rfl, iteF ?_⟩
    refine ⟨_, rfl, q, _, 0, _, rfl, rfl, hq, at0, _, rfl, k.1, n, rfl, rfl, _, rfl, ite2 (fun h => ?_) (fun _ => ?_)⟩
    · have h' : k.1 ≤ n := of_decide_eq_true h
      omega
    refine ⟨_, rfl, p, rfl, ⟨_, SqT.of hp⟩, lcT (fun _ => some (V.bl true)) (SqT.of hp) (paired_refs hpr) (by omega) ?_ ?_⟩
    · rintro i x y H' hy ⟨r, rfl, hr⟩ hs S hS
      have hq' : SqT K H' q [.int k.1, .int k.2] := Same.seqT hs hq
      refine ⟨r, _, rfl, SqT.of (hs _ _ hr), rfl, _, _, rfl, _, _, rfl, rfl, rfl, yesT ?_⟩
      refine ⟨_, rfl, q, _, 1, _, rfl, rfl, hq', at1, _, rfl, k.2, y.1, rfl, rfl, _, rfl, ite2 (fun _ => hS _ (Same.refl _)) (fun h => ?_)⟩
      refine ⟨_, rfl, _, rfl, q, _, 0, _, rfl, rfl, hq', at0, y.2, k.1, rfl, rfl, ?_⟩
      have hy' := h4 y (List.mem_of_getElem? hy)
      have h' : ¬ k.2 < y.1 := fun z => h (decide_eq_true z)
      show S (some (V.bl (decide (y.2 < k.1)))) H'
      rw [decide_eq_true (show y.2 < k.1 by omega)]
      exact hS _ (Same.refl _)
    · intro D H' hD hs hl
      rw [fm_bools] at hl
      refine ⟨D, bs.map fun _ => true, rfl, SqL.of hl, ?_⟩
      have e : (bs.map fun _ => true).all id = true := by simp
      rw [e]
      exact qq _ hs
theorem ok_a_init (T : Txt K mg a) : FnOk P w K mg base CX0 5 a.f_a_init a.d_a_init ["self", "number", "blocks"] (sp_a_init a) := by
  refine T.F_a_init.ok sc_a_init (fun vs H Q E h => ?_) (fun cdv A outer s H vs Q E hr h => ?_)
  · obtain ⟨x, dx, t, y, rfl, _⟩ := h
    rfl
  · obtain ⟨x, dx, t, y, rfl, hx, ⟨as, ht, hp⟩, ok, q⟩ := h
    refine ⟨_, PSs.nox (pss_cons (ps_expr (pe_call (ok_check_number T) (hr.mono (by decide)) (by rfl) T.m_check_number T.F_check_number.kp T.b_check_number .nil pass0 (pa_cons (pv 1) pa_nil)))
      (pss_cons (ps_if (PW.pt (pw_or (pt_not (pt_val (pe_callB (k_isi (K := K) rfl) (by rfl) T.n_isinstance (by decide +kernel) (pa_cons (pv 2) (pa_cons (pe_bltn (v := .ty "tuple") (u := .type "tuple") (by rfl) T.n_tuple (by decide +kernel) rfl) pa_nil))))) (pw_or1 (pt_cmpR op_gt (pe_callB (k_len (K := K) rfl) (by rfl) T.n_len PySem.boot_len (pa_cons (pv 2) pa_nil)) (pe_globE (by rfl) T.c_MOST_SELECTORS) (nomark _)))))
        (pss_one ps_never)
        pss_nil)
      (pss_cons (ps_for PassesOwn.never rfl (pi_range1 (by rfl) T.n_range (pa_cons (pe_callB (k_len (K := K) rfl) (by rfl) T.n_len PySem.boot_len (pa_cons (pv 2) pa_nil)) pa_nil)) (pg_name (i := 3) sc_a_init.nd rfl (Or.inl rfl))
        (pss_one (ps_if (pt_not (pt_val (pe_call (ok_is_next_block T) (hr.mono (by decide)) (by rfl) T.m_is_next_block T.F_is_next_block.kp T.b_is_next_block .nil pass0 (pa_cons (pv 1) (pa_cons (pe_slice (k_slT (K := K) rfl) (pv 2) po_none (po_some (pv 3))) (pa_cons (pe_ix (k_ixT (K := K) rfl) (pv 2) (pv 3) (fun _ _ => rfl)) pa_nil))))))
        (pss_one ps_never)
        pss_nil)))
      (pss_cons (ps_fld (pv 0) (pv 1) rfl)
      (pss_one (ps_fld (pv 0) (pv 2) rfl)))))), ?_⟩
    have hT : SqT K H t (refs as) := SqT.of ht
    have hlen : as.length = y.2.length := hp.length
    have h3 := ok.len
    have h0 := ok.n0
    refine ⟨_, rfl, _, rfl, h0, ?_⟩
    refine ⟨_, rfl, _, _, _, _, true, rfl, .ty "tuple", .base (.tup ht), kit_ty (by decide +kernel), true, rfl, iteF ?_⟩
    refine ⟨_, rfl, t, _, rfl, .inr hT, _, _, rfl, rfl, _, rfl, ite2 (fun z => ?_) (fun _ => ?_)⟩
    · have z' := of_decide_eq_true z
      rw [List.length_map] at z'
      omega
    refine ⟨_, rfl, t, _, rfl, .inr hT, _, rfl, ?_, ?_, for_range (lo := 0) (n := (refs as).length) (fun i σ H' => ∃ v, σ = [some (.ref x), some (.int y.1), some (.ref t), v] ∧ Same H H') ⟨_, rfl, Same.refl _⟩ ?_ ?_⟩
    · omega
    · rw [List.length_map]
      omega
    · rintro i σ H' hi ⟨v, rfl, hs⟩
      rw [List.length_map] at hi
      have hi' : i < y.2.length := by omega
      obtain ⟨k, hk⟩ : ∃ k, y.2[i]? = some k := ⟨_, List.getElem?_eq_getElem hi'⟩
      obtain ⟨r, hr⟩ : ∃ r, as[i]? = some r := ⟨_, List.getElem?_eq_getElem hi⟩
      obtain ⟨k', hk', hb⟩ := Paired.at hp hr
      rw [hk] at hk'
      cases hk'
      have hT' := Same.seqT hs hT
      have e0 : (0 : Int) + (i : Int) = (i : Int) := Int.zero_add _
      rw [e0]
      have hik : (refs as)[i]? = some (V.ref r) := by
        rw [List.getElem?_map, hr]
        rfl
      refine ⟨_, rfl, _, rfl, _, rfl, (i : Int), rfl, t, refs as, rfl, hT', fun z => ?_, fun _ p hpn => ?_⟩
      · have z2 := z.2
        rw [sIx_nat (by rw [List.length_map]; omega), List.length_map] at z2
        omega
      rw [cut_take (by rw [List.length_map]; omega)]
      have hs1 : Same H' (upd H' p (.tup ((refs as).take i))) := Same.new hpn
      have hT2 := Same.seqT hs1 hT'
      refine ⟨_, rfl, _, rfl, t, _, _, _, rfl, rfl, hT2, atN hik, ?_⟩
      have hm := List.mem_of_getElem? hk
      have he := ok.each k hm
      refine ⟨y.1, p, r, y.2.take i, k, rfl, ⟨as.take i, ?_, Paired.mapP (Paired.tk i hp) fun _ _ q => q.up (hs.trans hs1)⟩, hb.up (hs.trans hs1), h0, he.1, he.2, ?_, ?_, fun H2 hs2 => ⟨true, rfl, iteF ⟨_, rfl, (hs.trans hs1).trans hs2⟩⟩⟩
      · rw [upd_same]
        exact congrArg (fun z => some (HO.tup z)) (List.map_take ..).symm
      · rw [List.length_take]
        omega
      · intro z hz
        obtain ⟨j, hj⟩ := List.mem_iff_getElem?.mp hz
        have hji : j < i := by
          have := (List.getElem?_eq_some_iff.mp hj).1
          rw [List.length_take] at this
          omega
        rw [List.getElem?_take_of_lt hji] at hj
        obtain ⟨j1, j2⟩ := List.getElem?_eq_some_iff.mp hj
        obtain ⟨i1, i2⟩ := List.getElem?_eq_some_iff.mp hk
        have z := List.pairwise_iff_getElem.mp ok.apart j i j1 i1 hji
        rw [j2, i2] at z
        exact z
    · rintro σ H' ⟨v, rfl, hs⟩
      have hx' := hs _ _ hx
      refine ⟨_, rfl, _, rfl, x, a.c_Answer, dx, _, rfl, hx', T.cl_Answer, T.na_Answer_told_number, (by show 0 < 1000; decide), ?_⟩
      refine ⟨_, rfl, _, rfl, x, a.c_Answer, dx, _, rfl, upd_same, T.cl_Answer, T.na_Answer_told_blocks, (by show 1 < 1000; decide), ?_⟩
      have k : ∀ b o, H b = some o → b ≠ x → (upd (upd H' x (.ins a.c_Answer dx (putF "told_number" (.int y.1) []))) x (.ins a.c_Answer dx (putF "told_blocks" (.ref t) (putF "told_number" (.int y.1) [])))) b = some o := fun b o e hb => by
        rw [upd_ne hb, upd_ne hb]
        exact hs _ _ e
      have ne : ∀ {b : Addr} {xs : List V}, H b = some (.tup xs) → b ≠ x := fun e => ne_of e hx (fun z => by cases z)
      exact q _ ⟨dx, _, t, upd_same, rfl, rfl, as, k _ _ ht (ne ht), Paired.mapP hp fun b _ z => k _ _ z (ne z)⟩ k
theorem ok_a_number (T : Txt K mg a) : FnOk P w K mg base CX0 1 a.f_a_number a.d_a_number ["self"] (sp_a_number a) := by
  refine T.F_a_number.ok sc_a_number (fun vs H Q E h => ?_) (fun cdv A outer s H vs Q E hr h => ?_)
  · obtain ⟨x, y, rfl, _⟩ := h
    rfl
  · obtain ⟨x, y, rfl, ⟨dx, fs, b, h1, h2, h3, h4⟩, q⟩ := h
    refine ⟨_, (pss_one (ps_ret (k_fld (K := K) rfl (pv 0) rfl))), ?_⟩
    exact ⟨_, rfl, x, a.c_Answer, dx, fs, _, rfl, h1, T.cl_Answer, T.na_Answer_told_number, h2, q⟩
theorem ok_a_blocks (T : Txt K mg a) : FnOk P w K mg base CX0 1 a.f_a_blocks a.d_a_blocks ["self"] (sp_a_blocks a) := by
  refine T.F_a_blocks.ok sc_a_blocks (fun vs H Q E h => ?_) (fun cdv A outer s H vs Q E hr h => ?_)
  · obtain ⟨x, y, rfl, _⟩ := h
    rfl
  · obtain ⟨x, y, rfl, ⟨dx, fs, b, h1, h2, h3, h4⟩, q⟩ := h
    refine ⟨_, (pss_one (ps_ret (k_fld (K := K) rfl (pv 0) rfl))), ?_⟩
    exact ⟨_, rfl, x, a.c_Answer, dx, fs, _, rfl, h1, T.cl_Answer, T.na_Answer_told_blocks, h3, q b h4⟩
theorem ok_condition_in (T : Txt K mg a) : FnOk P w K mg base CX0 1 a.f_condition_in a.d_condition_in ["text"] sp_condition_in := by
  refine T.F_condition_in.ok sc_condition_in (fun vs H Q E h => ?_) (fun cdv A outer s H vs Q E hr h => ?_)
  · obtain ⟨c, rfl, _⟩ := h
    rfl
  · obtain ⟨c, rfl, q⟩ := h
    refine ⟨_, (pss_cons (ps_set (i := 1) sc_condition_in.nd rfl (Or.inl rfl) (pe_m1 PySem.F.slot_str_removeprefix PySem.F.type_str_removeprefix mt_removeprefix (pv 0) pe_str))
      (pss_one (ps_ret (pe_ifExp (pt_cmpR (k_in (K := K) rfl) (pv 1) (pe_globE (by rfl) T.c_CONDITIONS) rfl) (pe_tup (pa_cons (pv 1) (pa_cons (pe_cmpR op_eq (pv 1) (pv 0) (nomark _)) pa_nil))) pe_non)))), ?_⟩
    refine ⟨_, rfl, ⟨_, rfl⟩, _, _, rfl, rfl, ?_, ?_⟩
    · have := cS_len c
      exact size1000 (by omega)
    have hq := T.q_CONDITIONS H
    have e1 : inV (V.str (wS c.1)) (condStrs.map V.str) = true := by cases c.1 <;> decide +kernel
    have e2 : (condStrs.map V.str).all flatV = true := by decide +kernel
    rw [remove_not]
    refine ⟨_, rfl, _, _, rfl, .inr hq, rfl, e2, true, by rw [e1]; rfl, iteT ?_⟩
    refine ⟨_, rfl, _, rfl, _, rfl, rfl, size1000 (by show 2 ≤ 1000; omega), fun r hr => ?_⟩
    have e3 : decide (V.str (wS c.1) = V.str (cS c)) = c.2 := by
      rw [← word_is c]
      exact decide_eq_decide.mpr ⟨V.str.inj, congrArg _⟩
    refine q r _ (Same.new hr) ?_
    show upd H r (.tup [V.str (wS c.1), V.bl (decide (V.str (wS c.1) = V.str (cS c)))]) r = some _
    rw [e3]
    exact upd_same
theorem ok_row_in (T : Txt K mg a) : FnOk P w K mg base CX0 2 a.f_row_in a.d_row_in ["text"] sp_row_in := by
  refine T.F_row_in.ok sc_row_in (fun vs H Q E h => ?_) (fun cdv A outer s H vs Q E hr h => ?_)
  · obtain ⟨r, rfl, _⟩ := h
    rfl
  · obtain ⟨r, rfl, ok, q⟩ := h
    refine ⟨_, (pss_cons (ps_if (pt_not (pt_val (pe_callB (k_isi (K := K) rfl) (by rfl) T.n_isinstance (by decide +kernel) (pa_cons (pv 0) (pa_cons (pe_bltn (v := .ty "str") (u := .type "str") (by rfl) T.n_str (by decide +kernel) rfl) pa_nil)))))
        (pss_one (ps_ret pe_non))
        pss_nil)
      (pss_cons (ps_par (i := 1) (j := 2) rfl sc_row_in.nd rfl rfl (by decide) rfl rfl (pa_cons (pe_tup pa_nil) (pa_cons (pv 0) pa_nil)) (by rfl))
      (C8.pss_cut (ps_if (pt_val (pe_m1 PySem.F.slot_str_startswith PySem.F.type_str_startswith mt_startswith (pv 0) pe_str))
        (pss_cons (ps_asg (pe_partition (pe_slice sl_str (pv 0) (po_some pe_int) po_none) pe_str) (k_gtup (K := K) rfl rfl (pgs_cons (pg_name (i := 3) sc_row_in.nd rfl (Or.inl rfl)) (pgs_cons (pg_name (i := 4) sc_row_in.nd rfl (Or.inl rfl)) (pgs_cons (pg_name (i := 2) sc_row_in.nd rfl (Or.inl rfl)) pgs_nil)))))
      (pss_one (ps_set (i := 1) sc_row_in.nd rfl (Or.inl rfl) (pe_callTy (k_tuple (K := K) rfl) (by rfl) T.n_tuple (by decide +kernel) (pa_cons (pe_lc (own := [("word", 6)]) (g := (gName 6)) (tt := tYes) rfl sc_row_in.nd (k_list (K := K) rfl (pe_split (pv 3) pe_str)) (blkOk_by (own := [("word", 6)]) (N := n_row_in) (sc := (defScope s_row_in)) (by decide +kernel)) (fun _ _ _ _ _ => (pg_name (i := 6) sc_row_in.nd rfl (Or.inl rfl))) (fun _ _ _ _ _ => pts_nil) (fun _ _ _ _ _ => (pe_call (ok_condition_in T) (hr.mono (by decide)) (by rfl) T.m_condition_in T.F_condition_in.kp T.b_condition_in .nil pass0 (pa_cons (pv 6) pa_nil)))) pa_nil)))))
        pss_nil)
      (pss_cons (ps_set (i := 5) sc_row_in.nd rfl (Or.inl rfl) (pe_callTy (k_tuple (K := K) rfl) (by rfl) T.n_tuple (by decide +kernel) (pa_cons (pe_split (pv 2) pe_str) pa_nil)))
      (pss_cons (ps_if (PW.pt (pw_or (pt_cmpR op_gt (pe_callB (k_len (K := K) rfl) (by rfl) T.n_len PySem.boot_len (pa_cons (pv 1) pa_nil)) (pe_globE (by rfl) T.c_MOST_PARTS) (nomark _)) (pw_or1 (pt_cmpR op_gt (pe_callB (k_len (K := K) rfl) (by rfl) T.n_len PySem.boot_len (pa_cons (pv 5) pa_nil)) (pe_globE (by rfl) T.c_MOST_PARTS) (nomark _)))))
        (pss_one (ps_ret pe_non))
        pss_nil)
      (pss_cons (ps_if (PW.pt (pw_or (pt_cmpR (k_noneT (K := K) rfl hr.units) pe_non (pv 1) rfl) (pw_or1 (pt_val (pe_callB (k_any (K := K) rfl rfl) (by rfl) T.n_any (by decide +kernel) (pa_cons (pe_lc (own := [("deed", 7)]) (g := (gName 7)) (tt := tYes) rfl sc_row_in.nd (k_tup (K := K) rfl (pv 5)) (blkOk_by (own := [("deed", 7)]) (N := n_row_in) (sc := (defScope s_row_in)) (by decide +kernel)) (fun _ _ _ _ _ => (pg_name (i := 7) sc_row_in.nd rfl (Or.inl rfl))) (fun _ _ _ _ _ => pts_nil) (fun _ _ _ _ _ => (pe_cmpR (k_notIn (K := K) rfl) (pv 7) (pe_globE (by rfl) T.c_DEEDS) rfl))) pa_nil))))))
        (pss_one (ps_ret pe_non))
        pss_nil)
      (pss_one (ps_ret (pe_tup (pa_cons (pv 1) (pa_cons (pv 5) pa_nil))))))))))), ?_⟩
    obtain ⟨cs, ds⟩ := r
    have hc3 : cs.length ≤ 3 := ok.c3
    have hd1 : 1 ≤ ds.length := ok.d1
    have hd3 : ds.length ≤ 3 := ok.d3
    have hds : ds ≠ [] := by
      rintro rfl
      simp at hd1
    have hll := line_len ok
    -- isinstance(text, str)
    refine ⟨_, rfl, _, _, _, _, true, rfl, .ty "str", .base (.str _), kit_ty (by decide +kernel), true, rfl, iteF ?_⟩
    -- conditions, rest = (), text
    refine ⟨size1000 (by show 0 ≤ 1000; omega), fun c0 hc0 => ⟨_, rfl, _, _, rfl, ?_⟩⟩
    have hs0 : Same H (upd H c0 (.tup [])) := Same.new hc0
    have hc0' : (upd H c0 (.tup [])) c0 = some (.tup []) := upd_same
    generalize upd H c0 (.tup []) = H0 at hs0 hc0'
    refine ⟨fun σ' H' => ∃ (c : Addr) (v3 v4 : Option V), σ' = [some (.str (line (cs, ds))), some (.ref c), some (.str (deedsS ds)), v3, v4, none, none, none] ∧ Same H H' ∧ CondsT H' c cs, ?_, ?_⟩
    · refine ⟨_, rfl, ⟨_, rfl⟩, _, _, rfl, rfl, _, rfl, ?_⟩
      rw [starts_line cs hds]
      by_cases hne : cs = []
      · subst hne
        refine iteF ⟨c0, none, none, ?_, hs0, [], hc0', .nil⟩
        show [some (V.str (line ([], ds))), _, some (V.str (line ([], ds))), _, _, _, _, _] = _
        rw [line_nil]
      · have e0 : (!cs.isEmpty) = true := by
          cases cs with
          | nil => exact absurd rfl hne
          | cons _ _ => rfl
        rw [e0]
        refine iteT ?_
        -- head, colon, rest = text[3:].partition(": ")
        refine ⟨_, rfl, 3, rfl, _, rfl, size1000 (by omega), ⟨_, rfl⟩, _, _, rfl, rfl, rfl, ?_, fun p hp => ?_⟩
        · rw [cut_line hne]
          have := head_len hc3
          have := deeds_len hd3
          have e2 : (": " : Str).length = 2 := rfl
          rw [len_app, len_app, e2]
          exact size1000 (by omega)
        rw [cut_line hne, part_line]
        refine ⟨p, _, rfl, SqT.of upd_same, rfl, _, _, rfl, _, _, rfl, _, _, rfl, rfl, ?_⟩
        have hs1 : Same H0 (upd H0 p (.tup [.str (headS cs), .str (": " : Str), .str (deedsS ds)])) := Same.new hp
        generalize upd H0 p (.tup [.str (headS cs), .str (": " : Str), .str (deedsS ds)]) = H1 at hs1
        -- conditions = tuple([condition_in(word) for word in head.split(" and ")])
        refine ⟨_, rfl, ⟨_, rfl⟩, _, _, rfl, rfl, rfl, ?_, fun l hl => ⟨l, rfl, ⟨_, SqL.of upd_same⟩, ?_⟩⟩
        · have := head_len hc3
          exact size1000 (show (headS cs).length + 2 ≤ 1000 by omega)
        rw [split_head hne hc3]
        have hs2 : Same H1 (upd H1 l (.lst ((cs.map cS).map V.str))) := Same.new hl
        have hl2 : (upd H1 l (.lst ((cs.map cS).map V.str))) l = some (.lst ((cs.map cS).map V.str)) := upd_same
        generalize upd H1 l (.lst ((cs.map cS).map V.str)) = H2 at hs2 hl2
        rw [List.map_map] at hl2
        refine lcLd (fun H v c => ∃ r, v = V.ref r ∧ CondAt H r c) (fun _ _ e _ _ ⟨r, e1, e2⟩ => ⟨r, e1, e2.up e⟩) (SqL.of hl2) (paired_map _ cs) (by omega) ?_ ?_
        · rintro i x c H3 D l3 hy rfl hs3 hD Z S hS
          refine ⟨rfl, yesT ?_⟩
          refine ⟨_, rfl, c, rfl, fun t H4 hs4 h4 => ?_⟩
          exact hS _ H4 hs4 ⟨t, rfl, h4.hide (hs4 _ _ hD)⟩
        · intro D H3 zs hD hs3 hl3 hp3
          obtain ⟨as, rfl, hp4⟩ := refs_of hp3
          refine ⟨D, _, rfl, .inl ⟨SqL.of hl3, fun t ht => ?_⟩⟩
          have hs4 : Same H3 (upd H3 t (.tup (refs as))) := Same.new ht
          exact ⟨t, _, _, rfl, (((hs0.trans hs1).trans hs2).trans hs3).trans hs4, as, upd_same, Paired.mapP hp4 fun _ _ z => CondAt.up hs4 z⟩
    rintro σ' H1 ⟨c, v3, v4, rfl, hs1, hC⟩
    -- deeds = tuple(rest.split(", "))
    refine ⟨_, rfl, ⟨_, rfl⟩, _, _, rfl, rfl, rfl, ?_, fun l hl => ⟨l, _, rfl, .inl ⟨SqL.of upd_same, fun d hd => ?_⟩⟩⟩
    · have := deeds_len hd3
      exact size1000 (by omega)
    rw [split_deeds hds] at hd ⊢
    have hs2 : Same H1 (upd (upd H1 l (.lst ((ds.map dS).map V.str))) d (.tup ((ds.map dS).map V.str))) := Same.trans (Same.new hl) (Same.new hd)
    have hd2 : (upd (upd H1 l (.lst ((ds.map dS).map V.str))) d (.tup ((ds.map dS).map V.str))) d = some (.tup ((ds.map dS).map V.str)) := upd_same
    generalize upd (upd H1 l (.lst ((ds.map dS).map V.str))) d (.tup ((ds.map dS).map V.str)) = H2 at hs2 hd2
    have hd2' : H2 d = some (.tup (dVs ds)) := by
      rw [List.map_map] at hd2
      exact hd2
    have hC2 := hC.up hs2
    obtain ⟨as, hc1, hc2⟩ := hC2
    have hlc : (refs as).length = cs.length := by rw [List.length_map]; exact hc2.length
    -- the lengths
    refine ⟨_, rfl, c, _, rfl, .inr (SqT.of hc1), _, _, rfl, rfl, _, rfl, ite2 (fun z => ?_) (fun _ => ?_)⟩
    · have z' := of_decide_eq_true z
      rw [hlc] at z'
      omega
    refine ⟨_, rfl, d, _, rfl, .inr (SqT.of hd2'), _, _, rfl, rfl, _, rfl, ite2 (fun z => ?_) (fun _ => ?_)⟩
    · have z' := of_decide_eq_true z
      rw [List.length_map] at z'
      omega
    -- None in conditions or any([deed not in DEEDS for deed in deeds])
    refine ⟨_, rfl, c, refs as, rfl, rfl, SqT.of hc1, ?_, _, rfl, iteF ?_⟩
    · intro z hz
      obtain ⟨i, hi⟩ := List.mem_iff_getElem?.mp hz
      obtain ⟨y, _, r, e, hr⟩ := Paired.at (paired_refs hc2) hi
      exact ⟨r, _, e, SqT.of hr⟩
    refine ⟨_, rfl, d, rfl, ⟨_, SqT.of hd2'⟩, lcT (fun _ => some (V.bl false)) (SqT.of hd2') (paired_map _ ds) (by omega) ?_ ?_⟩
    · rintro i x y H3 hy rfl hs3 S hS
      refine ⟨rfl, yesT ?_⟩
      have e1 : inV (V.str (dS y)) (deedStrs.map V.str) = true := by cases y <;> decide +kernel
      have e2 : (deedStrs.map V.str).all flatV = true := by decide +kernel
      refine ⟨_, rfl, _, _, rfl, .inr (T.q_DEEDS H3), rfl, e2, ?_⟩
      show S (some (V.bl (!inV (V.str (dS y)) (deedStrs.map V.str)))) H3
      rw [e1]
      exact hS _ (Same.refl _)
    intro D H3 hD hs3 hl3
    rw [fm_bools] at hl3
    refine ⟨D, _, rfl, SqL.of hl3, _, rfl, ?_⟩
    have e3 : (ds.map fun _ => false).any id = false := by simp
    rw [e3]
    refine iteF ⟨_, rfl, _, rfl, size1000 (by show 2 ≤ 1000; omega), fun t ht => ?_⟩
    have hs4 : Same H3 (upd H3 t (.tup [.ref c, .ref d])) := Same.new ht
    have hs23 := hs3.trans hs4
    refine q t _ ((hs1.trans hs2).trans hs23) ⟨c, d, upd_same, (hC.up hs2).up hs23, hs23 _ _ hd2'⟩
theorem ok_holes_below (T : Txt K mg a) : FnOk P w K mg base CX0 1 a.f_holes_below a.d_holes_below ["unmarked", "marked"] sp_holes_below := by
  refine T.F_holes_below.ok sc_holes_below (fun vs H Q E h => ?_) (fun cdv A outer s H vs Q E hr h => ?_)
  · obtain ⟨u, m, us, ms, rfl, _⟩ := h
    rfl
  · obtain ⟨u, m, us, ms, rfl, hu, hm, hz, hz2, q⟩ := h
    refine ⟨_, (pss_one (ps_ret (pe_lc (own := [("piece", 3)]) (g := (gName 3)) rfl sc_holes_below.nd (k_list (K := K) rfl (pv 0)) (blkOk_by (own := [("piece", 3)]) (N := n_holes_below) (sc := (defScope s_holes_below)) (by decide +kernel)) (fun _ _ _ _ _ => (pg_name (i := 3) sc_holes_below.nd rfl (Or.inr rfl))) (fun _ _ _ _ _ => (pts_one (pt_val (pe_callB (k_any (K := K) rfl rfl) (by rfl) T.n_any (by decide +kernel) (pa_cons (pe_lc (own := [("other", 2)]) (g := (gName 2)) (tt := tYes) rfl sc_holes_below.nd (k_tup (K := K) rfl (pv 1)) (blkOk_by (own := [("other", 2)]) (N := n_holes_below) (sc := (relS { kind := .function, names := [(".0", .local), ("piece", .cell), ("any", .globalImplicit), ("marked", .free)], isGenerator := false, isCoroutine := false, more := [] : Scope } (defScope s_holes_below))) (by decide +kernel)) (fun _ _ _ _ _ => (pg_name (i := 2) sc_holes_below.nd rfl (Or.inl rfl))) (fun _ _ _ _ _ => pts_nil) (fun _ _ _ _ _ => (pe_cmpR op_lt (pv 3) (pv 2) (nomark _)))) pa_nil))))) (fun _ _ _ _ _ => (pv 3))))), ?_⟩
    refine ⟨_, rfl, u, rfl, ⟨_, SqL.of hu⟩, lcL (fun p => if (ms.any fun o => decide (p < o)) = true then some (V.int p) else none) (SqL.of hu) (paired_ints us) hz ?_ ?_⟩
    · rintro i x p H' hy rfl hs S hS
      have hm' : SqT K H' m (iVs ms) := SqT.of (hs _ _ hm)
      refine ⟨rfl, ?_⟩
      refine ⟨_, rfl, m, rfl, ⟨_, hm'⟩, lcT (fun o => some (V.bl (decide (p < o)))) hm' (paired_ints ms) hz2 ?_ ?_⟩
      · rintro j x2 o H2 hy2 rfl hs2 S2 hS2
        refine ⟨rfl, yesT ?_⟩
        exact ⟨_, rfl, _, rfl, p, o, rfl, rfl, hS2 _ (Same.refl _)⟩
      · intro D2 H2 hD2 hs2 hl2
        rw [fm_bools] at hl2
        refine ⟨D2, _, rfl, SqL.of hl2, _, rfl, ?_⟩
        rw [any_bools]
        cases e : ms.any fun o => decide (p < o) with
        | true =>
          refine iteT ?_
          have z := hS H2 hs2
          rw [e] at z
          exact ⟨_, rfl, z⟩
        | false =>
          refine iteF ?_
          have z := hS H2 hs2
          rw [e] at z
          exact z
    · intro D H' hD hs hl
      rw [fm_filter] at hl
      exact q D H' hs hl
theorem ok_condition_holds (T : Txt K mg a) : FnOk P w K mg base CX0 2 a.f_condition_holds a.d_condition_holds ["word", "base", "top", "marked", "still", "heard"] sp_condition_holds := by
  refine T.F_condition_holds.ok sc_condition_holds (fun vs H Q E h => ?_) (fun cdv A outer s H vs Q E hr h => ?_)
  · obtain ⟨wd, b, t, m, ms, st, hd, rfl, _⟩ := h
    rfl
  · obtain ⟨wd, b, t, m, ms, st, hd, rfl, hm, h0, h1, h2, h3, h4, q⟩ := h
    refine ⟨_, (pss_cons (ps_setLc (i := 6) (own := [("piece", 7)]) (g := (gName 7)) rfl sc_condition_holds.nd rfl rfl (sw_true rfl rfl rfl (by decide +kernel)) (pi_range2 (by rfl) T.n_range (pa_cons (pv 1) (pa_cons (pv 2) pa_nil))) (blkOk_by (own := [("piece", 7)]) (N := n_condition_holds) (sc := (defScope s_condition_holds)) (by decide +kernel)) (fun _ _ _ _ _ => (pg_name (i := 7) sc_condition_holds.nd rfl (Or.inl rfl))) (fun _ _ _ _ _ => (pts_one (pt_cmpR (k_notIn (K := K) rfl) (pv 7) (pv 3) rfl))) (fun _ _ _ _ _ => (pv 7)))
      (pss_cons (ps_if (pt_cmpR op_eq (pv 0) pe_str (nomark _))
        (pss_one (ps_ret (pe_not (pv 5))))
        pss_nil)
      (pss_cons (ps_if (pt_cmpR op_eq (pv 0) pe_str (nomark _))
        (pss_one (ps_ret (pe_cmpR (k_in (K := K) rfl) (pv 1) (pv 3) rfl)))
        pss_nil)
      (pss_cons (ps_if (pt_cmpR op_eq (pv 0) pe_str (nomark _))
        (pss_one (ps_ret (pe_cmpR (k_neD (K := K) rfl hr.units) (pe_call (ok_holes_below T) (hr.mono (by decide)) (by rfl) T.m_holes_below T.F_holes_below.kp T.b_holes_below .nil pass0 (pa_cons (pv 6) (pa_cons (pv 3) pa_nil))) (pe_lst pa_nil) (nomark _))))
        pss_nil)
      (pss_cons (ps_if (pt_cmpR op_eq (pv 0) pe_str (nomark _))
        (pss_one (ps_ret (pe_cmpR (k_neD (K := K) rfl hr.units) (pv 3) (pe_tup pa_nil) (nomark _))))
        pss_nil)
      (pss_cons (ps_if (pt_cmpR op_eq (pv 0) pe_str (nomark _))
        (pss_one (ps_ret (pe_cmpR (k_neD (K := K) rfl hr.units) (pv 6) (pe_lst pa_nil) (nomark _))))
        pss_nil)
      (pss_one (ps_ret (pe_cmpR op_ge (pv 4) (pe_ifExp (pt_cmpR op_eq (pv 0) pe_str (nomark _)) pe_int pe_int) (nomark _)))))))))), ?_⟩
    have hm' : SqT K H m (iVs ms) := SqT.of hm
    refine ⟨_, rfl, _, rfl, b, t, rfl, ⟨by omega, by omega, by omega, by omega⟩, lcR (fun p => if (!ms.contains p) = true then some (V.int p) else none) h2 ?_ ?_⟩
    · intro i p H' hi hp1 hp2 hs S hS
      refine ⟨rfl, _, rfl, _, rfl, notIn_ints (.inr (Same.seqT hs hm')) ⟨_, rfl, ?_⟩⟩
      refine ite2 (fun h => ⟨_, rfl, ?_⟩) (fun h => ?_)
      · have z := hS _ (Same.refl _)
        rw [if_pos h] at z
        exact z
      · have z := hS _ (Same.refl _)
        rw [if_neg h] at z
        exact z
    intro D H' hD hs hl
    rw [fm_filter] at hl
    have hl' : H' D = some (.lst (iVs (unm b t ms))) := hl
    have hm2 := Same.seqT hs hm'
    have hu : (unm b t ms).length ≤ 1000 := by
      unfold unm
      have := filter_len_le (fun p => !ms.contains p) (outs b t)
      rw [outs_len] at this
      omega
    -- if word == "silent": return not heard
    refine ⟨_, rfl, rfl, _, rfl, ite2 (fun e => ?_) (fun n1 => ?_)⟩
    · have e' := wIs (e := .silent) rfl e
      subst e'
      exact ⟨_, rfl, _, rfl, q _ hs⟩
    -- doubt
    refine ⟨_, rfl, rfl, _, rfl, ite2 (fun e => ?_) (fun n2 => ?_)⟩
    · have e' := wIs (e := .doubt) rfl e
      subst e'
      exact ⟨_, rfl, _, rfl, in_ints (.inr hm2) (q _ hs)⟩
    -- holes
    refine ⟨_, rfl, rfl, _, rfl, ite2 (fun e => ?_) (fun n3 => ?_)⟩
    · have e' := wIs (e := .holes) rfl e
      subst e'
      refine ⟨_, rfl, _, rfl, D, m, _, ms, rfl, hl', hs _ _ hm, hu, h4, fun l H2 hs2 hl2 => ?_⟩
      refine ⟨size1000 (by show 0 ≤ 1000; omega), fun e he => ne_nilL (SqL.of (Same.new he _ _ hl2)) upd_same ?_⟩
      exact q _ ((hs.trans hs2).trans (Same.new he))
    -- marked
    refine ⟨_, rfl, rfl, _, rfl, ite2 (fun e => ?_) (fun n4 => ?_)⟩
    · have e' := wIs (e := .marked) rfl e
      subst e'
      refine ⟨_, rfl, size1000 (by show 0 ≤ 1000; omega), fun e he => ne_nilT (Same.seqT (Same.new he) hm2) upd_same ?_⟩
      exact q _ (hs.trans (Same.new he))
    -- open
    refine ⟨_, rfl, rfl, _, rfl, ite2 (fun e => ?_) (fun n5 => ?_)⟩
    · have e' := wIs (e := .opn) rfl e
      subst e'
      refine ⟨_, rfl, size1000 (by show 0 ≤ 1000; omega), fun e he => ne_nilL (SqL.of (Same.new he _ _ hl')) upd_same ?_⟩
      exact q _ (hs.trans (Same.new he))
    -- still
    refine ⟨_, rfl, _, rfl, rfl, _, rfl, ite2 (fun e => ?_) (fun n6 => ?_)⟩
    · have e' := wIs (e := .still1) rfl e
      subst e'
      exact ⟨_, _, rfl, rfl, q _ hs⟩
    · have e' : wd = .still2 := by
        cases wd
        · exact absurd (decide_eq_true rfl) n1
        · exact absurd (decide_eq_true rfl) n6
        · rfl
        · exact absurd (decide_eq_true rfl) n2
        · exact absurd (decide_eq_true rfl) n3
        · exact absurd (decide_eq_true rfl) n4
        · exact absurd (decide_eq_true rfl) n5
      subst e'
      exact ⟨_, _, rfl, rfl, q _ hs⟩
theorem ok_named_by (T : Txt K mg a) : FnOk P w K mg base CX0 2 a.f_named_by a.d_named_by ["deed", "base", "top", "marked"] sp_named_by := by
  refine T.F_named_by.ok sc_named_by (fun vs H Q E h => ?_) (fun cdv A outer s H vs Q E hr h => ?_)
  · obtain ⟨d, b, t, m, ms, rfl, _⟩ := h
    rfl
  · obtain ⟨d, b, t, m, ms, rfl, hm, h0, h1, h2, h3, h4, q⟩ := h
    refine ⟨_, (pss_cons (ps_set (i := 4) sc_named_by.nd rfl (Or.inl rfl) (pe_listRg rfl (by rfl) T.n_list (prg_2 (by rfl) T.n_range (pv 1) (pv 2))))
      (pss_cons (ps_setLc (i := 5) (own := [("piece", 6)]) (g := (gName 6)) rfl sc_named_by.nd rfl rfl (sw_true rfl rfl rfl (by decide +kernel)) (k_list (K := K) rfl (pv 4)) (blkOk_by (own := [("piece", 6)]) (N := n_named_by) (sc := (defScope s_named_by)) (by decide +kernel)) (fun _ _ _ _ _ => (pg_name (i := 6) sc_named_by.nd rfl (Or.inl rfl))) (fun _ _ _ _ _ => (pts_one (pt_cmpR (k_notIn (K := K) rfl) (pv 6) (pv 3) rfl))) (fun _ _ _ _ _ => (pv 6)))
      (pss_cons (ps_if (pt_cmpR op_eq (pv 0) pe_str (nomark _))
        (pss_one (ps_ret (pe_slice (k_slL (K := K) rfl) (pv 4) po_none (po_some pe_int))))
        pss_nil)
      (pss_cons (ps_if (pt_cmpR op_eq (pv 0) pe_str (nomark _))
        (pss_one (ps_ret (pe_call (ok_holes_below T) (hr.mono (by decide)) (by rfl) T.m_holes_below T.F_holes_below.kp T.b_holes_below .nil pass0 (pa_cons (pv 5) (pa_cons (pv 3) pa_nil)))))
        pss_nil)
      (pss_cons (ps_if (pt_cmpR op_eq (pv 0) pe_str (nomark _))
        (pss_one (ps_ret (pv 5)))
        pss_nil)
      (pss_one (ps_ret (pe_ifExp (pt_cmpR op_eq (pv 0) pe_str (nomark _)) (pv 4) (pe_lst pa_nil))))))))), ?_⟩
    have hm' : SqT K H m (iVs ms) := SqT.of hm
    -- outstanding = list(range(base, top))
    refine ⟨_, rfl, _, rfl, b, t, rfl, rfl, ?_, fun o ho => ?_⟩
    · exact rg_ok h0 h1 h2 h3
    rw [rgV_outs]
    have hs0 : Same H (upd H o (.lst (iVs (outs b t)))) := Same.new ho
    have ho' : (upd H o (.lst (iVs (outs b t)))) o = some (.lst (iVs (outs b t))) := upd_same
    have hol : (outs b t).length ≤ 1000 := by
      rw [outs_len]
      omega
    generalize upd H o (.lst (iVs (outs b t))) = H0 at hs0 ho'
    refine ⟨_, rfl, o, rfl, ⟨_, SqL.of ho'⟩, lcL (fun p => if (!ms.contains p) = true then some (V.int p) else none) (SqL.of ho') (paired_ints _) hol ?_ ?_⟩
    · rintro i x p H' hi rfl hs S hS
      refine ⟨rfl, _, rfl, _, rfl, notIn_ints (.inr (Same.seqT (hs0.trans hs) hm')) ⟨_, rfl, ?_⟩⟩
      refine ite2 (fun h => ⟨_, rfl, ?_⟩) (fun h => ?_)
      · have z := hS _ (Same.refl _)
        rw [if_pos h] at z
        exact z
      · have z := hS _ (Same.refl _)
        rw [if_neg h] at z
        exact z
    intro D H' hD hs hl
    rw [fm_filter] at hl
    have hl' : H' D = some (.lst (iVs (unm b t ms))) := hl
    have hsn := hs0.trans hs
    have hm2 := hsn _ _ hm
    have ho2 := hs _ _ ho'
    have hu : (unm b t ms).length ≤ 1000 := by
      unfold unm
      exact Nat.le_trans (filter_len_le _ _) hol
    refine ⟨_, rfl, rfl, _, rfl, ite2 (fun e => ?_) (fun n1 => ?_)⟩
    · have e' := dIs (e := .first) rfl e
      subst e'
      refine ⟨_, rfl, _, rfl, o, _, rfl, SqL.of ho2, fun p hp => ?_⟩
      have ec : cutV (iVs (outs b t)) none (some 1) = iVs ((outs b t).take 1) := by
        by_cases c : 1 ≤ (iVs (outs b t)).length
        · have z := cut_take (xs := iVs (outs b t)) (k := 1) c
          exact z.trans (List.map_take ..).symm
        · have e0 : outs b t = [] := by
            rw [List.length_map] at c
            exact List.eq_nil_of_length_eq_zero (by omega)
          rw [e0]
          rfl
      refine q p _ (hsn.trans (Same.new hp)) ?_
      rw [upd_same, ec]
      rfl
    refine ⟨_, rfl, rfl, _, rfl, ite2 (fun e => ?_) (fun n2 => ?_)⟩
    · have e' := dIs (e := .holes) rfl e
      subst e'
      exact ⟨_, rfl, _, rfl, D, m, _, ms, rfl, hl', hm2, hu, h4, fun l H2 hs2 hl2 => q l H2 (hsn.trans hs2) hl2⟩
    refine ⟨_, rfl, rfl, _, rfl, ite2 (fun e => ?_) (fun n3 => ?_)⟩
    · have e' := dIs (e := .unmarked) rfl e
      subst e'
      exact ⟨_, rfl, q D H' hsn hl'⟩
    refine ⟨_, rfl, rfl, _, rfl, ite2 (fun e => ?_) (fun n4 => ?_)⟩
    · have e' := dIs (e := .all) rfl e
      subst e'
      exact ⟨_, rfl, q o H' hsn ho2⟩
    refine ⟨size1000 (by show 0 ≤ 1000; omega), fun l hl => q l _ (hsn.trans (Same.new hl)) ?_⟩
    have e : named d b t ms = [] := by
      cases d
      · rfl
      · rfl
      · exact absurd (decide_eq_true rfl) n1
      · exact absurd (decide_eq_true rfl) n2
      · exact absurd (decide_eq_true rfl) n3
      · exact absurd (decide_eq_true rfl) n4
      · rfl
      · rfl
    rw [e]
    exact upd_same
theorem ok_asked_by (T : Txt K mg a) : FnOk P w K mg base CX0 1 a.f_asked_by a.d_asked_by ["deed", "free"] sp_asked_by := by
  refine T.F_asked_by.ok sc_asked_by (fun vs H Q E h => ?_) (fun cdv A outer s H vs Q E hr h => ?_)
  · obtain ⟨d, f, rfl, _⟩ := h
    rfl
  · obtain ⟨d, f, rfl, q⟩ := h
    refine ⟨_, (pss_cons (ps_if (pt_cmpR op_eq (pv 0) pe_str (nomark _))
        (pss_one (ps_ret (pv 1)))
        pss_nil)
      (pss_one (ps_ret (pe_ifExp (PW.pt (pw_and (pt_cmpR op_eq (pv 0) pe_str (nomark _)) (pw_and1 (pt_cmpR op_gt (pv 1) pe_int (nomark _))))) pe_int pe_int)))), ?_⟩
    refine ⟨_, rfl, rfl, _, rfl, ?_⟩
    refine ite2 (fun h => ?_) (fun h => ?_)
    · have e : d = .new := dIs rfl h
      subst e
      exact ⟨_, rfl, q⟩
    · have n1 : d ≠ .new := by
        rintro rfl
        exact h rfl
      refine ⟨_, rfl, rfl, _, rfl, ?_⟩
      refine ite2 (fun h => ?_) (fun h => ?_)
      · have e : d = .one := dIs rfl h
        subst e
        refine ⟨_, rfl, _, _, rfl, rfl, _, rfl, ?_⟩
        refine ite2 (fun h2 => ?_) (fun h2 => ?_)
        · have h2' : 0 < f := by simpa using h2
          have e : asked .one f = 1 := if_pos h2'
          rw [e] at q
          exact q
        · have h2' : ¬ 0 < f := by simpa using h2
          have e : asked .one f = 0 := if_neg h2'
          rw [e] at q
          exact q
      · have n2 : d ≠ .one := by
          rintro rfl
          exact h rfl
        have e : asked d f = 0 := by cases d <;> first | rfl | exact absurd rfl n1 | exact absurd rfl n2
        rw [e] at q
        exact q
theorem ok_check_rows (T : Txt K mg a) : FnOk P w K mg base CX0 3 a.f_check_rows a.d_check_rows ["rows"] sp_check_rows := by
  refine T.F_check_rows.ok sc_check_rows (fun vs H Q E h => ?_) (fun cdv A outer s H vs Q E hr h => ?_)
  · obtain ⟨t, rs, rfl, _⟩ := h
    rfl
  · obtain ⟨t, rs, rfl, ht, ok, q⟩ := h
    refine ⟨_, (pss_cons (ps_if (PW.pt (pw_or (pt_not (pt_val (pe_callB (k_isi (K := K) rfl) (by rfl) T.n_isinstance (by decide +kernel) (pa_cons (pv 0) (pa_cons (pe_bltn (v := .ty "tuple") (u := .type "tuple") (by rfl) T.n_tuple (by decide +kernel) rfl) pa_nil))))) (pw_or1 (pt_not (pt_chain op_le op_le pe_int (pe_callB (k_len (K := K) rfl) (by rfl) T.n_len PySem.boot_len (pa_cons (pv 0) pa_nil)) (pe_globE (by rfl) T.c_MOST_ROWS))))))
        (pss_one ps_never)
        pss_nil)
      (pss_one (ps_for PassesOwn.never rfl (k_enumT (K := K) rfl (by rfl) T.n_enumerate (pa_cons (pv 0) pa_nil)) (k_gtup (K := K) rfl rfl (pgs_cons (pg_name (i := 1) sc_check_rows.nd rfl (Or.inl rfl)) (pgs_cons (pg_name (i := 2) sc_check_rows.nd rfl (Or.inl rfl)) pgs_nil)))
        (pss_one (ps_if (pt_cmpR op_isN (pe_call (ok_row_in T) (hr.mono (by decide)) (by rfl) T.m_row_in T.F_row_in.kp T.b_row_in .nil pass0 (pa_cons (pv 2) pa_nil)) pe_non (nomark _))
        (pss_one ps_never)
        pss_nil))))), ?_⟩
    have hT : SqT K H t (rs.map fun r => V.str (line r)) := SqT.of ht
    have h1 := ok.l1
    have h8 := ok.l8
    refine ⟨_, rfl, _, _, _, _, true, rfl, .ty "tuple", .base (.tup ht), kit_ty (by decide +kernel), true, rfl, iteF ?_⟩
    refine ⟨_, rfl, t, _, rfl, .inr hT, _, _, rfl, rfl, _, rfl, ite2 (fun _ => ?_) (fun z => absurd (decide_eq_true (by rw [List.length_map]; omega)) z)⟩
    refine ⟨_, _, rfl, rfl, _, rfl, ?_⟩
    show (if (!decide (((rs.map fun r => V.str (line r)).length : Int) ≤ 8)) = true then _ else _)
    refine iteNS (by rw [List.length_map]; omega) ?_
    refine ⟨_, rfl, t, _, rfl, hT, for_enumT (K := K) (a := t) (xs := rs.map fun r => V.str (line r)) (fun i σ H' => ∃ v1 v2, σ = [some (.ref t), v1, v2] ∧ Same H H') ⟨_, _, rfl, Same.refl _⟩ (fun i σ H' _ ⟨_, _, _, e⟩ => Same.seqT e hT) ?_ ?_⟩
    · rintro i x D σ H' hi ⟨v1, v2, rfl, hs⟩ hD
      obtain ⟨r, hr, rfl⟩ := Paired.at (paired_map (fun r => V.str (line r)) rs) hi
      have hs1 : Same H' (upd H' D (.tup [.int (i : Nat), .str (line r)])) := Same.new hD
      refine ⟨D, _, rfl, SqT.of upd_same, rfl, _, _, rfl, _, _, rfl, rfl, ?_⟩
      refine ⟨_, rfl, r, rfl, ok.each r (List.mem_of_getElem? hr), fun p H2 hs2 _ => ?_⟩
      refine ⟨rfl, _, rfl, iteF ?_⟩
      exact ⟨_, _, rfl, (hs.trans hs1).trans hs2⟩
    · rintro σ H' ⟨v1, v2, rfl, hs⟩
      exact q _ hs
theorem ok_check_answers (T : Txt K mg a) : FnOk P w K mg base CX0 3 a.f_check_answers a.d_check_answers ["answers", "base", "top"] (sp_check_answers a) := by
  refine T.F_check_answers.ok sc_check_answers (fun vs H Q E h => ?_) (fun cdv A outer s H vs Q E hr h => ?_)
  · obtain ⟨t, b, top, xs, rfl, _⟩ := h
    rfl
  · obtain ⟨t, b, top, xs, rfl, ⟨as, ht, hp⟩, hA, h5, q⟩ := h
    refine ⟨_, (pss_cons (ps_if (PW.pt (pw_or (pt_not (pt_val (pe_callB (k_isi (K := K) rfl) (by rfl) T.n_isinstance (by decide +kernel) (pa_cons (pv 0) (pa_cons (pe_bltn (v := .ty "tuple") (u := .type "tuple") (by rfl) T.n_tuple (by decide +kernel) rfl) pa_nil))))) (pw_or1 (pt_cmpR op_gt (pe_callB (k_len (K := K) rfl) (by rfl) T.n_len PySem.boot_len (pa_cons (pv 0) pa_nil)) (pe_globE (by rfl) T.c_MOST_ANSWERS) (nomark _)))))
        (pss_one ps_never)
        pss_nil)
      (pss_cons (ps_set (i := 3) sc_check_answers.nd rfl (Or.inl rfl) (pv 1))
      (pss_one (ps_for PassesOwn.never rfl (k_enumT (K := K) rfl (by rfl) T.n_enumerate (pa_cons (pv 0) pa_nil)) (k_gtup (K := K) rfl rfl (pgs_cons (pg_name (i := 4) sc_check_answers.nd rfl (Or.inl rfl)) (pgs_cons (pg_name (i := 5) sc_check_answers.nd rfl (Or.inl rfl)) pgs_nil)))
        (pss_cons (ps_if (PW.pt (pw_or (pt_not (pt_val (pe_callB (C8.call_isC T.ic_Answer) (by rfl) T.n_isinstance (by decide +kernel) (pa_cons (pv 5) (pa_cons (pe_glob (v := .ref a.c_Answer) (by rfl) T.m_Answer rfl) pa_nil))))) (pw_or1 (pt_not (pt_chain op_le op_le (pv 3) (pe_prop (pv 5) T.cl_Answer T.pr_a_number (ok_a_number T) (hr.mono (by decide)) T.b_a_number .nil pass0 rfl) (pv 2))))))
        (pss_one ps_never)
        pss_nil)
      (pss_cons (ps_if (pt_val (pe_callB (k_any (K := K) rfl rfl) (by rfl) T.n_any (by decide +kernel) (pa_cons (pe_lc (own := [("first", 6), ("end", 7)]) (g := (gTup K 2 (gCons (gName 6) (gCons (gName 7) gNil)))) (tt := tYes) rfl sc_check_answers.nd (k_tup (K := K) rfl (pe_prop (pv 5) T.cl_Answer T.pr_a_blocks (ok_a_blocks T) (hr.mono (by decide)) T.b_a_blocks .nil pass0 rfl)) (blkOk_by (own := [("first", 6), ("end", 7)]) (N := n_check_answers) (sc := (defScope s_check_answers)) (by decide +kernel)) (fun _ _ _ _ _ => (k_gtup (K := K) rfl rfl (pgs_cons (pg_name (i := 6) sc_check_answers.nd rfl (Or.inl rfl)) (pgs_cons (pg_name (i := 7) sc_check_answers.nd rfl (Or.inl rfl)) pgs_nil)))) (fun _ _ _ _ _ => pts_nil) (fun _ _ _ _ _ => (pe_cmpR op_gt (pv 7) (pv 2) (nomark _)))) pa_nil)))
        (pss_one ps_never)
        pss_nil)
      (pss_one (ps_set (i := 3) sc_check_answers.nd rfl (Or.inl rfl) (pe_prop (pv 5) T.cl_Answer T.pr_a_number (ok_a_number T) (hr.mono (by decide)) T.b_a_number .nil pass0 rfl))))))))), ?_⟩
    have hT : SqT K H t (refs as) := SqT.of ht
    have hlen : as.length = xs.length := hp.length
    refine ⟨_, rfl, _, _, _, _, true, rfl, .ty "tuple", .base (.tup ht), kit_ty (by decide +kernel), true, rfl, iteF ?_⟩
    refine ⟨_, rfl, t, _, rfl, .inr hT, _, _, rfl, rfl, _, rfl, ite2 (fun z => ?_) (fun _ => ?_)⟩
    · have z' := of_decide_eq_true z
      rw [List.length_map] at z'
      omega
    refine ⟨_, rfl, ?_⟩
    refine ⟨_, rfl, t, _, rfl, hT, for_enumT (K := K) (a := t) (xs := refs as) (fun i σ H' => ∃ lo v4 v5, σ = [some (.ref t), some (.int b), some (.int top), some (.int lo), v4, v5, none, none] ∧ Same H H' ∧ Anss top lo (xs.drop i)) ⟨b, _, _, rfl, Same.refl _, hA⟩ (fun i σ H' _ ⟨_, _, _, _, e, _⟩ => Same.seqT e hT) ?_ ?_⟩
    · rintro i x D σ H' hi ⟨lo, v4, v5, rfl, hs, hA'⟩ hD
      obtain ⟨y, hy, r, rfl, hr⟩ := Paired.at (paired_refs hp) hi
      obtain ⟨j1, j2⟩ := List.getElem?_eq_some_iff.mp hy
      have ed : xs.drop i = y :: xs.drop (i + 1) := by rw [List.drop_eq_getElem_cons j1, j2]
      rw [ed] at hA'
      cases hA' with
      | cons hok hA2 =>
        have hs1 : Same H' (upd H' D (.tup [.int (i : Nat), .ref r])) := Same.new hD
        have hr1 := (hr.up hs).up hs1
        have hs2 := hs.trans hs1
        refine ⟨D, _, rfl, SqT.of upd_same, rfl, _, _, rfl, _, _, rfl, rfl, ?_⟩
        generalize upd H' D (.tup [.int (i : Nat), .ref r]) = H2 at hr1 hs2
        obtain ⟨dx, fs, bl, g1, g2, g3, g4⟩ := id hr1
        refine ⟨_, rfl, r, dx, fs, rfl, g1, true, rfl, iteF ?_⟩
        refine ⟨_, rfl, _, rfl, r, dx, fs, rfl, g1, r, y, rfl, hr1, _, _, rfl, rfl, _, rfl, ite2 (fun _ => ?_) (fun z => absurd (decide_eq_true hok.lo) z)⟩
        refine ⟨_, rfl, _, _, rfl, rfl, _, rfl, ?_⟩
        refine iteNS hok.hi ?_
        refine ⟨_, rfl, r, dx, fs, rfl, g1, r, y, rfl, hr1, fun c hc => ?_⟩
        obtain ⟨cs, hc1, hc2⟩ := hc
        refine ⟨c, rfl, ⟨_, SqT.of hc1⟩, lcT (fun _ => some (V.bl false)) (SqT.of hc1) (paired_refs hc2) ?_ ?_ ?_⟩
        · have := hok.bs.len
          omega
        · rintro j x2 k H3 hk ⟨r2, rfl, hr2⟩ hs3 S hS
          refine ⟨r2, _, rfl, SqT.of (hs3 _ _ hr2), rfl, _, _, rfl, _, _, rfl, rfl, rfl, yesT ?_⟩
          refine ⟨_, rfl, _, rfl, k.2, top, rfl, rfl, ?_⟩
          show S (some (V.bl (decide (top < k.2)))) H3
          have he := hok.ends k (List.mem_of_getElem? hk)
          rw [decide_eq_false (by omega)]
          exact hS _ (Same.refl _)
        · intro D2 H3 hD2 hs3 hl3
          rw [fm_bools] at hl3
          refine ⟨D2, _, rfl, SqL.of hl3, _, rfl, ?_⟩
          have e3 : (y.2.map fun _ => false).any id = false := by simp
          rw [e3]
          refine iteF ?_
          obtain ⟨dx3, fs3, bl3, k1, k2, k3, k4⟩ := id (hr1.up hs3)
          exact ⟨_, rfl, r, dx3, fs3, rfl, k1, r, y, rfl, hr1.up hs3, y.1, _, _, rfl, hs2.trans hs3, hA2⟩
    · rintro σ H' ⟨lo, v4, v5, rfl, hs, _⟩
      exact q _ hs
abbrev siS (x t : Addr) (win : Int) (last : Bool) (v4 : Option V) : L2.St := [some (.ref x), some (.int win), some (.ref t), some (.bl last), v4, none, none, none, none, none]
theorem ok_s_init (T : Txt K mg a) : FnOk P w K mg base CX0 4 a.f_s_init a.d_s_init ["self", "window", "rows", "last"] (sp_s_init a) := by
  refine T.F_s_init.ok sc_s_init (fun vs H Q E h => ?_) (fun cdv A outer s H vs Q E hr h => ?_)
  · obtain ⟨x, dx, t, win, last, rs, rfl, _⟩ := h
    rfl
  · obtain ⟨x, dx, t, win, last, rs, rfl, hx, ht, ok, w1, w4, q⟩ := h
    refine ⟨_, PSs.nox (pss_cons (ps_if (PW.pt (pw_or (pt_not (pt_val (pe_call (ok_is_integer T) (hr.mono (by decide)) (by rfl) T.m_is_integer T.F_is_integer.kp T.b_is_integer .nil pass0 (pa_cons (pv 1) pa_nil)))) (pw_or1 (pt_not (pt_chain op_le op_le pe_int (pv 1) (pe_globE (by rfl) T.c_MOST_WINDOW))))))
        (pss_one ps_never)
        pss_nil)
      (pss_cons (ps_expr (pe_call (ok_check_rows T) (hr.mono (by decide)) (by rfl) T.m_check_rows T.F_check_rows.kp T.b_check_rows .nil pass0 (pa_cons (pv 2) pa_nil)))
      (C8.pss_cut (ps_if (PW.pt (pw_and (pt_cmpR op_notBl (pv 3) pe_bl (nomark _)) (pw_and1 (pt_cmpR op_notBl (pv 3) pe_bl (nomark _)))))
        (pss_one ps_never)
        pss_nil)
      (pss_cons (ps_fld (pv 0) (pv 1) rfl)
      (pss_cons (ps_fld (pv 0) (pv 2) rfl)
      (pss_cons (ps_fld (pv 0) (pv 3) rfl)
      (pss_cons (ps_fld (pv 0) (pe_callTy (k_tuple (K := K) rfl) (by rfl) T.n_tuple (by decide +kernel) (pa_cons (pe_lc (own := [("row", 5)]) (g := (gName 5)) (tt := tYes) rfl sc_s_init.nd (k_tup (K := K) rfl (pv 2)) (blkOk_by (own := [("row", 5)]) (N := n_s_init) (sc := (defScope s_s_init)) (by decide +kernel)) (fun _ _ _ _ _ => (pg_name (i := 5) sc_s_init.nd rfl (Or.inl rfl))) (fun _ _ _ _ _ => pts_nil) (fun _ _ _ _ _ => (pe_call (ok_row_in T) (hr.mono (by decide)) (by rfl) T.m_row_in T.F_row_in.kp T.b_row_in .nil pass0 (pa_cons (pv 5) pa_nil)))) pa_nil)) rfl)
      (pss_cons (ps_setLc2 (i := 4) (own := [("conditions", 6), ("deeds", 7), ("word", 8), ("wanted", 9)]) (vs1 := [8, 9]) (g := (gTup K 2 (gCons (gName 6) (gCons (gName 7) gNil)))) (g1 := (gTup K 2 (gCons (gName 8) (gCons (gName 9) gNil)))) (tt := tYes) (tt1 := tYes) rfl sc_s_init.nd rfl rfl (sw_true rfl rfl rfl (by decide +kernel)) (k_tup (K := K) rfl (k_fld (K := K) rfl (pv 0) rfl)) (blkOk_by (own := [("conditions", 6), ("deeds", 7), ("word", 8), ("wanted", 9)]) (N := n_s_init) (sc := (defScope s_s_init)) (by decide +kernel)) (by decide) (fun _ _ _ _ _ => (k_gtup (K := K) rfl rfl (pgs_cons (pg_name (i := 6) sc_s_init.nd rfl (Or.inl rfl)) (pgs_cons (pg_name (i := 7) sc_s_init.nd rfl (Or.inl rfl)) pgs_nil)))) (fun _ _ _ _ _ => pts_nil) (fun _ _ _ _ _ => (k_tup (K := K) rfl (pv 6))) (fun _ _ _ _ _ => (k_gtup (K := K) rfl rfl (pgs_cons (pg_name (i := 8) sc_s_init.nd rfl (Or.inl rfl)) (pgs_cons (pg_name (i := 9) sc_s_init.nd rfl (Or.inl rfl)) pgs_nil)))) (fun _ _ _ _ _ => pts_nil) (fun _ _ _ _ _ => (pv 8)))
      (pss_cons (ps_fld (pv 0) (pe_cmpR (k_in (K := K) rfl) pe_str (pv 4) rfl) rfl)
      (pss_one (ps_fld (pv 0) (pe_ifExp (pt_cmpR (k_in (K := K) rfl) pe_str (pv 4) rfl) pe_int (pe_ifExp (pt_cmpR (k_in (K := K) rfl) pe_str (pv 4) rfl) pe_int pe_int)) rfl))))))))))), ?_⟩
    have c := T.cl_Sender
    have h8 := ok.l8
    refine ⟨_, rfl, win, rfl, true, rfl, iteF ?_⟩
    refine ⟨_, rfl, _, _, rfl, rfl, _, rfl, ite2 (fun _ => ?_) (fun z => absurd (decide_eq_true w1) z)⟩
    refine ⟨_, _, rfl, rfl, _, rfl, ?_⟩
    refine iteNS w4 ?_
    -- check_rows(rows)
    refine ⟨_, rfl, t, rs, rfl, ht, ok, fun H1 hs1 => ?_⟩
    -- if last is not True and last is not False
    refine ⟨fun σ' H' => σ' = siS x t win last none ∧ H' = H1, ?_, ?_⟩
    · refine ⟨_, rfl, last, true, rfl, rfl, _, rfl, ?_⟩
      cases last with
      | true => exact iteF (iteF ⟨rfl, rfl⟩)
      | false => exact iteT ⟨_, rfl, false, false, rfl, rfl, _, rfl, iteF ⟨rfl, rfl⟩⟩
    rintro σ' H' ⟨rfl, rfl⟩
    have hx1 := hs1 _ _ hx
    have ht1 := hs1 _ _ ht
    -- three fields
    refine ⟨_, rfl, _, rfl, x, a.c_Sender, dx, _, rfl, hx1, c, T.na_Sender_window, (by show 0 < 1000; decide), ?_⟩
    refine ⟨_, rfl, _, rfl, x, a.c_Sender, dx, _, rfl, upd_same, c, T.na_Sender_rows, (by show 1 < 1000; decide), ?_⟩
    rw [upd_upd]
    refine ⟨_, rfl, _, rfl, x, a.c_Sender, dx, _, rfl, upd_same, c, T.na_Sender_marks_last, (by show 2 < 1000; decide), ?_⟩
    rw [upd_upd]
    have k2 : Ext x H' (upd H' x (.ins a.c_Sender dx (putF "marks_last" (.bl last) (putF "rows" (.ref t) (putF "window" (.int win) []))))) := Ext.upd
    have hx2 : (upd H' x (.ins a.c_Sender dx (putF "marks_last" (.bl last) (putF "rows" (.ref t) (putF "window" (.int win) []))))) x = some (.ins a.c_Sender dx (putF "marks_last" (.bl last) (putF "rows" (.ref t) (putF "window" (.int win) [])))) := upd_same
    have ht2 : (upd H' x (.ins a.c_Sender dx (putF "marks_last" (.bl last) (putF "rows" (.ref t) (putF "window" (.int win) []))))) t = some (.tup (rs.map fun r => V.str (line r))) := Ext.keep k2 ht1 (not_ins ht1 hx1)
    generalize upd H' x (.ins a.c_Sender dx (putF "marks_last" (.bl last) (putF "rows" (.ref t) (putF "window" (.int win) [])))) = H2 at k2 hx2 ht2
    -- self.program = tuple([row_in(row) for row in rows])
    refine ⟨_, rfl, t, rfl, ⟨_, SqT.of ht2⟩, lcTd (fun H v r => ∃ ra, v = V.ref ra ∧ RowT H ra r) (fun _ _ e _ _ ⟨ra, e1, e2⟩ => ⟨ra, e1, e2.up e⟩) (SqT.of ht2) (paired_map (fun r => V.str (line r)) rs) (by omega) ?_ ?_⟩
    · rintro i v r H3 D l3 hr rfl hs3 hD Z S hS
      refine ⟨rfl, yesT ?_⟩
      exact ⟨_, rfl, r, rfl, ok.each r (List.mem_of_getElem? hr), fun ra H4 hs4 h4 => hS _ H4 hs4 ⟨ra, rfl, h4.hide (hs4 _ _ hD)⟩⟩
    intro D H3 zs hD hs3 hl3 hp3
    obtain ⟨as, rfl, hp4⟩ := refs_of hp3
    refine ⟨D, _, rfl, .inl ⟨SqL.of hl3, fun pt hpt => ?_⟩⟩
    have hs4 : Same H3 (upd H3 pt (.tup (refs as))) := Same.new hpt
    have hR4 : RowsT (upd H3 pt (.tup (refs as))) pt rs := ⟨as, upd_same, Paired.mapP hp4 fun _ _ z => RowT.up hs4 z⟩
    have hx4 := hs4 _ _ (hs3 _ _ hx2)
    have k4 : Ext x H' (upd H3 pt (.tup (refs as))) := Same.trans k2 (Ext.of (hs3.trans hs4))
    generalize upd H3 pt (.tup (refs as)) = H4 at hs4 hR4 hx4 k4
    refine ⟨_, rfl, x, a.c_Sender, dx, _, rfl, hx4, c, T.na_Sender_program, (by show 3 < 1000; decide), ?_⟩
    have k5 : Ext x H4 (upd H4 x (.ins a.c_Sender dx (putF "program" (.ref pt) (putF "marks_last" (.bl last) (putF "rows" (.ref t) (putF "window" (.int win) [])))))) := Ext.upd
    have hx5 : (upd H4 x (.ins a.c_Sender dx (putF "program" (.ref pt) (putF "marks_last" (.bl last) (putF "rows" (.ref t) (putF "window" (.int win) [])))))) x = some (.ins a.c_Sender dx (putF "program" (.ref pt) (putF "marks_last" (.bl last) (putF "rows" (.ref t) (putF "window" (.int win) []))))) := upd_same
    have hR5 : RowsT (upd H4 x (.ins a.c_Sender dx (putF "program" (.ref pt) (putF "marks_last" (.bl last) (putF "rows" (.ref t) (putF "window" (.int win) [])))))) pt rs := ((hR4.hideI hx4).up k5).up hid_same
    have k5' := Same.trans k4 k5
    generalize upd H4 x (.ins a.c_Sender dx (putF "program" (.ref pt) (putF "marks_last" (.bl last) (putF "rows" (.ref t) (putF "window" (.int win) []))))) = H5 at k5 hx5 hR5 k5'
    -- asked = [word for conditions, deeds in self.program for word, wanted in conditions]
    obtain ⟨as5, hpt5, hrows5⟩ := id hR5
    have hwl := words_len rs ok.each
    refine ⟨_, rfl, x, a.c_Sender, dx, _, _, rfl, hx5, c, T.na_Sender_program, rfl, pt, rfl, ⟨_, SqT.of hpt5⟩, fun D6 hD6 => ⟨fun i m H => i + m = rs.length ∧ Same H5 H ∧ H D6 = some (.lst (wVs (words (rs.take i)))), ⟨rs.length, Nat.zero_add _, Same.new hD6, upd_same⟩, ?_⟩⟩
    rintro i m H6 ⟨him, hs6, hl6⟩
    have hpt6 : SqT K H6 pt (refs as5) := SqT.of (hs6 _ _ hpt5)
    have hlr : as5.length = rs.length := hrows5.length
    cases m with
    | succ m =>
      have hi : i < rs.length := by omega
      refine .inr ⟨⟨_, .ref (as5[i]'(by omega)), hpt6, by rw [List.getElem?_map, List.getElem?_eq_getElem (by omega)]; rfl⟩, fun H => Same H5 H ∧ H D6 = some (.lst (wVs (words (rs.take (i + 1))))), fun H' h => ⟨m, Nat.lt_succ_self _, by omega, h⟩, ?_⟩
      rintro v H7 ⟨rfl, hv⟩
      obtain ⟨r, hr, ra, rfl, hra⟩ := Paired.at (paired_refs hrows5) (hv _ hpt6)
      obtain ⟨cs, ds⟩ := r
      obtain ⟨ca, da, g1, ⟨cas, g2, g3⟩, g4⟩ := hra
      have hc3 := (ok.each _ (List.mem_of_getElem? hr)).c3
      have hc3' : cs.length ≤ 3 := hc3
      have hwi : (words (rs.take i)).length ≤ 24 := by
        have z := words_len (rs.take i) fun q hq => ok.each q (List.mem_of_mem_take hq)
        rw [List.length_take] at z
        omega
      have hcl : cas.length = cs.length := g3.length
      rw [words_take hr]
      refine ⟨ra, _, rfl, SqT.of (hs6 _ _ g1), rfl, _, _, rfl, _, _, rfl, rfl, rfl, yesT ?_⟩
      refine ⟨_, rfl, ca, rfl, ⟨_, SqT.of (hs6 _ _ g2)⟩, fun j k H => j + k = cs.length ∧ Same H5 H ∧ H D6 = some (.lst (wVs (words (rs.take i) ++ (cs.take j).map (·.1)))), ⟨cs.length, Nat.zero_add _, hs6, ?_⟩, ?_⟩
      · show H7 D6 = some (.lst (wVs (words (rs.take i) ++ [])))
        rw [List.append_nil]
        exact hl6
      · rintro j k H8 ⟨hjk, hs8, hl8⟩
        have g2' : SqT K H8 ca (refs cas) := SqT.of (hs8 _ _ g2)
        cases k with
        | zero =>
          have hj : j = cs.length := by omega
          subst hj
          rw [List.take_length] at hl8
          exact .inl ⟨⟨_, g2', by rw [List.length_map]; omega⟩, hs8, hl8⟩
        | succ k =>
          have hj : j < cs.length := by omega
          refine .inr ⟨⟨_, .ref (cas[j]'(by omega)), g2', by rw [List.getElem?_map, List.getElem?_eq_getElem (by omega)]; rfl⟩, fun H => Same H5 H ∧ H D6 = some (.lst (wVs (words (rs.take i) ++ (cs.take (j + 1)).map (·.1)))), fun H' h => ⟨k, Nat.lt_succ_self _, by omega, h⟩, ?_⟩
          rintro v H9 ⟨rfl, hv⟩
          obtain ⟨cn, hcn, cna, rfl, hcna⟩ := Paired.at (paired_refs g3) (hv _ g2')
          have hcn8 := hs8 _ _ hcna
          refine ⟨cna, _, rfl, SqT.of hcn8, rfl, _, _, rfl, _, _, rfl, rfl, rfl, yesT ?_⟩
          refine ⟨_, rfl, _, hl8, ?_, ?_, ?_⟩
          · rw [List.length_map, List.length_append, List.length_map, List.length_take]
            exact Nat.lt_of_le_of_lt (show (words (rs.take i)).length + min j cs.length ≤ 1000 by omega) (by decide)
          · exact Same.mut hs8 hD6
          · rw [upd_same, List.take_add_one, hcn]
            have e1 : (cs.take j ++ (some cn).toList).map (·.1) = (cs.take j).map (·.1) ++ [cn.1] := by
              rw [List.map_append]
              rfl
            rw [e1, ← List.append_assoc]
            have e2 : wVs ((words (rs.take i) ++ (cs.take j).map (·.1)) ++ [cn.1]) = wVs (words (rs.take i) ++ (cs.take j).map (·.1)) ++ [V.str (wS cn.1)] := List.map_append
            exact congrArg (fun z => some (HO.lst z)) e2.symm
    | zero =>
      have hi : i = rs.length := by omega
      subst hi
      rw [List.take_length] at hl6
      refine .inl ⟨⟨_, hpt6, by rw [List.length_map]; omega⟩, ?_⟩
      have hx6 := hs6 _ _ hx5
      -- self.asks_silent = "silent" in asked
      refine ⟨_, rfl, in_words (w := .silent) (SqL.of hl6) ⟨_, rfl, x, a.c_Sender, dx, _, rfl, hx6, c, T.na_Sender_asks_silent, (by show 4 < 1000; decide), ?_⟩⟩
      have hl7 : (upd H6 x (.ins a.c_Sender dx (putF "asks_silent" (.bl ((words rs).contains .silent)) (putF "program" (.ref pt) (putF "marks_last" (.bl last) (putF "rows" (.ref t) (putF "window" (.int win) []))))))) D6 = some (.lst (wVs (words rs))) := by
        rw [upd_ne (ne_of hl6 hx6 (fun z => by cases z))]
        exact hl6
      have fin : ∀ z : Int, z = asksT rs → Q .non (upd (upd H6 x (.ins a.c_Sender dx (putF "asks_silent" (.bl ((words rs).contains .silent)) (putF "program" (.ref pt) (putF "marks_last" (.bl last) (putF "rows" (.ref t) (putF "window" (.int win) []))))))) x (.ins a.c_Sender dx (putF "asks_still" (.int z) (putF "asks_silent" (.bl ((words rs).contains .silent)) (putF "program" (.ref pt) (putF "marks_last" (.bl last) (putF "rows" (.ref t) (putF "window" (.int win) [])))))))) := by
        rintro z rfl
        rw [upd_upd]
        have k7 : ∀ o, Ext x H6 (upd H6 x o) := fun o => Ext.upd
        refine q _ ⟨dx, _, pt, upd_same, ⟨rfl, rfl, rfl, rfl, rfl, rfl, rfl, rfl, rfl⟩, (((hR5.up hs6).hideI hx6).up (k7 _)).up hid_same⟩ ?_
        intro b o e hb
        exact Ext.keep (Same.trans (Same.trans k5' (Ext.of hs6)) (k7 _)) (hs1 _ _ e) hb
      -- self.asks_still = 2 if "still 2" in asked else 1 if "still 1" in asked else 0
      refine ⟨_, rfl, in_words (w := .still2) (SqL.of hl7) ⟨_, rfl, ?_⟩⟩
      refine ite2 (fun h => ⟨_, rfl, x, a.c_Sender, dx, _, rfl, upd_same, c, T.na_Sender_asks_still, (by show 5 < 1000; decide), fin 2 ?_⟩) (fun h => ?_)
      · unfold asksT
        rw [if_pos h]
      · refine ⟨_, rfl, in_words (w := .still1) (SqL.of hl7) ⟨_, rfl, ?_⟩⟩
        refine ite2 (fun h2 => ⟨_, rfl, x, a.c_Sender, dx, _, rfl, upd_same, c, T.na_Sender_asks_still, (by show 5 < 1000; decide), fin 1 ?_⟩) (fun h2 => ⟨_, rfl, x, a.c_Sender, dx, _, rfl, upd_same, c, T.na_Sender_asks_still, (by show 5 < 1000; decide), fin 0 ?_⟩)
        · unfold asksT
          rw [if_neg h, if_pos h2]
        · unfold asksT
          rw [if_neg h, if_neg h2]
/-- the slots of plan between two deeds -/
abbrev plS (s t m f n : Addr) (S : Mem) (z : Int) (v10 v11 v12 v13 : Option V) : L2.St :=
  [some (.ref s), some (.ref t), some (.int S.base), some (.int S.top), some (.ref m), some (.ref f), some (.int S.still), some (.bl S.heard), some (.ref n), some (.int z), v10, v11, v12, v13, none, none, none, none]
def PlSt (H : Hp) (s t : Addr) (S : Mem) (x : PS) (k : Nat) (σ : L2.St) (H' : Hp) : Prop := ∃ m f n v10 v11 v12 v13, σ = plS s t m f n S x.a v10 v11 v12 v13 ∧ Same H H' ∧ H' m = some (.tup (iVs x.m)) ∧ H' f = some (.tup (iVs x.f)) ∧ H' n = some (.lst (iVs x.n)) ∧ x.n.length ≤ k
theorem ok_s_plan (T : Txt K mg a) : FnOk P w K mg base CX0 3 a.f_s_plan a.d_s_plan ["self", "state"] (sp_s_plan a) := by
  refine T.F_s_plan.ok sc_s_plan (fun vs H Q E h => ?_) (fun cdv A outer s H vs Q E hr h => ?_)
  · obtain ⟨s, t, win, last, rs, S, rfl, _⟩ := h
    rfl
  · obtain ⟨s, t, win, last, rs, S, rfl, ⟨dx, fs, pt, hs, F, as, hpt, hrows⟩, ok, ⟨m0, f0, ht, hm0, hf0⟩, sok, hbig, q⟩ := h
    refine ⟨_, (pss_cons (ps_asg (pv 1) (k_gtup (K := K) rfl rfl (pgs_cons (pg_name (i := 2) sc_s_plan.nd rfl (Or.inr rfl)) (pgs_cons (pg_name (i := 3) sc_s_plan.nd rfl (Or.inr rfl)) (pgs_cons (pg_name (i := 4) sc_s_plan.nd rfl (Or.inr rfl)) (pgs_cons (pg_name (i := 5) sc_s_plan.nd rfl (Or.inr rfl)) (pgs_cons (pg_name (i := 6) sc_s_plan.nd rfl (Or.inr rfl)) (pgs_cons (pg_name (i := 7) sc_s_plan.nd rfl (Or.inr rfl)) pgs_nil))))))))
      (pss_cons (ps_asg (pe_tup (pa_cons (pe_lst pa_nil) (pa_cons pe_int pa_nil))) (k_gtup (K := K) rfl rfl (pgs_cons (pg_name (i := 8) sc_s_plan.nd rfl (Or.inr rfl)) (pgs_cons (pg_name (i := 9) sc_s_plan.nd rfl (Or.inl rfl)) pgs_nil))))
      (C8.pss_cut (ps_for PassesOwn.never rfl (k_tup (K := K) rfl (k_fld (K := K) rfl (pv 0) rfl)) (k_gtup (K := K) rfl rfl (pgs_cons (pg_name (i := 10) sc_s_plan.nd rfl (Or.inl rfl)) (pgs_cons (pg_name (i := 11) sc_s_plan.nd rfl (Or.inl rfl)) pgs_nil)))
        (pss_one (ps_if (pt_val (pe_callB (k_all (K := K) rfl rfl) (by rfl) T.n_all (by decide +kernel) (pa_cons (pe_lc (own := [("word", 15), ("wanted", 16)]) (g := (gTup K 2 (gCons (gName 15) (gCons (gName 16) gNil)))) (tt := tYes) rfl sc_s_plan.nd (k_tup (K := K) rfl (pv 10)) (blkOk_by (own := [("word", 15), ("wanted", 16)]) (N := n_s_plan) (sc := (defScope s_s_plan)) (by decide +kernel)) (fun _ _ _ _ _ => (k_gtup (K := K) rfl rfl (pgs_cons (pg_name (i := 15) sc_s_plan.nd rfl (Or.inl rfl)) (pgs_cons (pg_name (i := 16) sc_s_plan.nd rfl (Or.inl rfl)) pgs_nil)))) (fun _ _ _ _ _ => pts_nil) (fun _ _ _ _ _ => (pe_cmpR op_eq (pe_call (ok_condition_holds T) (hr.mono (by decide)) (by rfl) T.m_condition_holds T.F_condition_holds.kp T.b_condition_holds .nil pass0 (pa_cons (pv 15) (pa_cons (pv 2) (pa_cons (pv 3) (pa_cons (pv 4) (pa_cons (pv 6) (pa_cons (pv 7) pa_nil))))))) (pv 16) (nomark _)))) pa_nil)))
        (pss_one (ps_for PassesOwn.never rfl (k_tup (K := K) rfl (pv 11)) (pg_name (i := 12) sc_s_plan.nd rfl (Or.inl rfl))
        (C8.pss_cut (ps_if (pt_cmpR op_eq (pv 12) pe_str (nomark _))
        (pss_one (ps_set (i := 4) sc_s_plan.nd rfl (Or.inr rfl) (pe_tup pa_nil)))
        (pss_one (ps_if (pt_cmpR op_eq (pv 12) pe_str (nomark _))
        (pss_one (ps_set (i := 5) sc_s_plan.nd rfl (Or.inr rfl) (pe_callTy (k_tuple (K := K) rfl) (by rfl) T.n_tuple (by decide +kernel) (pa_cons (pe_lc (own := [("piece", 17)]) (g := (gName 17)) rfl sc_s_plan.nd (pi_range2 (by rfl) T.n_range (pa_cons (pv 2) (pa_cons (pv 3) pa_nil))) (blkOk_by (own := [("piece", 17)]) (N := n_s_plan) (sc := (defScope s_s_plan)) (by decide +kernel)) (fun _ _ _ _ _ => (pg_name (i := 17) sc_s_plan.nd rfl (Or.inl rfl))) (fun _ _ _ _ _ => (pts_one (PW.pt (pw_or (pt_cmpR (k_in (K := K) rfl) (pv 17) (pv 5) rfl) (pw_or1 (pt_cmpR (k_in (K := K) rfl) (pv 17) (pv 4) rfl)))))) (fun _ _ _ _ _ => (pv 17))) pa_nil))))
        pss_nil)))
      (pss_cons (ps_set (i := 8) sc_s_plan.nd rfl (Or.inr rfl) (pe_op op_cat (pv 8) (pe_call (ok_named_by T) (hr.mono (by decide)) (by rfl) T.m_named_by T.F_named_by.kp T.b_named_by .nil pass0 (pa_cons (pv 12) (pa_cons (pv 2) (pa_cons (pv 3) (pa_cons (pv 4) pa_nil)))))))
      (pss_cons (ps_set (i := 13) sc_s_plan.nd rfl (Or.inl rfl) (pe_call (ok_asked_by T) (hr.mono (by decide)) (by rfl) T.m_asked_by T.F_asked_by.kp T.b_asked_by .nil pass0 (pa_cons (pv 12) (pa_cons (pe_op op_sub (pe_op op_add (pv 2) (k_fld (K := K) rfl (pv 0) rfl)) (pv 3)) pa_nil))))
      (pss_one (ps_set (i := 9) sc_s_plan.nd rfl (Or.inl rfl) (pe_ifExp (pt_cmpR op_gt (pv 13) (pv 9) (nomark _)) (pv 13) (pv 9)))))))))
        pss_nil)))
      (pss_cons (ps_setLc (i := 14) (own := [("piece", 17)]) (g := (gName 17)) rfl sc_s_plan.nd rfl rfl (sw_true rfl rfl rfl (by decide +kernel)) (pi_range2 (by rfl) T.n_range (pa_cons (pv 2) (pa_cons (pv 3) pa_nil))) (blkOk_by (own := [("piece", 17)]) (N := n_s_plan) (sc := (defScope s_s_plan)) (by decide +kernel)) (fun _ _ _ _ _ => (pg_name (i := 17) sc_s_plan.nd rfl (Or.inl rfl))) (fun _ _ _ _ _ => (pts_one (PW.pt (pw_and (pt_cmpR (k_in (K := K) rfl) (pv 17) (pv 8) rfl) (pw_and1 (pt_cmpR (k_notIn (K := K) rfl) (pv 17) (pv 5) rfl)))))) (fun _ _ _ _ _ => (pv 17)))
      (pss_one (ps_ret (pe_tup (pa_cons (pe_callTy (k_tuple (K := K) rfl) (by rfl) T.n_tuple (by decide +kernel) (pa_cons (pe_op op_cat (pv 14) (pe_listRg rfl (by rfl) T.n_list (prg_2 (by rfl) T.n_range (pv 3) (pe_op op_add (pv 3) (pv 9))))) pa_nil)) (pa_cons (pe_tup (pa_cons (pv 2) (pa_cons (pe_op op_add (pv 3) (pv 9)) (pa_cons (pv 4) (pa_cons (pv 5) (pa_cons (pv 6) (pa_cons pe_bl pa_nil))))))) pa_nil))))))))), ?_⟩
    have hb0 := sok.b0
    have hbt := sok.bt
    have htw := sok.tw
    have hw4 := sok.w4
    have hrl : as.length = rs.length := hrows.length
    have h8 := ok.l8
    -- base, top, marked, freed, still, heard = state
    refine ⟨_, rfl, t, _, rfl, SqT.of ht, rfl, _, _, rfl, _, _, rfl, _, _, rfl, _, _, rfl, _, _, rfl, _, _, rfl, rfl, ?_⟩
    -- named, asked = [], 0
    refine ⟨size1000 (by show 0 ≤ 1000; omega), fun n0 hn0 => ⟨size1000 (by show 2 ≤ 1000; omega), fun p0 hp0 => ⟨p0, _, rfl, SqT.of upd_same, rfl, _, _, rfl, _, _, rfl, rfl, ?_⟩⟩⟩
    have hs1 : Same H (upd (upd H n0 (.lst [])) p0 (.tup [.ref n0, .int 0])) := Same.trans (Same.new hn0) (Same.new hp0)
    have hn1 : (upd (upd H n0 (.lst [])) p0 (.tup [.ref n0, .int 0])) n0 = some (.lst []) := Same.new hp0 _ _ upd_same
    generalize upd (upd H n0 (.lst [])) p0 (.tup [.ref n0, .int 0]) = H1 at hs1 hn1
    -- the loop over the rows
    refine ⟨fun σ H' => PlSt H s t S (planPS win rs S) 200 σ H' ∧ PsOk S.base S.top win (planPS win rs S), ?_, ?_⟩
    · refine ⟨_, rfl, s, a.c_Sender, dx, fs, _, rfl, hs1 _ _ hs, T.cl_Sender, T.na_Sender_program, F.program, pt, rfl, ⟨_, SqT.of (hs1 _ _ hpt)⟩, ?_⟩
      refine for_tup (K := K) (a := pt) (xs := refs as) (fun i σ H' => PlSt H s t S (rowsF S.base S.top win S.still S.heard ⟨S.marked, S.freed, [], 0⟩ (rs.take i)) (12 * i) σ H' ∧ PsOk S.base S.top win (rowsF S.base S.top win S.still S.heard ⟨S.marked, S.freed, [], 0⟩ (rs.take i))) ⟨⟨m0, f0, n0, none, none, none, none, rfl, hs1, hs1 _ _ hm0, hs1 _ _ hf0, hn1, Nat.zero_le _⟩, start_ok sok⟩ (fun i σ H' _ ⟨⟨_, _, _, _, _, _, _, _, e, _⟩, _⟩ => SqT.of (e _ _ hpt)) ?_ ?_
      · rintro i v σ H2 hi ⟨⟨m, f, n, v10, v11, v12, v13, rfl, hs2, hm, hf, hn, hnl⟩, pok⟩
        obtain ⟨r, hr, ra, rfl, hrow⟩ := Paired.at (paired_refs hrows) hi
        obtain ⟨cs, ds⟩ := r
        have rok := ok.each _ (List.mem_of_getElem? hr)
        have hi8 : i < rs.length := (List.getElem?_eq_some_iff.mp hr).1
        obtain ⟨c, d, k1, ⟨cas, k2, k3⟩, k4⟩ := hrow.up hs2
        rw [rowsF_take hr]
        generalize rowsF S.base S.top win S.still S.heard ⟨S.marked, S.freed, [], 0⟩ (rs.take i) = x at hm hf hn hnl pok
        have hml := pok.ml
        refine ⟨ra, _, rfl, SqT.of k1, rfl, _, _, rfl, _, _, rfl, rfl, ?_⟩
        -- all([condition_holds(word, ..) == wanted for word, wanted in conditions])
        refine ⟨_, rfl, c, rfl, ⟨_, SqT.of k2⟩, lcT (fun z : Cond => some (V.bl (cond z.1 S.base S.top x.m S.still S.heard == z.2))) (SqT.of k2) (paired_refs k3) ?_ ?_ ?_⟩
        · have := rok.c3
          exact Nat.le_trans this (by decide)
        · rintro j v z H3 hz ⟨ca, rfl, hca⟩ hs3 Z hZ
          have hca3 := hs3 _ _ hca
          refine ⟨ca, _, rfl, SqT.of hca3, rfl, _, _, rfl, _, _, rfl, rfl, rfl, yesT ?_⟩
          refine ⟨_, rfl, _, rfl, _, rfl, _, rfl, _, rfl, _, rfl, z.1, S.base, S.top, m, x.m, S.still, S.heard, rfl, hs3 _ _ hm, hb0, hbt, by omega, by omega, by omega, fun H4 hs4 => ⟨_, rfl, rfl, ?_⟩⟩
          rw [decide_bl]
          exact hZ _ hs4
        · intro D H3 hD hs3 hl3
          rw [fm_bools] at hl3
          refine ⟨D, _, rfl, SqL.of hl3, _, rfl, ?_⟩
          rw [all_bools]
          have hs23 := hs2.trans hs3
          refine ite2 (fun hc => ?_) (fun hc => ?_)
          · -- the loop over the deeds
            have er : row S.base S.top win S.still S.heard x (cs, ds) = deeds S.base S.top win x ds := if_pos hc
            rw [er]
            have k4' := hs3 _ _ k4
            refine ⟨_, rfl, d, rfl, ⟨_, SqT.of k4'⟩, ?_⟩
            refine for_tup (K := K) (a := d) (xs := dVs ds) (fun j σ H' => Same H3 H' ∧ PlSt H s t S (deeds S.base S.top win x (ds.take j)) (12 * i + 4 * j) σ H' ∧ PsOk S.base S.top win (deeds S.base S.top win x (ds.take j))) ⟨Same.refl _, ⟨m, f, n, _, _, _, _, rfl, hs23, hs3 _ _ hm, hs3 _ _ hf, hs3 _ _ hn, hnl⟩, pok⟩ (fun j σ H' _ z => SqT.of (z.1 _ _ k4')) ?_ ?_
            · rintro j v σ H4 hj ⟨hs34, ⟨m, f, n, w10, w11, w12, w13, rfl, hs4, hm, hf, hn, hnl⟩, pok⟩
              obtain ⟨dd, hdd, rfl⟩ := Paired.at (paired_map (fun d => V.str (dS d)) ds) hj
              rw [deeds_take hdd]
              have hj3 : j < ds.length := (List.getElem?_eq_some_iff.mp hdd).1
              have hd3 : ds.length ≤ 3 := rok.d3
              generalize deeds S.base S.top win x (ds.take j) = y at hm hf hn hnl pok
              have hyl := pok.ml
              have hyf := pok.fl
              -- the marks and what is freed
              refine ⟨fun σ H' => ∃ m f, σ = plS s t m f n S y.a w10 w11 (some (.str (dS dd))) w13 ∧ Same H4 H' ∧ H' m = some (.tup (iVs (deedM dd y.m))) ∧ H' f = some (.tup (iVs (deedF S.base S.top dd y.m y.f))), ?_, ?_⟩
              · refine ⟨_, rfl, rfl, _, rfl, ite2 (fun e => ?_) (fun n1 => ?_)⟩
                · have e' := dIs (e := .clear) rfl e
                  subst e'
                  refine ⟨size1000 (by show 0 ≤ 1000; omega), fun m2 hm2 => ⟨m2, f, rfl, Same.new hm2, upd_same, ?_⟩⟩
                  exact Same.new hm2 _ _ hf
                · have e1 : deedM dd y.m = y.m := by
                    unfold deedM
                    rw [if_neg (by rintro rfl; exact n1 (decide_eq_true rfl))]
                  rw [e1]
                  refine ⟨_, rfl, rfl, _, rfl, ite2 (fun e => ?_) (fun n2 => ?_)⟩
                  · have e' := dIs (e := .free) rfl e
                    subst e'
                    refine ⟨_, rfl, _, rfl, S.base, S.top, rfl, ⟨by omega, by omega, by omega, by omega⟩, lcR (fun p => if (y.f.contains p || y.m.contains p) = true then some (V.int p) else none) (by omega) ?_ ?_⟩
                    · intro i2 p H5 hi2 hp1 hp2 hs5 Z hZ
                      have hz := hZ _ (Same.refl _)
                      refine ⟨rfl, _, rfl, _, rfl, in_ints (.inr (SqT.of (hs5 _ _ hf))) ⟨_, rfl, ?_⟩⟩
                      cases e1 : y.f.contains p with
                      | true =>
                        rw [e1] at hz
                        exact iteT (iteT ⟨_, rfl, hz⟩)
                      | false =>
                        rw [e1, Bool.false_or] at hz
                        refine iteF ⟨_, rfl, _, rfl, in_ints (.inr (SqT.of (hs5 _ _ hm))) ⟨_, rfl, ?_⟩⟩
                        cases e2 : y.m.contains p with
                        | true =>
                          rw [e2] at hz
                          exact iteT ⟨_, rfl, hz⟩
                        | false =>
                          rw [e2] at hz
                          exact iteF hz
                    · intro D2 H5 hD2 hs5 hl5
                      rw [fm_filter] at hl5
                      refine ⟨D2, _, rfl, .inl ⟨SqL.of hl5, fun f2 hf2 => ⟨m, f2, rfl, hs5.trans (Same.new hf2), Same.new hf2 _ _ (hs5 _ _ hm), ?_⟩⟩⟩
                      rw [upd_same]
                      rfl
                  · have e2 : deedF S.base S.top dd y.m y.f = y.f := by
                      unfold deedF
                      rw [if_neg (by rintro rfl; exact n2 (decide_eq_true rfl))]
                    rw [e2]
                    exact ⟨m, f, rfl, Same.refl _, hm, hf⟩
              · rintro σ H5 ⟨m5, f5, rfl, hs5, hm5, hf5⟩
                have dok := deed_ok hbt htw hw4 dd pok
                -- named = named + named_by(deed, base, top, marked)
                refine ⟨_, rfl, _, rfl, _, rfl, _, rfl, _, rfl, dd, S.base, S.top, m5, deedM dd y.m, rfl, hm5, hb0, hbt, by omega, by omega, ?_, fun l H6 hs6 hl6 => ?_⟩
                · have z : (deedM dd y.m).length ≤ 4 := dok.ml
                  omega
                have hnm := named_len dd S.base S.top (deedM dd y.m)
                have hn6 := hs6 _ _ (hs5 _ _ hn)
                refine ⟨n, l, _, _, rfl, rfl, hn6, hl6, ?_, fun n7 hn7 => ?_⟩
                · rw [List.length_map, List.length_map]
                  exact size1000 (by omega)
                have hs7 : Same H6 (upd H6 n7 (.lst (iVs y.n ++ iVs (named dd S.base S.top (deedM dd y.m))))) := Same.new hn7
                have hn8 : (upd H6 n7 (.lst (iVs y.n ++ iVs (named dd S.base S.top (deedM dd y.m))))) n7 = some (.lst (iVs (y.n ++ named dd S.base S.top (deedM dd y.m)))) := by
                  rw [upd_same]
                  exact congrArg (fun z => some (HO.lst z)) List.map_append.symm
                generalize upd H6 n7 (.lst (iVs y.n ++ iVs (named dd S.base S.top (deedM dd y.m)))) = H7 at hs7 hn8
                have hs47 := (hs5.trans hs6).trans hs7
                -- more = asked_by(deed, base + self.window - top)
                refine ⟨_, rfl, _, rfl, _, rfl, s, a.c_Sender, dx, fs, _, rfl, hs47 _ _ (hs4 _ _ hs), T.cl_Sender, T.na_Sender_window, F.window, _, _, rfl, rfl, _, rfl, _, _, rfl, rfl, dd, _, rfl, ?_⟩
                -- asked = more if more > asked else asked
                refine ⟨_, rfl, _, rfl, _, _, rfl, rfl, _, rfl, ?_⟩
                have fin : ∀ z : Int, z = mx (asked dd (S.base + win - S.top)) y.a → Same H3 H7 ∧ PlSt H s t S (deed S.base S.top win y dd) (12 * i + 4 * (j + 1)) (plS s t m5 f5 n7 S z w10 w11 (some (.str (dS dd))) (some (.int (asked dd (S.base + win - S.top))))) H7 ∧ PsOk S.base S.top win (deed S.base S.top win y dd) := by
                  rintro z rfl
                  refine ⟨hs34.trans hs47, ⟨m5, f5, n7, _, _, _, _, rfl, hs4.trans hs47, hs7 _ _ (hs6 _ _ hm5), hs7 _ _ (hs6 _ _ hf5), hn8, ?_⟩, dok⟩
                  show (y.n ++ named dd S.base S.top (deedM dd y.m)).length ≤ 12 * i + 4 * (j + 1)
                  rw [List.length_append]
                  omega
                refine ite2 (fun h => ⟨_, rfl, fin _ ?_⟩) (fun h => ⟨_, rfl, fin _ ?_⟩)
                · unfold mx
                  rw [if_pos (of_decide_eq_true h)]
                · unfold mx
                  rw [if_neg (fun z => h (decide_eq_true z))]
            · rintro σ H4 ⟨_, ⟨m, f, n, w10, w11, w12, w13, rfl, hs4, hm, hf, hn, hnl⟩, pok⟩
              have e : ds.take (dVs ds).length = ds := by rw [List.length_map]; exact List.take_length
              rw [e] at hm hf hn hnl pok ⊢
              have hd3 : ds.length ≤ 3 := rok.d3
              rw [List.length_map] at hnl
              exact ⟨⟨m, f, n, _, _, _, _, rfl, hs4, hm, hf, hn, by omega⟩, pok⟩
          · have er : row S.base S.top win S.still S.heard x (cs, ds) = x := if_neg hc
            rw [er]
            exact ⟨⟨m, f, n, _, _, _, _, rfl, hs23, hs3 _ _ hm, hs3 _ _ hf, hs3 _ _ hn, by omega⟩, pok⟩
      · rintro σ H2 ⟨⟨m, f, n, v10, v11, v12, v13, rfl, hs2, hm, hf, hn, hnl⟩, pok⟩
        have e : rs.take (refs as).length = rs := by rw [List.length_map, hrl]; exact List.take_length
        rw [e] at hm hf hn hnl pok ⊢
        rw [List.length_map] at hnl
        exact ⟨⟨m, f, n, _, _, _, _, rfl, hs2, hm, hf, hn, by show (planPS win rs S).n.length ≤ 200; have hnl' : (planPS win rs S).n.length ≤ 12 * as.length := hnl; omega⟩, pok⟩
    rintro σ H2 ⟨⟨m, f, n, v10, v11, v12, v13, rfl, hs2, hm, hf, hn, hnl⟩, pok⟩
    have hpa := pok.a0
    have hpa1 := pok.a1
    have eP : plan win rs S = planOf S (planPS win rs S) := rfl
    have eL : letters win rs S = lettersOf S.base S.top (planPS win rs S) := rfl
    rw [eP, eL] at q
    generalize planPS win rs S = x at *
    -- again = [..]
    refine ⟨_, rfl, _, rfl, S.base, S.top, rfl, ⟨by omega, by omega, by omega, by omega⟩, lcR (fun p => if (x.n.contains p && !x.f.contains p) = true then some (V.int p) else none) (by omega) ?_ ?_⟩
    · intro i2 p H5 hi2 hp1 hp2 hs5 Z hZ
      have hz := hZ _ (Same.refl _)
      refine ⟨rfl, _, rfl, _, rfl, in_ints (.inl (SqL.of (hs5 _ _ hn))) ⟨_, rfl, ?_⟩⟩
      cases e1 : x.n.contains p with
      | false =>
        rw [e1] at hz
        exact iteF (iteF hz)
      | true =>
        rw [e1, Bool.true_and] at hz
        refine iteT ⟨_, rfl, _, rfl, notIn_ints (.inr (SqT.of (hs5 _ _ hf))) ⟨_, rfl, ?_⟩⟩
        cases e2 : x.f.contains p with
        | true =>
          rw [e2] at hz
          exact iteF hz
        | false =>
          rw [e2] at hz
          exact iteT ⟨_, rfl, hz⟩
    intro D H3 hD hs3 hl3
    rw [fm_filter] at hl3
    -- return (tuple(again + list(range(top, top + asked))), (base, top + asked, marked, freed, still, False))
    refine ⟨_, rfl, _, rfl, _, rfl, _, rfl, _, _, rfl, rfl, S.top, _, rfl, rfl, rg_ok (by omega) (by omega) (by omega) (by omega), fun l hl => ?_⟩
    rw [rgV_outs]
    have hs4 : Same H3 (upd H3 l (.lst (iVs (outs S.top (S.top + x.a))))) := Same.new hl
    have hl4 : (upd H3 l (.lst (iVs (outs S.top (S.top + x.a))))) l = some (.lst (iVs (outs S.top (S.top + x.a)))) := upd_same
    generalize upd H3 l (.lst (iVs (outs S.top (S.top + x.a)))) = H4 at hs4 hl4
    refine ⟨D, l, _, _, rfl, rfl, hs4 _ _ hl3, hl4, ?_, fun l5 hl5 => ?_⟩
    · have z := filter_len_le (fun p => x.n.contains p && !x.f.contains p) (outs S.base S.top)
      rw [outs_len] at z
      rw [List.length_map, List.length_map, outs_len]
      exact size1000 (by omega)
    have hs5 : Same H4 (upd H4 l5 (.lst (iVs ((outs S.base S.top).filter fun p => x.n.contains p && !x.f.contains p) ++ iVs (outs S.top (S.top + x.a))))) := Same.new hl5
    have hl6 : (upd H4 l5 (.lst (iVs ((outs S.base S.top).filter fun p => x.n.contains p && !x.f.contains p) ++ iVs (outs S.top (S.top + x.a))))) l5 = some (.lst (iVs (lettersOf S.base S.top x))) := by
      rw [upd_same]
      exact congrArg (fun z => some (HO.lst z)) List.map_append.symm
    generalize upd H4 l5 (.lst (iVs ((outs S.base S.top).filter fun p => x.n.contains p && !x.f.contains p) ++ iVs (outs S.top (S.top + x.a)))) = H5 at hs5 hl6
    refine ⟨l5, _, rfl, .inl ⟨SqL.of hl6, fun l7 hl7 => ?_⟩⟩
    have hs7 : Same H5 (upd H5 l7 (.tup (iVs (lettersOf S.base S.top x)))) := Same.new hl7
    have hl8 : (upd H5 l7 (.tup (iVs (lettersOf S.base S.top x)))) l7 = some (.tup (iVs (lettersOf S.base S.top x))) := upd_same
    generalize upd H5 l7 (.tup (iVs (lettersOf S.base S.top x))) = H7 at hs7 hl8
    refine ⟨_, rfl, _, rfl, _, rfl, _, _, rfl, rfl, _, rfl, _, rfl, _, rfl, size1000 (by show 6 ≤ 1000; omega), fun t8 ht8 => ⟨size1000 (by show 2 ≤ 1000; omega), fun r9 hr9 => ?_⟩⟩
    have hs27 := ((hs3.trans hs4).trans hs5).trans hs7
    have hs8 : Same H7 (upd H7 t8 (.tup [.int S.base, .int (S.top + x.a), .ref m, .ref f, .int S.still, .bl false])) := Same.new ht8
    have ht9 : (upd H7 t8 (.tup [.int S.base, .int (S.top + x.a), .ref m, .ref f, .int S.still, .bl false])) t8 = some (.tup [.int S.base, .int (S.top + x.a), .ref m, .ref f, .int S.still, .bl false]) := upd_same
    generalize upd H7 t8 (.tup [.int S.base, .int (S.top + x.a), .ref m, .ref f, .int S.still, .bl false]) = H8 at hs8 ht9 hr9 ⊢
    have hs9 : Same H8 (upd H8 r9 (.tup [.ref l7, .ref t8])) := Same.new hr9
    have hs28 := (hs27.trans hs8).trans hs9
    exact q r9 l7 t8 _ (hs2.trans hs28) upd_same (hs9 _ _ (hs8 _ _ hl8)) ⟨m, f, hs9 _ _ ht9, hs28 _ _ hm, hs28 _ _ hf⟩
theorem ok_m_init (T : Txt K mg a) : FnOk P w K mg base CX0 4 a.f_m_init a.d_m_init ["self", "sender", "state"] (sp_m_init a) := by
  refine T.F_m_init.ok sc_m_init (fun vs H Q E h => ?_) (fun cdv A outer s H vs Q E hr h => ?_)
  · obtain ⟨x, dx, s, t, win, last, rs, S, rfl, _⟩ := h
    rfl
  · obtain ⟨x, dx, s, t, win, last, rs, S, rfl, hx, hS, ok, ⟨m, f, ht, hm, hf⟩, sok, hbig, q⟩ := h
    refine ⟨_, (pss_cons (ps_fld (pv 0) (pv 1) rfl)
      (pss_cons (ps_fld (pv 0) (pv 2) rfl)
      (pss_cons (ps_asg (pv 2) (k_gtup (K := K) rfl rfl (pgs_cons (k_gfld (K := K) rfl (pv 0)) (pgs_cons (k_gfld (K := K) rfl (pv 0)) (pgs_cons (k_gfld (K := K) rfl (pv 0)) (pgs_cons (k_gfld (K := K) rfl (pv 0)) (pgs_cons (k_gfld (K := K) rfl (pv 0)) (pgs_cons (k_gfld (K := K) rfl (pv 0)) pgs_nil))))))))
      (pss_one (ps_fld (pv 0) (pe_ix (k_ixT (K := K) rfl) (pe_meth (pv 1) T.cl_Sender T.mt_s_plan (ok_s_plan T) (hr.mono (by decide)) T.b_s_plan .nil pass0 (pa_cons (pv 2) pa_nil)) pe_int (fun _ _ => rfl)) rfl))))), ?_⟩
    have nx : ∀ {b : Addr} {xs : List V}, H b = some (.tup xs) → b ≠ x := fun e => ne_of e hx (fun z => by cases z)
    have c := T.cl_Memory
    refine ⟨_, rfl, _, rfl, x, a.c_Memory, dx, _, rfl, hx, c, T.na_Memory_sender, (by show 0 < 1000; decide), ?_⟩
    refine ⟨_, rfl, _, rfl, x, a.c_Memory, dx, _, rfl, upd_same, c, T.na_Memory_state, (by show 1 < 1000; decide), ?_⟩
    rw [upd_upd]
    refine ⟨_, rfl, t, _, rfl, SqT.of (by rw [upd_ne (nx ht)]; exact ht), rfl, _, _, rfl, _, rfl, x, a.c_Memory, dx, _, rfl, upd_same, c, T.na_Memory_base, (by show 2 < 1000; decide), ?_⟩
    rw [upd_upd]
    refine ⟨_, _, rfl, _, rfl, x, a.c_Memory, dx, _, rfl, upd_same, c, T.na_Memory_top, (by show 3 < 1000; decide), ?_⟩
    rw [upd_upd]
    refine ⟨_, _, rfl, _, rfl, x, a.c_Memory, dx, _, rfl, upd_same, c, T.na_Memory_marked, (by show 4 < 1000; decide), ?_⟩
    rw [upd_upd]
    refine ⟨_, _, rfl, _, rfl, x, a.c_Memory, dx, _, rfl, upd_same, c, T.na_Memory_freed, (by show 5 < 1000; decide), ?_⟩
    rw [upd_upd]
    refine ⟨_, _, rfl, _, rfl, x, a.c_Memory, dx, _, rfl, upd_same, c, T.na_Memory_still, (by show 6 < 1000; decide), ?_⟩
    rw [upd_upd]
    refine ⟨_, _, rfl, _, rfl, x, a.c_Memory, dx, _, rfl, upd_same, c, T.na_Memory_heard, (by show 7 < 1000; decide), rfl, ?_⟩
    rw [upd_upd]
    have key : ∀ fs : List (Str × V), ∀ b o, H b = some o → b ≠ x → (upd H x (.ins a.c_Memory dx fs)) b = some o := fun fs b o e hb => by
      rw [upd_ne hb]
      exact e
    generalize hF : putF "heard" _ _ = fs
    have keyS : SenAt a.c_Sender (upd H x (.ins a.c_Memory dx fs)) s win last rs := by
      obtain ⟨dx1, fs1, pt, h1, h2, as, h3, h4⟩ := hS
      have ns : s ≠ x := by
        rintro rfl
        rw [hx] at h1
        injection h1 with h1
        injection h1 with _ _ e
        have z := h2.window
        rw [← e] at z
        cases z
      refine ⟨dx1, fs1, pt, key _ _ _ h1 ns, h2, as, key _ _ _ h3 (nx h3), Paired.mapP h4 ?_⟩
      rintro ra r ⟨c1, d1, k1, ⟨cas, k2, k3⟩, k4⟩
      exact ⟨c1, d1, key _ _ _ k1 (nx k1), ⟨cas, key _ _ _ k2 (nx k2), Paired.mapP k3 fun _ _ z => key _ _ _ z (nx z)⟩, key _ _ _ k4 (nx k4)⟩
    have keyT : StT (upd H x (.ins a.c_Memory dx fs)) t S := ⟨m, f, key _ _ _ ht (nx ht), key _ _ _ hm (nx hm), key _ _ _ hf (nx hf)⟩
    obtain ⟨dx1, fs1, pt, h1, h2, h3⟩ := id keyS
    refine ⟨_, rfl, s, dx1, fs1, rfl, h1, h2.noPlan, _, rfl, s, t, win, last, rs, S, rfl, keyS, ok, keyT, sok, hbig, fun r l t2 H2 hs2 hr hl _ => ?_⟩
    refine ⟨r, _, 0, _, rfl, rfl, SqT.of hr, at0, _, rfl, x, a.c_Memory, dx, _, rfl, hs2 _ _ upd_same, c, T.na_Memory_letters, (by rw [← hF]; show 8 < 1000; decide), ?_⟩
    have hx2 := hs2 _ _ (upd_same (H := H) (a := x) (o := .ins a.c_Memory dx fs))
    have nx2 : ∀ {b : Addr} {xs : List V}, H2 b = some (.tup xs) → b ≠ x := fun e => ne_of e hx2 (fun z => by cases z)
    have key2 : ∀ b o, H2 b = some o → b ≠ x → (upd H2 x (.ins a.c_Memory dx (putF "letters" (.ref l) fs))) b = some o := fun b o e hb => by
      rw [upd_ne hb]
      exact e
    have keyS2 : SenAt a.c_Sender (upd H2 x (.ins a.c_Memory dx (putF "letters" (.ref l) fs))) s win last rs := by
      obtain ⟨dx3, fs3, pt3, g1, g2, as3, g3, g4⟩ := keyS.up hs2
      have ns : s ≠ x := by
        rintro rfl
        rw [hx2] at g1
        injection g1 with g1
        injection g1 with _ _ e
        have z := g2.window
        rw [← e, ← hF] at z
        cases z
      refine ⟨dx3, fs3, pt3, key2 _ _ g1 ns, g2, as3, key2 _ _ g3 (nx2 g3), Paired.mapP g4 ?_⟩
      rintro ra r ⟨c1, d1, k1, ⟨cas, k2, k3⟩, k4⟩
      exact ⟨c1, d1, key2 _ _ k1 (nx2 k1), ⟨cas, key2 _ _ k2 (nx2 k2), Paired.mapP k3 fun _ _ z => key2 _ _ z (nx2 z)⟩, key2 _ _ k4 (nx2 k4)⟩
    have ht2 := hs2 _ _ (key fs _ _ ht (nx ht))
    have hm2 := hs2 _ _ (key fs _ _ hm (nx hm))
    have hf2 := hs2 _ _ (key fs _ _ hf (nx hf))
    refine q _ ⟨dx, _, s, t, m, f, l, upd_same, ?_, keyS2, ⟨m, f, key2 _ _ ht2 (nx2 ht2), key2 _ _ hm2 (nx2 hm2), key2 _ _ hf2 (nx2 hf2)⟩, key2 _ _ hm2 (nx2 hm2), key2 _ _ hf2 (nx2 hf2), key2 _ _ hl (nx2 hl)⟩ ?_
    · rw [← hF]
      exact ⟨rfl, rfl, rfl, rfl, rfl, rfl, rfl, rfl⟩
    · intro b o e hb
      exact key2 b o (hs2 _ _ (key fs b o e hb)) hb
theorem ok_s_begin (T : Txt K mg a) : FnOk P w K mg base CX0 6 a.f_s_begin a.d_s_begin ["self"] (sp_s_begin a) := by
  refine T.F_s_begin.ok sc_s_begin (fun vs H Q E h => ?_) (fun cdv A outer s H vs Q E hr h => ?_)
  · obtain ⟨s, win, last, rs, rfl, _⟩ := h
    rfl
  · obtain ⟨s, win, last, rs, rfl, hS, ok, w1, w4, q⟩ := h
    refine ⟨_, (pss_one (ps_ret (pe_make T.mk_Memory (ok_m_init T) (hr.mono (by decide)) (by rfl) T.m_Memory T.b_m_init .nil pass0 (pa_cons (pv 0) (pa_cons (pe_tup (pa_cons pe_int (pa_cons pe_int (pa_cons (pe_tup pa_nil) (pa_cons (pe_tup pa_nil) (pa_cons pe_int (pa_cons pe_bl pa_nil))))))) pa_nil))))), ?_⟩
    -- Memory(self, (0, 0, (), (), 0, False))
    refine ⟨_, rfl, size1000 (by show 0 ≤ 1000; omega), fun m hm => ⟨size1000 (by show 0 ≤ 1000; omega), fun f hf => ⟨size1000 (by show 6 ≤ 1000; omega), fun t ht => ?_⟩⟩⟩
    intro x dx nx ndx nex
    have hs1 : Same H (upd H m (.tup [])) := Same.new hm
    have hm1 : (upd H m (.tup [])) m = some (.tup []) := upd_same
    have hs2 : Same (upd H m (.tup [])) (upd (upd H m (.tup [])) f (.tup [])) := Same.new hf
    have hf2 : (upd (upd H m (.tup [])) f (.tup [])) f = some (.tup []) := upd_same
    generalize upd H m (.tup []) = H1 at *
    generalize upd H1 f (.tup []) = H2 at *
    have hs3 : Same H2 (upd H2 t (.tup [.int 0, .int 0, .ref m, .ref f, .int 0, .bl false])) := Same.new ht
    have ht3 : (upd H2 t (.tup [.int 0, .int 0, .ref m, .ref f, .int 0, .bl false])) t = some (.tup [.int 0, .int 0, .ref m, .ref f, .int 0, .bl false]) := upd_same
    generalize upd H2 t (.tup [.int 0, .int 0, .ref m, .ref f, .int 0, .bl false]) = H3 at *
    have hs4 : Same H3 (upd (upd H3 dx (.own x)) x (.ins a.c_Memory dx [])) := Same.made2 nx ndx (.inl (Same.refl _))
    have hall := ((hs1.trans hs2).trans hs3).trans hs4
    refine ⟨x, dx, s, t, win, last, rs, begin, rfl, upd_same, hS.up hall, ok, ⟨m, f, hs4 _ _ ht3, hs4 _ _ (hs3 _ _ (hs2 _ _ hm1)), hs4 _ _ (hs3 _ _ hf2)⟩, begin_ok w1 w4, (by show (0 : Int) ≤ 1000; decide), fun H' hM k => ⟨rfl, ?_⟩⟩
    refine q x H' ?_ hM
    exact ((hs1.trans hs2).trans hs3).trans (Same.made2 nx ndx (.inr k))
abbrev heS (s t b : Addr) (n nb top : Int) (m f : Addr) (st : Int) (hd : Bool) (v10 : Option V) : L2.St :=
  [some (.ref s), some (.ref t), some (.int n), some (.ref b), some (.int nb), some (.int top), some (.ref m), some (.ref f), some (.int st), some (.bl hd), v10, none, none, none]
theorem ok_s_hear (T : Txt K mg a) : FnOk P w K mg base CX0 1 a.f_s_hear a.d_s_hear ["self", "state", "number", "blocks"] (sp_s_hear a) := by
  refine T.F_s_hear.ok sc_s_hear (fun vs H Q E h => ?_) (fun cdv A outer s H vs Q E hr h => ?_)
  · obtain ⟨s, t, b, win, last, rs, S, y, rfl, _⟩ := h
    rfl
  · obtain ⟨s, t, b, win, last, rs, S, y, rfl, ⟨dx, fs, pt, hs, F, hrows⟩, ⟨m, f, ht, hm, hf⟩, sok, hbig, ⟨bas, hb, hbp⟩, hb3, hy0, hy1, q⟩ := h
    refine ⟨_, (pss_cons (ps_asg (pv 1) (k_gtup (K := K) rfl rfl (pgs_cons (pg_name (i := 4) sc_s_hear.nd rfl (Or.inr rfl)) (pgs_cons (pg_name (i := 5) sc_s_hear.nd rfl (Or.inl rfl)) (pgs_cons (pg_name (i := 6) sc_s_hear.nd rfl (Or.inr rfl)) (pgs_cons (pg_name (i := 7) sc_s_hear.nd rfl (Or.inl rfl)) (pgs_cons (pg_name (i := 8) sc_s_hear.nd rfl (Or.inl rfl)) (pgs_cons (pg_name (i := 9) sc_s_hear.nd rfl (Or.inl rfl)) pgs_nil))))))))
      (C8.pss_cut (ps_set (i := 4) sc_s_hear.nd rfl (Or.inr rfl) (pe_ifExp (pt_cmpR op_gt (pv 2) (pv 4) (nomark _)) (pv 2) (pv 4)))
      (pss_cons (ps_set (i := 10) sc_s_hear.nd rfl (Or.inr rfl) (pe_lc (own := [("piece", 13)]) (g := (gName 13)) rfl sc_s_hear.nd (pi_range2 (by rfl) T.n_range (pa_cons (pv 4) (pa_cons (pv 5) pa_nil))) (blkOk_by (own := [("piece", 13)]) (N := n_s_hear) (sc := (defScope s_s_hear)) (by decide +kernel)) (fun _ _ _ _ _ => (pg_name (i := 13) sc_s_hear.nd rfl (Or.inr rfl))) (fun _ _ _ _ _ => (pts_one (pt_val (pe_callB (k_any (K := K) rfl rfl) (by rfl) T.n_any (by decide +kernel) (pa_cons (pe_lc (own := [("first", 11), ("end", 12)]) (g := (gTup K 2 (gCons (gName 11) (gCons (gName 12) gNil)))) (tt := tYes) rfl sc_s_hear.nd (k_tup (K := K) rfl (pv 3)) (blkOk_by (own := [("first", 11), ("end", 12)]) (N := n_s_hear) (sc := (relS { kind := .function, names := [(".0", .local), ("piece", .cell), ("any", .globalImplicit), ("blocks", .free)], isGenerator := false, isCoroutine := false, more := [] : Scope } (defScope s_s_hear))) (by decide +kernel)) (fun _ _ _ _ _ => (k_gtup (K := K) rfl rfl (pgs_cons (pg_name (i := 11) sc_s_hear.nd rfl (Or.inl rfl)) (pgs_cons (pg_name (i := 12) sc_s_hear.nd rfl (Or.inl rfl)) pgs_nil)))) (fun _ _ _ _ _ => pts_nil) (fun _ _ _ _ _ => (pe_chain op_le op_lt (pv 11) (pv 13) (pv 12)))) pa_nil))))) (fun _ _ _ _ _ => (pv 13))))
      (C8.pss_cut (ps_if (pt_not (pt_val (k_fld (K := K) rfl (pv 0) rfl)))
        (pss_one (ps_set (i := 10) sc_s_hear.nd rfl (Or.inr rfl) (pe_lc (own := [("piece", 13)]) (g := (gName 13)) rfl sc_s_hear.nd (pi_range2 (by rfl) T.n_range (pa_cons (pv 4) (pa_cons (pv 5) pa_nil))) (blkOk_by (own := [("piece", 13)]) (N := n_s_hear) (sc := (defScope s_s_hear)) (by decide +kernel)) (fun _ _ _ _ _ => (pg_name (i := 13) sc_s_hear.nd rfl (Or.inl rfl))) (fun _ _ _ _ _ => (pts_one (PW.pt (pw_or (pt_cmpR (k_in (K := K) rfl) (pv 13) (pv 10) rfl) (pw_or1 (pt_cmpR (k_in (K := K) rfl) (pv 13) (pv 6) rfl)))))) (fun _ _ _ _ _ => (pv 13)))))
        pss_nil)
      (pss_cons (ps_set (i := 7) sc_s_hear.nd rfl (Or.inl rfl) (pe_callTy (k_tuple (K := K) rfl) (by rfl) T.n_tuple (by decide +kernel) (pa_cons (pe_lc (own := [("piece", 13)]) (g := (gName 13)) rfl sc_s_hear.nd (k_tup (K := K) rfl (pv 7)) (blkOk_by (own := [("piece", 13)]) (N := n_s_hear) (sc := (defScope s_s_hear)) (by decide +kernel)) (fun _ _ _ _ _ => (pg_name (i := 13) sc_s_hear.nd rfl (Or.inl rfl))) (fun _ _ _ _ _ => (pts_one (pt_cmpR op_ge (pv 13) (pv 4) (nomark _)))) (fun _ _ _ _ _ => (pv 13))) pa_nil)))
      (pss_one (ps_ret (pe_tup (pa_cons (pv 4) (pa_cons (pv 5) (pa_cons (pe_callTy (k_tuple (K := K) rfl) (by rfl) T.n_tuple (by decide +kernel) (pa_cons (pv 10) pa_nil)) (pa_cons (pv 7) (pa_cons (pv 8) (pa_cons (k_fld (K := K) rfl (pv 0) rfl) pa_nil)))))))))))))), ?_⟩
    have hb0 := sok.b0
    have hbt := sok.bt
    have htw := sok.tw
    have hw4 := sok.w4
    have hfl := sok.fl
    have hu : 0 ≤ up y.1 S.base ∧ up y.1 S.base ≤ S.top ∧ S.top ≤ up y.1 S.base + 4 := by
      unfold up
      split <;> omega
    refine ⟨_, rfl, t, _, rfl, SqT.of ht, rfl, _, _, rfl, _, _, rfl, _, _, rfl, _, _, rfl, _, _, rfl, _, _, rfl, rfl, ?_⟩
    -- base = number if number > base else base
    refine ⟨fun σ' H' => σ' = heS s t b y.1 (up y.1 S.base) S.top m f S.still S.heard none ∧ H' = H, ?_, ?_⟩
    · refine ⟨_, rfl, _, rfl, _, _, rfl, rfl, _, rfl, ite2 (fun h => ⟨_, rfl, ?_, rfl⟩) (fun h => ⟨_, rfl, ?_, rfl⟩)⟩
      · have e : up y.1 S.base = y.1 := if_pos (of_decide_eq_true h)
        rw [e]
        rfl
      · have e : up y.1 S.base = S.base := if_neg (fun z => h (decide_eq_true z))
        rw [e]
        rfl
    rintro σ' H' ⟨rfl, rfl⟩
    obtain ⟨hu0, hu1, hu2⟩ := hu
    have eH : hear last (asksS rs) S y = ⟨up y.1 S.base, S.top, heardOf last (up y.1 S.base) S.top y.2 S.marked, S.freed.filter (fun p => decide (up y.1 S.base ≤ p)), S.still, asksS rs⟩ := rfl
    rw [eH] at q
    generalize up y.1 S.base = nb at *
    -- told = [..]
    refine ⟨_, rfl, _, rfl, nb, S.top, rfl, ⟨by omega, by omega, by omega, by omega⟩, lcR (fun p => if (y.2.any fun k => decide (k.1 ≤ p) && decide (p < k.2)) = true then some (V.int p) else none) (by omega) ?_ ?_⟩
    · intro i p H2 hi hp1 hp2 hs2 Z hZ
      refine ⟨rfl, _, rfl, b, rfl, ⟨_, SqT.of (hs2 _ _ hb)⟩, lcT (fun k : Blk => some (V.bl (decide (k.1 ≤ p) && decide (p < k.2)))) (SqT.of (hs2 _ _ hb)) (paired_refs hbp) (by omega) ?_ ?_⟩
      · rintro j x k H3 hk ⟨r, rfl, hr⟩ hs3 Z2 hZ2
        have hz := hZ2 _ (Same.refl _)
        refine ⟨r, _, rfl, SqT.of (hs3 _ _ (hs2 _ _ hr)), rfl, _, _, rfl, _, _, rfl, rfl, rfl, yesT ?_⟩
        refine ⟨_, rfl, _, rfl, k.1, p, rfl, rfl, _, rfl, ?_⟩
        cases e1 : decide (k.1 ≤ p) with
        | true =>
          rw [e1, Bool.true_and] at hz
          exact iteT ⟨_, rfl, p, k.2, rfl, rfl, hz⟩
        | false =>
          rw [e1, Bool.false_and] at hz
          exact iteF hz
      · intro D2 H3 hD2 hs3 hl3
        rw [fm_bools] at hl3
        have hz := hZ _ hs3
        refine ⟨D2, _, rfl, SqL.of hl3, _, rfl, ?_⟩
        rw [any_bools]
        refine ite2 (fun h => ⟨_, rfl, ?_⟩) (fun h => ?_)
        · rw [if_pos h] at hz
          exact hz
        · rw [if_neg h] at hz
          exact hz
    intro D H2 hD hs2 hl2
    rw [fm_filter] at hl2
    have hl2' : H2 D = some (.lst (iVs (toldOf nb S.top y.2))) := hl2
    have hm2 := hs2 _ _ hm
    have hf2 := hs2 _ _ hf
    have hss := hs2 _ _ hs
    have htl : (toldOf nb S.top y.2).length ≤ 4 := by
      unfold toldOf
      have := filter_len_le (fun p => y.2.any fun k => decide (k.1 ≤ p) && decide (p < k.2)) (outs nb S.top)
      rw [outs_len] at this
      omega
    refine ⟨fun σ' H' => ∃ D, σ' = heS s t b y.1 nb S.top m f S.still S.heard (some (.ref D)) ∧ Same H2 H' ∧ H' D = some (.lst (iVs (heardOf last nb S.top y.2 S.marked))), ?_, ?_⟩
    · refine ⟨_, rfl, s, a.c_Sender, dx, fs, _, rfl, hss, T.cl_Sender, T.na_Sender_marks_last, F.last, _, rfl, ?_⟩
      cases last with
      | true => exact iteF ⟨D, rfl, Same.refl _, hl2'⟩
      | false =>
        refine iteT ⟨_, rfl, _, rfl, nb, S.top, rfl, ⟨by omega, by omega, by omega, by omega⟩, lcR (fun p => if ((toldOf nb S.top y.2).contains p || S.marked.contains p) = true then some (V.int p) else none) (by omega) ?_ ?_⟩
        · intro i p H3 hi hp1 hp2 hs3 Z hZ
          have hz := hZ _ (Same.refl _)
          refine ⟨rfl, _, rfl, _, rfl, in_ints (.inl (SqL.of (hs3 _ _ hl2'))) ⟨_, rfl, ?_⟩⟩
          cases e1 : (toldOf nb S.top y.2).contains p with
          | true =>
            rw [e1] at hz
            exact iteT (iteT ⟨_, rfl, hz⟩)
          | false =>
            rw [e1, Bool.false_or] at hz
            refine iteF ⟨_, rfl, _, rfl, in_ints (.inr (SqT.of (hs3 _ _ hm2))) ⟨_, rfl, ?_⟩⟩
            cases e2 : S.marked.contains p with
            | true =>
              rw [e2] at hz
              exact iteT ⟨_, rfl, hz⟩
            | false =>
              rw [e2] at hz
              exact iteF hz
        · intro D3 H3 hD3 hs3 hl3
          rw [fm_filter] at hl3
          exact ⟨D3, rfl, hs3, hl3⟩
    rintro σ' H3 ⟨D, rfl, hs3, hl3⟩
    -- freed = tuple([piece for piece in freed if piece >= base])
    have hf3 := hs3 _ _ hf2
    refine ⟨_, rfl, f, rfl, ⟨_, SqT.of hf3⟩, lcT (fun p => if decide (nb ≤ p) = true then some (V.int p) else none) (SqT.of hf3) (paired_ints _) (by omega) ?_ ?_⟩
    · rintro i x p H4 hp rfl hs4 Z hZ
      have hz := hZ _ (Same.refl _)
      refine ⟨rfl, _, rfl, _, rfl, p, nb, rfl, rfl, _, rfl, ite2 (fun h => ⟨_, rfl, ?_⟩) (fun h => ?_)⟩
      · rw [if_pos h] at hz
        exact hz
      · rw [if_neg h] at hz
        exact hz
    intro D4 H4 hD4 hs4 hl4
    rw [fm_filter] at hl4
    refine ⟨D4, _, rfl, .inl ⟨SqL.of hl4, fun f5 hf5 => ?_⟩⟩
    have hs5 : Same H4 (upd H4 f5 (.tup (iVs (S.freed.filter fun p => decide (nb ≤ p))))) := Same.new hf5
    have hf6 : (upd H4 f5 (.tup (iVs (S.freed.filter fun p => decide (nb ≤ p))))) f5 = some (.tup (iVs (S.freed.filter fun p => decide (nb ≤ p)))) := upd_same
    generalize upd H4 f5 (.tup (iVs (S.freed.filter fun p => decide (nb ≤ p)))) = H5 at hs5 hf6
    -- return (base, top, tuple(told), freed, still, self.asks_silent)
    refine ⟨_, rfl, _, rfl, _, rfl, D, _, rfl, .inl ⟨SqL.of (hs5 _ _ (hs4 _ _ hl3)), fun m7 hm7 => ?_⟩⟩
    have hs7 : Same H5 (upd H5 m7 (.tup (iVs (heardOf last nb S.top y.2 S.marked)))) := Same.new hm7
    have hm8 : (upd H5 m7 (.tup (iVs (heardOf last nb S.top y.2 S.marked)))) m7 = some (.tup (iVs (heardOf last nb S.top y.2 S.marked))) := upd_same
    generalize upd H5 m7 (.tup (iVs (heardOf last nb S.top y.2 S.marked))) = H7 at hs7 hm8
    have hall := (((hs2.trans hs3).trans hs4).trans hs5).trans hs7
    refine ⟨_, rfl, _, rfl, _, rfl, s, a.c_Sender, dx, fs, _, rfl, hall _ _ hs, T.cl_Sender, T.na_Sender_asks_silent, F.silent, size1000 (by show 6 ≤ 1000; omega), fun r8 hr8 => ?_⟩
    have hs8 := Same.new (o := .tup [.int nb, .int S.top, .ref m7, .ref f5, .int S.still, .bl (asksS rs)]) hr8
    exact q r8 _ (hall.trans hs8) ⟨m7, f5, upd_same, hs8 _ _ hm8, hs8 _ _ (hs7 _ _ hf6)⟩
theorem ok_s_close (T : Txt K mg a) : FnOk P w K mg base CX0 1 a.f_s_close a.d_s_close ["self", "state", "begun"] (sp_s_close a) := by
  refine T.F_s_close.ok sc_s_close (fun vs H Q E h => ?_) (fun cdv A outer s H vs Q E hr h => ?_)
  · obtain ⟨s, t, win, last, rs, S, b, rfl, _⟩ := h
    rfl
  · obtain ⟨s, t, win, last, rs, S, b, rfl, ⟨dx, fs, pt, hs, F, _⟩, ⟨m, f, ht, hm, hf⟩, q⟩ := h
    refine ⟨_, (pss_cons (ps_asg (pv 1) (k_gtup (K := K) rfl rfl (pgs_cons (pg_name (i := 3) sc_s_close.nd rfl (Or.inl rfl)) (pgs_cons (pg_name (i := 4) sc_s_close.nd rfl (Or.inl rfl)) (pgs_cons (pg_name (i := 5) sc_s_close.nd rfl (Or.inl rfl)) (pgs_cons (pg_name (i := 6) sc_s_close.nd rfl (Or.inl rfl)) (pgs_cons (pg_name (i := 7) sc_s_close.nd rfl (Or.inl rfl)) (pgs_cons (pg_name (i := 8) sc_s_close.nd rfl (Or.inl rfl)) pgs_nil))))))))
      (pss_cons (ps_if (pt_cmpR op_gt (pv 3) (pv 2) (nomark _))
        (pss_one (ps_ret (pe_tup (pa_cons (pv 3) (pa_cons (pv 4) (pa_cons (pv 5) (pa_cons (pv 6) (pa_cons pe_int (pa_cons (pv 8) pa_nil)))))))))
        pss_nil)
      (pss_one (ps_ret (pe_tup (pa_cons (pv 3) (pa_cons (pv 4) (pa_cons (pv 5) (pa_cons (pv 6) (pa_cons (pe_ifExp (pt_cmpR op_lt (pv 7) (k_fld (K := K) rfl (pv 0) rfl) (nomark _)) (pe_op op_add (pv 7) pe_int) (pv 7)) (pa_cons (pv 8) pa_nil))))))))))), ?_⟩
    refine ⟨_, rfl, t, _, rfl, SqT.of ht, rfl, _, _, rfl, _, _, rfl, _, _, rfl, _, _, rfl, _, _, rfl, _, _, rfl, rfl, ?_⟩
    refine ⟨_, rfl, _, rfl, _, _, rfl, rfl, _, rfl, ite2 (fun z => ?_) (fun z => ?_)⟩
    · have z' : S.base > b := of_decide_eq_true z
      refine ⟨_, rfl, _, rfl, _, rfl, _, rfl, _, rfl, size1000 (by show 6 ≤ 1000; omega), fun r hr => ?_⟩
      refine q r _ (Same.new hr) ⟨m, f, ?_, ?_, ?_⟩
      · rw [upd_same]
        unfold close
        rw [if_pos z']
      · unfold close
        rw [if_pos z']
        exact Same.new hr _ _ hm
      · unfold close
        rw [if_pos z']
        exact Same.new hr _ _ hf
    · have z' : ¬ S.base > b := fun y => z (decide_eq_true y)
      refine ⟨_, rfl, _, rfl, _, rfl, _, rfl, _, rfl, _, rfl, s, a.c_Sender, dx, fs, _, rfl, hs, T.cl_Sender, T.na_Sender_asks_still, F.still, _, _, rfl, rfl, _, rfl, ?_⟩
      have fin : ∀ n : Int, n = (if S.still < asksT rs then S.still + 1 else S.still) → ∀ r, H r = none → Q (.ref r) (upd H r (.tup [.int S.base, .int S.top, .ref m, .ref f, .int n, .bl S.heard])) := by
        intro n hn r hr
        refine q r _ (Same.new hr) ⟨m, f, ?_, ?_, ?_⟩
        · rw [upd_same]
          unfold close
          rw [if_neg z', ← hn]
        · unfold close
          rw [if_neg z']
          exact Same.new hr _ _ hm
        · unfold close
          rw [if_neg z']
          exact Same.new hr _ _ hf
      refine ite2 (fun y => ?_) (fun y => ?_)
      · have y' : S.still < asksT rs := of_decide_eq_true y
        refine ⟨_, rfl, _, _, rfl, rfl, _, rfl, size1000 (by show 6 ≤ 1000; omega), fun r hr => fin _ ?_ r hr⟩
        rw [if_pos y']
      · have y' : ¬ S.still < asksT rs := fun x => y (decide_eq_true x)
        refine ⟨_, rfl, _, rfl, size1000 (by show 6 ≤ 1000; omega), fun r hr => fin _ ?_ r hr⟩
        rw [if_neg y']
theorem ok_m_after (T : Txt K mg a) : FnOk P w K mg base CX0 6 a.f_m_after a.d_m_after ["self", "answers"] (sp_m_after a) := by
  refine T.F_m_after.ok sc_m_after (fun vs H Q E h => ?_) (fun cdv A outer s H vs Q E hr h => ?_)
  · obtain ⟨x, t, win, last, rs, S, ys, rfl, _⟩ := h
    rfl
  · obtain ⟨x, t, win, last, rs, S, ys, rfl, hM, ok, sok, hbig, hAns, hA, h5, q⟩ := h
    refine ⟨_, (pss_cons (ps_set (i := 2) sc_m_after.nd rfl (Or.inl rfl) (pe_ix (k_ixT (K := K) rfl) (pe_meth (k_fld (K := K) rfl (pv 0) rfl) T.cl_Sender T.mt_s_plan (ok_s_plan T) (hr.mono (by decide)) T.b_s_plan .nil pass0 (pa_cons (k_fld (K := K) rfl (pv 0) rfl) pa_nil)) pe_int (fun _ _ => rfl)))
      (pss_cons (ps_expr (pe_call (ok_check_answers T) (hr.mono (by decide)) (by rfl) T.m_check_answers T.F_check_answers.kp T.b_check_answers .nil pass0 (pa_cons (pv 1) (pa_cons (pe_ix (k_ixT (K := K) rfl) (pv 2) pe_int (fun _ _ => rfl)) (pa_cons (pe_ix (k_ixT (K := K) rfl) (pv 2) pe_int (fun _ _ => rfl)) pa_nil)))))
      (pss_cons (ps_for PassesOwn.never rfl (k_tup (K := K) rfl (pv 1)) (pg_name (i := 3) sc_m_after.nd rfl (Or.inl rfl))
        (pss_one (ps_set (i := 2) sc_m_after.nd rfl (Or.inl rfl) (pe_meth (k_fld (K := K) rfl (pv 0) rfl) T.cl_Sender T.mt_s_hear (ok_s_hear T) (hr.mono (by decide)) T.b_s_hear .nil pass0 (pa_cons (pv 2) (pa_cons (pe_prop (pv 3) T.cl_Answer T.pr_a_number (ok_a_number T) (hr.mono (by decide)) T.b_a_number .nil pass0 rfl) (pa_cons (pe_prop (pv 3) T.cl_Answer T.pr_a_blocks (ok_a_blocks T) (hr.mono (by decide)) T.b_a_blocks .nil pass0 rfl) pa_nil)))))))
      (pss_one (ps_ret (pe_make T.mk_Memory (ok_m_init T) (hr.mono (by decide)) (by rfl) T.m_Memory T.b_m_init .nil pass0 (pa_cons (k_fld (K := K) rfl (pv 0) rfl) (pa_cons (pe_meth (k_fld (K := K) rfl (pv 0) rfl) T.cl_Sender T.mt_s_close (ok_s_close T) (hr.mono (by decide)) T.b_s_close .nil pass0 (pa_cons (pv 2) (pa_cons (k_fld (K := K) rfl (pv 0) rfl) pa_nil))) pa_nil)))))))), ?_⟩
    obtain ⟨dx, fs, s, st, m, f, l, hx, F, hSen, hSt, _⟩ := hM
    have c := T.cl_Memory
    have pok := plan_ok rs sok
    have htop : (plan win rs S).top ≤ S.base + win := pok.tw
    have hw4 := sok.w4
    have hbt := sok.bt
    have hi := anss_hi hA
    obtain ⟨dx1, fs1, pt, h1, h2, _⟩ := id hSen
    -- state = self.sender.plan(self.state)[1]
    refine ⟨_, rfl, x, a.c_Memory, dx, fs, _, rfl, hx, c, T.na_Memory_sender, F.sender, s, dx1, fs1, rfl, h1, h2.noPlan, _, rfl, x, a.c_Memory, dx, fs, _, rfl, hx, c, T.na_Memory_state, F.state, s, st, win, last, rs, S, rfl, hSen, ok, hSt, sok, by omega, fun r l t2 H1 hs1 hr _ hSt1 => ?_⟩
    refine ⟨r, _, 1, _, rfl, rfl, SqT.of hr, at1, ?_⟩
    -- check_answers(answers, state[0], state[1])
    obtain ⟨m1, f1, e1, e2, e3⟩ := id hSt1
    refine ⟨_, rfl, _, rfl, t2, _, 0, _, rfl, rfl, SqT.of e1, at0, _, rfl, t2, _, 1, _, rfl, rfl, SqT.of e1, at1, t, _, _, ys, rfl, hAns.up hs1, hA, h5, fun H2 hs2 => ?_⟩
    obtain ⟨as, ht, hp⟩ := hAns
    have hs12 := hs1.trans hs2
    refine ⟨_, rfl, t, rfl, ⟨_, SqT.of (hs12 _ _ ht)⟩, ?_⟩
    refine for_tup (K := K) (a := t) (xs := refs as) (fun i σ H' => ∃ r v3, σ = [some (.ref x), some (.ref t), some (.ref r), v3] ∧ Same H H' ∧ StT H' r ((ys.take i).foldl (hear last (asksS rs)) (plan win rs S)) ∧ StOk win ((ys.take i).foldl (hear last (asksS rs)) (plan win rs S)) ∧ ((ys.take i).foldl (hear last (asksS rs)) (plan win rs S)).top = (plan win rs S).top) ⟨t2, none, rfl, hs12, hSt1.up hs2, pok, rfl⟩ (fun i σ H' _ ⟨_, _, _, e, _⟩ => SqT.of (e _ _ ht)) ?_ ?_
    · rintro i v σ H3 hv ⟨r, v3, rfl, hs3, hSt3, sok3, top3⟩
      obtain ⟨y, hy, ra, rfl, hra⟩ := Paired.at (paired_refs hp) hv
      have ef : (ys.take (i + 1)).foldl (hear last (asksS rs)) (plan win rs S) = hear last (asksS rs) ((ys.take i).foldl (hear last (asksS rs)) (plan win rs S)) y := by
        rw [List.take_add_one, hy, List.foldl_append]
        rfl
      rw [ef]
      generalize (ys.take i).foldl (hear last (asksS rs)) (plan win rs S) = S3 at *
      obtain ⟨y0, y1, y3⟩ := hi y (List.mem_of_getElem? hy)
      have hra3 := hra.up hs3
      obtain ⟨dxa, fsa, bl, g1, g2, g3, g4⟩ := id hra3
      have hx3 := hs3 _ _ hx
      refine ⟨_, rfl, x, a.c_Memory, dx, fs, _, rfl, hx3, c, T.na_Memory_sender, F.sender, s, dx1, fs1, rfl, hs3 _ _ h1, h2.noHear, _, rfl, _, rfl, ra, dxa, fsa, rfl, g1, ra, y, rfl, hra3, _, rfl, ra, dxa, fsa, rfl, g1, ra, y, rfl, hra3, fun bb hbb => ?_⟩
      refine ⟨s, r, bb, win, last, rs, S3, y, rfl, hSen.up hs3, hSt3, sok3, by omega, hbb, y3, y0, by omega, fun r2 H4 hs4 hSt4 => ?_⟩
      exact ⟨r2, _, rfl, hs3.trans hs4, hSt4, hear_ok sok3 (by omega), top3⟩
    · rintro σ H3 ⟨r, v3, rfl, hs3, hSt3, sok3, top3⟩
      have e : ys.take (refs as).length = ys := by rw [List.length_map, hp.length]; exact List.take_length
      rw [e] at hSt3 sok3 top3
      have hx3 := hs3 _ _ hx
      -- return Memory(self.sender, self.sender.close(state, self.base))
      refine ⟨_, rfl, x, a.c_Memory, dx, fs, _, rfl, hx3, c, T.na_Memory_sender, F.sender, _, rfl, x, a.c_Memory, dx, fs, _, rfl, hx3, c, T.na_Memory_sender, F.sender, s, dx1, fs1, rfl, hs3 _ _ h1, h2.noClose, _, rfl, _, rfl, x, a.c_Memory, dx, fs, _, rfl, hx3, c, T.na_Memory_base, F.base, s, r, win, last, rs, _, S.base, rfl, hSen.up hs3, hSt3, fun r4 H4 hs4 hSt4 => ?_⟩
      intro x5 dx5 nx ndx nex
      have hs5 : Same H4 (upd (upd H4 dx5 (.own x5)) x5 (.ins a.c_Memory dx5 [])) := Same.made2 nx ndx (.inl (Same.refl _))
      have ct := close_top (asksT rs) (ys.foldl (hear last (asksS rs)) (plan win rs S)) S.base
      refine ⟨x5, dx5, s, r4, win, last, rs, _, rfl, upd_same, (hSen.up (hs3.trans hs4)).up hs5, ok, hSt4.up hs5, close_ok sok3, by omega, fun H' hM k => ⟨rfl, ?_⟩⟩
      exact q x5 H' ((hs3.trans hs4).trans (Same.made2 nx ndx (.inr k))) hM
abbrev puS (s : Addr) (k c : Int) (o : Option V) : L2.St := [some (.ref s), some (.int k), some (.int c), o, none]
theorem int_at {ns : List Int} {k : Nat} (h : k < ns.length) : (iVs ns)[k]? = some (.int (ns[k]'h)) := by
  rw [List.getElem?_map, List.getElem?_eq_getElem h]
  rfl
theorem cut_ints (ns : List Int) : ∃ ms : List Int, cutV (iVs ns) none (some 3) = iVs ms := by
  refine ⟨(ns.drop (HT.sIx (iVs ns).length 0 none)).take (HT.sIx (iVs ns).length (iVs ns).length (some 3) - HT.sIx (iVs ns).length 0 none), ?_⟩
  unfold cutV
  show _ = List.map _ _
  rw [List.map_take, List.map_drop]
theorem ok_l_purse (T : Txt K mg a) : FnOk P w K mg base CX0 1 a.f_l_purse a.d_l_purse ["_law_script", "_law_k"] (sp_l_purse K) := by
  refine T.F_l_purse.ok sc_l_purse (fun vs H Q E h => ?_) (fun cdv A outer s H vs Q E hr h => ?_)
  · obtain ⟨s, ns, k, rfl, _⟩ := h
    rfl
  · obtain ⟨s, ns, k, rfl, hs, hz, hk0, hk1, q⟩ := h
    refine ⟨_, (pss_cons (ps_set (i := 2) sc_l_purse.nd rfl (Or.inl rfl) (pe_op op_add (pe_op op_add (pe_op op_mul (pe_op op_mul pe_int (pv 1)) (pv 1)) (pe_op op_mul pe_int (pv 1))) pe_int))
      (C8.pss_cut (ps_if (pt_cmpR op_lt (pv 1) (pe_callB (k_len (K := K) rfl) (by rfl) T.n_len PySem.boot_len (pa_cons (pv 0) pa_nil)) (nomark _))
        (pss_one (ps_set (i := 2) sc_l_purse.nd rfl (Or.inl rfl) (pe_callTy call_int1 (by rfl) T.n_int (by decide +kernel) (pa_cons (pe_ix (k_ixL (K := K) rfl) (pv 0) (pv 1) (fun _ _ => rfl)) pa_nil))))
        (pss_one (ps_for PassesOwn.never rfl (k_list (K := K) rfl (pe_slice (k_slL (K := K) rfl) (pv 0) po_none (po_some pe_int))) (pg_name (i := 3) sc_l_purse.nd rfl (Or.inl rfl))
        (pss_one (ps_set (i := 2) sc_l_purse.nd rfl (Or.inl rfl) (pe_op op_mod (pe_callTy call_int1 (by rfl) T.n_int (by decide +kernel) (pa_cons (pe_op op_add (pe_op op_mul (pv 2) pe_int) (pv 3)) pa_nil)) pe_int))))))
      (pss_cons (ps_set (i := 4) sc_l_purse.nd rfl (Or.inl rfl) (pe_ifExp (PW.pt (pw_or (pt_cmpR op_lt (pv 2) pe_int (nomark _)) (pw_or1 (pt_cmpR op_ge (pv 2) (pe_op op_pow pe_int pe_int) (nomark _))))) (pe_callB call_abs (by rfl) T.n_abs (by decide +kernel) (pa_cons (pv 2) pa_nil)) pe_int))
      (pss_cons (ps_set (i := 3) sc_l_purse.nd rfl (Or.inl rfl) (pe_op op_add (pe_op op_mod (pe_callTy call_int1 (by rfl) T.n_int (by decide +kernel) (pa_cons (pe_op op_fdiv (pv 2) pe_int) pa_nil)) pe_int) pe_int))
      (pss_one (ps_ret (pe_lst (pa_cons (pe_op op_mod (pe_callTy call_int1 (by rfl) T.n_int (by decide +kernel) (pa_cons (pe_op op_add (pe_op op_add (pe_op op_mul (pv 2) pe_int) (pe_op op_mul (pv 1) pe_int)) pe_int) pa_nil)) pe_int) (pa_cons (pv 3) (pa_cons (pv 4) pa_nil)))))))))), ?_⟩
    refine ⟨_, rfl, 40009, k, rfl, rfl, .inl ⟨by decide, by decide⟩, _, rfl, _, k, rfl, rfl, .inr ⟨by omega, by omega⟩, _, rfl, 977, k, rfl, rfl, .inl ⟨by decide, by decide⟩, _, _, rfl, rfl, _, 5, rfl, rfl, ?_⟩
    refine ⟨fun σ H' => ∃ c o, σ = puS s k c o ∧ Same H H', ?_, ?_⟩
    · refine ⟨_, rfl, _, rfl, s, _, rfl, .inl hs, k, _, rfl, rfl, _, rfl, ite2 (fun h => ?_) (fun h => ?_)⟩
      · have hk : k.toNat < ns.length := by
          have h' := of_decide_eq_true h
          rw [List.length_map] at h'
          omega
        have e := atN (int_at hk)
        rw [Int.toNat_of_nonneg hk0] at e
        exact ⟨_, rfl, _, rfl, s, _, k, _, rfl, rfl, hs, e, .inl ⟨_, rfl, _, _, rfl, Same.refl _⟩⟩
      · obtain ⟨ms, hms⟩ := cut_ints ns
        refine ⟨_, rfl, _, rfl, s, _, rfl, hs, fun D hD => ?_⟩
        rw [hms]
        refine ⟨D, rfl, ⟨_, SqL.of upd_same⟩, ?_⟩
        have hs1 : Same H (L2.upd H D (.lst (iVs ms))) := Same.new hD
        have hl1 : SqL K (L2.upd H D (.lst (iVs ms))) D (iVs ms) := SqL.of upd_same
        generalize L2.upd H D (.lst (iVs ms)) = H1 at *
        refine for_list (K := K) (a := D) (xs := iVs ms) (fun i σ H' => ∃ c o, σ = puS s k c o ∧ H' = H1) ⟨_, _, rfl, rfl⟩ (fun i σ H' _ ⟨_, _, _, e⟩ => by subst e; exact hl1) ?_ ?_
        · rintro i v σ H2 hi ⟨c, o, rfl, rfl⟩
          obtain ⟨m, hm, rfl⟩ := Paired.at (paired_ints ms) hi
          exact ⟨_, rfl, c, 38327, rfl, rfl, .inr ⟨by decide, by decide⟩, _, rfl, _, m, rfl, rfl, .inl ⟨_, rfl, _, 2147483629, rfl, rfl, (by show (0:Int) < 2147483629; decide), _, _, rfl, rfl⟩⟩
        · rintro σ H2 ⟨c, o, rfl, rfl⟩
          exact ⟨_, _, rfl, hs1⟩
    rintro σ H1 ⟨c, o, rfl, hs1⟩
    have fin : ∀ f : Int, ∀ p, H1 p = none → Q (.ref p) (L2.upd H1 p (.lst [.int ((c * 1103515245 + k * 40503 + 12345) % 2147483629), .int (c / 5 % 2147483587 + 1), .int f])) := fun f p hp => q p _ (hs1.trans (Same.new hp)) (by
      cases e : H p with
      | none => rfl
      | some o => rw [hs1 _ _ e] at hp; cases hp) ⟨_, _, _, upd_same⟩
    refine ⟨_, rfl, c, 0, rfl, rfl, _, rfl, ite2 (fun _ => iteT ⟨_, rfl, c, rfl, _, rfl, c, 5, rfl, rfl, ⟨by decide, by decide⟩, .inl ⟨_, rfl, _, 2147483587, rfl, rfl, (by show (0:Int) < 2147483587; decide), _, 1, rfl, rfl, _, rfl, c, 1103515245, rfl, rfl, .inr ⟨by decide, by decide⟩, _, rfl, k, 40503, rfl, rfl, .inr ⟨by decide, by decide⟩, _, _, rfl, rfl, _, 12345, rfl, rfl, .inl ⟨_, rfl, _, 2147483629, rfl, rfl, (by show (0:Int) < 2147483629; decide), _, rfl, _, rfl, size1000 (by show 3 ≤ 1000; omega), fun p hp => fin _ p hp⟩⟩⟩) (fun _ => ⟨_, rfl, 10, 18, rfl, rfl, ⟨by decide, by decide, by decide⟩, c, _, rfl, rfl, _, rfl, ite2 (fun _ => ⟨_, rfl, c, rfl, _, rfl, c, 5, rfl, rfl, ⟨by decide, by decide⟩, .inl ⟨_, rfl, _, 2147483587, rfl, rfl, (by show (0:Int) < 2147483587; decide), _, 1, rfl, rfl, _, rfl, c, 1103515245, rfl, rfl, .inr ⟨by decide, by decide⟩, _, rfl, k, 40503, rfl, rfl, .inr ⟨by decide, by decide⟩, _, _, rfl, rfl, _, 12345, rfl, rfl, .inl ⟨_, rfl, _, 2147483629, rfl, rfl, (by show (0:Int) < 2147483629; decide), _, rfl, _, rfl, size1000 (by show 3 ≤ 1000; omega), fun p hp => fin _ p hp⟩⟩⟩) (fun _ => ⟨_, rfl, c, 5, rfl, rfl, ⟨by decide, by decide⟩, .inl ⟨_, rfl, _, 2147483587, rfl, rfl, (by show (0:Int) < 2147483587; decide), _, 1, rfl, rfl, _, rfl, c, 1103515245, rfl, rfl, .inr ⟨by decide, by decide⟩, _, rfl, k, 40503, rfl, rfl, .inr ⟨by decide, by decide⟩, _, _, rfl, rfl, _, 12345, rfl, rfl, .inl ⟨_, rfl, _, 2147483629, rfl, rfl, (by show (0:Int) < 2147483629; decide), _, rfl, _, rfl, size1000 (by show 3 ≤ 1000; omega), fun p hp => fin _ p hp⟩⟩⟩)⟩)⟩
theorem ok_l_draw (T : Txt K mg a) : FnOk P w K mg base CX0 1 a.f_l_draw a.d_l_draw ["_law_purse_here", "_law_many"] sp_l_draw := by
  refine T.F_l_draw.ok sc_l_draw (fun vs H Q E h => ?_) (fun cdv A outer s H vs Q E hr h => ?_)
  · obtain ⟨p, n, rfl, _⟩ := h
    rfl
  · obtain ⟨p, n, rfl, ⟨x, y, z, hp⟩, hn0, hn1, q⟩ := h
    refine ⟨_, (pss_cons (ps_if (pt_cmpR op_gt (pe_ix (k_ixL (K := K) rfl) (pv 0) pe_int (fun _ _ => rfl)) pe_int (nomark _))
        (pss_cons (ps_asg (pe_callB call_divmod (by rfl) T.n_divmod (by decide +kernel) (pa_cons (pe_ix (k_ixL (K := K) rfl) (pv 0) pe_int (fun _ _ => rfl)) (pa_cons (pv 1) pa_nil))) (k_gtup (K := K) rfl rfl (pgs_cons (pg_sub (pv 0) pe_int set_list) (pgs_cons (pg_name (i := 2) sc_l_draw.nd rfl (Or.inl rfl)) pgs_nil))))
      (pss_one (ps_ret (pv 2))))
        pss_nil)
      (pss_cons (ps_asg (pe_op op_mod (pe_callTy call_int1 (by rfl) T.n_int (by decide +kernel) (pa_cons (pe_op op_add (pe_op op_mul (pe_ix (k_ixL (K := K) rfl) (pv 0) pe_int (fun _ _ => rfl)) pe_int) (pe_ix (k_ixL (K := K) rfl) (pv 0) pe_int (fun _ _ => rfl))) pa_nil)) pe_int) (pg_sub (pv 0) pe_int set_list))
      (pss_cons (ps_asg (pe_op op_mod (pe_callTy call_int1 (by rfl) T.n_int (by decide +kernel) (pa_cons (pe_op op_add (pe_op op_mul (pe_ix (k_ixL (K := K) rfl) (pv 0) pe_int (fun _ _ => rfl)) pe_int) pe_int) pa_nil)) pe_int) (pg_sub (pv 0) pe_int set_list))
      (pss_one (ps_ret (pe_op op_mod (pe_callTy call_int1 (by rfl) T.n_int (by decide +kernel) (pa_cons (pe_op op_fdiv (pe_op op_add (pe_ix (k_ixL (K := K) rfl) (pv 0) pe_int (fun _ _ => rfl)) (pe_ix (k_ixL (K := K) rfl) (pv 0) pe_int (fun _ _ => rfl))) pe_int) pa_nil)) (pv 1))))))), ?_⟩
    refine ⟨_, rfl, p, _, _, _, rfl, rfl, SqL.of hp, at2, z, 0, rfl, rfl, _, rfl, ?_⟩
    refine ite2 (fun _ => ?_) (fun _ => ?_)
    · refine ⟨_, rfl, p, _, _, _, rfl, rfl, SqL.of hp, at2, _, rfl, z, n, rfl, ⟨hn0, by omega⟩, fun D hD => ?_⟩
      have hp1 : (L2.upd H D (.tup [.int (z / n), .int (z % n)])) p = some (.lst [.int x, .int y, .int z]) := Same.new hD _ _ hp
      refine ⟨D, _, rfl, SqT.of upd_same, rfl, _, _, rfl, _, rfl, p, _, _, 2, rfl, rfl, hp1, rfl, _, _, rfl, rfl, ?_⟩
      refine ⟨_, rfl, q _ _ (Int.emod_nonneg _ (by omega)) (Int.emod_lt_of_pos _ hn0) ⟨x, y, z / n, upd_same⟩ (Same.trans (Ext.new hD) Ext.upd)⟩
    · refine ⟨_, rfl, p, _, _, _, rfl, rfl, SqL.of hp, at0, x, 48271, rfl, rfl, .inr ⟨by decide, by decide⟩, _, rfl, p, _, _, _, rfl, rfl, SqL.of hp, at1, _, y, rfl, rfl, .inl ⟨_, rfl, _, 2147483629, rfl, rfl, (by show (0:Int) < 2147483629; decide), ?_⟩⟩
      refine ⟨_, rfl, p, _, _, 0, rfl, rfl, hp, rfl, ?_⟩
      have hp1 : (L2.upd H p (.lst ([V.int x, .int y, .int z].set 0 (.int ((x * 48271 + y) % 2147483629))))) p = some (.lst [.int ((x * 48271 + y) % 2147483629), .int y, .int z]) := upd_same
      have k1 : Ext p H (L2.upd H p (.lst ([V.int x, .int y, .int z].set 0 (.int ((x * 48271 + y) % 2147483629))))) := Ext.upd
      refine ⟨_, rfl, p, _, _, _, rfl, rfl, SqL.of hp1, at1, y, 69621, rfl, rfl, .inr ⟨by decide, by decide⟩, _, 13, rfl, rfl, .inl ⟨_, rfl, _, 2147483587, rfl, rfl, (by show (0:Int) < 2147483587; decide), ?_⟩⟩
      refine ⟨_, rfl, p, _, _, 1, rfl, rfl, hp1, rfl, ?_⟩
      have hp2 : (L2.upd (L2.upd H p (.lst ([V.int x, .int y, .int z].set 0 (.int ((x * 48271 + y) % 2147483629))))) p (.lst ([V.int ((x * 48271 + y) % 2147483629), .int y, .int z].set 1 (.int ((y * 69621 + 13) % 2147483587))))) p = some (.lst [.int ((x * 48271 + y) % 2147483629), .int ((y * 69621 + 13) % 2147483587), .int z]) := upd_same
      have k2 : Ext p (L2.upd H p (.lst ([V.int x, .int y, .int z].set 0 (.int ((x * 48271 + y) % 2147483629))))) (L2.upd (L2.upd H p (.lst ([V.int x, .int y, .int z].set 0 (.int ((x * 48271 + y) % 2147483629))))) p (.lst ([V.int ((x * 48271 + y) % 2147483629), .int y, .int z].set 1 (.int ((y * 69621 + 13) % 2147483587))))) := Ext.upd
      refine ⟨_, rfl, p, _, _, _, rfl, rfl, SqL.of hp2, at0, _, rfl, p, _, _, _, rfl, rfl, SqL.of hp2, at1, ((x * 48271 + y) % 2147483629), ((y * 69621 + 13) % 2147483587), rfl, rfl, _, 64, rfl, rfl, ⟨by decide, by decide⟩, .inl ⟨_, rfl, _, rfl, _, n, rfl, rfl, hn0, ?_⟩⟩
      exact q _ _ (Int.emod_nonneg _ (by omega)) (Int.emod_lt_of_pos _ hn0) ⟨((x * 48271 + y) % 2147483629), ((y * 69621 + 13) % 2147483587), z, hp2⟩ (Same.trans k1 k2)
theorem words7 {r : Int} (h0 : 0 ≤ r) (h1 : r < 7) : ∃ w, atI [V.str "silent", .str "still 1", .str "still 2", .str "doubt", .str "holes", .str "marked", .str "open"] r = some (V.str (wS w)) := by
  have : r = 0 ∨ r = 1 ∨ r = 2 ∨ r = 3 ∨ r = 4 ∨ r = 5 ∨ r = 6 := by omega
  rcases this with rfl | rfl | rfl | rfl | rfl | rfl | rfl
  · exact ⟨.silent, atI_nat (j := 0) rfl⟩
  · exact ⟨.still1, atI_nat (j := 1) rfl⟩
  · exact ⟨.still2, atI_nat (j := 2) rfl⟩
  · exact ⟨.doubt, atI_nat (j := 3) rfl⟩
  · exact ⟨.holes, atI_nat (j := 4) rfl⟩
  · exact ⟨.marked, atI_nat (j := 5) rfl⟩
  · exact ⟨.opn, atI_nat (j := 6) rfl⟩
theorem ok_l_condition (T : Txt K mg a) : FnOk P w K mg base CX0 2 a.f_l_condition a.d_l_condition ["_law_purse_here"] sp_l_condition := by
  refine T.F_l_condition.ok sc_l_condition (fun vs H Q E h => ?_) (fun cdv A outer s H vs Q E hr h => ?_)
  · obtain ⟨p, rfl, _⟩ := h
    rfl
  · obtain ⟨p, rfl, hp, q⟩ := h
    refine ⟨_, (pss_cons (ps_set (i := 1) sc_l_condition.nd rfl (Or.inl rfl) (pe_ix (k_ixL (K := K) rfl) (pe_lst (pa_cons pe_str (pa_cons pe_str (pa_cons pe_str (pa_cons pe_str (pa_cons pe_str (pa_cons pe_str (pa_cons pe_str pa_nil)))))))) (pe_call (ok_l_draw T) (hr.mono (by decide)) (by rfl) T.m_l_draw T.F_l_draw.kp T.b_l_draw .nil pass0 (pa_cons (pv 0) (pa_cons pe_int pa_nil))) (fun _ _ => rfl)))
      (pss_one (ps_ret (pe_tup (pa_cons (pv 1) (pa_cons (pe_cmpR op_eq (pe_call (ok_l_draw T) (hr.mono (by decide)) (by rfl) T.m_l_draw T.F_l_draw.kp T.b_l_draw .nil pass0 (pa_cons (pv 0) (pa_cons pe_int pa_nil))) pe_int (nomark _)) pa_nil)))))), ?_⟩
    refine ⟨size1000 (by show 7 ≤ 1000; omega), fun D hD => ⟨_, rfl, p, 7, rfl, hp.new hD, by decide, by decide, fun r H1 h0 h1 hp1 k1 => ?_⟩⟩
    have nD : D ≠ p := by
      rintro rfl
      exact hp.some hD
    have kH : Ext p H H1 := Same.trans (Ext.new hD) k1
    obtain ⟨wd, hwd⟩ := words7 h0 h1
    refine ⟨D, _, r, _, rfl, rfl, SqL.of (Ext.keep k1 upd_same nD), hwd, ?_⟩
    refine ⟨_, rfl, _, rfl, p, 2, rfl, hp1, by decide, by decide, fun r2 H2 h2 h3 hp2 k2 => ⟨rfl, size1000 (by show 2 ≤ 1000; omega), fun D2 hD2 => ?_⟩⟩
    refine q (wd, decide (V.int r2 = V.int 0)) D2 _ (hp2.new hD2) (Same.trans (Same.trans kH k2) (Ext.new hD2)) ?_
    exact nw_of (none_back (Same.trans kH k2) hp2.some hD2) upd_same
theorem deeds8 {r : Int} (h0 : 0 ≤ r) (h1 : r < 8) : ∃ d, atI [V.str "clear", .str "free", .str "again first", .str "again holes", .str "again unmarked", .str "again all", .str "new", .str "one"] r = some (V.str (dS d)) := by
  have : r = 0 ∨ r = 1 ∨ r = 2 ∨ r = 3 ∨ r = 4 ∨ r = 5 ∨ r = 6 ∨ r = 7 := by omega
  rcases this with rfl | rfl | rfl | rfl | rfl | rfl | rfl | rfl
  · exact ⟨.clear, atI_nat (j := 0) rfl⟩
  · exact ⟨.free, atI_nat (j := 1) rfl⟩
  · exact ⟨.first, atI_nat (j := 2) rfl⟩
  · exact ⟨.holes, atI_nat (j := 3) rfl⟩
  · exact ⟨.unmarked, atI_nat (j := 4) rfl⟩
  · exact ⟨.all, atI_nat (j := 5) rfl⟩
  · exact ⟨.new, atI_nat (j := 6) rfl⟩
  · exact ⟨.one, atI_nat (j := 7) rfl⟩
theorem ok_l_deed (T : Txt K mg a) : FnOk P w K mg base CX0 2 a.f_l_deed a.d_l_deed ["_law_purse_here"] sp_l_deed := by
  refine T.F_l_deed.ok sc_l_deed (fun vs H Q E h => ?_) (fun cdv A outer s H vs Q E hr h => ?_)
  · obtain ⟨p, rfl, _⟩ := h
    rfl
  · obtain ⟨p, rfl, hp, q⟩ := h
    refine ⟨_, (pss_cons (ps_set (i := 1) sc_l_deed.nd rfl (Or.inl rfl) (pe_lst (pa_cons pe_str (pa_cons pe_str (pa_cons pe_str (pa_cons pe_str (pa_cons pe_str (pa_cons pe_str (pa_cons pe_str (pa_cons pe_str pa_nil))))))))))
      (pss_one (ps_ret (pe_ix (k_ixL (K := K) rfl) (pv 1) (pe_call (ok_l_draw T) (hr.mono (by decide)) (by rfl) T.m_l_draw T.F_l_draw.kp T.b_l_draw .nil pass0 (pa_cons (pv 0) (pa_cons pe_int pa_nil))) (fun _ _ => rfl))))), ?_⟩
    refine ⟨size1000 (by show 8 ≤ 1000; omega), fun D hD => ⟨_, rfl, _, rfl, p, 8, rfl, hp.new hD, by decide, by decide, fun r H1 h0 h1 hp1 k1 => ?_⟩⟩
    have nD : D ≠ p := by
      rintro rfl
      exact hp.some hD
    obtain ⟨d, hd⟩ := deeds8 h0 h1
    exact ⟨D, _, r, _, rfl, rfl, SqL.of (Ext.keep k1 upd_same nD), hd, q d _ hp1 (Same.trans (Ext.new hD) k1)⟩
theorem ok_l_row (T : Txt K mg a) : FnOk P w K mg base CX0 3 a.f_l_row a.d_l_row ["_law_purse_here"] sp_l_row := by
  refine T.F_l_row.ok sc_l_row (fun vs H Q E h => ?_) (fun cdv A outer s H vs Q E hr h => ?_)
  · obtain ⟨p, rfl, _⟩ := h
    rfl
  · obtain ⟨p, rfl, hp, q⟩ := h
    refine ⟨_, (pss_cons (ps_setLc (i := 1) (own := [("_law_turn", 2)]) (g := (gName 2)) (tt := tYes) rfl sc_l_row.nd rfl rfl (sw_true rfl rfl rfl (by decide +kernel)) (pi_range1 (by rfl) T.n_range (pa_cons (pe_op op_add pe_int (pe_call (ok_l_draw T) (hr.mono (by decide)) (by rfl) T.m_l_draw T.F_l_draw.kp T.b_l_draw .nil pass0 (pa_cons (pv 0) (pa_cons pe_int pa_nil)))) pa_nil)) (blkOk_by (own := [("_law_turn", 2)]) (N := n_l_row) (sc := (defScope s_l_row)) (by decide +kernel)) (fun _ _ _ _ _ => (pg_name (i := 2) sc_l_row.nd rfl (Or.inl rfl))) (fun _ _ _ _ _ => pts_nil) (fun _ _ _ _ _ => (pe_call (ok_l_deed T) (hr.mono (by decide)) (by rfl) T.m_l_deed T.F_l_deed.kp T.b_l_deed .nil pass0 (pa_cons (pv 0) pa_nil))))
      (pss_one (ps_ret (pe_tup (pa_cons (pe_lc (own := [("_law_turn", 2)]) (g := (gName 2)) (tt := tYes) rfl sc_l_row.nd (pi_range1 (by rfl) T.n_range (pa_cons (pe_call (ok_l_draw T) (hr.mono (by decide)) (by rfl) T.m_l_draw T.F_l_draw.kp T.b_l_draw .nil pass0 (pa_cons (pv 0) (pa_cons pe_int pa_nil))) pa_nil)) (blkOk_by (own := [("_law_turn", 2)]) (N := n_l_row) (sc := (defScope s_l_row)) (by decide +kernel)) (fun _ _ _ _ _ => (pg_name (i := 2) sc_l_row.nd rfl (Or.inl rfl))) (fun _ _ _ _ _ => pts_nil) (fun _ _ _ _ _ => (pe_call (ok_l_condition T) (hr.mono (by decide)) (by rfl) T.m_l_condition T.F_l_condition.kp T.b_l_condition .nil pass0 (pa_cons (pv 0) pa_nil)))) (pa_cons (pv 1) pa_nil)))))), ?_⟩
    refine ⟨_, rfl, p, 3, rfl, hp, by decide, by decide, fun r H1 h0 h1 hp1 k1 => ⟨1, r, rfl, rfl, 1 + r, rfl, by omega, by omega, ?_⟩⟩
    refine lcP (p := p) (fun _ v => ∃ d, v = V.str (dS d)) (fun _ _ _ _ z => z) hp1 (by omega) ?_ ?_
    · intro i H2 D l hi hp2 k2 hl hD Z S hS
      exact ⟨rfl, yesT ⟨_, rfl, p, rfl, hp2, fun d H3 hp3 k3 => hS _ H3 hp3 k3 ⟨d, rfl⟩⟩⟩
    intro D H2 zs hD hp2 k2 hl2 hlen hz
    obtain ⟨ds, rfl⟩ := deeds_of hz
    refine ⟨_, rfl, p, 4, rfl, hp2, by decide, by decide, fun r2 H3 h2 h3 hp3 k3 => ⟨r2, rfl, by omega, by omega, ?_⟩⟩
    refine lcP (p := p) (fun H v => ∃ t c, v = V.ref t ∧ CondAt H t c) (fun _ _ e _ ⟨t, c, e1, e2⟩ => ⟨t, c, e1, e2.up e⟩) hp3 (by omega) ?_ ?_
    · intro i H4 D2 l hi hp4 k4 hl hD2 Z S hS
      exact ⟨rfl, yesT ⟨_, rfl, p, rfl, hp4, fun c t H5 hp5 k5 h5 => hS _ H5 hp5 k5 ⟨t, c, rfl, h5.up (nw_in k4 hp4.some (by rw [hl]; simp))⟩⟩⟩
    intro D2 H4 zs hD2 hp4 k4 hl4 hlen2 hz2
    obtain ⟨as, cs, rfl, hpr⟩ := items_of hz2
    refine ⟨_, rfl, size1000 (by show 2 ≤ 1000; omega), fun t ht => ?_⟩
    have k02 := Same.trans k1 k2
    have k03 := Same.trans k02 k3
    have k04 := Same.trans k03 k4
    have nDp : D ≠ p := by
      rintro rfl
      exact hp1.some hD
    have k5 : Ext p H4 (L2.upd H4 t (.tup [.ref D2, .ref D])) := Ext.new ht
    have hl2' : H4 D = some (.lst (dVs ds)) := Ext.keep (Same.trans k3 k4) hl2 nDp
    rw [List.length_map] at hlen hlen2
    have hcl := hpr.length
    refine q (cs, ds) t _ (hp4.new ht) (Same.trans k04 k5) ⟨by show cs.length ≤ 3; omega, by show 1 ≤ ds.length; omega, by show ds.length ≤ 3; omega⟩ ⟨D2, D, nw_of (none_back k04 hp4.some ht) upd_same, ⟨as, nw_of (none_back k03 hp3.some hD2) (Same.new ht _ _ hl4), ?_⟩, nw_of (none_back k1 hp1.some hD) (Same.new ht _ _ hl2')⟩
    exact Paired.mapP hpr fun x c z => z.up (Same.trans hid_same (Same.trans (nw_ext k03 hp3.some) (nw_step hp.some k5)))
theorem nil_in {σ : L2.St} {H : Hp} {Q : List V → Hp → Prop} (h : Q [] H) : tNil σ H Q := h
theorem op_in {r : R2} {ta tb : TE} {σ : L2.St} {H : Hp} {Q : VK} (h : ta σ H fun x H1 => tb σ H1 fun y H2 => r x y H2 Q) : tOp r ta tb σ H Q := h
theorem asg_in {te : TE} {g : TG} {D : Ends} {σ : L2.St} {H : Hp} (h : te σ H fun v H1 => g v σ H1 D.nx) : tAsg te g D σ H := h
theorem refs_app (xs as : List Addr) : refs (xs ++ as) = refs xs ++ refs as := List.map_append
theorem lst_in {t : TA} {σ : L2.St} {H : Hp} {Q : VK} (h : t σ H fun xs H1 => xs.length ≤ sizeLine ∧ ∀ p, H1 p = none → Q (.ref p) (L2.upd H1 p (.lst xs))) : tLst t σ H Q := h
theorem cons_row1 {w : Wd} {b : Bool} {d : Dd} {sw sd : Str} {rest : TA} {σ : L2.St} {H : Hp} {Q : List V → Hp → Prop} (hw : wS w = sw) (hd : dS d = sd) (hq : ∀ t H', Same H H' → RowL (nw H H') t ([(w, b)], [d]) → rest σ H' fun vs H2 => Q (.ref t :: vs) H2) :
    tCons (tTup (tCons (tLst (tCons (tTup (tCons (tC (.str sw)) (tCons (tC (.bl b)) tNil))) tNil)) (tCons (tLst (tCons (tC (.str sd)) tNil)) tNil))) rest σ H Q := by
  subst hw hd
  refine ⟨size1000 (by show 2 ≤ 1000; omega), fun ct hct => ⟨size1000 (by show 1 ≤ 1000; omega), fun c hc => ⟨size1000 (by show 1 ≤ 1000; omega), fun e he => ⟨size1000 (by show 2 ≤ 1000; omega), fun t ht => ?_⟩⟩⟩⟩
  have s1 : Same H (L2.upd H ct (.tup [.str (wS w), .bl b])) := Same.new hct
  have g1 : (L2.upd H ct (.tup [.str (wS w), .bl b])) ct = some (.tup [.str (wS w), .bl b]) := upd_same
  generalize L2.upd H ct (.tup [.str (wS w), .bl b]) = H1 at *
  have s2 : Same H1 (L2.upd H1 c (.lst [.ref ct])) := Same.new hc
  have g2 : (L2.upd H1 c (.lst [.ref ct])) c = some (.lst [.ref ct]) := upd_same
  generalize L2.upd H1 c (.lst [.ref ct]) = H2 at *
  have s3 : Same H2 (L2.upd H2 e (.lst [.str (dS d)])) := Same.new he
  have g3 : (L2.upd H2 e (.lst [.str (dS d)])) e = some (.lst [.str (dS d)]) := upd_same
  generalize L2.upd H2 e (.lst [.str (dS d)]) = H3 at *
  have s4 : Same H3 (L2.upd H3 t (.tup [.ref c, .ref e])) := Same.new ht
  have g4 : (L2.upd H3 t (.tup [.ref c, .ref e])) t = some (.tup [.ref c, .ref e]) := upd_same
  have nn : ∀ {H' : Hp} {x : Addr}, Same H H' → H' x = none → H x = none := by
    intro H' x s e
    cases z : H x with
    | none => rfl
    | some o =>
      rw [s _ _ z] at e
      cases e
  refine hq t _ (((s1.trans s2).trans s3).trans s4) ⟨c, e, nw_of (nn ((s1.trans s2).trans s3) ht) g4, ⟨[ct], nw_of (nn s1 hc) (s4 _ _ (s3 _ _ g2)), .cons ?_ .nil⟩, nw_of (nn (s1.trans s2) he) (s4 _ _ g3)⟩
  exact nw_of hct (s4 _ _ (s3 _ _ (s2 _ _ g1)))
theorem cons_row0 {d : Dd} {sd : Str} {rest : TA} {σ : L2.St} {H : Hp} {Q : List V → Hp → Prop} (hd : dS d = sd) (hq : ∀ t H', Same H H' → RowL (nw H H') t ([], [d]) → rest σ H' fun vs H2 => Q (.ref t :: vs) H2) :
    tCons (tTup (tCons (tLst tNil) (tCons (tLst (tCons (tC (.str sd)) tNil)) tNil))) rest σ H Q := by
  subst hd
  refine ⟨size1000 (by show 0 ≤ 1000; omega), fun c hc => ⟨size1000 (by show 1 ≤ 1000; omega), fun e he => ⟨size1000 (by show 2 ≤ 1000; omega), fun t ht => ?_⟩⟩⟩
  have s2 : Same H (L2.upd H c (.lst [])) := Same.new hc
  have g2 : (L2.upd H c (.lst [])) c = some (.lst []) := upd_same
  generalize L2.upd H c (.lst []) = H2 at *
  have s3 : Same H2 (L2.upd H2 e (.lst [.str (dS d)])) := Same.new he
  have g3 : (L2.upd H2 e (.lst [.str (dS d)])) e = some (.lst [.str (dS d)]) := upd_same
  generalize L2.upd H2 e (.lst [.str (dS d)]) = H3 at *
  have s4 : Same H3 (L2.upd H3 t (.tup [.ref c, .ref e])) := Same.new ht
  have g4 : (L2.upd H3 t (.tup [.ref c, .ref e])) t = some (.tup [.ref c, .ref e]) := upd_same
  have nn : ∀ {H' : Hp} {x : Addr}, Same H H' → H' x = none → H x = none := by
    intro H' x s e
    cases z : H x with
    | none => rfl
    | some o =>
      rw [s _ _ z] at e
      cases e
  exact hq t _ ((s2.trans s3).trans s4) ⟨c, e, nw_of (nn (s2.trans s3) ht) g4, ⟨[], nw_of hc (s4 _ _ (s3 _ _ g2)), .nil⟩, nw_of (nn s2 he) (s4 _ _ g3)⟩
structure Rws (p : Addr) (H H' : Hp) (l : Addr) (rs : List Row) : Prop where
  purse : PurseAt H' p
  ext : Ext p H H'
  fresh : H l = none
  ok : ∀ r ∈ rs, RowOk r
  list : ∃ as, H' l = some (.lst (refs as)) ∧ Paired (RowL (hid l (hid p H'))) as rs
abbrev snS (p : Addr) (way wide : Int) (l : Addr) (v : Option V) : L2.St := [some (.ref p), some (.int 7), some (.int way), some (.int wide), some (.ref l), v]
/-- rows made new behind H', beside the list l of H' -/
theorem new_row {p l : Addr} {H' H1 H2 : Hp} {t : Addr} {r : Row} (hp : H1 p ≠ none) (hl : H1 l ≠ none) (h : RowL (nw H1 H2) t r) : RowL (hid l (hid p H2)) t r := by
  refine h.up ?_
  intro b o e
  obtain ⟨e1, e2⟩ := nw_some e
  exact hid_hid e2 (by rintro rfl; exact hl e1) (by rintro rfl; exact hp e1)
theorem ok1 (c : Cond) (d : Dd) : RowOk ([c], [d]) := ⟨by show 1 ≤ 3; omega, by show 1 ≤ 1; omega, by show 1 ≤ 3; omega⟩
theorem ok0 (d : Dd) : RowOk ([], [d]) := ⟨by show 0 ≤ 3; omega, by show 1 ≤ 1; omega, by show 1 ≤ 3; omega⟩
/-- a + b, a list of rows, both new -/
theorem Rws.cat {p : Addr} {H H' H1 H2 : Hp} {l b : Addr} {rs : List Row} {ss : List Row} {as : List Addr} (h : Rws p H H' l rs) (s : Same H' H1) (hb : H1 b = none) (hp : Paired (RowL (nw H' H1)) as ss) (hok : ∀ r ∈ ss, RowOk r) (hs : rs.length + ss.length ≤ 1000) (s2 : Same H1 H2) (eb : H2 b = some (.lst (refs as)))
    {Q : VK} (q : ∀ l2 H3, Rws p H H3 l2 (rs ++ ss) → Q (.ref l2) H3) : rCat (.ref l) (.ref b) H2 Q := by
  obtain ⟨xs, hl, hx⟩ := h.list
  have h12 := s.trans s2
  have hxl := hx.length
  have hal := hp.length
  refine ⟨l, b, _, _, rfl, rfl, h12 _ _ hl, eb, size1000 (by rw [List.length_map, List.length_map]; omega), fun l2 hl2 => ?_⟩
  have s3 : Same H2 (L2.upd H2 l2 (.lst (refs xs ++ refs as))) := Same.new hl2
  have k : Ext p H' (L2.upd H2 l2 (.lst (refs xs ++ refs as))) := Ext.of (h12.trans s3)
  have nl2 : H' l2 = none := none_back (p := p) (Ext.of h12) ((h.purse.up h12).some) hl2
  have e1 : ∀ {b o}, H' b = some o → hid l2 (hid p (L2.upd H2 l2 (.lst (refs xs ++ refs as)))) b = hid p (L2.upd H2 l2 (.lst (refs xs ++ refs as))) b := by
    intro b o e
    exact hid_ne (by rintro rfl; rw [nl2] at e; cases e)
  refine q l2 _ ⟨h.purse.up (h12.trans s3), Same.trans h.ext k, none_back h.ext h.purse.some nl2, ?_, xs ++ as, ?_, Paired.app (Paired.mapP hx fun t r z => z.up ?_) (Paired.mapP hp fun t r z => z.up ?_)⟩
  · intro r hr
    rcases List.mem_append.mp hr with z | z
    · exact h.ok r z
    · exact hok r z
  · rw [upd_same]
    exact congrArg (fun z => some (HO.lst z)) (refs_app _ _).symm
  · intro b o e
    obtain ⟨e2, _⟩ := hid_some e
    obtain ⟨e3, _⟩ := hid_some e2
    rw [e1 e3]
    exact k _ _ e2
  · intro b o e
    obtain ⟨e2, e3⟩ := nw_some e
    have hb2 := s3 _ _ (s2 _ _ e3)
    refine hid_hid hb2 ?_ ?_
    · rintro rfl
      rw [s2 _ _ e3] at hl2
      cases hl2
    · rintro rfl
      exact h.purse.some e2
theorem nw_r {H H1 H2 : Hp} (s : Same H1 H2) : Same (nw H H1) (nw H H2) := by
  intro b o e
  obtain ⟨e1, e2⟩ := nw_some e
  exact nw_of e1 (s _ _ e2)
theorem same_none {H H1 : Hp} {b : Addr} (s : Same H H1) (e : H1 b = none) : H b = none := by
  cases z : H b with
  | none => rfl
  | some o =>
    rw [s _ _ z] at e
    cases e
theorem nw_l {H H1 H2 : Hp} (s : Same H H1) : Same (nw H1 H2) (nw H H2) := by
  intro b o e
  obtain ⟨e1, e2⟩ := nw_some e
  exact nw_of (same_none s e1) e2
theorem Rws.catL {p : Addr} {H H' H1 H2 : Hp} {l b : Addr} {rs : List Row} {ss : List Row} {as : List Addr} (h : Rws p H H' l rs) (s : Same H' H1) (hb : H1 b = none) (hp : Paired (RowL (nw H' H1)) as ss) (hok : ∀ r ∈ ss, RowOk r) (hs : rs.length + ss.length ≤ 1000) (s2 : Same H1 H2) (eb : H2 b = some (.lst (refs as)))
    {Q : VK} (q : ∀ l2 H3, Rws p H H3 l2 (ss ++ rs) → Q (.ref l2) H3) : rCat (.ref b) (.ref l) H2 Q := by
  obtain ⟨xs, hl, hx⟩ := h.list
  have h12 := s.trans s2
  have hxl := hx.length
  have hal := hp.length
  refine ⟨b, l, _, _, rfl, rfl, eb, h12 _ _ hl, size1000 (by rw [List.length_map, List.length_map]; omega), fun l2 hl2 => ?_⟩
  have s3 : Same H2 (L2.upd H2 l2 (.lst (refs as ++ refs xs))) := Same.new hl2
  have k : Ext p H' (L2.upd H2 l2 (.lst (refs as ++ refs xs))) := Ext.of (h12.trans s3)
  have nl2 : H' l2 = none := same_none h12 hl2
  refine q l2 _ ⟨h.purse.up (h12.trans s3), Same.trans h.ext k, none_back h.ext h.purse.some nl2, ?_, as ++ xs, ?_, Paired.app (Paired.mapP hp fun t r z => z.up ?_) (Paired.mapP hx fun t r z => z.up ?_)⟩
  · intro r hr
    rcases List.mem_append.mp hr with z | z
    · exact hok r z
    · exact h.ok r z
  · rw [upd_same]
    exact congrArg (fun z => some (HO.lst z)) (refs_app _ _).symm
  · intro b o e
    obtain ⟨e2, e3⟩ := nw_some e
    have hb2 := s3 _ _ (s2 _ _ e3)
    refine hid_hid hb2 ?_ ?_
    · rintro rfl
      rw [s2 _ _ e3] at hl2
      cases hl2
    · rintro rfl
      exact h.purse.some e2
  · intro b o e
    obtain ⟨e2, _⟩ := hid_some e
    obtain ⟨e3, _⟩ := hid_some e2
    rw [hid_ne (by rintro rfl; rw [nl2] at e3; cases e3)]
    exact k _ _ e2
/-- l.append(row), the row new -/
theorem Rws.app {p : Addr} {H H' H1 : Hp} {l t : Addr} {rs : List Row} {r : Row} (h : Rws p H H' l rs) (s : Same H' H1) (hr : RowL (nw H' H1) t r) (hok : RowOk r) (hs : rs.length ≤ 100) (h0 : H p ≠ none) {Q : VK} (q : ∀ H3, Rws p H H3 l (rs ++ [r]) → Q .non H3) : rAppend (.ref l) [.ref t] H1 Q := by
  obtain ⟨xs, hl, hx⟩ := h.list
  have hxl := hx.length
  have hl1 := s _ _ hl
  have nlp : p ≠ l := by
    rintro rfl
    exact h0 h.fresh
  refine ⟨l, _, _, rfl, rfl, hl1, Nat.lt_of_lt_of_le (show (refs xs).length < 1000 by rw [List.length_map]; omega) (by decide), ?_⟩
  have k : Ext p H (L2.upd H1 l (.lst (refs xs ++ [V.ref t]))) := Ext.mut (Same.trans h.ext (Ext.of s)) h.fresh
  have hl' : H' l ≠ none := by
    rw [hl]
    simp
  refine q _ ⟨(h.purse.up s).mut nlp, k, h.fresh, ?_, xs ++ [t], ?_, Paired.app (Paired.mapP hx fun t r z => z.up ?_) (.cons (hr.up ?_) .nil)⟩
  · intro r' hr'
    rcases List.mem_append.mp hr' with z | z
    · exact h.ok r' z
    · have e : r' = r := by simpa using z
      rw [e]
      exact hok
  · rw [upd_same]
    exact congrArg (fun z => some (HO.lst z)) (refs_snoc _ _).symm
  · intro b o e
    obtain ⟨e2, e3⟩ := hid_some e
    obtain ⟨e4, e5⟩ := hid_some e2
    refine hid_hid ?_ e3 e5
    rw [upd_ne e3]
    exact s _ _ e4
  · intro b o e
    obtain ⟨e2, e3⟩ := nw_some e
    have nb : b ≠ l := by
      rintro rfl
      exact hl' e2
    refine hid_hid ?_ nb (by rintro rfl; exact h.purse.some e2)
    rw [upd_ne nb]
    exact e3
theorem ok_l_sender (T : Txt K mg a) : FnOk P w K mg base CX0 4 a.f_l_sender a.d_l_sender ["_law_purse_here", "_law_most"] sp_l_sender := by
  refine T.F_l_sender.ok sc_l_sender (fun vs H Q E h => ?_) (fun cdv A outer s H vs Q E hr h => ?_)
  · obtain ⟨p, rfl, _⟩ := h
    rfl
  · obtain ⟨p, rfl, hp, q⟩ := h
    refine ⟨_, (pss_cons (ps_par (i := 2) (j := 3) rfl sc_l_sender.nd rfl rfl (by decide) rfl rfl (pa_cons (pe_call (ok_l_draw T) (hr.mono (by decide)) (by rfl) T.m_l_draw T.F_l_draw.kp T.b_l_draw .nil pass0 (pa_cons (pv 0) (pa_cons pe_int pa_nil))) (pa_cons (pe_op op_add pe_int (pe_call (ok_l_draw T) (hr.mono (by decide)) (by rfl) T.m_l_draw T.F_l_draw.kp T.b_l_draw .nil pass0 (pa_cons (pv 0) (pa_cons pe_int pa_nil)))) pa_nil)) (by rfl))
      (pss_cons (ps_setLc (i := 4) (own := [("_law_turn", 5)]) (g := (gName 5)) (tt := tYes) rfl sc_l_sender.nd rfl rfl (sw_true rfl rfl rfl (by decide +kernel)) (pi_range1 (by rfl) T.n_range (pa_cons (pe_op op_add pe_int (pe_call (ok_l_draw T) (hr.mono (by decide)) (by rfl) T.m_l_draw T.F_l_draw.kp T.b_l_draw .nil pass0 (pa_cons (pv 0) (pa_cons (pe_op op_sub (pv 1) pe_int) pa_nil)))) pa_nil)) (blkOk_by (own := [("_law_turn", 5)]) (N := n_l_sender) (sc := (defScope s_l_sender)) (by decide +kernel)) (fun _ _ _ _ _ => (pg_name (i := 5) sc_l_sender.nd rfl (Or.inl rfl))) (fun _ _ _ _ _ => pts_nil) (fun _ _ _ _ _ => (pe_call (ok_l_row T) (hr.mono (by decide)) (by rfl) T.m_l_row T.F_l_row.kp T.b_l_row .nil pass0 (pa_cons (pv 0) pa_nil))))
      (C8.pss_cut (ps_if (pt_cmpR op_eq (pv 2) pe_int (nomark _))
        (pss_one (ps_set (i := 4) sc_l_sender.nd rfl (Or.inl rfl) (pe_op op_cat (pv 4) (pe_lst (pa_cons (pe_tup (pa_cons (pe_lst (pa_cons (pe_tup (pa_cons pe_str (pa_cons pe_bl pa_nil))) pa_nil)) (pa_cons (pe_lst (pa_cons pe_str pa_nil)) pa_nil))) (pa_cons (pe_tup (pa_cons (pe_lst pa_nil) (pa_cons (pe_lst (pa_cons pe_str pa_nil)) pa_nil))) pa_nil))))))
        pss_nil)
      (C8.pss_cut (ps_if (pt_cmpR op_eq (pv 2) pe_int (nomark _))
        (pss_cons (ps_set (i := 4) sc_l_sender.nd rfl (Or.inl rfl) (pe_op op_cat (pv 4) (pe_lst (pa_cons (pe_tup (pa_cons (pe_lst (pa_cons (pe_tup (pa_cons pe_str (pa_cons pe_bl pa_nil))) pa_nil)) (pa_cons (pe_lst (pa_cons pe_str pa_nil)) pa_nil))) (pa_cons (pe_tup (pa_cons (pe_lst (pa_cons (pe_tup (pa_cons pe_str (pa_cons pe_bl pa_nil))) pa_nil)) (pa_cons (pe_lst (pa_cons pe_str pa_nil)) pa_nil))) pa_nil)))))
      (pss_one (ps_expr (pe_bm PySem.F.plainAttrs_list PySem.F.slot_list_append PySem.F.type_list_append mt_append (pv 4) (pa_cons (pe_tup (pa_cons (pe_lst pa_nil) (pa_cons (pe_lst (pa_cons pe_str pa_nil)) pa_nil))) pa_nil)))))
        pss_nil)
      (C8.pss_cut (ps_if (pt_cmpR op_eq (pv 2) pe_int (nomark _))
        (pss_one (ps_set (i := 4) sc_l_sender.nd rfl (Or.inl rfl) (pe_op op_cat (pe_lst (pa_cons (pe_tup (pa_cons (pe_lst pa_nil) (pa_cons (pe_lst (pa_cons pe_str pa_nil)) pa_nil))) pa_nil)) (pv 4))))
        pss_nil)
      (pss_one (ps_ret (pe_tup (pa_cons (pv 3) (pa_cons (pv 4) (pa_cons (pe_cmpR op_eq (pe_call (ok_l_draw T) (hr.mono (by decide)) (by rfl) T.m_l_draw T.F_l_draw.kp T.b_l_draw .nil pass0 (pa_cons (pv 0) (pa_cons pe_int pa_nil))) pe_int (nomark _)) pa_nil))))))))))), ?_⟩
    refine ⟨_, rfl, p, 4, rfl, hp, by decide, by decide, fun way H1 w0 w1 hp1 k1 => ⟨_, rfl, p, 4, rfl, hp1, by decide, by decide, fun wd H2 d0 d1 hp2 k2 => ⟨1, wd, rfl, rfl, _, _, rfl, ?_⟩⟩⟩
    refine ⟨_, rfl, _, rfl, _, _, rfl, rfl, p, 4, rfl, hp2, by decide, by decide, fun r H3 r0 r1 hp3 k3 => ⟨1, r, rfl, rfl, 1 + r, rfl, by omega, by omega, ?_⟩⟩
    refine lcP (p := p) (fun H v => ∃ t r, v = V.ref t ∧ RowOk r ∧ RowL H t r) (fun _ _ e _ ⟨t, c, e1, e2, e3⟩ => ⟨t, c, e1, e2, e3.up e⟩) hp3 (by omega) ?_ ?_
    · intro i H4 D2 l hi hp4 k4 hl hD2 Z S hS
      exact ⟨rfl, yesT ⟨_, rfl, p, rfl, hp4, fun c t H5 hp5 k5 ok5 h5 => hS _ H5 hp5 k5 ⟨t, c, rfl, ok5, h5.up (nw_in k4 hp4.some (by rw [hl]; simp))⟩⟩⟩
    intro D H4 zs hD hp4 k4 hl4 hlen hz
    obtain ⟨as, rs, rfl, hpr⟩ := items_of (F := fun t r => RowOk r ∧ RowL (hid D (nw H3 H4)) t r) hz
    rw [List.length_map] at hlen
    have hal := hpr.length
    have k04 := Same.trans (Same.trans (Same.trans k1 k2) k3) k4
    have R0 : Rws p H H4 D rs := by
      refine ⟨hp4, k04, none_back (Same.trans (Same.trans k1 k2) k3) hp3.some hD, ?_, as, hl4, Paired.mapP hpr fun t r z => z.2.up (hid_up (nw_hid hp3.some))⟩
      intro r hr
      obtain ⟨i, hi, e⟩ := List.mem_iff_getElem.mp hr
      have : ∀ {as : List Addr} {rs : List Row}, Paired (fun t r => RowOk r ∧ RowL (hid D (nw H3 H4)) t r) as rs → ∀ r ∈ rs, RowOk r := by
        intro as rs h
        induction h with
        | nil => intro r hr; cases hr
        | cons h1 _ ih =>
          intro r hr
          rcases List.mem_cons.mp hr with e | hr
          · subst e
            exact h1.1
          · exact ih r hr
      exact this hpr r hr
    have hlen1 : 1 ≤ rs.length ∧ rs.length ≤ 4 := by omega
    clear hpr hz hl4 hlen hal
    -- if way == 1
    refine ⟨fun σ H' => ∃ l rs v, σ = snS p way (1 + wd) l v ∧ Rws p H H' l rs ∧ 1 ≤ rs.length ∧ rs.length ≤ 6 ∧ (way ≠ 1 → rs.length ≤ 4), ?_, ?_⟩
    · refine ⟨_, rfl, rfl, _, rfl, ite2 (fun h => ?_) (fun h => ?_)⟩
      · have hw : way = 1 := V.int.inj (of_decide_eq_true h)
        refine ⟨_, rfl, lst_in (cons_row1 (w := .silent) (d := .all) rfl rfl fun t1 H5 s1 g1 => cons_row0 (d := .new) rfl fun t2 H6 s2 g2 => ⟨size1000 (by show 2 ≤ 1000; omega), fun b hb => ?_⟩)⟩
        refine R0.cat (as := [t1, t2]) (ss := [([(.silent, true)], [.all]), ([], [.new])]) (s1.trans s2) hb (.cons (g1.up (nw_r s2)) (.cons (g2.up (nw_l s1)) .nil)) ?_ ?_ (Same.new hb) upd_same ?_
        · intro r hr
          have : r = ([(.silent, true)], [.all]) ∨ r = ([], [.new]) := by simpa using hr
          rcases this with rfl | rfl
          · exact ok1 _ _
          · exact ok0 _
        · show rs.length + 2 ≤ 1000
          omega
        · intro l2 H7 R7
          refine ⟨l2, _, _, rfl, R7, ?_, ?_, fun z => absurd hw z⟩
          · rw [List.length_append]
            omega
          · rw [List.length_append]
            show rs.length + 2 ≤ 6
            omega
      · exact ⟨D, rs, _, rfl, R0, hlen1.1, by omega, fun _ => hlen1.2⟩
    clear hlen1 R0
    rintro σ H5 ⟨l, rs, v, rfl, R0, b1, b6, b4⟩
    -- if way == 2
    refine ⟨fun σ H' => ∃ l rs v, σ = snS p way (1 + wd) l v ∧ Rws p H H' l rs ∧ 1 ≤ rs.length ∧ rs.length ≤ 7 ∧ (way = 3 → rs.length ≤ 4), ?_, ?_⟩
    · refine ⟨_, rfl, rfl, _, rfl, ite2 (fun h => ?_) (fun h => ?_)⟩
      · have hw : way = 2 := V.int.inj (of_decide_eq_true h)
        have b4' := b4 (by omega)
        refine ⟨_, rfl, lst_in (cons_row1 (w := .silent) (d := .unmarked) rfl rfl fun t1 H6 s1 g1 => cons_row1 (w := .silent) (d := .holes) rfl rfl fun t2 H7 s2 g2 => ⟨size1000 (by show 2 ≤ 1000; omega), fun b hb => ?_⟩)⟩
        refine R0.cat (as := [t1, t2]) (ss := [([(.silent, true)], [.unmarked]), ([(.silent, false)], [.holes])]) (s1.trans s2) hb (.cons (g1.up (nw_r s2)) (.cons (g2.up (nw_l s1)) .nil)) ?_ ?_ (Same.new hb) upd_same ?_
        · intro r hr
          have : r = ([(.silent, true)], [.unmarked]) ∨ r = ([(.silent, false)], [.holes]) := by simpa using hr
          rcases this with rfl | rfl
          · exact ok1 _ _
          · exact ok1 _ _
        · show rs.length + 2 ≤ 1000
          omega
        · intro l2 H8 R8
          obtain ⟨xs8, hl8, _⟩ := R8.list
          refine ⟨_, rfl, .inl ⟨rfl, _, SqL.of hl8⟩, cons_row0 (d := .new) rfl fun t3 H9 s3 g3 => ?_⟩
          refine nil_in ?_
          refine R8.app s3 g3 (ok0 _) ?_ hp.some ?_
          · rw [List.length_append]
            show rs.length + 2 ≤ 100
            omega
          · intro H10 R10
            refine ⟨l2, _, _, rfl, R10, ?_, ?_, fun z => by omega⟩
            · rw [List.length_append]
              show 1 ≤ _ + 1
              omega
            · rw [List.length_append, List.length_append]
              show rs.length + 2 + 1 ≤ 7
              omega
      · exact ⟨l, rs, _, rfl, R0, b1, by omega, fun z => b4 (by omega)⟩
    clear b6 b4 R0
    rintro σ H6 ⟨l, rs, v, rfl, R0, b1, b7, b4⟩
    -- if way == 3
    refine ⟨fun σ H' => ∃ l rs v, σ = snS p way (1 + wd) l v ∧ Rws p H H' l rs ∧ 1 ≤ rs.length ∧ rs.length ≤ 7, ?_, ?_⟩
    · refine ⟨_, rfl, rfl, _, rfl, ite2 (fun h => ?_) (fun h => ?_)⟩
      · have hw : way = 3 := V.int.inj (of_decide_eq_true h)
        have b4' := b4 hw
        refine asg_in (op_in (lst_in (cons_row0 (d := .new) rfl fun t1 H7 s1 g1 => ⟨size1000 (by show 1 ≤ 1000; omega), fun b hb => ⟨_, rfl, ?_⟩⟩)))
        refine R0.catL (as := [t1]) (ss := [([], [.new])]) s1 hb (.cons g1 .nil) ?_ ?_ (Same.new hb) upd_same ?_
        · intro r hr
          have : r = ([], [.new]) := by simpa using hr
          rw [this]
          exact ok0 _
        · show rs.length + 1 ≤ 1000
          omega
        · intro l2 H8 R8
          refine ⟨l2, _, _, rfl, R8, ?_, ?_⟩
          · rw [List.length_append]
            omega
          · rw [List.length_append]
            show 1 + rs.length ≤ 7
            omega
      · exact ⟨l, rs, _, rfl, R0, b1, b7⟩
    clear b7 b4 R0
    rintro σ H7 ⟨l, rs, v, rfl, R0, b1, b7⟩
    refine ⟨_, rfl, _, rfl, _, rfl, p, 2, rfl, R0.purse, by decide, by decide, fun r8 H8 _ _ hp8 k8 => ⟨rfl, size1000 (by show 3 ≤ 1000; omega), fun t ht => ?_⟩⟩
    obtain ⟨xs, hl, hx⟩ := R0.list
    have nlp : l ≠ p := by
      rintro rfl
      exact hp.some R0.fresh
    have k9 : ∀ o, Ext p H8 (L2.upd H8 t o) := fun o => Ext.new ht
    have ntp : t ≠ p := by
      rintro rfl
      exact hp8.some ht
    refine q (1 + wd) rs _ t _ (hp8.new ht) (Same.trans (Same.trans R0.ext k8) (k9 _)) (by omega) (by omega) b1 b7 R0.ok ⟨l, by rw [hid_ne ntp]; exact upd_same, xs, ?_, ?_⟩
    · rw [hid_ne nlp]
      exact Same.new ht _ _ (Ext.keep k8 hl nlp)
    · exact Paired.mapP hx fun t r z => (z.up hid_same).up (Same.trans k8 (k9 _))
theorem sum_len {n : Nat} : ∀ ss : List Str, (∀ x ∈ ss, x.length ≤ n) → (ss.map (·.length)).sum ≤ ss.length * n
  | [], _ => Nat.zero_le _
  | x :: r, h => by
    have h1 := sum_len r fun q hq => h q (List.mem_cons_of_mem _ hq)
    have h2 := h x List.mem_cons_self
    rw [List.map_cons, List.sum_cons, List.length_cons, Nat.add_mul]
    omega
theorem cS_ok (c : Cond) : PyData.strOk (cS c) = true := (by decide +kernel : ∀ c ∈ allC, PyData.strOk (cS c) = true) c (memC c)
theorem lay_cS (c : Cond) : (PyData.str (cS c)).canLay0 = true ∧ (PyData.str (cS c)).depth ≤ 0 := ⟨by simp only [PyData.canLay0]; exact cS_ok c, by simp only [PyData.depth]; exact Nat.le_refl _⟩
theorem dp_cs {K : PySem.W.Frag} {H : Hp} : ∀ cs : List Cond, DpAll K H ((cs.map cS).map V.str) (cs.map fun c => PyData.str (cS c))
  | [] => .nil
  | c :: r => .cons (.str (cS c)) (dp_cs r)
theorem strs_cs (cs : List Cond) : cs.map (fun x => V.str (cS x)) = (cs.map cS).map V.str := by
  rw [List.map_map]
  rfl
theorem strs_ds (ds : List Dd) : dVs ds = (ds.map dS).map V.str := by
  rw [List.map_map]
  rfl
theorem ok_l_line (T : Txt K mg a) : FnOk P w K mg base CX0 1 a.f_l_line a.d_l_line ["_law_row_here"] sp_l_line := by
  refine T.F_l_line.ok sc_l_line (fun vs H Q E h => ?_) (fun cdv A outer s H vs Q E hr h => ?_)
  · obtain ⟨t, r, rfl, _⟩ := h
    rfl
  · obtain ⟨t, r, rfl, hR, ok, q⟩ := h
    refine ⟨_, (pss_cons (ps_setLc (i := 1) (own := [("_law_word", 3), ("_law_must", 4)]) (g := (gTup K 2 (gCons (gName 3) (gCons (gName 4) gNil)))) (tt := tYes) rfl sc_l_line.nd rfl rfl (sw_true rfl rfl rfl (by decide +kernel)) (k_list (K := K) rfl (pe_ix (k_ixT (K := K) rfl) (pv 0) pe_int (fun _ _ => rfl))) (blkOk_by (own := [("_law_word", 3), ("_law_must", 4)]) (N := n_l_line) (sc := (defScope s_l_line)) (by decide +kernel)) (fun _ _ _ _ _ => (k_gtup (K := K) rfl rfl (pgs_cons (pg_name (i := 3) sc_l_line.nd rfl (Or.inl rfl)) (pgs_cons (pg_name (i := 4) sc_l_line.nd rfl (Or.inl rfl)) pgs_nil)))) (fun _ _ _ _ _ => pts_nil) (fun _ _ _ _ _ => (pe_ifExp (pt_val (pv 4)) (pv 3) (pe_op op_add_str pe_str (pv 3)))))
      (pss_cons (ps_set (i := 2) sc_l_line.nd rfl (Or.inl rfl) (pe_ifExp (pt_cmpR (k_neD (K := K) rfl hr.units) (pv 1) (pe_lst pa_nil) (nomark _)) (pe_op op_add_str (pe_op op_add_str pe_str (k_join (K := K) rfl pe_str (pv 1))) pe_str) pe_str))
      (pss_one (ps_ret (pe_op op_add_str (pv 2) (k_join (K := K) rfl pe_str (pe_ix (k_ixT (K := K) rfl) (pv 0) pe_int (fun _ _ => rfl)))))))), ?_⟩
    obtain ⟨c, d, ht, ⟨as, hc, hp⟩, hd⟩ := hR
    obtain ⟨cs, ds⟩ := r
    have h3 : cs.length ≤ 3 := ok.c3
    have h3d : ds.length ≤ 3 := ok.d3
    refine ⟨_, rfl, t, _, 0, _, rfl, rfl, SqT.of ht, at0, c, rfl, ⟨_, SqL.of hc⟩, lcL (fun x : Cond => some (V.str (cS x))) (SqL.of hc) (paired_refs hp) (Nat.le_trans h3 (by decide)) ?_ ?_⟩
    · rintro i v x H1 hx ⟨ca, rfl, hca⟩ hs1 Z hZ
      have hz := hZ _ (Same.refl _)
      refine ⟨ca, _, rfl, SqT.of (hs1 _ _ hca), rfl, _, _, rfl, _, _, rfl, rfl, rfl, yesT ?_⟩
      obtain ⟨wd, b⟩ := x
      cases b with
      | true => exact ⟨_, rfl, _, rfl, iteT ⟨_, rfl, hz⟩⟩
      | false =>
        refine ⟨_, rfl, _, rfl, iteF ⟨_, rfl, _, _, rfl, rfl, ?_, hz⟩⟩
        have : (wS wd).length ≤ 11 := cS_len (wd, true)
        exact size1000 (by show 4 + (wS wd).length ≤ 1000; omega)
    intro D H1 hD hs1 hl1
    rw [fm_map, strs_cs] at hl1
    have hl1' : SqL K H1 D ((cs.map cS).map V.str) := SqL.of hl1
    have hs1c := sum_len (n := 11) (cs.map cS) (fun x hx => by obtain ⟨c, _, rfl⟩ := List.mem_map.mp hx; exact cS_len c)
    have hs1d := sum_len (n := 14) (ds.map dS) (fun x hx => by obtain ⟨c, _, rfl⟩ := List.mem_map.mp hx; exact dS_len c)
    rw [List.length_map] at hs1c hs1d
    have hhl := head_len h3
    have hdl := deeds_len h3d
    have fin : ∀ (H2 : Hp) (x : Str), Same H1 H2 → x.length ≤ 100 → x ++ deedsS ds = line (cs, ds) → tM1 (rJoinK K) (tC (V.str ", ")) (tOp (rIxT K) (tVar 0) (tC (V.int 1))) [some (.ref t), some (.ref D), some (.str x), none, none] H2 fun y H3 => ∃ i j, V.str x = .str i ∧ y = .str j ∧ i.length + j.length ≤ sizeLine ∧ Q (.str (i ++ j)) H3 := by
      intro H2 x hs2 hx ex
      have hs := hs1.trans hs2
      refine ⟨⟨_, rfl⟩, _, rfl, t, _, 1, _, rfl, rfl, SqT.of (hs _ _ ht), at1, _, d, ds.map dS, rfl, rfl, .inl (SqL.of (by rw [← strs_ds]; exact hs _ _ hd)), ?_, x, deedsS ds, rfl, rfl, ?_, ?_⟩
      · rw [List.length_map]
        show _ + ds.length * 2 ≤ _
        omega
      · exact size1000 (by omega)
      · rw [ex]
        exact q H2 hs
    refine ⟨_, rfl, size1000 (by show 0 ≤ 1000; omega), fun E2 hE => ?_⟩
    have hs2 : Same H1 (L2.upd H1 E2 (.lst [])) := Same.new hE
    have hE2 : (L2.upd H1 E2 (.lst [])) E2 = some (.lst []) := upd_same
    generalize L2.upd H1 E2 (.lst []) = H2 at *
    have hl2 : SqL K H2 D ((cs.map cS).map V.str) := SqL.of (hs2 _ _ hl1)
    refine ⟨.list (cs.map fun c => PyData.str (cS c)), .list [], .lst hl2 (dp_cs cs), .lst (SqL.of hE2) .nil, shaped_lst (lay_map _ 0 lay_cS cs) (by decide), shaped_lst lay_nil (by decide), ?_⟩
    rw [eqv_nilL, empty_map]
    refine ⟨_, rfl, ite2 (fun h => ?_) (fun h => ?_)⟩
    · refine ⟨⟨_, rfl⟩, _, rfl, _, D, cs.map cS, rfl, rfl, .inl hl2, ?_, _, headS cs, rfl, rfl, ?_, _, _, rfl, rfl, ?_, _, rfl, fin H2 _ hs2 ?_ ?_⟩
      · rw [List.length_map]
        show _ + cs.length * 5 ≤ _
        omega
      · exact size1000 (by show 3 + (headS cs).length ≤ 1000; omega)
      · refine size1000 ?_
        rw [len_app]
        show 3 + (headS cs).length + 2 ≤ 1000
        omega
      · rw [len_app, len_app]
        show 3 + (headS cs).length + 2 ≤ 100
        omega
      · unfold line
        rw [if_neg (by cases cs with
          | nil => cases h
          | cons _ _ => simp)]
    · refine ⟨_, rfl, fin H2 "" hs2 (by decide) ?_⟩
      unfold line
      rw [if_pos (by cases cs with
        | nil => rfl
        | cons _ _ => exact absurd rfl h)]
theorem ok_l_lines (T : Txt K mg a) : FnOk P w K mg base CX0 2 a.f_l_lines a.d_l_lines ["_law_giver"] sp_l_lines := by
  refine T.F_l_lines.ok sc_l_lines (fun vs H Q E h => ?_) (fun cdv A outer s H vs Q E hr h => ?_)
  · obtain ⟨g, win, rs, last, rfl, _⟩ := h
    rfl
  · obtain ⟨g, win, rs, last, rfl, ⟨l, hg, as, hl, hp⟩, ok, q⟩ := h
    refine ⟨_, (pss_one (ps_ret (pe_callTy (k_tuple (K := K) rfl) (by rfl) T.n_tuple (by decide +kernel) (pa_cons (pe_lc (own := [("_law_row_here", 1)]) (g := (gName 1)) (tt := tYes) rfl sc_l_lines.nd (k_list (K := K) rfl (pe_ix (k_ixT (K := K) rfl) (pv 0) pe_int (fun _ _ => rfl))) (blkOk_by (own := [("_law_row_here", 1)]) (N := n_l_lines) (sc := (defScope s_l_lines)) (by decide +kernel)) (fun _ _ _ _ _ => (pg_name (i := 1) sc_l_lines.nd rfl (Or.inl rfl))) (fun _ _ _ _ _ => pts_nil) (fun _ _ _ _ _ => (pe_call (ok_l_line T) (hr.mono (by decide)) (by rfl) T.m_l_line T.F_l_line.kp T.b_l_line .nil pass0 (pa_cons (pv 1) pa_nil)))) pa_nil)))), ?_⟩
    have h8 := ok.l8
    refine ⟨_, rfl, g, _, 1, _, rfl, rfl, SqT.of hg, at1, l, rfl, ⟨_, SqL.of hl⟩, lcL (fun r => some (V.str (line r))) (SqL.of hl) (paired_refs hp) (by omega) ?_ ?_⟩
    · rintro i v r H1 hr ⟨t, rfl, ht⟩ hs1 Z hZ
      exact ⟨rfl, yesT ⟨_, rfl, t, r, rfl, ht.up hs1, ok.each r (List.mem_of_getElem? hr), fun H2 hs2 => hZ H2 hs2⟩⟩
    · intro D H1 hD hs1 hl1
      rw [fm_map] at hl1
      refine ⟨D, _, rfl, .inl ⟨SqL.of hl1, fun t ht => ?_⟩⟩
      exact q t _ (hs1.trans (Same.new ht)) upd_same
theorem ok_l_made_sender (T : Txt K mg a) : FnOk P w K mg base CX0 6 a.f_l_made_sender a.d_l_made_sender ["_law_giver"] (sp_l_made_sender a) := by
  refine T.F_l_made_sender.ok sc_l_made_sender (fun vs H Q E h => ?_) (fun cdv A outer s H vs Q E hr h => ?_)
  · obtain ⟨g, win, rs, last, rfl, _⟩ := h
    rfl
  · obtain ⟨g, win, rs, last, rfl, hG, ok, w1, w4, q⟩ := h
    refine ⟨_, (pss_one (ps_ret (pe_make T.mk_Sender (ok_s_init T) (hr.mono (by decide)) (by rfl) T.m_Sender T.b_s_init .nil pass0 (pa_cons (pe_ix (k_ixT (K := K) rfl) (pv 0) pe_int (fun _ _ => rfl)) (pa_cons (pe_call (ok_l_lines T) (hr.mono (by decide)) (by rfl) T.m_l_lines T.F_l_lines.kp T.b_l_lines .nil pass0 (pa_cons (pv 0) pa_nil)) (pa_cons (pe_ix (k_ixT (K := K) rfl) (pv 0) pe_int (fun _ _ => rfl)) pa_nil)))))), ?_⟩
    obtain ⟨l, hg, hl⟩ := id hG
    refine ⟨_, rfl, g, _, 0, _, rfl, rfl, SqT.of hg, at0, _, rfl, g, win, rs, last, rfl, hG, ok, fun t H1 hs1 ht => ?_⟩
    have hg1 := hs1 _ _ hg
    refine ⟨_, rfl, g, _, 2, _, rfl, rfl, SqT.of hg1, at2, ?_⟩
    intro x dx nx ndx nex
    have hs4 : Same H1 (upd (upd H1 dx (.own x)) x (.ins a.c_Sender dx [])) := Same.made2 nx ndx (.inl (Same.refl _))
    refine ⟨x, dx, t, win, last, rs, rfl, upd_same, hs4 _ _ ht, ok, w1, w4, fun H2 hS k => ⟨rfl, ?_⟩⟩
    exact q x H2 (hs1.trans (Same.made2 nx ndx (.inr k))) hS
abbrev blS (l D : Addr) (v : Option V) : L2.St := [some (.ref l), some (.ref D), v]
/-- the step's two ends -/
theorem blks_last (bs : List Blk) : bs = [] ∨ ∃ r k, bs = r ++ [k] := by
  rcases List.eq_nil_or_concat bs with h | ⟨r, k, h⟩
  · exact .inl h
  · exact .inr ⟨r, k, by rw [h, List.concat_eq_append]⟩
theorem paired_last {F : Addr → Blk → Prop} {as : List Addr} {r : List Blk} {k : Blk} (h : Paired F as (r ++ [k])) : ∃ xs t, as = xs ++ [t] ∧ Paired F xs r ∧ F t k := by
  induction r generalizing as with
  | nil =>
    cases h with
    | cons h1 h2 =>
      cases h2
      exact ⟨[], _, rfl, .nil, h1⟩
  | cons b r ih =>
    cases h with
    | cons h1 h2 =>
      obtain ⟨xs, t, rfl, h3, h4⟩ := ih h2
      exact ⟨_ :: xs, t, rfl, .cons h1 h3, h4⟩
theorem ixN_last (n : Nat) : ixN (n + 1) (-1) = some n := by
  unfold ixN
  rw [if_neg (by decide), if_pos (by omega)]
  exact congrArg some (by omega)
theorem set_last (xs : List V) (v w : V) : (xs ++ [v]).set xs.length w = xs ++ [w] := by
  rw [List.set_append_right _ _ (Nat.le_refl _), Nat.sub_self]
  rfl
def BlP (l : Addr) (H : Hp) (D : Addr) (ps : List Int) (i : Nat) (σ : L2.St) (H' : Hp) : Prop := Same H H' ∧ ∃ as v, σ = blS l D v ∧ H' D = some (.lst (refs as)) ∧ Paired (BlkAt (hid D H')) as (blksOf (ps.take i)) ∧ as.length ≤ i
theorem blks_take {ps : List Int} {i : Nat} {p : Int} (e : ps[i]? = some p) : blksOf (ps.take (i + 1)) = blkStep (blksOf (ps.take i)) p := by
  unfold blksOf
  rw [List.take_add_one, e, List.foldl_append]
  rfl
abbrev blkD (k : Blk) : PyData := .tuple [.int k.1, .int k.2]
theorem lay_blk (k : Blk) : (blkD k).canLay0 = true ∧ (blkD k).depth ≤ 2 := ⟨by simp only [PyData.canLay0, PyData.canLayAll0, Bool.and_self], by simp only [PyData.depth, PyData.depthAll]; decide⟩
theorem dp_blks {K : PySem.W.Frag} {H : Hp} : ∀ {as : List Addr} {bs : List Blk}, Paired (BlkAt H) as bs → DpAll K H (refs as) (bs.map blkD)
  | _, _, .nil => .nil
  | _, _, .cons h t => .cons (.tup (SqT.of h) (.cons (.int _) (.cons (.int _) .nil))) (dp_blks t)
theorem ne_nilB {K : PySem.W.Frag} {H : Hp} {l e : Addr} {as : List Addr} {bs : List Blk} {Q : VK} (h : SqL K H l (refs as)) (hb : Paired (BlkAt H) as bs) (he : H e = some (.lst [])) (q : Q (.bl (!bs.isEmpty)) H) : rNeD K (.ref l) (.ref e) H Q := by
  refine ⟨.list (bs.map blkD), .list [], .lst h (dp_blks hb), .lst (SqL.of he) .nil, shaped_lst (lay_map blkD 2 lay_blk bs) (by decide), shaped_lst lay_nil (by decide), ?_⟩
  rw [eqv_nilL, empty_map]
  exact q
theorem step_nil (p : Int) : blkStep [] p = [(p, p + 1)] := rfl
theorem step_eq {r : List Blk} {k : Blk} {p : Int} (h : k.2 = p) : blkStep (r ++ [k]) p = r ++ [(k.1, p + 1)] := by
  unfold blkStep
  rw [List.getLast?_concat]
  show (if k.2 = p then (r ++ [k]).dropLast ++ [(k.1, p + 1)] else _) = _
  rw [if_pos h, List.dropLast_concat]
theorem step_ne {r : List Blk} {k : Blk} {p : Int} (h : ¬k.2 = p) : blkStep (r ++ [k]) p = (r ++ [k]) ++ [(p, p + 1)] := by
  unfold blkStep
  rw [List.getLast?_concat]
  exact if_neg h
theorem ok_l_blocks (T : Txt K mg a) : FnOk P w K mg base CX0 1 a.f_l_blocks a.d_l_blocks ["_law_pieces"] sp_l_blocks := by
  refine T.F_l_blocks.ok sc_l_blocks (fun vs H Q E h => ?_) (fun cdv A outer s H vs Q E hr h => ?_)
  · obtain ⟨l, ps, rfl, _⟩ := h
    rfl
  · obtain ⟨l, ps, rfl, hl, hz, q⟩ := h
    refine ⟨_, (pss_cons (ps_set (i := 1) sc_l_blocks.nd rfl (Or.inl rfl) (pe_lst pa_nil))
      (pss_cons (ps_for PassesOwn.never rfl (k_list (K := K) rfl (pv 0)) (pg_name (i := 2) sc_l_blocks.nd rfl (Or.inl rfl))
        (pss_one (ps_if (PW.pt (pw_and (pt_cmpR (k_neD (K := K) rfl hr.units) (pv 1) (pe_lst pa_nil) (nomark _)) (pw_and1 (pt_cmpR op_eq (pe_ix (k_ixT (K := K) rfl) (pe_ix (k_ixL (K := K) rfl) (pv 1) (pe_un un_neg pe_int) (fun _ _ => rfl)) pe_int (fun _ _ => rfl)) (pv 2) (nomark _)))))
        (pss_one (ps_asg (pe_tup (pa_cons (pe_ix (k_ixT (K := K) rfl) (pe_ix (k_ixL (K := K) rfl) (pv 1) (pe_un un_neg pe_int) (fun _ _ => rfl)) pe_int (fun _ _ => rfl)) (pa_cons (pe_op op_add (pv 2) pe_int) pa_nil))) (pg_sub (pv 1) (pe_un un_neg pe_int) set_list)))
        (pss_one (ps_expr (pe_bm PySem.F.plainAttrs_list PySem.F.slot_list_append PySem.F.type_list_append mt_append (pv 1) (pa_cons (pe_tup (pa_cons (pv 2) (pa_cons (pe_op op_add (pv 2) pe_int) pa_nil))) pa_nil)))))))
      (pss_one (ps_ret (pv 1))))), ?_⟩
    refine ⟨size1000 (by show 0 ≤ 1000; omega), fun D hD => ?_⟩
    have nDl : l ≠ D := by
      rintro rfl
      rw [hl] at hD
      cases hD
    refine ⟨_, rfl, l, rfl, ⟨_, SqL.of (Same.new hD _ _ hl)⟩, for_list (K := K) (a := l) (xs := iVs ps) (BlP l H D ps) ⟨Same.new hD, [], none, rfl, upd_same, .nil, Nat.le_refl _⟩ (fun i σ H' _ h => SqL.of (h.1 _ _ hl)) ?_ ?_⟩
    · rintro i v σ H1 hi ⟨hs1, as, v2, rfl, hD1, hpr, hlen⟩
      obtain ⟨pc, hpc, rfl⟩ := Paired.at (paired_ints ps) hi
      have hi' : i < ps.length := (List.getElem?_eq_some_iff.mp hpc).1
      have e0 := blks_take hpc
      generalize blksOf (ps.take i) = bs at *
      have hD1' : H1 D ≠ none := by
        rw [hD1]
        simp
      have fin : ∀ (H4 : Hp) (xs : List Addr) (ks : List Blk), Same H H4 → H4 D = some (.lst (refs xs)) → Paired (BlkAt (hid D H4)) xs ks → xs.length ≤ i + 1 → blkStep bs pc = ks → BlP l H D ps (i + 1) (blS l D (some (.int pc))) H4 := by
        rintro H4 xs ks f1 f2 f3 f4 rfl
        refine ⟨f1, xs, _, rfl, f2, ?_, f4⟩
        rw [e0]
        exact f3
      -- the branch that appends
      have app : ∀ H2, Same H1 H2 → blkStep bs pc = bs ++ [(pc, pc + 1)] → ∀ t2, H2 t2 = none → (refs as).length < sizeLine ∧ BlP l H D ps (i + 1) (blS l D (some (.int pc))) (upd (L2.upd H2 t2 (.tup [.int pc, .int (pc + 1)])) D (.lst (refs as ++ [V.ref t2]))) := by
        intro H2 hs2 est t2 ht2
        have nt : t2 ≠ D := by
          rintro rfl
          rw [hs2 _ _ hD1] at ht2
          cases ht2
        have hs3 : Same H2 (L2.upd H2 t2 (.tup [.int pc, .int (pc + 1)])) := Same.new ht2
        have ht3 : (L2.upd H2 t2 (.tup [.int pc, .int (pc + 1)])) t2 = some (.tup [.int pc, .int (pc + 1)]) := upd_same
        generalize L2.upd H2 t2 (.tup [.int pc, .int (pc + 1)]) = H3 at *
        refine ⟨?_, fin _ (as ++ [t2]) _ (Same.mut ((hs1.trans hs2).trans hs3) hD) ?_ ?_ ?_ est⟩
        · rw [List.length_map]
          exact Nat.lt_of_lt_of_le (show as.length < 1000 by omega) (by decide)
        · rw [upd_same]
          exact congrArg (fun z => some (HO.lst z)) (refs_snoc _ _).symm
        · refine Paired.app (Paired.mapP hpr fun _ _ z => z.up (Same.trans (hid_up (hs2.trans hs3)) hid_mut)) (.cons ?_ .nil)
          show hid D _ t2 = _
          rw [hid_ne nt, upd_ne nt]
          exact ht3
        · rw [List.length_append]
          show as.length + 1 ≤ i + 1
          omega
      refine ⟨_, rfl, size1000 (by show 0 ≤ 1000; omega), fun E2 hE => ?_⟩
      have hs2 : Same H1 (L2.upd H1 E2 (.lst [])) := Same.new hE
      have hE2 : (L2.upd H1 E2 (.lst [])) E2 = some (.lst []) := upd_same
      generalize L2.upd H1 E2 (.lst []) = H2 at *
      have hD2 := hs2 _ _ hD1
      have hpr2 : Paired (BlkAt H2) as bs := Paired.mapP hpr fun _ _ z => (z.up hid_same).up hs2
      refine ne_nilB (SqL.of hD2) hpr2 hE2 ⟨_, rfl, ?_⟩
      rcases blks_last bs with rfl | ⟨r, k, rfl⟩
      · refine iteF (iteF ⟨_, rfl, .inl ⟨rfl, _, SqL.of hD2⟩, _, rfl, _, rfl, pc, 1, rfl, rfl, size1000 (by show 2 ≤ 1000; omega), fun t2 ht2 => ?_⟩)
        obtain ⟨z1, z2⟩ := app H2 hs2 (step_nil pc) t2 ht2
        refine ⟨D, _, _, rfl, rfl, Same.new ht2 _ _ hD2, z1, z2⟩
      · have ene : (!(r ++ [k]).isEmpty) = true := by
          cases r <;> rfl
        obtain ⟨xs, t, rfl, hp3, hp4⟩ := paired_last hpr2
        have exs : refs (xs ++ [t]) = refs xs ++ [V.ref t] := List.map_append
        rw [exs] at hD2
        rw [ene]
        refine iteT ⟨_, rfl, 1, rfl, D, _, -1, _, rfl, rfl, SqL.of hD2, atI_last _ _, t, _, 1, _, rfl, rfl, SqT.of hp4, at1, _, rfl, rfl, _, rfl, ?_⟩
        refine ite2 (fun h => ?_) (fun h => ?_)
        · have hk : k.2 = pc := V.int.inj (of_decide_eq_true h)
          refine ⟨_, rfl, 1, rfl, D, _, -1, _, rfl, rfl, SqL.of hD2, atI_last _ _, t, _, 0, _, rfl, rfl, SqT.of hp4, at0, _, rfl, pc, 1, rfl, rfl, size1000 (by show 2 ≤ 1000; omega), fun t2 ht2 => ?_⟩
          have nt : t2 ≠ D := by
            rintro rfl
            rw [hD2] at ht2
            cases ht2
          have hs3 : Same H2 (L2.upd H2 t2 (.tup [.int k.1, .int (pc + 1)])) := Same.new ht2
          refine ⟨_, rfl, 1, rfl, D, _, -1, xs.length, rfl, rfl, hs3 _ _ hD2, ?_, ?_⟩
          · have e3 : (refs xs ++ [V.ref t]).length = xs.length + 1 := by
              rw [List.length_append, List.length_map]
              rfl
            rw [e3]
            exact ixN_last _
          · have e4 : (refs xs ++ [V.ref t]).set xs.length (V.ref t2) = refs (xs ++ [t2]) := by
              have z := set_last (refs xs) (V.ref t) (V.ref t2)
              rw [List.length_map] at z
              rw [z]
              exact (refs_snoc _ _).symm
            refine fin _ (xs ++ [t2]) _ (Same.mut ((hs1.trans hs2).trans hs3) hD) ?_ ?_ ?_ (step_eq hk)
            · rw [upd_same]
              exact congrArg (fun z => some (HO.lst z)) e4
            · obtain ⟨xs', t', e5, hp5, hp6⟩ := paired_last hpr
              obtain ⟨e6, e7⟩ := List.append_inj' e5 rfl
              subst e6
              refine Paired.app (Paired.mapP hp5 fun _ _ z => z.up (Same.trans (hid_up (hs2.trans hs3)) hid_mut)) (.cons ?_ .nil)
              show hid D _ t2 = _
              rw [hid_ne nt, upd_ne nt]
              exact upd_same
            · rw [List.length_append] at hlen ⊢
              have : [t].length = 1 := rfl
              have : [t2].length = 1 := rfl
              omega
        · have hk : ¬k.2 = pc := fun e => h (decide_eq_true (congrArg V.int e))
          refine ⟨_, rfl, .inl ⟨rfl, _, SqL.of hD2⟩, _, rfl, _, rfl, pc, 1, rfl, rfl, size1000 (by show 2 ≤ 1000; omega), fun t2 ht2 => ?_⟩
          obtain ⟨z1, z2⟩ := app H2 hs2 (step_ne hk) t2 ht2
          rw [exs] at z1 z2
          exact ⟨D, _, _, rfl, rfl, Same.new ht2 _ _ hD2, z1, z2⟩
    · rintro σ H1 ⟨hs1, as, v2, rfl, hD1, hpr, hlen⟩
      have e : ps.take (iVs ps).length = ps := by rw [List.length_map]; exact List.take_length
      rw [e] at hpr
      exact ⟨_, rfl, q D as H1 hs1 hD1 (Paired.mapP hpr fun _ _ z => z.up hid_same)⟩
def PcP (p D : Addr) (H3 : Hp) (n : Int) (i : Nat) (H : Hp) : Prop := PurseAt H p ∧ Ext p H3 H ∧ ∃ ps : List Int, H D = some (.lst (iVs ps)) ∧ ps.length ≤ i ∧ ps.Pairwise (· < ·) ∧ ∀ x ∈ ps, n < x ∧ x < n + 1 + (i : Int)
theorem ok_l_answer (T : Txt K mg a) : FnOk P w K mg base CX0 2 a.f_l_answer a.d_l_answer ["_law_purse_here", "_law_low", "_law_top_here"] sp_l_answer := by
  refine T.F_l_answer.ok sc_l_answer (fun vs H Q E h => ?_) (fun cdv A outer s H vs Q E hr h => ?_)
  · obtain ⟨p, lo, top, rfl, _⟩ := h
    rfl
  · obtain ⟨p, lo, top, rfl, hp, h0, h1, h2, h3, q⟩ := h
    refine ⟨_, (pss_cons (ps_set (i := 3) sc_l_answer.nd rfl (Or.inl rfl) (pe_op op_add (pv 1) (pe_op op_mul (pe_call (ok_l_draw T) (hr.mono (by decide)) (by rfl) T.m_l_draw T.F_l_draw.kp T.b_l_draw .nil pass0 (pa_cons (pv 0) (pa_cons (pe_op op_add (pe_op op_sub (pv 2) (pv 1)) pe_int) pa_nil))) (pe_callTy call_int1 (by rfl) T.n_int (by decide +kernel) (pa_cons (pe_cmpR op_eq (pe_call (ok_l_draw T) (hr.mono (by decide)) (by rfl) T.m_l_draw T.F_l_draw.kp T.b_l_draw .nil pass0 (pa_cons (pv 0) (pa_cons pe_int pa_nil))) pe_int (nomark _)) pa_nil)))))
      (pss_cons (ps_set (i := 4) sc_l_answer.nd rfl (Or.inl rfl) (pe_cmpR op_eq (pe_call (ok_l_draw T) (hr.mono (by decide)) (by rfl) T.m_l_draw T.F_l_draw.kp T.b_l_draw .nil pass0 (pa_cons (pv 0) (pa_cons pe_int pa_nil))) pe_int (nomark _)))
      (pss_cons (ps_set (i := 5) sc_l_answer.nd rfl (Or.inl rfl) (pe_call (ok_l_blocks T) (hr.mono (by decide)) (by rfl) T.m_l_blocks T.F_l_blocks.kp T.b_l_blocks .nil pass0 (pa_cons (pe_lc (own := [("_law_piece", 6)]) (g := (gName 6)) rfl sc_l_answer.nd (pi_range2 (by rfl) T.n_range (pa_cons (pe_op op_add (pv 3) pe_int) (pa_cons (pv 2) pa_nil))) (blkOk_by (own := [("_law_piece", 6)]) (N := n_l_answer) (sc := (defScope s_l_answer)) (by decide +kernel)) (fun _ _ _ _ _ => (pg_name (i := 6) sc_l_answer.nd rfl (Or.inl rfl))) (fun _ _ _ _ _ => (pts_one (pt_cmpR op_eq (pe_call (ok_l_draw T) (hr.mono (by decide)) (by rfl) T.m_l_draw T.F_l_draw.kp T.b_l_draw .nil pass0 (pa_cons (pv 0) (pa_cons pe_int pa_nil))) pe_int (nomark _)))) (fun _ _ _ _ _ => (pv 6))) pa_nil)))
      (pss_one (ps_ret (pe_tup (pa_cons (pv 3) (pa_cons (pe_callTy (k_tuple (K := K) rfl) (by rfl) T.n_tuple (by decide +kernel) (pa_cons (pe_ifExp (pt_val (pv 4)) (k_revL (K := K) rfl (pv 5)) (pv 5)) pa_nil)) pa_nil)))))))), ?_⟩
    refine ⟨_, rfl, _, rfl, _, rfl, _, rfl, top, lo, rfl, rfl, _, 1, rfl, rfl, p, top - lo + 1, rfl, hp, by omega, by omega, fun r H1 r0 r1 hp1 k1 => ?_⟩
    refine ⟨_, rfl, p, 3, rfl, hp1, by decide, by decide, fun r2 H2 _ _ hp2 k2 => ⟨rfl, .inr ⟨_, rfl, r, _, rfl, rfl, .inl ⟨by omega, by omega⟩, lo, _, rfl, rfl, ?_⟩⟩⟩
    have hn : lo ≤ lo + r * (if decide (V.int r2 = V.int 0) = true then 1 else 0) ∧ lo + r * (if decide (V.int r2 = V.int 0) = true then 1 else 0) ≤ top := by
      split <;> omega
    dsimp only
    generalize lo + r * (if decide (V.int r2 = V.int 0) = true then 1 else 0) = n at *
    obtain ⟨n0, n1⟩ := hn
    refine ⟨_, rfl, p, 2, rfl, hp2, by decide, by decide, fun r3 H3 _ _ hp3 k3 => ⟨rfl, ?_⟩⟩
    generalize decide (V.int r3 = V.int 1) = turned
    have k03 := Same.trans (Same.trans k1 k2) k3
    refine ⟨_, rfl, n, 1, rfl, rfl, _, rfl, n + 1, top, rfl, ⟨by omega, by omega, by omega, by omega⟩, fun D hD => ?_⟩
    have nDp : D ≠ p := by
      rintro rfl
      exact hp3.some hD
    refine lc_range (PcP p D H3 n) ⟨hp3.new hD, Ext.new hD, [], upd_same, Nat.le_refl _, .nil, fun x hx => by cases hx⟩ ?_ ?_
    · rintro i H4 hi ⟨hp4, k4, ps, hl, hlen, hpw, hb⟩
      refine ⟨rfl, _, rfl, p, 2, rfl, hp4, by decide, by decide, fun r4 H5 _ _ hp5 k5 => ⟨rfl, _, rfl, ?_⟩⟩
      have hl5 := Ext.keep k5 hl nDp
      refine ite2 (fun _ => ?_) (fun _ => ?_)
      · refine ⟨_, rfl, _, hl5, ?_, hp5.mut (Ne.symm nDp), Ext.mut (Same.trans k4 k5) hD, ps ++ [n + 1 + (i : Int)], ?_, ?_, ?_, ?_⟩
        · rw [List.length_map]
          exact Nat.lt_of_lt_of_le (show ps.length < 1000 by omega) (by decide)
        · rw [upd_same]
          exact congrArg (fun z => some (HO.lst z)) (by show _ = List.map V.int _; rw [List.map_append]; rfl)
        · rw [List.length_append]
          show ps.length + 1 ≤ i + 1
          omega
        · refine List.pairwise_append.mpr ⟨hpw, List.pairwise_singleton _ _, ?_⟩
          intro x hx y hy
          have e : y = n + 1 + (i : Int) := by simpa using hy
          have := hb x hx
          omega
        · intro x hx
          rcases List.mem_append.mp hx with z | z
          · have := hb x z
            omega
          · have e : x = n + 1 + (i : Int) := by simpa using z
            omega
      · refine ⟨hp5, Same.trans k4 k5, ps, hl5, by omega, hpw, fun x hx => ?_⟩
        have := hb x hx
        omega
    rintro H4 ⟨hp4, k4, ps, hl, hlen, hpw, hb⟩
    have hlen3 : ps.length ≤ 3 := by omega
    refine ⟨D, ps, rfl, hl, by omega, fun r as H5 hs5 hr hpr => ?_⟩
    have hok : AnsOk lo top (n, if turned = true then (blksOf ps).reverse else blksOf ps) := by
      by_cases hlt : n < top
      · obtain ⟨z1, z2⟩ := blksOf_ok (n := n) (top := top) (ps := ps) (by omega) (fun x hx => by have := hb x hx; omega) hpw hlen3 hlt turned
        exact ⟨n0, n1, z2, z1⟩
      · have e : ps = [] := by
          cases ps with
          | nil => rfl
          | cons x r =>
            have : (x :: r).length = r.length + 1 := rfl
            omega
        subst e
        have e2 : (if turned = true then (blksOf []).reverse else blksOf []) = [] := by cases turned <;> rfl
        rw [e2]
        exact ⟨n0, n1, fun k hk => (by cases hk), ⟨by omega, Nat.zero_le _, fun k hk => (by cases hk), .nil⟩⟩
    have fin : ∀ (as2 : List Addr) (bs2 : List Blk) (H6 : Hp), Same H5 H6 → Paired (BlkAt H5) as2 bs2 → AnsOk lo top (n, bs2) → ∀ t2, H6 t2 = none → 2 ≤ sizeLine ∧ ∀ t, (L2.upd H6 t2 (.tup (refs as2))) t = none → Q (.ref t) (upd (L2.upd H6 t2 (.tup (refs as2))) t (.tup [.int n, .ref t2])) := by
      intro as2 bs2 H6 hs6 hp6 ok6 t2 ht2
      refine ⟨size1000 (by omega), fun t ht => ?_⟩
      have s7 : Same H6 (L2.upd H6 t2 (.tup (refs as2))) := Same.new ht2
      have g7 : (L2.upd H6 t2 (.tup (refs as2))) t2 = some (.tup (refs as2)) := upd_same
      generalize L2.upd H6 t2 (.tup (refs as2)) = H7 at *
      have s8 : Same H7 (upd H7 t (.tup [.int n, .ref t2])) := Same.new ht
      have s58 := (hs6.trans s7).trans s8
      have s48 := hs5.trans s58
      have hp8 := hp4.up s48
      obtain ⟨x, y, z, hpp⟩ := id hp8
      have hA : AnsT (upd H7 t (.tup [.int n, .ref t2])) t (n, bs2) := ⟨t2, upd_same, as2, s8 _ _ g7, Paired.mapP hp6 fun _ _ z => z.up s58⟩
      exact q (n, bs2) t _ hp8 (Same.trans (Same.trans k03 k4) (Ext.of s48)) ok6 (hA.hide hpp)
    refine ⟨_, rfl, _, rfl, _, rfl, ?_⟩
    cases turned with
    | true =>
      refine iteT ⟨_, rfl, r, _, rfl, SqL.of hr, fun l2 hl2 => ⟨l2, _, rfl, .inl ⟨SqL.of upd_same, fun t2 ht2 => ?_⟩⟩⟩
      have e : (refs as).reverse = refs as.reverse := List.map_reverse.symm
      rw [e] at ht2 ⊢
      exact fin as.reverse _ _ (Same.new hl2) (Paired.rev hpr) hok t2 ht2
    | false =>
      refine iteF ⟨_, rfl, r, _, rfl, .inl ⟨SqL.of hr, fun t2 ht2 => ?_⟩⟩
      exact fin as _ _ (Same.refl _) hpr hok t2 ht2
abbrev anS (p : Addr) (lo top n : Int) (D : Addr) (z : Int) (v : Option V) : L2.St := [some (.ref p), some (.int lo), some (.int top), some (.int n), some (.ref D), some (.int z), v]
def AnP (p : Addr) (H : Hp) (lo top n : Int) (D : Addr) (i : Nat) (σ : L2.St) (H' : Hp) : Prop := PurseAt H' p ∧ Ext p H H' ∧ ∃ (as : List Addr) (ys : List Ans) (v : Option V), σ = anS p lo top n D ((ys.getLast?.map (·.1)).getD lo) v ∧ H' D = some (.lst (refs as)) ∧ Paired (AnsT (hid D (hid p H'))) as ys ∧ ys.length = i ∧ Anss top lo ys
theorem anss_least {top : Int} : ∀ {lo : Int} {ys : List Ans}, Anss top lo ys → lo ≤ top → lo ≤ (ys.getLast?.map (·.1)).getD lo ∧ (ys.getLast?.map (·.1)).getD lo ≤ top
  | lo, [], _, h => ⟨Int.le_refl _, h⟩
  | lo, [x], .cons h _, _ => ⟨h.lo, h.hi⟩
  | lo, x :: y :: r, .cons h h2, _ => by
    have z := anss_least h2 h.hi
    have e : (x :: y :: r).getLast? = (y :: r).getLast? := by rw [List.getLast?_cons_cons]
    rw [e]
    have e2 : ∀ c : Int, ((y :: r).getLast?.map (·.1)).getD c = ((y :: r).getLast?.map (·.1)).getD lo := by
      intro c
      cases q : (y :: r).getLast? with
      | none => simp at q
      | some _ => rfl
    rw [e2 x.1] at z
    have := h.lo
    omega
theorem hh_mut {p D : Addr} {H : Hp} {o : HO} : Same (hid D (hid p H)) (hid D (hid p (upd H D o))) := by
  intro b u e
  obtain ⟨e1, e2⟩ := hid_some e
  obtain ⟨e3, e4⟩ := hid_some e1
  rw [hid_ne e2, hid_ne e4, upd_ne e2]
  exact e3
theorem ok_l_answers (T : Txt K mg a) : FnOk P w K mg base CX0 3 a.f_l_answers a.d_l_answers ["_law_purse_here", "_law_low", "_law_top_here", "_law_many"] sp_l_answers := by
  refine T.F_l_answers.ok sc_l_answers (fun vs H Q E h => ?_) (fun cdv A outer s H vs Q E hr h => ?_)
  · obtain ⟨p, lo, top, n, rfl, _⟩ := h
    rfl
  · obtain ⟨p, lo, top, n, rfl, hp, h0, h1, h2, h3, n0, n5, q⟩ := h
    refine ⟨_, (pss_cons (ps_par (i := 4) (j := 5) rfl sc_l_answers.nd rfl rfl (by decide) rfl rfl (pa_cons (pe_lst pa_nil) (pa_cons (pv 1) pa_nil)) (by rfl))
      (pss_cons (ps_for PassesOwn.never rfl (pi_range1 (by rfl) T.n_range (pa_cons (pv 3) pa_nil)) (pg_name (i := 6) sc_l_answers.nd rfl (Or.inl rfl))
        (pss_cons (ps_expr (pe_bm PySem.F.plainAttrs_list PySem.F.slot_list_append PySem.F.type_list_append mt_append (pv 4) (pa_cons (pe_call (ok_l_answer T) (hr.mono (by decide)) (by rfl) T.m_l_answer T.F_l_answer.kp T.b_l_answer .nil pass0 (pa_cons (pv 0) (pa_cons (pv 5) (pa_cons (pv 2) pa_nil)))) pa_nil)))
      (pss_one (ps_set (i := 5) sc_l_answers.nd rfl (Or.inl rfl) (pe_ix (k_ixT (K := K) rfl) (pe_ix (k_ixL (K := K) rfl) (pv 4) (pe_un un_neg pe_int) (fun _ _ => rfl)) pe_int (fun _ _ => rfl))))))
      (pss_one (ps_ret (pv 4))))), ?_⟩
    refine ⟨size1000 (by show 0 ≤ 1000; omega), fun D hD => ⟨_, rfl, _, _, rfl, ?_⟩⟩
    have nDp : D ≠ p := by
      rintro rfl
      exact hp.some hD
    refine ⟨_, rfl, n, rfl, by omega, by omega, for_range (AnP p H lo top n D) ⟨hp.new hD, Ext.new hD, [], [], none, rfl, upd_same, .nil, rfl, .nil⟩ ?_ ?_⟩
    · rintro i σ H1 hi ⟨hp1, k1, as, ys, v, rfl, hl, hpr, hlen, hA⟩
      obtain ⟨l0, l1⟩ := anss_least hA h1
      refine ⟨_, rfl, .inl ⟨rfl, _, SqL.of hl⟩, _, rfl, _, rfl, _, rfl, p, _, top, rfl, hp1, by omega, l1, by omega, h3, fun y t H2 hp2 k2 hy ht => ?_⟩
      have hl2 := Ext.keep k2 hl nDp
      refine ⟨D, _, _, rfl, rfl, hl2, ?_, ?_⟩
      · rw [List.length_map, hpr.length, hlen]
        exact Nat.lt_of_lt_of_le (show i < 1000 by omega) (by decide)
      have hh2 : hid p H2 D = some (.lst (refs as)) := by
        rw [hid_ne nDp]
        exact hl2
      have ht' := ht.hide hh2
      obtain ⟨b, e1, e2⟩ := id ht'
      have htD : t ≠ D := (hid_some e1).2
      have e1' : H2 t = some (.tup [.int y.1, .ref b]) := (hid_some (hid_some e1).1).1
      have e3 : (L2.upd H2 D (.lst (refs as ++ [V.ref t]))) t = some (.tup [.int y.1, .ref b]) := by
        rw [upd_ne htD]
        exact e1'
      refine ⟨_, rfl, 1, rfl, D, _, -1, _, rfl, rfl, SqL.of upd_same, atI_last _ _, t, _, 0, _, rfl, rfl, SqT.of e3, at0, ?_⟩
      have hmut : Same (hid D (hid p H2)) (hid D (hid p (L2.upd H2 D (.lst (refs as ++ [V.ref t]))))) := hh_mut
      refine ⟨hp2.mut (Ne.symm nDp), Ext.mut (Same.trans k1 k2) hD, as ++ [t], ys ++ [y], some (.int (0 + (i : Int))), ?_, ?_, ?_, ?_, anss_snoc hA hy⟩
      · rw [List.getLast?_concat]
        rfl
      · rw [upd_same]
        exact congrArg (fun z => some (HO.lst z)) (refs_snoc _ _).symm
      · exact Paired.app (Paired.mapP hpr fun _ _ z => z.up (Same.trans (hid_up k2) hmut)) (.cons (ht'.up hmut) .nil)
      · rw [List.length_append, hlen]
        rfl
    · rintro σ H1 ⟨hp1, k1, as, ys, v, rfl, hl, hpr, hlen, hA⟩
      refine ⟨_, rfl, q ys D H1 hp1 k1 hA (by omega) ⟨as, by rw [hid_ne nDp]; exact hl, Paired.mapP hpr fun _ _ z => z.up hid_same⟩⟩
theorem ok_l_made_answers (T : Txt K mg a) : FnOk P w K mg base CX0 7 a.f_l_made_answers a.d_l_made_answers ["_law_found"] (sp_l_made_answers a) := by
  refine T.F_l_made_answers.ok sc_l_made_answers (fun vs H Q E h => ?_) (fun cdv A outer s H vs Q E hr h => ?_)
  · obtain ⟨l, ys, rfl, _⟩ := h
    rfl
  · obtain ⟨l, ys, rfl, ⟨as, hl, hp⟩, h5, hok, q⟩ := h
    refine ⟨_, (pss_one (ps_ret (pe_callTy (k_tuple (K := K) rfl) (by rfl) T.n_tuple (by decide +kernel) (pa_cons (pe_lc (own := [("_law_number", 1), ("_law_blocks_here", 2)]) (g := (gTup K 2 (gCons (gName 1) (gCons (gName 2) gNil)))) (tt := tYes) rfl sc_l_made_answers.nd (k_list (K := K) rfl (pv 0)) (blkOk_by (own := [("_law_number", 1), ("_law_blocks_here", 2)]) (N := n_l_made_answers) (sc := (defScope s_l_made_answers)) (by decide +kernel)) (fun _ _ _ _ _ => (k_gtup (K := K) rfl rfl (pgs_cons (pg_name (i := 1) sc_l_made_answers.nd rfl (Or.inl rfl)) (pgs_cons (pg_name (i := 2) sc_l_made_answers.nd rfl (Or.inl rfl)) pgs_nil)))) (fun _ _ _ _ _ => pts_nil) (fun _ _ _ _ _ => (pe_make T.mk_Answer (ok_a_init T) (hr.mono (by decide)) (by rfl) T.m_Answer T.b_a_init .nil pass0 (pa_cons (pv 1) (pa_cons (pv 2) pa_nil))))) pa_nil)))), ?_⟩
    refine ⟨_, rfl, l, rfl, ⟨_, SqL.of hl⟩, lcLd (fun H v y => ∃ r, v = V.ref r ∧ AnsI a.c_Answer H r y) (fun _ _ e _ _ ⟨r, e1, e2⟩ => ⟨r, e1, e2.up e⟩) (SqL.of hl) (paired_refs hp) (by omega) ?_ ?_⟩
    · rintro i v y H1 D ls hy ⟨t, rfl, ht⟩ hs1 hD Z S hS
      obtain ⟨b, h1, h2⟩ := ht.up hs1
      refine ⟨t, _, rfl, SqT.of h1, rfl, _, _, rfl, _, _, rfl, rfl, rfl, yesT ?_⟩
      refine ⟨_, rfl, _, rfl, ?_⟩
      intro x dx nx ndx nex
      have hs4 : Same H1 (upd (upd H1 dx (.own x)) x (.ins a.c_Answer dx [])) := Same.made2 nx ndx (.inl (Same.refl _))
      refine ⟨x, dx, b, y, rfl, upd_same, h2.up hs4, hok y (List.mem_of_getElem? hy), fun H2 hA k => ⟨rfl, ?_⟩⟩
      have hs5 : Same H1 H2 := Same.made2 nx ndx (.inr k)
      exact hS _ H2 hs5 ⟨x, rfl, hA.hide (hs5 _ _ hD)⟩
    · intro D H1 zs hD hs1 hl1 hp1
      obtain ⟨rs, rfl, hp2⟩ := refs_of hp1
      refine ⟨D, _, rfl, .inl ⟨SqL.of hl1, fun t ht => ?_⟩⟩
      have hs2 : Same H1 (L2.upd H1 t (.tup (refs rs))) := Same.new ht
      exact q t _ (hs1.trans hs2) ⟨rs, upd_same, Paired.mapP hp2 fun _ _ z => z.up hs2⟩
theorem ok_l_top (T : Txt K mg a) : FnOk P w K mg base CX0 1 a.f_l_top a.d_l_top ["_law_memory"] (sp_l_top a) := by
  refine T.F_l_top.ok sc_l_top (fun vs H Q E h => ?_) (fun cdv A outer s H vs Q E hr h => ?_)
  · obtain ⟨x, win, last, rs, S, rfl, _⟩ := h
    rfl
  · obtain ⟨x, win, last, rs, S, rfl, hm, sok, q⟩ := h
    refine ⟨_, (pss_one (ps_ret (pe_op op_add (k_fld (K := K) rfl (pv 0) rfl) (pe_callB (k_len (K := K) rfl) (by rfl) T.n_len PySem.boot_len (pa_cons (pe_lc (own := [("_law_piece", 1)]) (g := (gName 1)) rfl sc_l_top.nd (k_tup (K := K) rfl (k_fld (K := K) rfl (pv 0) rfl)) (blkOk_by (own := [("_law_piece", 1)]) (N := n_l_top) (sc := (defScope s_l_top)) (by decide +kernel)) (fun _ _ _ _ _ => (pg_name (i := 1) sc_l_top.nd rfl (Or.inl rfl))) (fun _ _ _ _ _ => (pts_one (pt_cmpR op_ge (pv 1) (k_fld (K := K) rfl (pv 0) rfl) (nomark _)))) (fun _ _ _ _ _ => (pv 1))) pa_nil))))), ?_⟩
    obtain ⟨dx, fs, s, t, m, f, l, hx, F, hs, ht, h1, h2, h3⟩ := id hm
    have hll : (letters win rs S).length ≤ 1000 := Nat.le_trans (letters_len rs sok) (by decide)
    refine ⟨_, rfl, x, a.c_Memory, dx, fs, _, rfl, hx, T.cl_Memory, T.na_Memory_top, F.top, ?_⟩
    refine ⟨_, rfl, x, a.c_Memory, dx, fs, _, rfl, hx, T.cl_Memory, T.na_Memory_letters, F.letters, l, rfl, ⟨_, SqT.of h3⟩, lcT (fun z => if decide (z ≥ S.top) = true then some (V.int z) else none) (SqT.of h3) (paired_ints _) hll ?_ ?_⟩
    · rintro i v z H1 hz rfl hs1 Z hZ
      refine ⟨rfl, _, rfl, _, rfl, x, a.c_Memory, dx, fs, _, rfl, hs1 _ _ hx, T.cl_Memory, T.na_Memory_top, F.top, _, _, rfl, rfl, _, rfl, ?_⟩
      have hz := hZ _ (Same.refl _)
      refine ite2 (fun h => ?_) (fun h => ?_)
      · rw [if_pos h] at hz
        exact ⟨_, rfl, hz⟩
      · rw [if_neg h] at hz
        exact hz
    · intro D H1 hD hs1 hl1
      rw [fm_filter] at hl1
      refine ⟨D, _, rfl, .inl (SqL.of hl1), _, _, rfl, rfl, ?_⟩
      have e := letters_new rs sok
      have e2 : ((iVs ((letters win rs S).filter fun z => decide (z ≥ S.top))).length : Int) = (((letters win rs S).filter fun p => decide (S.top ≤ p)).length : Int) := by
        rw [List.length_map]
      have e3 : S.top + ((iVs ((letters win rs S).filter fun z => decide (z ≥ S.top))).length : Int) = (plan win rs S).top := by
        rw [e2]
        exact e
      show Q (.int (S.top + ((iVs ((letters win rs S).filter fun z => decide (z ≥ S.top))).length : Int))) H1
      rw [e3]
      exact q _ hs1
theorem no_in {σ : L2.St} {H : Hp} {Q : Option Int → Hp → Prop} (h : Q none H) : tNoPart σ H Q := h
theorem gname_in {i : Nat} {v : V} {σ : L2.St} {H : Hp} {Q : L2.St → Hp → Prop} (h : Q (σ.set i (some v)) H) : gName i v σ H Q := h
theorem cutT (xs : List V) (k : Nat) : cutV xs none (some (k : Int)) = xs.take k := by
  unfold cutV
  rw [HT.sIx_nat, sIx_none, List.drop_zero]
  show xs.take (min k xs.length - 0) = _
  rw [Nat.sub_zero, ← List.take_eq_take_min]
theorem cutD (xs : List V) (k : Nat) : cutV xs (some (k : Int)) none = xs.drop k := by
  unfold cutV
  rw [HT.sIx_nat, sIx_none]
  by_cases h : k ≤ xs.length
  · rw [Nat.min_eq_left h]
    rw [List.take_of_length_le]
    rw [List.length_drop]
    exact Nat.le_refl _
  · rw [Nat.min_eq_right (by omega), List.drop_length, List.take_nil, List.drop_eq_nil_of_le (by omega)]
section
variable {K : PySem.W.Frag} {H : Hp} {Q : VK}
theorem sl_in {l : Addr} {xs : List V} {lo hi : Option Int} (hl : H l = some (.lst xs)) (q : ∀ l2 H2, H l2 = none → Same H H2 → H2 l2 = some (.lst (cutV xs lo hi)) → Q (.ref l2) H2) : rSlL K (.ref l) lo hi H Q :=
  ⟨l, xs, rfl, SqL.of hl, fun p hp => q p _ hp (Same.new hp) upd_same⟩
theorem cat_in {a b : Addr} {xs ys : List V} (ha : H a = some (.lst xs)) (hb : H b = some (.lst ys)) (hz : xs.length + ys.length ≤ 1000) (q : ∀ l2 H2, H l2 = none → Same H H2 → H2 l2 = some (.lst (xs ++ ys)) → Q (.ref l2) H2) : rCat (.ref a) (.ref b) H Q :=
  ⟨a, b, xs, ys, rfl, rfl, ha, hb, size1000 hz, fun p hp => q p _ hp (Same.new hp) upd_same⟩
theorem new_l {xs : List V} (hz : xs.length ≤ 1000) (q : ∀ l2 H2, H l2 = none → Same H H2 → H2 l2 = some (.lst xs) → Q (.ref l2) H2) : xs.length ≤ sizeLine ∧ ∀ p, H p = none → Q (.ref p) (L2.upd H p (.lst xs)) :=
  ⟨size1000 hz, fun p hp => q p _ hp (Same.new hp) upd_same⟩
theorem new_t {xs : List V} (hz : xs.length ≤ 1000) (q : ∀ l2 H2, H l2 = none → Same H H2 → H2 l2 = some (.tup xs) → Q (.ref l2) H2) : xs.length ≤ sizeLine ∧ ∀ p, H p = none → Q (.ref p) (L2.upd H p (.tup xs)) :=
  ⟨size1000 hz, fun p hp => q p _ hp (Same.new hp) upd_same⟩
end
theorem cons_in {t : TE} {u : TA} {σ : L2.St} {H : Hp} {Q : List V → Hp → Prop} (h : t σ H fun v H1 => u σ H1 fun vs H2 => Q (v :: vs) H2) : tCons t u σ H Q := h
/-- no list of references or of deeds is the purse -/
theorem refs_ne {H : Hp} {p l : Addr} {as : List Addr} (hp : PurseAt H p) (h : H l = some (.lst (refs as))) : l ≠ p := by
  rintro rfl
  obtain ⟨x, y, z, e⟩ := hp
  rw [h] at e
  cases as with
  | nil => cases e
  | cons a r => cases e
theorem deeds_ne {H : Hp} {p l : Addr} {ds : List Dd} (hp : PurseAt H p) (h : H l = some (.lst (dVs ds))) : l ≠ p := by
  rintro rfl
  obtain ⟨x, y, z, e⟩ := hp
  rw [h] at e
  cases ds with
  | nil => cases e
  | cons a r => cases e
theorem tup_ne {H : Hp} {p l : Addr} {xs : List V} (hp : PurseAt H p) (h : H l = some (.tup xs)) : l ≠ p := by
  rintro rfl
  obtain ⟨x, y, z, e⟩ := hp
  rw [h] at e
  cases e
theorem tup_hideP {H : Hp} {p l : Addr} {xs : List V} (hp : PurseAt H p) (h : H l = some (.tup xs)) : hid p H l = some (.tup xs) := by
  rw [hid_ne (tup_ne hp h)]
  exact h
theorem CondsL.hideP {H : Hp} {p l : Addr} {cs : List Cond} (hp : PurseAt H p) (h : CondsL H l cs) : CondsL (hid p H) l cs := by
  obtain ⟨as, h1, h2⟩ := h
  exact ⟨as, by rw [hid_ne (refs_ne hp h1)]; exact h1, Paired.mapP h2 fun _ _ z => tup_hideP hp z⟩
theorem RowL.hideP {H : Hp} {p t : Addr} {r : Row} (hp : PurseAt H p) (h : RowL H t r) : RowL (hid p H) t r := by
  obtain ⟨c, d, h1, h2, h3⟩ := h
  exact ⟨c, d, tup_hideP hp h1, h2.hideP hp, by rw [hid_ne (deeds_ne hp h3)]; exact h3⟩
theorem RowsL.hideP {H : Hp} {p l : Addr} {rs : List Row} (hp : PurseAt H p) (h : RowsL H l rs) : RowsL (hid p H) l rs := by
  obtain ⟨as, h1, h2⟩ := h
  exact ⟨as, by rw [hid_ne (refs_ne hp h1)]; exact h1, Paired.mapP h2 fun _ _ z => z.hideP hp⟩
theorem GiverAt.hideP {H : Hp} {p g : Addr} {win : Int} {rs : List Row} {last : Bool} (hp : PurseAt H p) (h : GiverAt H g win rs last) : GiverAt (hid p H) g win rs last := by
  obtain ⟨l, h1, h2⟩ := h
  exact ⟨l, tup_hideP hp h1, h2.hideP hp⟩
/-- what the twins hold between the steps -/
structure Tw (p : Addr) (H H' : Hp) (l : Addr) (rs : List Row) (c d : Addr) (cs : List Cond) (ds : List Dd) : Prop where
  purse : PurseAt H' p
  ext : Ext p H H'
  rows : RowsL H' l rs
  conds : CondsL H' c cs
  deeds : H' d = some (.lst (dVs ds))
theorem Tw.draw {p : Addr} {H H' H2 : Hp} {l : Addr} {rs : List Row} {c d : Addr} {cs : List Cond} {ds : List Dd} (h : Tw p H H' l rs c d cs ds) (hp : PurseAt H2 p) (k : Ext p H' H2) : Tw p H H2 l rs c d cs ds :=
  ⟨hp, Same.trans h.ext k, ((h.rows.hideP h.purse).up k).up hid_same, ((h.conds.hideP h.purse).up k).up hid_same, Ext.keep k h.deeds (deeds_ne h.purse h.deeds)⟩
theorem Tw.same {p : Addr} {H H' H2 : Hp} {l : Addr} {rs : List Row} {c d : Addr} {cs : List Cond} {ds : List Dd} (h : Tw p H H' l rs c d cs ds) (k : Same H' H2) : Tw p H H2 l rs c d cs ds :=
  ⟨h.purse.up k, Same.trans h.ext (Ext.of k), h.rows.up k, h.conds.up k, k _ _ h.deeds⟩
abbrev twS (p : Addr) (win : Int) (l : Addr) (last : Bool) (at_ way : Int) (c d : Addr) (v8 v9 v10 v11 : Option V) : L2.St := [some (.ref p), some (.int win), some (.ref l), some (.bl last), some (.int at_), some (.int way), some (.ref c), some (.ref d), v8, v9, v10, v11, none, none, none]
theorem dVs_take (ds : List Dd) (k : Nat) : (dVs ds).take k = dVs (ds.take k) := List.map_take.symm
theorem dVs_drop (ds : List Dd) (k : Nat) : (dVs ds).drop k = dVs (ds.drop k) := List.map_drop.symm
theorem dVs_app (a b : List Dd) : dVs a ++ dVs b = dVs (a ++ b) := List.map_append.symm
theorem refs_take (as : List Addr) (k : Nat) : (refs as).take k = refs (as.take k) := List.map_take.symm
theorem refs_drop (as : List Addr) (k : Nat) : (refs as).drop k = refs (as.drop k) := List.map_drop.symm
theorem refs_cat (a b : List Addr) : refs a ++ refs b = refs (a ++ b) := List.map_append.symm
def fr (d : Dd) : Dd := if d = Dd.clear then Dd.free else d
theorem fr_clear (ds : List Dd) : ¬ Dd.clear ∈ ds.map fr := by
  intro h
  obtain ⟨d, _, e⟩ := List.mem_map.mp h
  cases d <;> exact absurd e (by decide)
theorem map_fr (ds : List Dd) : ds.map (fun d => V.str (dS (fr d))) = dVs (ds.map fr) := by
  show _ = List.map _ (List.map _ _)
  rw [List.map_map]
  rfl
section
variable {α : Type} {K : PySem.W.Frag} {a : Addr} {xs : List V} {ys : List α} {R : V → α → Prop} {g : TG} {tt : TT} {te : TE} {vs : List Nat} {σ : L2.St} {H1 : Hp} {Q : Addr → Hp → Prop}
theorem lcLn (F : Hp → V → α → Prop) (mono : ∀ H H', Same H H' → ∀ v y, F H v y → F H' v y) (hx : SqL K H1 a xs) (hp : Paired R xs ys) (hz : ys.length ≤ 1000)
    (hs : ∀ (i : Nat) x y H D l, H1 D = none → ys[i]? = some y → R x y → Same H1 H → H D = some (.lst l) → ∀ (Z : Hp → Prop) (S : V → Hp → Prop), (∀ v H2, Same H H2 → F (hid D H2) v y → S v H2) → g x (wipe σ vs) H fun σ2 H2 => wipe σ2 vs = wipe σ vs ∧ tt σ2 H2 fun b H3 => if b = true then te σ2 H3 fun v H4 => S v H4 else Z H3)
    (hd : ∀ D H' zs, H1 D = none → Same H1 H' → H' D = some (.lst zs) → Paired (F H') zs ys → Q D H') :
    ∀ D, H1 D = none → ∃ W : Nat → Nat → Hp → Prop, (∃ m, W 0 m (L2.upd H1 D (.lst []))) ∧ ∀ i m H, W i m H → ((Itl K a).stop i H ∧ Q D H) ∨ ((Itl K a).go i H ∧ ∃ Nx : Hp → Prop, (∀ H', Nx H' → ∃ m', m' < m ∧ W (i + 1) m' H') ∧ ∀ x H', (Itl K a).yld i H x H' →
      g x (wipe σ vs) H' fun σ2 H2 => wipe σ2 vs = wipe σ vs ∧ tt σ2 H2 fun b H3 => if b = true then te σ2 H3 fun y H4 => ∃ acc, H4 D = some (.lst acc) ∧ acc.length < sizeLine ∧ Nx (L2.upd H4 D (.lst (acc ++ [y]))) else Nx H3) := by
  intro D hD
  refine lc_list (xs := xs) (Qd := fun H => Q D H) (LdPv H1 F ys D) ⟨Same.new hD, [], upd_same, .nil⟩ (fun i H _ p => p.1.seq hx) ?_ ?_
  · intro i x H hi p
    obtain ⟨y, hy, r⟩ := Paired.at hp hi
    exact ld_step mono hy hz hD p fun l hl => hs i x y H D l hD hy r p.1 hl _
  · rintro H ⟨p1, zs, p2, p3⟩
    have e : ys.take xs.length = ys := by rw [hp.length]; exact List.take_length
    rw [e] at p3
    exact hd D H zs hD p1 p2 (Paired.mapP p3 fun _ _ q => mono _ _ hid_same _ _ q)
end
theorem ok_l_twins (T : Txt K mg a) : FnOk P w K mg base CX0 5 a.f_l_twins a.d_l_twins ["_law_purse_here"] sp_l_twins := by
  refine T.F_l_twins.ok sc_l_twins (fun vs H Q E h => ?_) (fun cdv A outer s H vs Q E hr h => ?_)
  · obtain ⟨p, rfl, _⟩ := h
    rfl
  · obtain ⟨p, rfl, hp, q⟩ := h
    refine ⟨_, (pss_cons (ps_asg (pe_call (ok_l_sender T) (hr.mono (by decide)) (by rfl) T.m_l_sender T.F_l_sender.kp T.b_l_sender .nil pass0 (pa_cons (pv 0) (pa_cons pe_int pa_nil))) (k_gtup (K := K) rfl rfl (pgs_cons (pg_name (i := 1) sc_l_twins.nd rfl (Or.inl rfl)) (pgs_cons (pg_name (i := 2) sc_l_twins.nd rfl (Or.inl rfl)) (pgs_cons (pg_name (i := 3) sc_l_twins.nd rfl (Or.inl rfl)) pgs_nil)))))
      (pss_cons (ps_par (i := 4) (j := 5) rfl sc_l_twins.nd rfl rfl (by decide) rfl rfl (pa_cons (pe_call (ok_l_draw T) (hr.mono (by decide)) (by rfl) T.m_l_draw T.F_l_draw.kp T.b_l_draw .nil pass0 (pa_cons (pv 0) (pa_cons (pe_callB (k_len (K := K) rfl) (by rfl) T.n_len PySem.boot_len (pa_cons (pv 2) pa_nil)) pa_nil))) (pa_cons (pe_call (ok_l_draw T) (hr.mono (by decide)) (by rfl) T.m_l_draw T.F_l_draw.kp T.b_l_draw .nil pass0 (pa_cons (pv 0) (pa_cons pe_int pa_nil))) pa_nil)) (by rfl))
      (pss_cons (ps_asg (pe_tup (pa_cons (pe_slice (k_slL (K := K) rfl) (pe_ix (k_ixT (K := K) rfl) (pe_ix (k_ixL (K := K) rfl) (pv 2) (pv 4) (fun _ _ => rfl)) pe_int (fun _ _ => rfl)) po_none (po_some pe_int)) (pa_cons (pe_ix (k_ixT (K := K) rfl) (pe_ix (k_ixL (K := K) rfl) (pv 2) (pv 4) (fun _ _ => rfl)) pe_int (fun _ _ => rfl)) pa_nil))) (k_gtup (K := K) rfl rfl (pgs_cons (pg_name (i := 6) sc_l_twins.nd rfl (Or.inr rfl)) (pgs_cons (pg_name (i := 7) sc_l_twins.nd rfl (Or.inr rfl)) pgs_nil))))
      (C8.pss_cut (ps_if (pt_cmpR op_eq (pv 5) pe_int (nomark _))
        (pss_cons (ps_set (i := 8) sc_l_twins.nd rfl (Or.inr rfl) (pe_call (ok_l_draw T) (hr.mono (by decide)) (by rfl) T.m_l_draw T.F_l_draw.kp T.b_l_draw .nil pass0 (pa_cons (pv 0) (pa_cons (pe_callB (k_len (K := K) rfl) (by rfl) T.n_len PySem.boot_len (pa_cons (pv 7) pa_nil)) pa_nil))))
      (pss_cons (ps_set (i := 7) sc_l_twins.nd rfl (Or.inr rfl) (pe_slice (k_slL (K := K) rfl) (pv 7) po_none (po_some pe_int)))
      (pss_cons (ps_set (i := 8) sc_l_twins.nd rfl (Or.inr rfl) (pe_callB (call_min2 rfl) (by rfl) T.n_min (by decide +kernel) (pa_cons (pv 8) (pa_cons (pe_op op_sub (pe_callB (k_len (K := K) rfl) (by rfl) T.n_len PySem.boot_len (pa_cons (pv 7) pa_nil)) pe_int) pa_nil))))
      (pss_one (ps_set (i := 9) sc_l_twins.nd rfl (Or.inl rfl) (pe_lst (pa_cons (pe_tup (pa_cons (pe_op op_cat (pv 6) (pe_slice (k_slL (K := K) rfl) (pv 6) po_none (po_some pe_int))) (pa_cons (pe_op op_cat (pe_slice (k_slL (K := K) rfl) (pv 7) po_none (po_some (pe_op op_add (pv 8) pe_int))) (pe_slice (k_slL (K := K) rfl) (pv 7) (po_some (pv 8)) po_none)) pa_nil))) pa_nil)))))))
        (pss_cons (ps_set (i := 7) sc_l_twins.nd rfl (Or.inr rfl) (pe_lc (own := [("_law_deed_here", 13)]) (g := (gName 13)) (tt := tYes) rfl sc_l_twins.nd (k_list (K := K) rfl (pv 7)) (blkOk_by (own := [("_law_deed_here", 13)]) (N := n_l_twins) (sc := (defScope s_l_twins)) (by decide +kernel)) (fun _ _ _ _ _ => (pg_name (i := 13) sc_l_twins.nd rfl (Or.inl rfl))) (fun _ _ _ _ _ => pts_nil) (fun _ _ _ _ _ => (pe_ifExp (pt_cmpR op_eq (pv 13) pe_str (nomark _)) pe_str (pv 13)))))
      (pss_cons (ps_asg (pe_call (ok_l_condition T) (hr.mono (by decide)) (by rfl) T.m_l_condition T.F_l_condition.kp T.b_l_condition .nil pass0 (pa_cons (pv 0) pa_nil)) (k_gtup (K := K) rfl rfl (pgs_cons (pg_name (i := 10) sc_l_twins.nd rfl (Or.inr rfl)) (pgs_cons (pg_name (i := 11) sc_l_twins.nd rfl (Or.inl rfl)) pgs_nil))))
      (pss_cons (ps_set (i := 8) sc_l_twins.nd rfl (Or.inr rfl) (pe_call (ok_l_draw T) (hr.mono (by decide)) (by rfl) T.m_l_draw T.F_l_draw.kp T.b_l_draw .nil pass0 (pa_cons (pv 0) (pa_cons (pe_op op_add (pe_callB (k_len (K := K) rfl) (by rfl) T.n_len PySem.boot_len (pa_cons (pv 6) pa_nil)) pe_int) pa_nil))))
      (pss_one (ps_setLc (i := 9) (own := [("_law_flag", 14)]) (g := (gName 14)) (tt := tYes) rfl sc_l_twins.nd rfl rfl (sw_true rfl rfl rfl (by decide +kernel)) (k_list (K := K) rfl (pe_lst (pa_cons (pv 11) (pa_cons (pe_not (pv 11)) pa_nil)))) (blkOk_by (own := [("_law_flag", 14)]) (N := n_l_twins) (sc := (defScope s_l_twins)) (by decide +kernel)) (fun _ _ _ _ _ => (pg_name (i := 14) sc_l_twins.nd rfl (Or.inl rfl))) (fun _ _ _ _ _ => pts_nil) (fun _ _ _ _ _ => (pe_tup (pa_cons (pe_op op_cat (pe_op op_cat (pe_slice (k_slL (K := K) rfl) (pv 6) po_none (po_some (pv 8))) (pe_lst (pa_cons (pe_tup (pa_cons (pv 10) (pa_cons (pv 14) pa_nil))) pa_nil))) (pe_slice (k_slL (K := K) rfl) (pv 6) (po_some (pv 8)) po_none)) (pa_cons (pv 7) pa_nil))))))))))
      (pss_cons (ps_set (i := 12) sc_l_twins.nd rfl (Or.inl rfl) (pe_tup (pa_cons (pv 1) (pa_cons (pe_op op_cat (pe_op op_cat (pe_slice (k_slL (K := K) rfl) (pv 2) po_none (po_some (pv 4))) (pe_lst (pa_cons (pe_tup (pa_cons (pv 6) (pa_cons (pv 7) pa_nil))) pa_nil))) (pe_slice (k_slL (K := K) rfl) (pv 2) (po_some (pe_op op_add (pv 4) pe_int)) po_none)) (pa_cons (pv 3) pa_nil)))))
      (pss_one (ps_ret (pe_tup (pa_cons (pv 12) (pa_cons (pe_tup (pa_cons (pv 1) (pa_cons (pe_op op_cat (pe_op op_cat (pe_slice (k_slL (K := K) rfl) (pv 2) po_none (po_some (pv 4))) (pv 9)) (pe_slice (k_slL (K := K) rfl) (pv 2) (po_some (pe_op op_add (pv 4) pe_int)) po_none)) (pa_cons (pv 3) pa_nil)))) pa_nil)))))))))), ?_⟩
    refine ⟨_, rfl, p, rfl, hp, fun win rs last t H1 hp1 k1 w1 w4 l1 l7 okr hG => ?_⟩
    obtain ⟨l, hgt, as, hls, hpr⟩ := hG.up hid_same
    have hal := hpr.length
    refine ⟨t, _, rfl, SqT.of hgt, rfl, _, _, rfl, _, _, rfl, _, _, rfl, rfl, ?_⟩
    refine ⟨_, rfl, _, rfl, l, _, rfl, .inl (SqL.of hls), p, _, rfl, hp1, by rw [List.length_map]; omega, by rw [List.length_map]; omega, fun at_ H2 a0 a1 hp2 k2 => ?_⟩
    refine ⟨_, rfl, p, 3, rfl, hp2, by decide, by decide, fun way H3 _ _ hp3 k3 => ⟨_, _, rfl, ?_⟩⟩
    obtain ⟨i, rfl⟩ := Int.eq_ofNat_of_zero_le a0
    rw [List.length_map] at a1
    have hi : i < rs.length := by omega
    have hR3 : RowsL H3 l rs := (((show RowsL H1 l rs from ⟨as, hls, hpr⟩).hideP hp1).up (Same.trans k2 k3)).up hid_same
    clear hls hpr hal hgt a1
    obtain ⟨as, hls, hpr⟩ := id hR3
    have hal := hpr.length
    obtain ⟨ra, hra⟩ : ∃ ra, as[i]? = some ra := ⟨_, List.getElem?_eq_getElem (by omega)⟩
    obtain ⟨r, hr, hrow⟩ := Paired.at hpr hra
    obtain ⟨cs, ds⟩ := r
    have rok := okr _ (List.mem_of_getElem? hr)
    have rd1 : 1 ≤ ds.length := rok.d1
    have rd3 : ds.length ≤ 3 := rok.d3
    obtain ⟨ca, da, g1, ⟨cas, g2, g3⟩, g4⟩ := hrow
    have eat : atI (refs as) (i : Int) = some (.ref ra) := atN (by rw [List.getElem?_map, hra]; rfl)
    refine ⟨_, rfl, _, rfl, l, _, _, _, rfl, rfl, SqL.of hls, eat, ra, _, 0, _, rfl, rfl, SqT.of g1, at0, _, rfl, sl_in g2 fun c2 H4 n4 s4 f4 => ?_⟩
    refine ⟨_, rfl, _, rfl, l, _, _, _, rfl, rfl, SqL.of (s4 _ _ hls), eat, ra, _, 1, _, rfl, rfl, SqT.of (s4 _ _ g1), at1, size1000 (by show 2 ≤ 1000; omega), fun t5 n_t5 => ?_⟩
    have s_t5 : Same H4 (L2.upd H4 t5 (.tup [.ref c2, .ref da])) := Same.new n_t5
    have f_t5 : (L2.upd H4 t5 (.tup [.ref c2, .ref da])) t5 = some (.tup [.ref c2, .ref da]) := upd_same
    generalize L2.upd H4 t5 (.tup [.ref c2, .ref da]) = H5 at *
    refine ⟨t5, _, rfl, SqT.of f_t5, rfl, _, _, rfl, _, _, rfl, rfl, ?_⟩
    rw [show (2 : Int) = ((2 : Nat) : Int) from rfl, cutT, refs_take] at f4
    have s35 := s4.trans s_t5
    have W5 : Tw p H H5 l rs c2 da (cs.take 2) ds := ⟨hp3.up s35, Same.trans (Same.trans (Same.trans k1 k2) k3) (Ext.of s35), hR3.up s35, ⟨cas.take 2, s_t5 _ _ f4, Paired.tk 2 (Paired.mapP g3 fun _ _ z => z.up s35)⟩, s35 _ _ g4⟩
    have c2l : (cs.take 2).length ≤ 2 := by
      rw [List.length_take]
      omega
    generalize cs.take 2 = c at W5 c2l
    clear eat g1 g2 g3 g4 f4 f_t5 hpr hls hra hr s35 s4 s_t5 hal hR3 hp3 rok
    -- if way == 0
    refine ⟨fun σ H' => ∃ (c1 d1 : Addr) (c : List Cond) (d : List Dd) (o : Addr) (others : List Row) (v8 v10 v11 : Option V), σ = twS p win l last i way c1 d1 v8 (some (.ref o)) v10 v11 ∧ Tw p H H' l rs c1 d1 c d ∧ RowsL H' o others ∧ Split (c, d) others ∧ RowOk (c, d) ∧ (∀ r ∈ others, RowOk r) ∧ others.length ≤ 2, ?_, ?_⟩
    · refine ⟨_, rfl, rfl, _, rfl, ite2 (fun _ => ?_) (fun _ => ?_)⟩
      · refine ⟨_, rfl, _, rfl, da, _, rfl, .inl (SqL.of W5.deeds), p, _, rfl, W5.purse, by rw [List.length_map]; omega, by rw [List.length_map]; omega, fun k H6 k0 k1 hp6 k6 => ?_⟩
        have W6 := W5.draw hp6 k6
        refine ⟨_, rfl, _, rfl, sl_in W6.deeds fun d2 H7 n7 s7 f7 => ?_⟩
        rw [show (2 : Int) = ((2 : Nat) : Int) from rfl, cutT, dVs_take] at f7
        have W7 := W6.same s7
        have d2l : 1 ≤ (ds.take 2).length ∧ (ds.take 2).length ≤ 2 := by
          rw [List.length_take]
          omega
        have W7' : Tw p H H7 l rs c2 d2 c (ds.take 2) := ⟨W7.purse, W7.ext, W7.rows, W7.conds, f7⟩
        rw [List.length_map] at k1
        generalize ds.take 2 = d at *
        have hk : ∃ j : Nat, (if ((dVs d).length : Int) - 1 < k then ((dVs d).length : Int) - 1 else k) = (j : Int) ∧ j < d.length := by
          rw [List.length_map]
          split
          · exact ⟨d.length - 1, by omega, by omega⟩
          · exact ⟨k.toNat, by omega, by omega⟩
        obtain ⟨j, ej, hj⟩ := hk
        refine ⟨_, rfl, _, rfl, d2, _, rfl, .inl (SqL.of f7), _, 1, rfl, rfl, _, _, rfl, ?_⟩
        dsimp only
        rw [ej]
        refine gname_in (asg_in (lst_in (cons_in ?_)))
        obtain ⟨cas, hc, hcp⟩ := id W7'.conds
        have hcl := hcp.length
        refine ⟨_, rfl, _, rfl, _, rfl, sl_in hc fun c3 H8 n_c3 s_c3 f_c3 => cat_in (s_c3 _ _ hc) f_c3 ?_ fun c4 H9 n_c4 s_c4 f_c4 => ?_⟩
        · rw [show (1 : Int) = ((1 : Nat) : Int) from rfl, cutT, List.length_take, List.length_map]
          omega
        rw [show (1 : Int) = ((1 : Nat) : Int) from rfl, cutT, refs_take] at f_c3
        rw [show (1 : Int) = ((1 : Nat) : Int) from rfl, cutT, refs_take, refs_cat] at f_c4
        have s79 := s_c3.trans s_c4
        refine ⟨_, rfl, _, rfl, _, 1, rfl, rfl, _, rfl, sl_in (s79 _ _ f7) fun d3 H10 n_d3 s_d3 f_d3 => ?_⟩
        refine ⟨_, rfl, _, rfl, _, rfl, no_in (sl_in ((s79.trans s_d3) _ _ f7) fun d4 H11 n_d4 s_d4 f_d4 => cat_in (s_d4 _ _ f_d3) f_d4 ?_ fun d5 H12 n_d5 s_d5 f_d5 => ?_)⟩
        · rw [show (j : Int) + 1 = ((j + 1 : Nat) : Int) from rfl, cutT, cutD, List.length_take, List.length_drop, List.length_map]
          omega
        rw [show (j : Int) + 1 = ((j + 1 : Nat) : Int) from rfl, cutT, cutD, dVs_take, dVs_drop, dVs_app] at f_d5
        refine ⟨size1000 (by show 2 ≤ 1000; omega), fun t1 n_t1 => ?_⟩
        have s_t1 : Same H12 (L2.upd H12 t1 (.tup [.ref c4, .ref d5])) := Same.new n_t1
        have f_t1 : (L2.upd H12 t1 (.tup [.ref c4, .ref d5])) t1 = some (.tup [.ref c4, .ref d5]) := upd_same
        generalize L2.upd H12 t1 (.tup [.ref c4, .ref d5]) = H13 at *
        refine ⟨size1000 (by show 1 ≤ 1000; omega), fun o n_o => ?_⟩
        have s_o : Same H13 (L2.upd H13 o (.lst [.ref t1])) := Same.new n_o
        have f_o : (L2.upd H13 o (.lst [.ref t1])) o = some (.lst [.ref t1]) := upd_same
        generalize L2.upd H13 o (.lst [.ref t1]) = H14 at *
        have s9 := ((((s_d3.trans s_d4).trans s_d5).trans s_t1).trans s_o)
        have s7 := s79.trans s9
        refine ⟨c2, d2, c, d, o, [(c ++ c.take 1, d.take (j + 1) ++ d.drop j)], _, _, _, rfl, W7'.same s7, ⟨[t1], f_o, .cons ⟨c4, d5, s_o _ _ f_t1, ⟨_, s9 _ _ f_c4, Paired.app (Paired.mapP hcp fun _ _ z => z.up s7) (Paired.tk 1 (Paired.mapP hcp fun _ _ z => z.up s7))⟩, (s_t1.trans s_o) _ _ f_d5⟩ .nil⟩, Split.dup hj, ⟨by show c.length ≤ 3; omega, d2l.1, by show d.length ≤ 3; omega⟩, ?_, by show 1 ≤ 2; omega⟩
        intro r hr
        have e : r = (c ++ c.take 1, d.take (j + 1) ++ d.drop j) := by simpa using hr
        subst e
        refine ⟨?_, ?_, ?_⟩
        · show (c ++ c.take 1).length ≤ 3
          rw [List.length_append, List.length_take]
          omega
        · show 1 ≤ (d.take (j + 1) ++ d.drop j).length
          rw [List.length_append, List.length_take, List.length_drop]
          omega
        · show (d.take (j + 1) ++ d.drop j).length ≤ 3
          rw [List.length_append, List.length_take, List.length_drop]
          omega
      · refine ⟨_, rfl, da, rfl, ⟨_, SqL.of W5.deeds⟩, lcL (fun d => some (V.str (dS (fr d)))) (SqL.of W5.deeds) (paired_map (fun d => V.str (dS d)) ds) (by omega) ?_ ?_⟩
        · rintro i2 v d H6 hd rfl hs6 Z hZ
          have hz := hZ _ (Same.refl _)
          refine ⟨rfl, yesT ⟨_, rfl, rfl, _, rfl, ite2 (fun h => ?_) (fun h => ?_)⟩⟩
          · have e := dIs (e := .clear) rfl h
            subst e
            have e : fr .clear = .free := if_pos rfl
            rw [e] at hz
            exact hz
          · have e : fr d = d := if_neg (by rintro rfl; exact h (decide_eq_true rfl))
            rw [e] at hz
            exact ⟨_, rfl, hz⟩
        intro d2 H6 hD hs6 hl6
        rw [fm_map, map_fr] at hl6
        have W6' := W5.same hs6
        have W6 : Tw p H H6 l rs c2 d2 c (ds.map fr) := ⟨W6'.purse, W6'.ext, W6'.rows, W6'.conds, hl6⟩
        have hfr := fr_clear ds
        have d1l : 1 ≤ (ds.map fr).length ∧ (ds.map fr).length ≤ 3 := by
          rw [List.length_map]
          omega
        generalize ds.map fr = d at *
        clear hl6 hs6 W5 W6' hD
        refine ⟨_, rfl, p, rfl, W6.purse, fun cn t6 H7 hp7 k7 hcn => ⟨t6, _, rfl, SqT.of (nw_sub _ _ hcn), rfl, _, _, rfl, _, _, rfl, rfl, ?_⟩⟩
        have W7 := W6.draw hp7 k7
        clear W6 hcn
        obtain ⟨cas7, hc7, hcp7⟩ := id W7.conds
        have hcl7 := hcp7.length
        refine ⟨_, rfl, _, rfl, c2, _, rfl, .inl (SqL.of hc7), _, 1, rfl, rfl, p, _, rfl, hp7, by rw [List.length_map]; omega, by rw [List.length_map]; omega, fun k H8 k0 k1 hp8 k8 => ?_⟩
        have W8 := W7.draw hp8 k8
        obtain ⟨j, rfl⟩ := Int.eq_ofNat_of_zero_le k0
        clear hc7 hcp7 hcl7 W7 k1 k0
        refine ⟨_, rfl, _, rfl, _, rfl, size1000 (by show 2 ≤ 1000; omega), fun L n_L => ?_⟩
        have s_L : Same H8 (L2.upd H8 L (.lst [.bl cn.2, .bl (!cn.2)])) := Same.new n_L
        have f_L : (L2.upd H8 L (.lst [.bl cn.2, .bl (!cn.2)])) L = some (.lst [.bl cn.2, .bl (!cn.2)]) := upd_same
        generalize L2.upd H8 L (.lst [.bl cn.2, .bl (!cn.2)]) = H9 at *
        have W9 := W8.same s_L
        refine ⟨L, rfl, ⟨_, SqL.of f_L⟩, lcLn (fun H v b => ∃ t, v = V.ref t ∧ RowL H t (c.take j ++ (cn.1, b) :: c.drop j, d)) (fun _ _ e _ _ ⟨t, e1, e2⟩ => ⟨t, e1, e2.up e⟩) (SqL.of f_L) (paired_map V.bl [cn.2, !cn.2]) (by show 2 ≤ 1000; omega) ?_ ?_⟩
        · rintro i2 v fl H10 D l2 hD hfl rfl hs10 hlD Z S hS
          have W10 := W9.same hs10
          obtain ⟨cas, hc, hcp⟩ := id W10.conds
          have hcl := hcp.length
          have nDd : d2 ≠ D := by
            rintro rfl
            have := W9.deeds
            rw [hD] at this
            cases this
          refine ⟨rfl, yesT ?_⟩
          refine ⟨_, rfl, _, rfl, _, rfl, sl_in hc fun c3 H11 n_c3 s_c3 f_c3 => ?_⟩
          rw [cutT, refs_take] at f_c3
          refine lst_in (cons_in ?_)
          refine ⟨_, rfl, _, rfl, size1000 (by show 2 ≤ 1000; omega), fun t7 n_t7 => ?_⟩
          have s_t7 : Same H11 (L2.upd H11 t7 (.tup [.str (wS cn.1), .bl fl])) := Same.new n_t7
          have f_t7 : (L2.upd H11 t7 (.tup [.str (wS cn.1), .bl fl])) t7 = some (.tup [.str (wS cn.1), .bl fl]) := upd_same
          generalize L2.upd H11 t7 (.tup [.str (wS cn.1), .bl fl]) = H12 at *
          refine ⟨size1000 (by show 1 ≤ 1000; omega), fun l7 n_l7 => ?_⟩
          have s_l7 : Same H12 (L2.upd H12 l7 (.lst [.ref t7])) := Same.new n_l7
          have f_l7 : (L2.upd H12 l7 (.lst [.ref t7])) l7 = some (.lst [.ref t7]) := upd_same
          generalize L2.upd H12 l7 (.lst [.ref t7]) = H13 at *
          refine cat_in ((s_t7.trans s_l7) _ _ f_c3) f_l7 ?_ fun c4 H14 n_c4 s_c4 f_c4 => ?_
          · rw [List.length_map, List.length_take]
            show _ + 1 ≤ 1000
            omega
          have s1014 := (((s_c3.trans s_t7).trans s_l7).trans s_c4)
          refine ⟨_, rfl, _, rfl, _, rfl, no_in (sl_in (s1014 _ _ hc) fun c5 H15 n_c5 s_c5 f_c5 => cat_in (s_c5 _ _ f_c4) f_c5 ?_ fun c6 H16 n_c6 s_c6 f_c6 => ?_)⟩
          · rw [cutD, List.length_append, List.length_map, List.length_take, List.length_drop, List.length_map]
            show _ + 1 + _ ≤ 1000
            omega
          rw [cutD, refs_drop] at f_c6
          refine ⟨_, rfl, size1000 (by show 2 ≤ 1000; omega), fun t8 n_t8 => ?_⟩
          have s_t8 : Same H16 (L2.upd H16 t8 (.tup [.ref c6, .ref d2])) := Same.new n_t8
          have f_t8 : (L2.upd H16 t8 (.tup [.ref c6, .ref d2])) t8 = some (.tup [.ref c6, .ref d2]) := upd_same
          generalize L2.upd H16 t8 (.tup [.ref c6, .ref d2]) = H17 at *
          have s1015 := s1014.trans s_c5
          have s1017 := (s1015.trans s_c6).trans s_t8
          have hlD17 := s1017 _ _ hlD
          have nt8 : t8 ≠ D := by
            rintro rfl
            rw [(s1015.trans s_c6) _ _ hlD] at n_t8
            cases n_t8
          have nc6 : c6 ≠ D := by
            rintro rfl
            rw [s1015 _ _ hlD] at n_c6
            cases n_c6
          refine hS _ H17 s1017 ⟨t8, rfl, c6, d2, by rw [hid_ne nt8]; exact f_t8, ⟨cas.take j ++ t7 :: cas.drop j, ?_, ?_⟩, by rw [hid_ne nDd]; exact s1017 _ _ W10.deeds⟩
          · rw [hid_ne nc6, s_t8 _ _ f_c6]
            exact congrArg (fun z => some (HO.lst z)) (by rw [List.append_assoc]; exact refs_cat (cas.take j) (t7 :: cas.drop j))
          · have ht7 : CondAt H17 t7 (cn.1, fl) := ((((s_l7.trans s_c4).trans s_c5).trans s_c6).trans s_t8) _ _ f_t7
            exact Paired.app (Paired.tk j (Paired.mapP hcp fun _ _ z => CondAt.hide (z.up s1017) hlD17)) (.cons (ht7.hide hlD17) (Paired.dp j (Paired.mapP hcp fun _ _ z => CondAt.hide (z.up s1017) hlD17)))
        · intro o H10 zs hD hs10 hl10 hz
          obtain ⟨os, rfl, hos⟩ := refs_of hz
          cases hos with
          | @cons u1 _ _ _ h1 t1 =>
          cases t1 with
          | @cons u2 _ _ _ h2 t2 =>
          cases t2
          refine ⟨c2, d2, c, d, o, [(c.take j ++ (cn.1, cn.2) :: c.drop j, d), (c.take j ++ (cn.1, !cn.2) :: c.drop j, d)], _, _, _, rfl, W9.same hs10, ⟨[u1, u2], hl10, .cons h1 (.cons h2 .nil)⟩, Split.part hfr, ⟨by show c.length ≤ 3; omega, d1l.1, d1l.2⟩, ?_, by show 2 ≤ 2; omega⟩
          have hlen : ∀ x : Cond, (c.take j ++ x :: c.drop j).length ≤ 3 := by
            intro x
            rw [List.length_append, List.length_cons, List.length_take, List.length_drop]
            omega
          intro r hr
          have e : r = (c.take j ++ (cn.1, cn.2) :: c.drop j, d) ∨ r = (c.take j ++ (cn.1, !cn.2) :: c.drop j, d) := by simpa using hr
          rcases e with rfl | rfl
          · exact ⟨hlen _, d1l.1, d1l.2⟩
          · exact ⟨hlen _, d1l.1, d1l.2⟩
    clear W5 c2l c
    rintro σ H6 ⟨c1, d1, c, d, o, others, v8, v10, v11, rfl, W, hO, hsp, ok0, oks, ol⟩
    -- one
    obtain ⟨as, hls, hpr⟩ := id W.rows
    have hal := hpr.length
    have hof : others.length ≤ 2 := ol
    refine asg_in ?_
    refine ⟨_, rfl, _, rfl, _, rfl, _, rfl, sl_in hls fun a1 H7 n_a1 s_a1 f_a1 => ?_⟩
    rw [cutT, refs_take] at f_a1
    refine lst_in (cons_in ?_)
    refine ⟨_, rfl, _, rfl, size1000 (by show 2 ≤ 1000; omega), fun t1 n_t1 => ?_⟩
    have s_t1 : Same H7 (L2.upd H7 t1 (.tup [.ref c1, .ref d1])) := Same.new n_t1
    have f_t1 : (L2.upd H7 t1 (.tup [.ref c1, .ref d1])) t1 = some (.tup [.ref c1, .ref d1]) := upd_same
    generalize L2.upd H7 t1 (.tup [.ref c1, .ref d1]) = H8 at *
    refine ⟨size1000 (by show 1 ≤ 1000; omega), fun b1 n_b1 => ?_⟩
    have s_b1 : Same H8 (L2.upd H8 b1 (.lst [.ref t1])) := Same.new n_b1
    have f_b1 : (L2.upd H8 b1 (.lst [.ref t1])) b1 = some (.lst [.ref t1]) := upd_same
    generalize L2.upd H8 b1 (.lst [.ref t1]) = H9 at *
    refine cat_in ((s_t1.trans s_b1) _ _ f_a1) f_b1 ?_ fun a2 H10 n_a2 s_a2 f_a2 => ?_
    · rw [List.length_map, List.length_take]
      show _ + 1 ≤ 1000
      omega
    have s610 := (((s_a1.trans s_t1).trans s_b1).trans s_a2)
    refine ⟨_, rfl, _, rfl, _, 1, rfl, rfl, _, rfl, no_in (sl_in (s610 _ _ hls) fun a3 H11 n_a3 s_a3 f_a3 => cat_in (s_a3 _ _ f_a2) f_a3 ?_ fun a4 H12 n_a4 s_a4 f_a4 => ?_)⟩
    · rw [show (i : Int) + 1 = ((i + 1 : Nat) : Int) from rfl, cutD, List.length_append, List.length_map, List.length_take, List.length_drop, List.length_map]
      show _ + 1 + _ ≤ 1000
      omega
    rw [show (i : Int) + 1 = ((i + 1 : Nat) : Int) from rfl, cutD, refs_drop] at f_a4
    refine ⟨_, rfl, size1000 (by show 3 ≤ 1000; omega), fun g1 n_g1 => ?_⟩
    have s_g1 : Same H12 (L2.upd H12 g1 (.tup [.int win, .ref a4, .bl last])) := Same.new n_g1
    have f_g1 : (L2.upd H12 g1 (.tup [.int win, .ref a4, .bl last])) g1 = some (.tup [.int win, .ref a4, .bl last]) := upd_same
    generalize L2.upd H12 g1 (.tup [.int win, .ref a4, .bl last]) = H13 at *
    have s613 := ((s610.trans s_a3).trans s_a4).trans s_g1
    have G1 : GiverAt H13 g1 win (rs.take i ++ (c, d) :: rs.drop (i + 1)) last := by
      refine ⟨a4, f_g1, as.take i ++ t1 :: as.drop (i + 1), ?_, ?_⟩
      · rw [s_g1 _ _ f_a4]
        exact congrArg (fun z => some (HO.lst z)) (by rw [List.append_assoc]; exact refs_cat (as.take i) (t1 :: as.drop (i + 1)))
      · have hr1 : RowL H13 t1 (c, d) := ⟨c1, d1, ((((s_b1.trans s_a2).trans s_a3).trans s_a4).trans s_g1) _ _ f_t1, W.conds.up s613, s613 _ _ W.deeds⟩
        exact Paired.app (Paired.tk i (Paired.mapP hpr fun _ _ z => z.up s613)) (.cons hr1 (Paired.dp (i + 1) (Paired.mapP hpr fun _ _ z => z.up s613)))
    have W13 := W.same s613
    have hO13 := hO.up s613
    have hls13 := s613 _ _ hls
    have hpr13 : Paired (RowL H13) as rs := Paired.mapP hpr fun _ _ z => z.up s613
    clear s613 s610 s_a1 s_t1 s_b1 s_a2 s_a3 s_a4 s_g1 f_a1 f_t1 f_b1 f_a2 f_a3 f_a4 f_g1 hls hpr W hO
    -- the pair
    obtain ⟨os, ho, hop⟩ := id hO13
    have hol := hop.length
    refine gname_in ?_
    refine ⟨_, rfl, _, rfl, _, rfl, _, rfl, _, rfl, sl_in hls13 fun a1 H14 n_a1 s_a1 f_a1 => ?_⟩
    rw [cutT, refs_take] at f_a1
    refine ⟨_, rfl, cat_in f_a1 (s_a1 _ _ ho) ?_ fun a2 H15 n_a2 s_a2 f_a2 => ?_⟩
    · rw [List.length_map, List.length_map, List.length_take]
      omega
    have s1315 := s_a1.trans s_a2
    refine ⟨_, rfl, _, rfl, _, 1, rfl, rfl, _, rfl, no_in (sl_in (s1315 _ _ hls13) fun a3 H16 n_a3 s_a3 f_a3 => cat_in (s_a3 _ _ f_a2) f_a3 ?_ fun a4 H17 n_a4 s_a4 f_a4 => ?_)⟩
    · rw [show (i : Int) + 1 = ((i + 1 : Nat) : Int) from rfl, cutD, List.length_append, List.length_map, List.length_map, List.length_take, List.length_drop, List.length_map]
      omega
    rw [show (i : Int) + 1 = ((i + 1 : Nat) : Int) from rfl, cutD, refs_drop] at f_a4
    refine ⟨_, rfl, size1000 (by show 3 ≤ 1000; omega), fun g2 n_g2 => ?_⟩
    have s_g2 : Same H17 (L2.upd H17 g2 (.tup [.int win, .ref a4, .bl last])) := Same.new n_g2
    have f_g2 : (L2.upd H17 g2 (.tup [.int win, .ref a4, .bl last])) g2 = some (.tup [.int win, .ref a4, .bl last]) := upd_same
    generalize L2.upd H17 g2 (.tup [.int win, .ref a4, .bl last]) = H18 at *
    refine ⟨size1000 (by show 2 ≤ 1000; omega), fun t2 n_t2 => ?_⟩
    have s_t2 : Same H18 (L2.upd H18 t2 (.tup [.ref g1, .ref g2])) := Same.new n_t2
    have f_t2 : (L2.upd H18 t2 (.tup [.ref g1, .ref g2])) t2 = some (.tup [.ref g1, .ref g2]) := upd_same
    generalize L2.upd H18 t2 (.tup [.ref g1, .ref g2]) = H19 at *
    have s1318 := ((s1315.trans s_a3).trans s_a4).trans s_g2
    have s1319 := s1318.trans s_t2
    have G2 : GiverAt H18 g2 win (rs.take i ++ (others ++ rs.drop (i + 1))) last := by
      refine ⟨a4, f_g2, as.take i ++ (os ++ as.drop (i + 1)), ?_, ?_⟩
      · rw [s_g2 _ _ f_a4]
        exact congrArg (fun z => some (HO.lst z)) (by rw [List.append_assoc, refs_cat, refs_cat])
      · exact Paired.app (Paired.tk i (Paired.mapP hpr13 fun _ _ z => z.up s1318)) (Paired.app (Paired.mapP hop fun _ _ z => z.up s1318) (Paired.dp (i + 1) (Paired.mapP hpr13 fun _ _ z => z.up s1318)))
    have W19 := W13.same s1319
    have lt : (rs.take i).length = i := by
      rw [List.length_take]
      omega
    have ld : (rs.drop (i + 1)).length = rs.length - (i + 1) := List.length_drop
    have ok1 : RsOk (rs.take i ++ (c, d) :: rs.drop (i + 1)) := by
      refine ⟨?_, ?_, ?_⟩
      · rw [List.length_append, List.length_cons]
        omega
      · rw [List.length_append, List.length_cons]
        omega
      · intro r hr
        rcases List.mem_append.mp hr with z | z
        · exact okr r (List.mem_of_mem_take z)
        · rcases List.mem_cons.mp z with rfl | z
          · exact ok0
          · exact okr r (List.mem_of_mem_drop z)
    have ol1 : 1 ≤ others.length := by
      cases hsp with
      | dup => show 1 ≤ 1; omega
      | part => show 1 ≤ 2; omega
    have ok2 : RsOk (rs.take i ++ (others ++ rs.drop (i + 1))) := by
      refine ⟨?_, ?_, ?_⟩
      · rw [List.length_append, List.length_append]
        omega
      · rw [List.length_append, List.length_append]
        omega
      · intro r hr
        rcases List.mem_append.mp hr with z | z
        · exact okr r (List.mem_of_mem_take z)
        · rcases List.mem_append.mp z with z | z
          · exact oks r z
          · exact okr r (List.mem_of_mem_drop z)
    exact q win _ _ last t2 g1 g2 H19 W19.purse W19.ext w1 w4 ⟨rs.take i, (c, d), rs.drop (i + 1), others, rfl, rfl, hsp⟩ ok1 ok2 (tup_hideP W19.purse f_t2) ((G1.up s1319).hideP W19.purse) ((G2.up s_t2).hideP W19.purse)
theorem log2_small {i : Int} (h0 : 0 ≤ i) (h1 : i ≤ 2000) : i.natAbs.log2 < 11 := by
  by_cases e : i.natAbs = 0
  · rw [e]
    decide
  · exact (Nat.log2_lt e).mpr (by show i.natAbs < 2048; omega)
theorem small_int {i : Int} (h0 : 0 ≤ i) (h1 : i ≤ 2000) : (PyData.int i).showable = true ∧ (PyData.int i).leavesShort 13 = true ∧ (PyData.int i).weight ≤ 11 := by
  have h := log2_small h0 h1
  refine ⟨?_, ?_, ?_⟩
  · simp only [PyData.showable, decide_eq_true_eq]
    omega
  · simp only [PyData.leavesShort, decide_eq_true_eq]
    exact PyData.shown_int_le2 (by omega) (by omega)
  · simp only [PyData.weight]
    split <;> omega
theorem small_ints : ∀ ns : List Int, (∀ i ∈ ns, 0 ≤ i ∧ i ≤ 2000) → PyData.showableAll (ns.map PyData.int) = true ∧ PyData.leavesShortAll 13 (ns.map PyData.int) = true ∧ PyData.weightAll (ns.map PyData.int) ≤ 12 * ns.length ∧ PyData.hasDictAll (ns.map PyData.int) = false
  | [], _ => ⟨by simp only [List.map_nil, PyData.showableAll], by simp only [List.map_nil, PyData.leavesShortAll], by simp only [List.map_nil, PyData.weightAll]; exact Nat.zero_le _, by simp only [List.map_nil, PyData.hasDictAll]⟩
  | n :: r, h => by
    obtain ⟨a1, a2, a3, a4⟩ := small_ints r fun q hq => h q (List.mem_cons_of_mem _ hq)
    have hn := h n List.mem_cons_self
    obtain ⟨b1, b2, b3⟩ := small_int hn.1 hn.2
    refine ⟨?_, ?_, ?_, ?_⟩
    · simp only [List.map_cons, PyData.showableAll, b1, a1, Bool.and_self]
    · simp only [List.map_cons, PyData.leavesShortAll, b2, a2, Bool.and_self]
    · simp only [List.map_cons, PyData.weightAll, List.length_cons]
      omega
    · simp only [List.map_cons, PyData.hasDictAll, PyData.hasDict, a4, Bool.or_self]
theorem kept_ok {b t : Int} {m f l : List Int} (hb : 0 ≤ b ∧ b ≤ 2000) (ht : 0 ≤ t ∧ t ≤ 2000) (hm : ∀ i ∈ m, 0 ≤ i ∧ i ≤ 2000) (hf : ∀ i ∈ f, 0 ≤ i ∧ i ≤ 2000) (hl : ∀ i ∈ l, 0 ≤ i ∧ i ≤ 2000) (zm : m.length ≤ 4) (zf : f.length ≤ 4) (zl : l.length ≤ 8) :
    (keptD b t m f l).showable = true ∧ (keptD b t m f l).hasDict = false ∧ (keptD b t m f l).depth ≤ 10 ∧ (keptD b t m f l).shown.length ≤ 10000 := by
  obtain ⟨b1, b2, b3⟩ := small_int hb.1 hb.2
  obtain ⟨t1, t2, t3⟩ := small_int ht.1 ht.2
  obtain ⟨m1, m2, m3, m4⟩ := small_ints m hm
  obtain ⟨f1, f2, f3, f4⟩ := small_ints f hf
  obtain ⟨l1, l2, l3, l4⟩ := small_ints l hl
  have dm := (lay_ints m).2
  have df := (lay_ints f).2
  have dl := (lay_ints l).2
  refine ⟨?_, ?_, ?_, ?_⟩
  · simp only [keptD, PyData.showable, PyData.showableAll] at *
    simp only [*, Bool.and_self]
  · simp only [keptD, PyData.hasDict, PyData.hasDictAll, m4, f4, l4, Bool.or_self]
  · simp only [keptD, PyData.depth, PyData.depthAll]
    omega
  · have hs : (keptD b t m f l).leavesShort 13 = true := by
      simp only [keptD, PyData.leavesShort, PyData.leavesShortAll] at *
      simp only [*, Bool.and_self]
    have h1 := PyData.shown_le 13 (by decide) _ hs
    have h2 : (keptD b t m f l).weight ≤ 300 := by
      simp only [keptD, PyData.weight, PyData.weightAll] at *
      omega
    omega
theorem ok_l_kept (T : Txt K mg a) : FnG P w K mg base 1 a.f_l_kept a.d_l_kept ["_law_memory"] (sp_l_kept a) := by
  refine okG T.F_l_kept sc_l_kept (fun vs H Q E h => ?_) (fun cdv A outer s H vs Q E hG hr h => ?_)
  · obtain ⟨x, win, last, rs, S, rfl, _⟩ := h
    rfl
  · obtain ⟨x, win, last, rs, S, rfl, hM, sok, h9, q⟩ := h
    refine ⟨_, (pss_one (ps_ret (pe_callB (k_repr (K := K) rfl hG hr.units) (by rfl) T.n_repr (by decide +kernel) (pa_cons (pe_lst (pa_cons (k_fld (K := K) rfl (pv 0) rfl) (pa_cons (k_fld (K := K) rfl (pv 0) rfl) (pa_cons (k_fld (K := K) rfl (pv 0) rfl) (pa_cons (k_fld (K := K) rfl (pv 0) rfl) (pa_cons (k_fld (K := K) rfl (pv 0) rfl) pa_nil)))))) pa_nil)))), ?_⟩
    obtain ⟨dx, fs, s, t, m, f, l, hx, F, hs, ht, hm, hf, hl⟩ := id hM
    have c := T.cl_Memory
    refine ⟨_, rfl, x, a.c_Memory, dx, fs, _, rfl, hx, c, T.na_Memory_base, F.base, ?_⟩
    refine ⟨_, rfl, x, a.c_Memory, dx, fs, _, rfl, hx, c, T.na_Memory_top, F.top, ?_⟩
    refine ⟨_, rfl, x, a.c_Memory, dx, fs, _, rfl, hx, c, T.na_Memory_marked, F.marked, ?_⟩
    refine ⟨_, rfl, x, a.c_Memory, dx, fs, _, rfl, hx, c, T.na_Memory_freed, F.freed, ?_⟩
    refine ⟨_, rfl, x, a.c_Memory, dx, fs, _, rfl, hx, c, T.na_Memory_letters, F.letters, ?_⟩
    refine ⟨size1000 (by show 5 ≤ 1000; omega), fun D hD => ?_⟩
    have s1 : Same H (L2.upd H D (.lst [.int S.base, .int S.top, .ref m, .ref f, .ref l])) := Same.new hD
    have hb0 := sok.b0
    have hbt := sok.bt
    have htw := sok.tw
    have hw4 := sok.w4
    have pok := plan_ok rs sok
    have pt := pok.tw
    have pb : (plan win rs S).base = S.base := rfl
    obtain ⟨k1, k2, k3, k4⟩ := kept_ok (b := S.base) (t := S.top) (m := S.marked) (f := S.freed) (l := letters win rs S) ⟨by omega, by omega⟩ ⟨by omega, by omega⟩ (fun i hi => by have := sok.mb i hi; omega) (fun i hi => by have := sok.fb i hi; omega) (fun i hi => by have := letters_bound rs sok i hi; omega) sok.ml sok.fl (letters_len rs sok)
    refine ⟨D, keptD S.base S.top S.marked S.freed (letters win rs S), rfl, ?_, k1, k2, k3, Nat.le_trans k4 (by decide), q _ s1⟩
    exact .lst (SqL.of upd_same) (.cons (.int _) (.cons (.int _) (.cons (.tup (SqT.of (s1 _ _ hm)) (dp_ints _)) (.cons (.tup (SqT.of (s1 _ _ hf)) (dp_ints _)) (.cons (.tup (SqT.of (s1 _ _ hl)) (dp_ints _)) .nil)))))
theorem RowsT.hide {H : Hp} {D r : Addr} {l : List V} {rs : List Row} (h : RowsT H r rs) (hD : H D = some (.lst l)) : RowsT (hid D H) r rs := by
  obtain ⟨as, h1, h2⟩ := h
  exact ⟨as, by rw [hid_ne (not_lst h1 hD (fun _ q => by cases q))]; exact h1, Paired.mapP h2 fun _ _ q => q.hide hD⟩
theorem SenAt.hide {C : Addr} {H : Hp} {D s : Addr} {l : List V} {win : Int} {last : Bool} {rs : List Row} (h : SenAt C H s win last rs) (hD : H D = some (.lst l)) : SenAt C (hid D H) s win last rs := by
  obtain ⟨dx, fs, pt, h1, h2, h3⟩ := h
  exact ⟨dx, fs, pt, by rw [hid_ne (not_lst h1 hD (fun _ q => by cases q))]; exact h1, h2, h3.hide hD⟩
theorem tup_hide {H : Hp} {D r : Addr} {l xs : List V} (h : H r = some (.tup xs)) (hD : H D = some (.lst l)) : hid D H r = some (.tup xs) := by
  rw [hid_ne (not_lst h hD (fun _ q => by cases q))]
  exact h
theorem MemAt.hide {CS CM : Addr} {H : Hp} {D x : Addr} {l : List V} {win : Int} {last : Bool} {rs : List Row} {S : Mem} (h : MemAt CS CM H x win last rs S) (hD : H D = some (.lst l)) : MemAt CS CM (hid D H) x win last rs S := by
  obtain ⟨dx, fs, s, t, m, f, l, h1, h2, h3, ⟨m2, f2, h4, h5, h6⟩, h7, h8, h9⟩ := h
  exact ⟨dx, fs, s, t, m, f, l, by rw [hid_ne (not_lst h1 hD (fun _ q => by cases q))]; exact h1, h2, h3.hide hD, ⟨m2, f2, tup_hide h4 hD, tup_hide h5 hD, tup_hide h6 hD⟩, tup_hide h7 hD, tup_hide h8 hD, tup_hide h9 hD⟩
abbrev riS (p g1 g2 x y : Addr) (v5 v6 : Option V) : L2.St := [some (.ref p), some (.ref g1), some (.ref g2), some (.ref x), some (.ref y), v5, v6]
structure RiP (a : Ad) (p : Addr) (H : Hp) (win : Int) (last : Bool) (one other : List Row) (i : Nat) (x y : Addr) (S S' : Mem) (H' : Hp) : Prop where
  purse : PurseAt H' p
  ext : Ext p H H'
  mx : MemAt a.c_Sender a.c_Memory (hid p H') x win last one S
  my : MemAt a.c_Sender a.c_Memory (hid p H') y win last other S'
  rel : Rel one other S S'
  ok : StOk win S
  ok' : StOk win S'
  small : S.top ≤ 4 * (i : Int)
theorem ok_l_right (T : Txt K mg a) : FnG P w K mg base 8 a.f_l_right a.d_l_right ["_law_purse_here"] sp_l_right := by
  refine okG T.F_l_right sc_l_right (fun vs H Q E h => ?_) (fun cdv A outer s H vs Q E hG hr h => ?_)
  · obtain ⟨p, rfl, _⟩ := h
    rfl
  · obtain ⟨p, rfl, hp, q⟩ := h
    refine ⟨_, (pss_cons (ps_asg (pe_call (ok_l_twins T) (hr.mono (by decide)) (by rfl) T.m_l_twins T.F_l_twins.kp T.b_l_twins .nil pass0 (pa_cons (pv 0) pa_nil)) (k_gtup (K := K) rfl rfl (pgs_cons (pg_name (i := 1) sc_l_right.nd rfl (Or.inl rfl)) (pgs_cons (pg_name (i := 2) sc_l_right.nd rfl (Or.inl rfl)) pgs_nil))))
      (pss_cons (ps_par (i := 3) (j := 4) rfl sc_l_right.nd rfl rfl (by decide) rfl rfl (pa_cons (pe_meth0 (pe_call (ok_l_made_sender T) (hr.mono (by decide)) (by rfl) T.m_l_made_sender T.F_l_made_sender.kp T.b_l_made_sender .nil pass0 (pa_cons (pv 1) pa_nil)) T.cl_Sender T.mt_s_begin (ok_s_begin T) (hr.mono (by decide)) T.b_s_begin .nil pass0) (pa_cons (pe_meth0 (pe_call (ok_l_made_sender T) (hr.mono (by decide)) (by rfl) T.m_l_made_sender T.F_l_made_sender.kp T.b_l_made_sender .nil pass0 (pa_cons (pv 2) pa_nil)) T.cl_Sender T.mt_s_begin (ok_s_begin T) (hr.mono (by decide)) T.b_s_begin .nil pass0) pa_nil)) (by rfl))
      (pss_cons (ps_for PassesOwn.never rfl (pi_range1 (by rfl) T.n_range (pa_cons pe_int pa_nil)) (pg_name (i := 5) sc_l_right.nd rfl (Or.inl rfl))
        (pss_cons (ps_if (pt_cmpR op_ne (pe_callG (ok_l_kept T) hG (hr.mono (by decide)) (by rfl) T.m_l_kept T.F_l_kept.kp T.b_l_kept (pa_cons (pv 3) pa_nil)) (pe_callG (ok_l_kept T) hG (hr.mono (by decide)) (by rfl) T.m_l_kept T.F_l_kept.kp T.b_l_kept (pa_cons (pv 4) pa_nil)) (nomark _))
        (pss_one (ps_ret pe_bl))
        pss_nil)
      (pss_cons (ps_set (i := 6) sc_l_right.nd rfl (Or.inl rfl) (pe_call (ok_l_made_answers T) (hr.mono (by decide)) (by rfl) T.m_l_made_answers T.F_l_made_answers.kp T.b_l_made_answers .nil pass0 (pa_cons (pe_call (ok_l_answers T) (hr.mono (by decide)) (by rfl) T.m_l_answers T.F_l_answers.kp T.b_l_answers .nil pass0 (pa_cons (pv 0) (pa_cons (k_fld (K := K) rfl (pv 3) rfl) (pa_cons (pe_call (ok_l_top T) (hr.mono (by decide)) (by rfl) T.m_l_top T.F_l_top.kp T.b_l_top .nil pass0 (pa_cons (pv 3) pa_nil)) (pa_cons (pe_call (ok_l_draw T) (hr.mono (by decide)) (by rfl) T.m_l_draw T.F_l_draw.kp T.b_l_draw .nil pass0 (pa_cons (pv 0) (pa_cons pe_int pa_nil))) pa_nil))))) pa_nil)))
      (pss_one (ps_par (i := 3) (j := 4) rfl sc_l_right.nd rfl rfl (by decide) rfl rfl (pa_cons (pe_meth (pv 3) T.cl_Memory T.mt_m_after (ok_m_after T) (hr.mono (by decide)) T.b_m_after .nil pass0 (pa_cons (pv 6) pa_nil)) (pa_cons (pe_meth (pv 4) T.cl_Memory T.mt_m_after (ok_m_after T) (hr.mono (by decide)) T.b_m_after .nil pass0 (pa_cons (pv 6) pa_nil)) pa_nil)) (by rfl))))))
      (pss_one (ps_ret (pe_cmpR op_eq (pe_callG (ok_l_kept T) hG (hr.mono (by decide)) (by rfl) T.m_l_kept T.F_l_kept.kp T.b_l_kept (pa_cons (pv 3) pa_nil)) (pe_callG (ok_l_kept T) hG (hr.mono (by decide)) (by rfl) T.m_l_kept T.F_l_kept.kp T.b_l_kept (pa_cons (pv 4) pa_nil)) (nomark _))))))), ?_⟩
    refine ⟨_, rfl, p, rfl, hp, fun win one other last t g1 g2 H1 hp1 k1 w1 w4 tw ok1 ok2 ht hg1 hg2 => ?_⟩
    refine ⟨t, _, rfl, SqT.of (hid_some ht).1, rfl, _, _, rfl, _, _, rfl, rfl, ?_⟩
    have hg1' := hg1.up hid_same
    have hg2' := hg2.up hid_same
    -- the two memories
    refine ⟨_, rfl, g1, win, one, last, rfl, hg1', ok1, w1, w4, fun s1 H2 hs2 hS1 => ?_⟩
    obtain ⟨dx1, fs1, pt1, e1, F1, _⟩ := id hS1
    refine ⟨s1, dx1, fs1, rfl, e1, F1.noBegin, s1, win, last, one, rfl, hS1, ok1, w1, w4, fun x H3 hs3 hM3 => ?_⟩
    refine ⟨_, rfl, g2, win, other, last, rfl, hg2'.up (hs2.trans hs3), ok2, w1, w4, fun s2 H4 hs4 hS2 => ?_⟩
    obtain ⟨dx2, fs2, pt2, e2, F2, _⟩ := id hS2
    refine ⟨s2, dx2, fs2, rfl, e2, F2.noBegin, s2, win, last, other, rfl, hS2, ok2, w1, w4, fun y H5 hs5 hM5 => ⟨_, _, rfl, ?_⟩⟩
    have hs15 := ((hs2.trans hs3).trans hs4).trans hs5
    have hp5 := hp1.up hs15
    obtain ⟨z1, z2, z3, hpp⟩ := id hp5
    have R0 : RiP a p H win last one other 0 x y begin begin H5 := ⟨hp5, Same.trans k1 (Ext.of hs15), (hM3.up (hs4.trans hs5)).hide hpp, hM5.hide hpp, rel_begin one other, begin_ok w1 w4, begin_ok w1 w4, by show (0 : Int) ≤ 4 * ((0 : Nat) : Int); omega⟩
    clear hpp z1 z2 z3
    refine ⟨6, rfl, by omega, by omega, ?_⟩
    refine for_range (fun i σ H' => ∃ x y v5 v6 S S', σ = riS p g1 g2 x y v5 v6 ∧ RiP a p H win last one other i x y S S' H') ⟨x, y, none, none, begin, begin, rfl, R0⟩ ?_ ?_
    · rintro i σ H6 hi ⟨x, y, v5, v6, S, S', rfl, R⟩
      have hi6 : i < 6 := hi
      have hsm := R.small
      have eT := R.rel.top
      have b0 := R.ok.b0
      have bt := R.ok.bt
      have btw := R.ok.tw
      have mx6 := R.mx.up hid_same
      have my6 := R.my.up hid_same
      refine ⟨_, rfl, x, win, last, one, S, rfl, mx6, R.ok, by omega, fun H7 hs7 => ?_⟩
      refine ⟨_, rfl, y, win, last, other, S', rfl, my6.up hs7, R.ok', by omega, fun H8 hs8 => ?_⟩
      rw [← R.rel.base, ← R.rel.top, ← R.rel.marked, ← R.rel.freed, ← rel_letters tw R.rel win]
      refine ⟨rfl, _, rfl, ite2 (fun h => ?_) (fun _ => ?_)⟩
      · rw [decide_eq_true rfl] at h
        cases h
      have hs68 := hs7.trans hs8
      have mx8 := mx6.up hs68
      have my8 := my6.up hs68
      have hp8 := R.purse.up hs68
      have k8 := Same.trans R.ext (Ext.of hs68)
      clear mx6 my6 hs7 hs8
      have pok := plan_ok one R.ok
      have ptw := pok.tw
      have pbt := pok.bt
      have pb : (plan win one S).base = S.base := rfl
      rw [pb] at ptw pbt
      have eP := (rel_plan2 tw R.rel win).top
      -- the replies
      obtain ⟨dx, fs, s, st, m, f, l, ex, F, _⟩ := id mx8
      refine ⟨_, rfl, _, rfl, x, a.c_Memory, dx, fs, _, rfl, ex, T.cl_Memory, T.na_Memory_base, F.base, _, rfl, x, win, last, one, S, rfl, mx8, R.ok, fun H9 hs9 => ?_⟩
      refine ⟨_, rfl, p, 3, rfl, hp8.up hs9, by decide, by decide, fun r H10 r0 r1 hp10 k10 => ?_⟩
      refine ⟨p, S.base, (plan win one S).top, r, rfl, hp10, b0, pbt, by omega, by omega, r0, by omega, fun ys l2 H11 hp11 k11 hA h5 hL => ?_⟩
      refine ⟨l2, ys, rfl, hL.up hid_same, h5, anss_each hA, fun t2 H12 hs12 hT => ?_⟩
      have h810 : Ext p H8 H12 := Same.trans (Same.trans (Same.trans (Ext.of hs9) k10) k11) (Ext.of hs12)
      obtain ⟨z1, z2, z3, hpp8⟩ := id hp8
      have mx12 := (((mx8.hide hpp8).up h810).up hid_same)
      have my12 := (((my8.hide hpp8).up h810).up hid_same)
      have hp12 := hp11.up hs12
      clear hpp8 z1 z2 z3
      -- after
      obtain ⟨dx3, fs3, s3, st3, m3, f3, l3, ex3, F3, _⟩ := id mx12
      refine ⟨_, rfl, x, dx3, fs3, rfl, ex3, F3.noAfter, _, rfl, x, t2, win, last, one, S, ys, rfl, mx12, ok1, R.ok, by omega, hT, hA, h5, fun x2 H13 hs13 mx13 => ?_⟩
      have my13 := my12.up hs13
      obtain ⟨dx4, fs4, s4, st4, m4, f4, l4, ex4, F4, _⟩ := id my13
      refine ⟨_, rfl, y, dx4, fs4, rfl, ex4, F4.noAfter, _, rfl, y, t2, win, last, other, S', ys, rfl, my13, ok2, R.ok', by omega, hT.up hs13, ?_, h5, fun y2 H14 hs14 my14 => ⟨_, _, rfl, ?_⟩⟩
      · rw [← eP, ← R.rel.base]
        exact hA
      have hp14 := (hp12.up hs13).up hs14
      obtain ⟨z1, z2, z3, hpp14⟩ := id hp14
      obtain ⟨a1, a2⟩ := after_ok (last := last) R.ok hA
      obtain ⟨a3, a4⟩ := after_ok (last := last) (rs := other) (as := ys) R.ok' (by rw [← eP, ← R.rel.base]; exact hA)
      refine ⟨x2, y2, _, _, after win last one S ys, after win last other S' ys, rfl, ⟨hp14, Same.trans k8 (Same.trans h810 (Ext.of (hs13.trans hs14))), (mx13.up hs14).hide hpp14, my14.hide hpp14, rel_after tw R.rel win last ys, a1, a3, ?_⟩⟩
      rw [a2]
      omega
    · rintro σ H6 ⟨x, y, v5, v6, S, S', rfl, R⟩
      have hsm := R.small
      have e6 : ((Int.toNat 6 : Nat) : Int) = 6 := rfl
      have eT := R.rel.top
      refine ⟨_, rfl, x, win, last, one, S, rfl, R.mx.up hid_same, R.ok, by omega, fun H7 hs7 => ?_⟩
      refine ⟨_, rfl, y, win, last, other, S', rfl, (R.my.up hid_same).up hs7, R.ok', by omega, fun H8 hs8 => ⟨rfl, ?_⟩⟩
      rw [← R.rel.base, ← R.rel.top, ← R.rel.marked, ← R.rel.freed, ← rel_letters tw R.rel win]
      rw [decide_eq_true rfl]
      exact q H8 (Same.trans R.ext (Ext.of (hs7.trans hs8)))
theorem ok_law (T : Txt K mg a) : FnG P w K mg base 9 a.f_law a.d_law ["_law_script"] (sp_law K) := by
  refine okG T.F_law sc_law (fun vs H Q E h => ?_) (fun cdv A outer s H vs Q E hG hr h => ?_)
  · obtain ⟨s, ns, rfl, _⟩ := h
    rfl
  · obtain ⟨s, ns, rfl, hs, hz, q⟩ := h
    refine ⟨_, (pss_one (ps_ret (pe_callB (k_all (K := K) rfl rfl) (by rfl) T.n_all (by decide +kernel) (pa_cons (pe_lc (own := [("_law_k", 1)]) (g := (gName 1)) (tt := tYes) rfl sc_law.nd (pi_range1 (by rfl) T.n_range (pa_cons (pe_callB (call_max2 rfl) (by rfl) T.n_max (by decide +kernel) (pa_cons pe_int (pa_cons (pe_callB (call_min2 rfl) (by rfl) T.n_min (by decide +kernel) (pa_cons (pe_callB (k_len (K := K) rfl) (by rfl) T.n_len PySem.boot_len (pa_cons (pv 0) pa_nil)) (pa_cons pe_int pa_nil))) pa_nil))) pa_nil)) (blkOk_by (own := [("_law_k", 1)]) (N := n_law) (sc := (defScope s_law)) (by decide +kernel)) (fun _ _ _ _ _ => (pg_name (i := 1) sc_law.nd rfl (Or.inl rfl))) (fun _ _ _ _ _ => pts_nil) (fun _ _ _ _ _ => (pe_callG (ok_l_right T) hG (hr.mono (by decide)) (by rfl) T.m_l_right T.F_l_right.kp T.b_l_right (pa_cons (pe_call (ok_l_purse T) (hr.mono (by decide)) (by rfl) T.m_l_purse T.F_l_purse.kp T.b_l_purse .nil pass0 (pa_cons (pv 0) (pa_cons (pv 1) pa_nil))) pa_nil)))) pa_nil)))), ?_⟩
    refine ⟨_, rfl, s, _, rfl, .inl hs, ?_⟩
    refine ⟨_, 6, rfl, 2, _, rfl, _, rfl, ?_⟩
    have hj : ∀ z : Int, z = (if 6 < (((iVs ns).length : Nat) : Int) then 6 else (((iVs ns).length : Nat) : Int)) → 0 ≤ (if z > 2 then z else 2) ∧ (if z > 2 then z else 2) ≤ 6 := by
      intro z e
      split at e <;> split <;> omega
    obtain ⟨j0, j6⟩ := hj _ rfl
    refine ⟨by omega, by omega, fun D hD => ?_⟩
    refine lc_range (fun i H' => Same H H' ∧ H' D = some (.lst ((List.replicate i true).map V.bl))) ⟨Same.new hD, upd_same⟩ ?_ ?_
    · rintro i H1 hi ⟨hs1, hl⟩
      refine ⟨rfl, yesT ?_⟩
      refine ⟨_, rfl, _, rfl, s, ns, _, rfl, hs1.seq hs, hz, by omega, by omega, fun p H2 hs2 np hp2 => ?_⟩
      refine ⟨p, rfl, hp2, fun H3 k3 => ?_⟩
      have nDp : D ≠ p := by
        rintro rfl
        rw [hl] at np
        cases np
      have hs13 : Same H1 H3 := fun b o e => Ext.keep k3 (hs2 _ _ e) (by rintro rfl; rw [np] at e; cases e)
      refine ⟨_, hs13 _ _ hl, ?_, Same.mut (hs1.trans hs13) hD, ?_⟩
      · rw [List.length_map, List.length_replicate]
        exact Nat.lt_of_lt_of_le (show i < 1000 by omega) (by decide)
      · rw [upd_same, List.replicate_succ', List.map_append]
        rfl
    · rintro H1 ⟨hs1, hl⟩
      refine ⟨D, _, rfl, SqL.of hl, ?_⟩
      have e : ∀ n, (List.replicate n true).all id = true := by
        intro n
        rw [List.all_eq_true]
        intro x hx
        exact (List.mem_replicate.mp hx).2
      rw [e]
      exact q H1
end
theorem all_mk {l : PySem.W.OpenLaw} {w : World} {K : PySem.W.Frag} {h : Heap} {mg : Str → Option Value} {fa : Addr} (X : K.In h) (G : h.Ns mainGlobals mg) (hfa : mg "law" = some (.ref fa))
    {c_Sender c_Memory c_Answer f_is_integer f_is_number f_check_number f_is_block f_a_init t_a_init t_empty f_a_number p_number f_a_blocks p_blocks f_is_next_block f_condition_in f_row_in f_condition_holds f_holes_below f_named_by f_asked_by f_check_rows f_check_answers f_s_init t_s_init f_s_begin f_s_plan f_s_hear f_s_close f_m_init f_m_after f_l_purse f_l_draw f_l_condition f_l_deed f_l_row f_l_sender f_l_line f_l_lines f_l_made_sender f_l_blocks f_l_answer f_l_answers f_l_made_answers f_l_top f_l_twins f_l_kept f_l_right f_law t_CONDITIONS t_DEEDS : Addr}
    {od_is_integer od_is_number od_check_number od_is_block od_a_init od_a_number od_a_blocks od_is_next_block od_condition_in od_row_in od_condition_holds od_holes_below od_named_by od_asked_by od_check_rows od_check_answers od_s_init od_s_begin od_s_plan od_s_hear od_s_close od_m_init od_m_after od_l_purse od_l_draw od_l_condition od_l_deed od_l_row od_l_sender od_l_line od_l_lines od_l_made_sender od_l_blocks od_l_answer od_l_answers od_l_made_answers od_l_top od_l_twins od_l_kept od_l_right od_law an_is_integer an_is_number an_check_number an_is_block an_a_init an_a_number an_a_blocks an_is_next_block an_condition_in an_row_in an_condition_holds an_holes_below an_named_by an_asked_by an_check_rows an_check_answers an_s_init an_s_begin an_s_plan an_s_hear an_s_close an_m_init an_m_after an_l_purse an_l_draw an_l_condition an_l_deed an_l_row an_l_sender an_l_line an_l_lines an_l_made_sender an_l_blocks an_l_answer an_l_answers an_l_made_answers an_l_top an_l_twins an_l_kept an_l_right an_law otd_a_init otd_s_init otd_CONDITIONS otd_DEEDS : Option Addr}
    {sl_is_integer sl_is_number sl_check_number sl_is_block sl_a_init sl_a_number sl_a_blocks sl_is_next_block sl_condition_in sl_row_in sl_condition_holds sl_holes_below sl_named_by sl_asked_by sl_check_rows sl_check_answers sl_s_init sl_s_begin sl_s_plan sl_s_hear sl_s_close sl_m_init sl_m_after sl_l_purse sl_l_draw sl_l_condition sl_l_deed sl_l_row sl_l_sender sl_l_line sl_l_lines sl_l_made_sender sl_l_blocks sl_l_answer sl_l_answers sl_l_made_answers sl_l_top sl_l_twins sl_l_kept sl_l_right sl_law ots_a_init ots_s_init ots_CONDITIONS ots_DEEDS : Array (Option Value)}
    {oc_is_integer kV_is_integer dc_is_integer pm_is_integer cd_is_integer ct_is_integer oc_is_number kV_is_number dc_is_number pm_is_number cd_is_number ct_is_number oc_check_number kV_check_number dc_check_number pm_check_number cd_check_number ct_check_number oc_is_block kV_is_block dc_is_block pm_is_block cd_is_block ct_is_block oc_a_init kV_a_init dc_a_init pm_a_init cd_a_init ct_a_init oc_a_number kV_a_number dc_a_number pm_a_number cd_a_number ct_a_number oc_a_blocks kV_a_blocks dc_a_blocks pm_a_blocks cd_a_blocks ct_a_blocks oc_is_next_block kV_is_next_block dc_is_next_block pm_is_next_block cd_is_next_block ct_is_next_block oc_condition_in kV_condition_in dc_condition_in pm_condition_in cd_condition_in ct_condition_in oc_row_in kV_row_in dc_row_in pm_row_in cd_row_in ct_row_in oc_condition_holds kV_condition_holds dc_condition_holds pm_condition_holds cd_condition_holds ct_condition_holds oc_holes_below kV_holes_below dc_holes_below pm_holes_below cd_holes_below ct_holes_below oc_named_by kV_named_by dc_named_by pm_named_by cd_named_by ct_named_by oc_asked_by kV_asked_by dc_asked_by pm_asked_by cd_asked_by ct_asked_by oc_check_rows kV_check_rows dc_check_rows pm_check_rows cd_check_rows ct_check_rows oc_check_answers kV_check_answers dc_check_answers pm_check_answers cd_check_answers ct_check_answers oc_s_init kV_s_init dc_s_init pm_s_init cd_s_init ct_s_init oc_s_begin kV_s_begin dc_s_begin pm_s_begin cd_s_begin ct_s_begin oc_s_plan kV_s_plan dc_s_plan pm_s_plan cd_s_plan ct_s_plan oc_s_hear kV_s_hear dc_s_hear pm_s_hear cd_s_hear ct_s_hear oc_s_close kV_s_close dc_s_close pm_s_close cd_s_close ct_s_close oc_m_init kV_m_init dc_m_init pm_m_init cd_m_init ct_m_init oc_m_after kV_m_after dc_m_after pm_m_after cd_m_after ct_m_after oc_l_purse kV_l_purse dc_l_purse pm_l_purse cd_l_purse ct_l_purse oc_l_draw kV_l_draw dc_l_draw pm_l_draw cd_l_draw ct_l_draw oc_l_condition kV_l_condition dc_l_condition pm_l_condition cd_l_condition ct_l_condition oc_l_deed kV_l_deed dc_l_deed pm_l_deed cd_l_deed ct_l_deed oc_l_row kV_l_row dc_l_row pm_l_row cd_l_row ct_l_row oc_l_sender kV_l_sender dc_l_sender pm_l_sender cd_l_sender ct_l_sender oc_l_line kV_l_line dc_l_line pm_l_line cd_l_line ct_l_line oc_l_lines kV_l_lines dc_l_lines pm_l_lines cd_l_lines ct_l_lines oc_l_made_sender kV_l_made_sender dc_l_made_sender pm_l_made_sender cd_l_made_sender ct_l_made_sender oc_l_blocks kV_l_blocks dc_l_blocks pm_l_blocks cd_l_blocks ct_l_blocks oc_l_answer kV_l_answer dc_l_answer pm_l_answer cd_l_answer ct_l_answer oc_l_answers kV_l_answers dc_l_answers pm_l_answers cd_l_answers ct_l_answers oc_l_made_answers kV_l_made_answers dc_l_made_answers pm_l_made_answers cd_l_made_answers ct_l_made_answers oc_l_top kV_l_top dc_l_top pm_l_top cd_l_top ct_l_top oc_l_twins kV_l_twins dc_l_twins pm_l_twins cd_l_twins ct_l_twins oc_l_kept kV_l_kept dc_l_kept pm_l_kept cd_l_kept ct_l_kept oc_l_right kV_l_right dc_l_right pm_l_right cd_l_right ct_l_right oc_law kV_law dc_law pm_law cd_law ct_law otc_a_init otc_s_init : Value}
    {otn_a_init otn_s_init otn_CONDITIONS otn_DEEDS : Nat}
    {tkc_MOST_SELECTORS tkc_MOST_WINDOW tkc_MOST_ROWS tkc_MOST_PARTS tkc_MOST_ANSWERS tkCONDITIONS0 tkCONDITIONS1 tkCONDITIONS2 tkCONDITIONS3 tkCONDITIONS4 tkCONDITIONS5 tkCONDITIONS6 tkDEEDS0 tkDEEDS1 tkDEEDS2 tkDEEDS3 tkDEEDS4 tkDEEDS5 tkDEEDS6 tkDEEDS7 : Tok}
    {r_a_number r_a_blocks : List Value}
    (aC_Sender : PySem.W.nsIn K mainGlobals "Sender" = some (some (.ref c_Sender)))
    (aC_Memory : PySem.W.nsIn K mainGlobals "Memory" = some (some (.ref c_Memory)))
    (aC_Answer : PySem.W.nsIn K mainGlobals "Answer" = some (some (.ref c_Answer)))
    (a_is_integer : PySem.W.nsIn K mainGlobals "is_integer" = some (some (.ref f_is_integer)))
    (l_is_integer : K.lookup f_is_integer = some ⟨oc_is_integer, od_is_integer, .func (PySem.W.fnOf "is_integer" "is_integer" (defArgs s_is_integer) (defBody s_is_integer) (defScope s_is_integer) .none kV_is_integer dc_is_integer pm_is_integer an_is_integer cd_is_integer ct_is_integer), sl_is_integer⟩)
    (co_is_integer : PySem.W.codeIn K cd_is_integer "is_integer" = true)
    (k_is_integer : PySem.W.keepIn K (.ref f_is_integer) = true)
    (a_is_number : PySem.W.nsIn K mainGlobals "is_number" = some (some (.ref f_is_number)))
    (l_is_number : K.lookup f_is_number = some ⟨oc_is_number, od_is_number, .func (PySem.W.fnOf "is_number" "is_number" (defArgs s_is_number) (defBody s_is_number) (defScope s_is_number) .none kV_is_number dc_is_number pm_is_number an_is_number cd_is_number ct_is_number), sl_is_number⟩)
    (co_is_number : PySem.W.codeIn K cd_is_number "is_number" = true)
    (k_is_number : PySem.W.keepIn K (.ref f_is_number) = true)
    (a_check_number : PySem.W.nsIn K mainGlobals "check_number" = some (some (.ref f_check_number)))
    (l_check_number : K.lookup f_check_number = some ⟨oc_check_number, od_check_number, .func (PySem.W.fnOf "check_number" "check_number" (defArgs s_check_number) (defBody s_check_number) (defScope s_check_number) .none kV_check_number dc_check_number pm_check_number an_check_number cd_check_number ct_check_number), sl_check_number⟩)
    (co_check_number : PySem.W.codeIn K cd_check_number "check_number" = true)
    (k_check_number : PySem.W.keepIn K (.ref f_check_number) = true)
    (a_is_block : PySem.W.nsIn K mainGlobals "is_block" = some (some (.ref f_is_block)))
    (l_is_block : K.lookup f_is_block = some ⟨oc_is_block, od_is_block, .func (PySem.W.fnOf "is_block" "is_block" (defArgs s_is_block) (defBody s_is_block) (defScope s_is_block) .none kV_is_block dc_is_block pm_is_block an_is_block cd_is_block ct_is_block), sl_is_block⟩)
    (co_is_block : PySem.W.codeIn K cd_is_block "is_block" = true)
    (k_is_block : PySem.W.keepIn K (.ref f_is_block) = true)
    (a_a_init : PySem.W.findIn K (.ref c_Answer) "__init__" = some (some (.ref f_a_init)))
    (i_a_init : PySem.W.isFn K (.ref f_a_init) = true)
    (l_a_init : K.lookup f_a_init = some ⟨oc_a_init, od_a_init, .func (PySem.W.fnOf "__init__" "Answer.__init__" (defArgs s_a_init) (defBody s_a_init) (defScope s_a_init) (.ref t_a_init) kV_a_init dc_a_init pm_a_init an_a_init cd_a_init ct_a_init), sl_a_init⟩)
    (co_a_init : PySem.W.codeIn K cd_a_init "Answer.__init__" = true)
    (k_a_init : PySem.W.keepIn K (.ref f_a_init) = true)
    (lt_a_init : K.lookup t_a_init = some ⟨otc_a_init, otd_a_init, .seq #[.ref t_empty] otn_a_init, ots_a_init⟩)
    (pa_a_number : PySem.W.findIn K (.ref c_Answer) "number" = some (some (.ref p_number)))
    (pg_a_number : PySem.W.specialIn K (.ref p_number) "__get__" = some (some (.builtin "property.__get__")))
    (pt_a_number : PySem.W.takesIn K (.ref p_number) = some true)
    (pr_a_number : PySem.W.recIn K p_number "property" = some (.ref f_a_number :: r_a_number))
    (l_a_number : K.lookup f_a_number = some ⟨oc_a_number, od_a_number, .func (PySem.W.fnOf "number" "Answer.number" (defArgs s_a_number) (defBody s_a_number) (defScope s_a_number) .none kV_a_number dc_a_number pm_a_number an_a_number cd_a_number ct_a_number), sl_a_number⟩)
    (co_a_number : PySem.W.codeIn K cd_a_number "Answer.number" = true)
    (k_a_number : PySem.W.keepIn K (.ref f_a_number) = true)
    (pa_a_blocks : PySem.W.findIn K (.ref c_Answer) "blocks" = some (some (.ref p_blocks)))
    (pg_a_blocks : PySem.W.specialIn K (.ref p_blocks) "__get__" = some (some (.builtin "property.__get__")))
    (pt_a_blocks : PySem.W.takesIn K (.ref p_blocks) = some true)
    (pr_a_blocks : PySem.W.recIn K p_blocks "property" = some (.ref f_a_blocks :: r_a_blocks))
    (l_a_blocks : K.lookup f_a_blocks = some ⟨oc_a_blocks, od_a_blocks, .func (PySem.W.fnOf "blocks" "Answer.blocks" (defArgs s_a_blocks) (defBody s_a_blocks) (defScope s_a_blocks) .none kV_a_blocks dc_a_blocks pm_a_blocks an_a_blocks cd_a_blocks ct_a_blocks), sl_a_blocks⟩)
    (co_a_blocks : PySem.W.codeIn K cd_a_blocks "Answer.blocks" = true)
    (k_a_blocks : PySem.W.keepIn K (.ref f_a_blocks) = true)
    (a_is_next_block : PySem.W.nsIn K mainGlobals "is_next_block" = some (some (.ref f_is_next_block)))
    (l_is_next_block : K.lookup f_is_next_block = some ⟨oc_is_next_block, od_is_next_block, .func (PySem.W.fnOf "is_next_block" "is_next_block" (defArgs s_is_next_block) (defBody s_is_next_block) (defScope s_is_next_block) .none kV_is_next_block dc_is_next_block pm_is_next_block an_is_next_block cd_is_next_block ct_is_next_block), sl_is_next_block⟩)
    (co_is_next_block : PySem.W.codeIn K cd_is_next_block "is_next_block" = true)
    (k_is_next_block : PySem.W.keepIn K (.ref f_is_next_block) = true)
    (a_condition_in : PySem.W.nsIn K mainGlobals "condition_in" = some (some (.ref f_condition_in)))
    (l_condition_in : K.lookup f_condition_in = some ⟨oc_condition_in, od_condition_in, .func (PySem.W.fnOf "condition_in" "condition_in" (defArgs s_condition_in) (defBody s_condition_in) (defScope s_condition_in) .none kV_condition_in dc_condition_in pm_condition_in an_condition_in cd_condition_in ct_condition_in), sl_condition_in⟩)
    (co_condition_in : PySem.W.codeIn K cd_condition_in "condition_in" = true)
    (k_condition_in : PySem.W.keepIn K (.ref f_condition_in) = true)
    (a_row_in : PySem.W.nsIn K mainGlobals "row_in" = some (some (.ref f_row_in)))
    (l_row_in : K.lookup f_row_in = some ⟨oc_row_in, od_row_in, .func (PySem.W.fnOf "row_in" "row_in" (defArgs s_row_in) (defBody s_row_in) (defScope s_row_in) .none kV_row_in dc_row_in pm_row_in an_row_in cd_row_in ct_row_in), sl_row_in⟩)
    (co_row_in : PySem.W.codeIn K cd_row_in "row_in" = true)
    (k_row_in : PySem.W.keepIn K (.ref f_row_in) = true)
    (a_condition_holds : PySem.W.nsIn K mainGlobals "condition_holds" = some (some (.ref f_condition_holds)))
    (l_condition_holds : K.lookup f_condition_holds = some ⟨oc_condition_holds, od_condition_holds, .func (PySem.W.fnOf "condition_holds" "condition_holds" (defArgs s_condition_holds) (defBody s_condition_holds) (defScope s_condition_holds) .none kV_condition_holds dc_condition_holds pm_condition_holds an_condition_holds cd_condition_holds ct_condition_holds), sl_condition_holds⟩)
    (co_condition_holds : PySem.W.codeIn K cd_condition_holds "condition_holds" = true)
    (k_condition_holds : PySem.W.keepIn K (.ref f_condition_holds) = true)
    (a_holes_below : PySem.W.nsIn K mainGlobals "holes_below" = some (some (.ref f_holes_below)))
    (l_holes_below : K.lookup f_holes_below = some ⟨oc_holes_below, od_holes_below, .func (PySem.W.fnOf "holes_below" "holes_below" (defArgs s_holes_below) (defBody s_holes_below) (defScope s_holes_below) .none kV_holes_below dc_holes_below pm_holes_below an_holes_below cd_holes_below ct_holes_below), sl_holes_below⟩)
    (co_holes_below : PySem.W.codeIn K cd_holes_below "holes_below" = true)
    (k_holes_below : PySem.W.keepIn K (.ref f_holes_below) = true)
    (a_named_by : PySem.W.nsIn K mainGlobals "named_by" = some (some (.ref f_named_by)))
    (l_named_by : K.lookup f_named_by = some ⟨oc_named_by, od_named_by, .func (PySem.W.fnOf "named_by" "named_by" (defArgs s_named_by) (defBody s_named_by) (defScope s_named_by) .none kV_named_by dc_named_by pm_named_by an_named_by cd_named_by ct_named_by), sl_named_by⟩)
    (co_named_by : PySem.W.codeIn K cd_named_by "named_by" = true)
    (k_named_by : PySem.W.keepIn K (.ref f_named_by) = true)
    (a_asked_by : PySem.W.nsIn K mainGlobals "asked_by" = some (some (.ref f_asked_by)))
    (l_asked_by : K.lookup f_asked_by = some ⟨oc_asked_by, od_asked_by, .func (PySem.W.fnOf "asked_by" "asked_by" (defArgs s_asked_by) (defBody s_asked_by) (defScope s_asked_by) .none kV_asked_by dc_asked_by pm_asked_by an_asked_by cd_asked_by ct_asked_by), sl_asked_by⟩)
    (co_asked_by : PySem.W.codeIn K cd_asked_by "asked_by" = true)
    (k_asked_by : PySem.W.keepIn K (.ref f_asked_by) = true)
    (a_check_rows : PySem.W.nsIn K mainGlobals "check_rows" = some (some (.ref f_check_rows)))
    (l_check_rows : K.lookup f_check_rows = some ⟨oc_check_rows, od_check_rows, .func (PySem.W.fnOf "check_rows" "check_rows" (defArgs s_check_rows) (defBody s_check_rows) (defScope s_check_rows) .none kV_check_rows dc_check_rows pm_check_rows an_check_rows cd_check_rows ct_check_rows), sl_check_rows⟩)
    (co_check_rows : PySem.W.codeIn K cd_check_rows "check_rows" = true)
    (k_check_rows : PySem.W.keepIn K (.ref f_check_rows) = true)
    (a_check_answers : PySem.W.nsIn K mainGlobals "check_answers" = some (some (.ref f_check_answers)))
    (l_check_answers : K.lookup f_check_answers = some ⟨oc_check_answers, od_check_answers, .func (PySem.W.fnOf "check_answers" "check_answers" (defArgs s_check_answers) (defBody s_check_answers) (defScope s_check_answers) .none kV_check_answers dc_check_answers pm_check_answers an_check_answers cd_check_answers ct_check_answers), sl_check_answers⟩)
    (co_check_answers : PySem.W.codeIn K cd_check_answers "check_answers" = true)
    (k_check_answers : PySem.W.keepIn K (.ref f_check_answers) = true)
    (a_s_init : PySem.W.findIn K (.ref c_Sender) "__init__" = some (some (.ref f_s_init)))
    (i_s_init : PySem.W.isFn K (.ref f_s_init) = true)
    (l_s_init : K.lookup f_s_init = some ⟨oc_s_init, od_s_init, .func (PySem.W.fnOf "__init__" "Sender.__init__" (defArgs s_s_init) (defBody s_s_init) (defScope s_s_init) (.ref t_s_init) kV_s_init dc_s_init pm_s_init an_s_init cd_s_init ct_s_init), sl_s_init⟩)
    (co_s_init : PySem.W.codeIn K cd_s_init "Sender.__init__" = true)
    (k_s_init : PySem.W.keepIn K (.ref f_s_init) = true)
    (lt_s_init : K.lookup t_s_init = some ⟨otc_s_init, otd_s_init, .seq #[.bool false] otn_s_init, ots_s_init⟩)
    (a_s_begin : PySem.W.findIn K (.ref c_Sender) "begin" = some (some (.ref f_s_begin)))
    (i_s_begin : PySem.W.isFn K (.ref f_s_begin) = true)
    (l_s_begin : K.lookup f_s_begin = some ⟨oc_s_begin, od_s_begin, .func (PySem.W.fnOf "begin" "Sender.begin" (defArgs s_s_begin) (defBody s_s_begin) (defScope s_s_begin) .none kV_s_begin dc_s_begin pm_s_begin an_s_begin cd_s_begin ct_s_begin), sl_s_begin⟩)
    (co_s_begin : PySem.W.codeIn K cd_s_begin "Sender.begin" = true)
    (k_s_begin : PySem.W.keepIn K (.ref f_s_begin) = true)
    (a_s_plan : PySem.W.findIn K (.ref c_Sender) "plan" = some (some (.ref f_s_plan)))
    (i_s_plan : PySem.W.isFn K (.ref f_s_plan) = true)
    (l_s_plan : K.lookup f_s_plan = some ⟨oc_s_plan, od_s_plan, .func (PySem.W.fnOf "plan" "Sender.plan" (defArgs s_s_plan) (defBody s_s_plan) (defScope s_s_plan) .none kV_s_plan dc_s_plan pm_s_plan an_s_plan cd_s_plan ct_s_plan), sl_s_plan⟩)
    (co_s_plan : PySem.W.codeIn K cd_s_plan "Sender.plan" = true)
    (k_s_plan : PySem.W.keepIn K (.ref f_s_plan) = true)
    (a_s_hear : PySem.W.findIn K (.ref c_Sender) "hear" = some (some (.ref f_s_hear)))
    (i_s_hear : PySem.W.isFn K (.ref f_s_hear) = true)
    (l_s_hear : K.lookup f_s_hear = some ⟨oc_s_hear, od_s_hear, .func (PySem.W.fnOf "hear" "Sender.hear" (defArgs s_s_hear) (defBody s_s_hear) (defScope s_s_hear) .none kV_s_hear dc_s_hear pm_s_hear an_s_hear cd_s_hear ct_s_hear), sl_s_hear⟩)
    (co_s_hear : PySem.W.codeIn K cd_s_hear "Sender.hear" = true)
    (k_s_hear : PySem.W.keepIn K (.ref f_s_hear) = true)
    (a_s_close : PySem.W.findIn K (.ref c_Sender) "close" = some (some (.ref f_s_close)))
    (i_s_close : PySem.W.isFn K (.ref f_s_close) = true)
    (l_s_close : K.lookup f_s_close = some ⟨oc_s_close, od_s_close, .func (PySem.W.fnOf "close" "Sender.close" (defArgs s_s_close) (defBody s_s_close) (defScope s_s_close) .none kV_s_close dc_s_close pm_s_close an_s_close cd_s_close ct_s_close), sl_s_close⟩)
    (co_s_close : PySem.W.codeIn K cd_s_close "Sender.close" = true)
    (k_s_close : PySem.W.keepIn K (.ref f_s_close) = true)
    (a_m_init : PySem.W.findIn K (.ref c_Memory) "__init__" = some (some (.ref f_m_init)))
    (i_m_init : PySem.W.isFn K (.ref f_m_init) = true)
    (l_m_init : K.lookup f_m_init = some ⟨oc_m_init, od_m_init, .func (PySem.W.fnOf "__init__" "Memory.__init__" (defArgs s_m_init) (defBody s_m_init) (defScope s_m_init) .none kV_m_init dc_m_init pm_m_init an_m_init cd_m_init ct_m_init), sl_m_init⟩)
    (co_m_init : PySem.W.codeIn K cd_m_init "Memory.__init__" = true)
    (k_m_init : PySem.W.keepIn K (.ref f_m_init) = true)
    (a_m_after : PySem.W.findIn K (.ref c_Memory) "after" = some (some (.ref f_m_after)))
    (i_m_after : PySem.W.isFn K (.ref f_m_after) = true)
    (l_m_after : K.lookup f_m_after = some ⟨oc_m_after, od_m_after, .func (PySem.W.fnOf "after" "Memory.after" (defArgs s_m_after) (defBody s_m_after) (defScope s_m_after) .none kV_m_after dc_m_after pm_m_after an_m_after cd_m_after ct_m_after), sl_m_after⟩)
    (co_m_after : PySem.W.codeIn K cd_m_after "Memory.after" = true)
    (k_m_after : PySem.W.keepIn K (.ref f_m_after) = true)
    (a_l_purse : PySem.W.nsIn K mainGlobals "_law_purse" = some (some (.ref f_l_purse)))
    (l_l_purse : K.lookup f_l_purse = some ⟨oc_l_purse, od_l_purse, .func (PySem.W.fnOf "_law_purse" "_law_purse" (defArgs s_l_purse) (defBody s_l_purse) (defScope s_l_purse) .none kV_l_purse dc_l_purse pm_l_purse an_l_purse cd_l_purse ct_l_purse), sl_l_purse⟩)
    (co_l_purse : PySem.W.codeIn K cd_l_purse "_law_purse" = true)
    (k_l_purse : PySem.W.keepIn K (.ref f_l_purse) = true)
    (a_l_draw : PySem.W.nsIn K mainGlobals "_law_draw" = some (some (.ref f_l_draw)))
    (l_l_draw : K.lookup f_l_draw = some ⟨oc_l_draw, od_l_draw, .func (PySem.W.fnOf "_law_draw" "_law_draw" (defArgs s_l_draw) (defBody s_l_draw) (defScope s_l_draw) .none kV_l_draw dc_l_draw pm_l_draw an_l_draw cd_l_draw ct_l_draw), sl_l_draw⟩)
    (co_l_draw : PySem.W.codeIn K cd_l_draw "_law_draw" = true)
    (k_l_draw : PySem.W.keepIn K (.ref f_l_draw) = true)
    (a_l_condition : PySem.W.nsIn K mainGlobals "_law_condition" = some (some (.ref f_l_condition)))
    (l_l_condition : K.lookup f_l_condition = some ⟨oc_l_condition, od_l_condition, .func (PySem.W.fnOf "_law_condition" "_law_condition" (defArgs s_l_condition) (defBody s_l_condition) (defScope s_l_condition) .none kV_l_condition dc_l_condition pm_l_condition an_l_condition cd_l_condition ct_l_condition), sl_l_condition⟩)
    (co_l_condition : PySem.W.codeIn K cd_l_condition "_law_condition" = true)
    (k_l_condition : PySem.W.keepIn K (.ref f_l_condition) = true)
    (a_l_deed : PySem.W.nsIn K mainGlobals "_law_deed" = some (some (.ref f_l_deed)))
    (l_l_deed : K.lookup f_l_deed = some ⟨oc_l_deed, od_l_deed, .func (PySem.W.fnOf "_law_deed" "_law_deed" (defArgs s_l_deed) (defBody s_l_deed) (defScope s_l_deed) .none kV_l_deed dc_l_deed pm_l_deed an_l_deed cd_l_deed ct_l_deed), sl_l_deed⟩)
    (co_l_deed : PySem.W.codeIn K cd_l_deed "_law_deed" = true)
    (k_l_deed : PySem.W.keepIn K (.ref f_l_deed) = true)
    (a_l_row : PySem.W.nsIn K mainGlobals "_law_row" = some (some (.ref f_l_row)))
    (l_l_row : K.lookup f_l_row = some ⟨oc_l_row, od_l_row, .func (PySem.W.fnOf "_law_row" "_law_row" (defArgs s_l_row) (defBody s_l_row) (defScope s_l_row) .none kV_l_row dc_l_row pm_l_row an_l_row cd_l_row ct_l_row), sl_l_row⟩)
    (co_l_row : PySem.W.codeIn K cd_l_row "_law_row" = true)
    (k_l_row : PySem.W.keepIn K (.ref f_l_row) = true)
    (a_l_sender : PySem.W.nsIn K mainGlobals "_law_sender" = some (some (.ref f_l_sender)))
    (l_l_sender : K.lookup f_l_sender = some ⟨oc_l_sender, od_l_sender, .func (PySem.W.fnOf "_law_sender" "_law_sender" (defArgs s_l_sender) (defBody s_l_sender) (defScope s_l_sender) .none kV_l_sender dc_l_sender pm_l_sender an_l_sender cd_l_sender ct_l_sender), sl_l_sender⟩)
    (co_l_sender : PySem.W.codeIn K cd_l_sender "_law_sender" = true)
    (k_l_sender : PySem.W.keepIn K (.ref f_l_sender) = true)
    (a_l_line : PySem.W.nsIn K mainGlobals "_law_line" = some (some (.ref f_l_line)))
    (l_l_line : K.lookup f_l_line = some ⟨oc_l_line, od_l_line, .func (PySem.W.fnOf "_law_line" "_law_line" (defArgs s_l_line) (defBody s_l_line) (defScope s_l_line) .none kV_l_line dc_l_line pm_l_line an_l_line cd_l_line ct_l_line), sl_l_line⟩)
    (co_l_line : PySem.W.codeIn K cd_l_line "_law_line" = true)
    (k_l_line : PySem.W.keepIn K (.ref f_l_line) = true)
    (a_l_lines : PySem.W.nsIn K mainGlobals "_law_lines" = some (some (.ref f_l_lines)))
    (l_l_lines : K.lookup f_l_lines = some ⟨oc_l_lines, od_l_lines, .func (PySem.W.fnOf "_law_lines" "_law_lines" (defArgs s_l_lines) (defBody s_l_lines) (defScope s_l_lines) .none kV_l_lines dc_l_lines pm_l_lines an_l_lines cd_l_lines ct_l_lines), sl_l_lines⟩)
    (co_l_lines : PySem.W.codeIn K cd_l_lines "_law_lines" = true)
    (k_l_lines : PySem.W.keepIn K (.ref f_l_lines) = true)
    (a_l_made_sender : PySem.W.nsIn K mainGlobals "_law_made_sender" = some (some (.ref f_l_made_sender)))
    (l_l_made_sender : K.lookup f_l_made_sender = some ⟨oc_l_made_sender, od_l_made_sender, .func (PySem.W.fnOf "_law_made_sender" "_law_made_sender" (defArgs s_l_made_sender) (defBody s_l_made_sender) (defScope s_l_made_sender) .none kV_l_made_sender dc_l_made_sender pm_l_made_sender an_l_made_sender cd_l_made_sender ct_l_made_sender), sl_l_made_sender⟩)
    (co_l_made_sender : PySem.W.codeIn K cd_l_made_sender "_law_made_sender" = true)
    (k_l_made_sender : PySem.W.keepIn K (.ref f_l_made_sender) = true)
    (a_l_blocks : PySem.W.nsIn K mainGlobals "_law_blocks" = some (some (.ref f_l_blocks)))
    (l_l_blocks : K.lookup f_l_blocks = some ⟨oc_l_blocks, od_l_blocks, .func (PySem.W.fnOf "_law_blocks" "_law_blocks" (defArgs s_l_blocks) (defBody s_l_blocks) (defScope s_l_blocks) .none kV_l_blocks dc_l_blocks pm_l_blocks an_l_blocks cd_l_blocks ct_l_blocks), sl_l_blocks⟩)
    (co_l_blocks : PySem.W.codeIn K cd_l_blocks "_law_blocks" = true)
    (k_l_blocks : PySem.W.keepIn K (.ref f_l_blocks) = true)
    (a_l_answer : PySem.W.nsIn K mainGlobals "_law_answer" = some (some (.ref f_l_answer)))
    (l_l_answer : K.lookup f_l_answer = some ⟨oc_l_answer, od_l_answer, .func (PySem.W.fnOf "_law_answer" "_law_answer" (defArgs s_l_answer) (defBody s_l_answer) (defScope s_l_answer) .none kV_l_answer dc_l_answer pm_l_answer an_l_answer cd_l_answer ct_l_answer), sl_l_answer⟩)
    (co_l_answer : PySem.W.codeIn K cd_l_answer "_law_answer" = true)
    (k_l_answer : PySem.W.keepIn K (.ref f_l_answer) = true)
    (a_l_answers : PySem.W.nsIn K mainGlobals "_law_answers" = some (some (.ref f_l_answers)))
    (l_l_answers : K.lookup f_l_answers = some ⟨oc_l_answers, od_l_answers, .func (PySem.W.fnOf "_law_answers" "_law_answers" (defArgs s_l_answers) (defBody s_l_answers) (defScope s_l_answers) .none kV_l_answers dc_l_answers pm_l_answers an_l_answers cd_l_answers ct_l_answers), sl_l_answers⟩)
    (co_l_answers : PySem.W.codeIn K cd_l_answers "_law_answers" = true)
    (k_l_answers : PySem.W.keepIn K (.ref f_l_answers) = true)
    (a_l_made_answers : PySem.W.nsIn K mainGlobals "_law_made_answers" = some (some (.ref f_l_made_answers)))
    (l_l_made_answers : K.lookup f_l_made_answers = some ⟨oc_l_made_answers, od_l_made_answers, .func (PySem.W.fnOf "_law_made_answers" "_law_made_answers" (defArgs s_l_made_answers) (defBody s_l_made_answers) (defScope s_l_made_answers) .none kV_l_made_answers dc_l_made_answers pm_l_made_answers an_l_made_answers cd_l_made_answers ct_l_made_answers), sl_l_made_answers⟩)
    (co_l_made_answers : PySem.W.codeIn K cd_l_made_answers "_law_made_answers" = true)
    (k_l_made_answers : PySem.W.keepIn K (.ref f_l_made_answers) = true)
    (a_l_top : PySem.W.nsIn K mainGlobals "_law_top" = some (some (.ref f_l_top)))
    (l_l_top : K.lookup f_l_top = some ⟨oc_l_top, od_l_top, .func (PySem.W.fnOf "_law_top" "_law_top" (defArgs s_l_top) (defBody s_l_top) (defScope s_l_top) .none kV_l_top dc_l_top pm_l_top an_l_top cd_l_top ct_l_top), sl_l_top⟩)
    (co_l_top : PySem.W.codeIn K cd_l_top "_law_top" = true)
    (k_l_top : PySem.W.keepIn K (.ref f_l_top) = true)
    (a_l_twins : PySem.W.nsIn K mainGlobals "_law_twins" = some (some (.ref f_l_twins)))
    (l_l_twins : K.lookup f_l_twins = some ⟨oc_l_twins, od_l_twins, .func (PySem.W.fnOf "_law_twins" "_law_twins" (defArgs s_l_twins) (defBody s_l_twins) (defScope s_l_twins) .none kV_l_twins dc_l_twins pm_l_twins an_l_twins cd_l_twins ct_l_twins), sl_l_twins⟩)
    (co_l_twins : PySem.W.codeIn K cd_l_twins "_law_twins" = true)
    (k_l_twins : PySem.W.keepIn K (.ref f_l_twins) = true)
    (a_l_kept : PySem.W.nsIn K mainGlobals "_law_kept" = some (some (.ref f_l_kept)))
    (l_l_kept : K.lookup f_l_kept = some ⟨oc_l_kept, od_l_kept, .func (PySem.W.fnOf "_law_kept" "_law_kept" (defArgs s_l_kept) (defBody s_l_kept) (defScope s_l_kept) .none kV_l_kept dc_l_kept pm_l_kept an_l_kept cd_l_kept ct_l_kept), sl_l_kept⟩)
    (co_l_kept : PySem.W.codeIn K cd_l_kept "_law_kept" = true)
    (k_l_kept : PySem.W.keepIn K (.ref f_l_kept) = true)
    (a_l_right : PySem.W.nsIn K mainGlobals "_law_right" = some (some (.ref f_l_right)))
    (l_l_right : K.lookup f_l_right = some ⟨oc_l_right, od_l_right, .func (PySem.W.fnOf "_law_right" "_law_right" (defArgs s_l_right) (defBody s_l_right) (defScope s_l_right) .none kV_l_right dc_l_right pm_l_right an_l_right cd_l_right ct_l_right), sl_l_right⟩)
    (co_l_right : PySem.W.codeIn K cd_l_right "_law_right" = true)
    (k_l_right : PySem.W.keepIn K (.ref f_l_right) = true)
    (a_law : PySem.W.nsIn K mainGlobals "law" = some (some (.ref f_law)))
    (l_law : K.lookup f_law = some ⟨oc_law, od_law, .func (PySem.W.fnOf "law" "law" (defArgs s_law) (defBody s_law) (defScope s_law) .none kV_law dc_law pm_law an_law cd_law ct_law), sl_law⟩)
    (co_law : PySem.W.codeIn K cd_law "law" = true)
    (k_law : PySem.W.keepIn K (.ref f_law) = true)
    (n_isinstance : PySem.W.nsIn K mainGlobals "isinstance" = some none)
    (n_int : PySem.W.nsIn K mainGlobals "int" = some none)
    (n_bool : PySem.W.nsIn K mainGlobals "bool" = some none)
    (n_tuple : PySem.W.nsIn K mainGlobals "tuple" = some none)
    (n_str : PySem.W.nsIn K mainGlobals "str" = some none)
    (n_len : PySem.W.nsIn K mainGlobals "len" = some none)
    (n_list : PySem.W.nsIn K mainGlobals "list" = some none)
    (n_range : PySem.W.nsIn K mainGlobals "range" = some none)
    (n_enumerate : PySem.W.nsIn K mainGlobals "enumerate" = some none)
    (n_all : PySem.W.nsIn K mainGlobals "all" = some none)
    (n_any : PySem.W.nsIn K mainGlobals "any" = some none)
    (n_min : PySem.W.nsIn K mainGlobals "min" = some none)
    (n_max : PySem.W.nsIn K mainGlobals "max" = some none)
    (n_abs : PySem.W.nsIn K mainGlobals "abs" = some none)
    (n_divmod : PySem.W.nsIn K mainGlobals "divmod" = some none)
    (n_repr : PySem.W.nsIn K mainGlobals "repr" = some none)
    (c_MOST_SELECTORS : PySem.W.nsIn K mainGlobals "MOST_SELECTORS" = some (some (.int 3 tkc_MOST_SELECTORS)))
    (c_MOST_WINDOW : PySem.W.nsIn K mainGlobals "MOST_WINDOW" = some (some (.int 4 tkc_MOST_WINDOW)))
    (c_MOST_ROWS : PySem.W.nsIn K mainGlobals "MOST_ROWS" = some (some (.int 8 tkc_MOST_ROWS)))
    (c_MOST_PARTS : PySem.W.nsIn K mainGlobals "MOST_PARTS" = some (some (.int 3 tkc_MOST_PARTS)))
    (c_MOST_ANSWERS : PySem.W.nsIn K mainGlobals "MOST_ANSWERS" = some (some (.int 5 tkc_MOST_ANSWERS)))
    (c_CONDITIONS : PySem.W.nsIn K mainGlobals "CONDITIONS" = some (some (.ref t_CONDITIONS)))
    (q_CONDITIONS : K.lookup t_CONDITIONS = some ⟨.type "tuple", otd_CONDITIONS, .seq #[.str "silent" tkCONDITIONS0, .str "still 1" tkCONDITIONS1, .str "still 2" tkCONDITIONS2, .str "doubt" tkCONDITIONS3, .str "holes" tkCONDITIONS4, .str "marked" tkCONDITIONS5, .str "open" tkCONDITIONS6] otn_CONDITIONS, ots_CONDITIONS⟩)
    (c_DEEDS : PySem.W.nsIn K mainGlobals "DEEDS" = some (some (.ref t_DEEDS)))
    (q_DEEDS : K.lookup t_DEEDS = some ⟨.type "tuple", otd_DEEDS, .seq #[.str "clear" tkDEEDS0, .str "free" tkDEEDS1, .str "again first" tkDEEDS2, .str "again holes" tkDEEDS3, .str "again unmarked" tkDEEDS4, .str "again all" tkDEEDS5, .str "new" tkDEEDS6, .str "one" tkDEEDS7] otn_DEEDS, ots_DEEDS⟩)
    (pgt_Sender : PySem.W.plainGet K c_Sender Str.empty = true)
    (hd_Sender : PySem.W.hasDictIn K c_Sender = true)
    (po_Sender : PySem.W.plainOver K c_Sender = true)
    (sa_Sender : PySem.W.findIn K (.ref c_Sender) "__setattr__" = some (some (.builtin "object.__setattr__")))
    (mks_Sender : PySem.W.makesIn K c_Sender = true)
    (kc_Sender : PySem.W.keepIn K (.ref c_Sender) = true)
    (na_Sender_window : PySem.W.findIn K (.ref c_Sender) "window" = some none)
    (na_Sender_rows : PySem.W.findIn K (.ref c_Sender) "rows" = some none)
    (na_Sender_marks_last : PySem.W.findIn K (.ref c_Sender) "marks_last" = some none)
    (na_Sender_program : PySem.W.findIn K (.ref c_Sender) "program" = some none)
    (na_Sender_asks_silent : PySem.W.findIn K (.ref c_Sender) "asks_silent" = some none)
    (na_Sender_asks_still : PySem.W.findIn K (.ref c_Sender) "asks_still" = some none)
    (pgt_Memory : PySem.W.plainGet K c_Memory Str.empty = true)
    (hd_Memory : PySem.W.hasDictIn K c_Memory = true)
    (po_Memory : PySem.W.plainOver K c_Memory = true)
    (sa_Memory : PySem.W.findIn K (.ref c_Memory) "__setattr__" = some (some (.builtin "object.__setattr__")))
    (mks_Memory : PySem.W.makesIn K c_Memory = true)
    (kc_Memory : PySem.W.keepIn K (.ref c_Memory) = true)
    (na_Memory_sender : PySem.W.findIn K (.ref c_Memory) "sender" = some none)
    (na_Memory_state : PySem.W.findIn K (.ref c_Memory) "state" = some none)
    (na_Memory_base : PySem.W.findIn K (.ref c_Memory) "base" = some none)
    (na_Memory_top : PySem.W.findIn K (.ref c_Memory) "top" = some none)
    (na_Memory_marked : PySem.W.findIn K (.ref c_Memory) "marked" = some none)
    (na_Memory_freed : PySem.W.findIn K (.ref c_Memory) "freed" = some none)
    (na_Memory_still : PySem.W.findIn K (.ref c_Memory) "still" = some none)
    (na_Memory_heard : PySem.W.findIn K (.ref c_Memory) "heard" = some none)
    (na_Memory_letters : PySem.W.findIn K (.ref c_Memory) "letters" = some none)
    (pgt_Answer : PySem.W.plainGet K c_Answer Str.empty = true)
    (hd_Answer : PySem.W.hasDictIn K c_Answer = true)
    (po_Answer : PySem.W.plainOver K c_Answer = true)
    (sa_Answer : PySem.W.findIn K (.ref c_Answer) "__setattr__" = some (some (.builtin "object.__setattr__")))
    (mks_Answer : PySem.W.makesIn K c_Answer = true)
    (kc_Answer : PySem.W.keepIn K (.ref c_Answer) = true)
    (na_Answer_told_number : PySem.W.findIn K (.ref c_Answer) "told_number" = some none)
    (na_Answer_told_blocks : PySem.W.findIn K (.ref c_Answer) "told_blocks" = some none)
    (ica_Answer : PySem.W.findIn K (.ref c_Answer) "__class__" = some (some (.builtin "object.__class__")))
    (icn_Answer : PySem.W.specialIn K (.builtin "object.__class__") "__get__" = some (some (.builtin "getset_descriptor.__get__")))
    (ict_Answer : PySem.W.takesIn K (.builtin "object.__class__") = some true)
    (icm_Answer : PySem.W.mroIn K c_Answer (.type "object") = some true)
    (ice_Answer : PySem.W.kitOne K (.ref c_Answer) (.ref c_Answer) = some true)
    :
    ∃ fd : FuncData, (∀ (s : Shared) (v : Value), BindsTo s fd ⟨[v], []⟩ [("_law_script", v)]) ∧ ∀ base : Heap, K.In base → base.Ns mainGlobals mg → FnG l.prog w K mg base 9 fa fd ["_law_script"] (sp_law K) := by
  have e := hfa.symm.trans (PySem.W.mg_of X G a_law)
  cases e
  have F_is_integer := fun_mk (st := s_is_integer) l_is_integer co_is_integer k_is_integer
  have b_is_integer := F_is_integer.binds (ps := ["value"]) fun _ _ _ _ _ _ us hl => match us, hl with | [_], _ => rfl
  have F_is_number := fun_mk (st := s_is_number) l_is_number co_is_number k_is_number
  have b_is_number := F_is_number.binds (ps := ["value"]) fun _ _ _ _ _ _ us hl => match us, hl with | [_], _ => rfl
  have F_check_number := fun_mk (st := s_check_number) l_check_number co_check_number k_check_number
  have b_check_number := F_check_number.binds (ps := ["value"]) fun _ _ _ _ _ _ us hl => match us, hl with | [_], _ => rfl
  have F_is_block := fun_mk (st := s_is_block) l_is_block co_is_block k_is_block
  have b_is_block := F_is_block.binds (ps := ["value"]) fun _ _ _ _ _ _ us hl => match us, hl with | [_], _ => rfl
  have F_a_init : FunD K "__init__" "Answer.__init__" (defArgs s_a_init) (defBody s_a_init) (defScope s_a_init) [V.ref t_empty] [] f_a_init _ := ⟨⟨oc_a_init, od_a_init, .ref t_a_init, kV_a_init, dc_a_init, pm_a_init, an_a_init, cd_a_init, ct_a_init, sl_a_init, rfl, l_a_init, co_a_init, .inr ⟨by simp, t_a_init, _, [.ref t_empty], _, rfl, lt_a_init, rfl, .cons rfl .nil⟩, .inl rfl⟩, k_a_init⟩
  have b_a_init : Binds K (PySem.W.fnOf "__init__" "Answer.__init__" (defArgs s_a_init) (defBody s_a_init) (defScope s_a_init) (.ref t_a_init) kV_a_init dc_a_init pm_a_init an_a_init cd_a_init ct_a_init) ["self", "number", "blocks"] [] := by
    obtain ⟨ds, v, b⟩ := F_a_init.binds1 (ps := ["self", "number", "blocks"]) 3 1 (by simp) rfl fun _ _ _ _ _ _ _ us its hl hi => match us, its, hl, hi with | [_, _, _], [_], _, _ => ⟨_, rfl, rfl⟩
    cases v
    exact b
  have F_a_number := fun_mk (st := s_a_number) l_a_number co_a_number k_a_number
  have b_a_number := F_a_number.binds (ps := ["self"]) fun _ _ _ _ _ _ us hl => match us, hl with | [_], _ => rfl
  have F_a_blocks := fun_mk (st := s_a_blocks) l_a_blocks co_a_blocks k_a_blocks
  have b_a_blocks := F_a_blocks.binds (ps := ["self"]) fun _ _ _ _ _ _ us hl => match us, hl with | [_], _ => rfl
  have F_is_next_block := fun_mk (st := s_is_next_block) l_is_next_block co_is_next_block k_is_next_block
  have b_is_next_block := F_is_next_block.binds (ps := ["number", "ahead", "value"]) fun _ _ _ _ _ _ us hl => match us, hl with | [_, _, _], _ => rfl
  have F_condition_in := fun_mk (st := s_condition_in) l_condition_in co_condition_in k_condition_in
  have b_condition_in := F_condition_in.binds (ps := ["text"]) fun _ _ _ _ _ _ us hl => match us, hl with | [_], _ => rfl
  have F_row_in := fun_mk (st := s_row_in) l_row_in co_row_in k_row_in
  have b_row_in := F_row_in.binds (ps := ["text"]) fun _ _ _ _ _ _ us hl => match us, hl with | [_], _ => rfl
  have F_condition_holds := fun_mk (st := s_condition_holds) l_condition_holds co_condition_holds k_condition_holds
  have b_condition_holds := F_condition_holds.binds (ps := ["word", "base", "top", "marked", "still", "heard"]) fun _ _ _ _ _ _ us hl => match us, hl with | [_, _, _, _, _, _], _ => rfl
  have F_holes_below := fun_mk (st := s_holes_below) l_holes_below co_holes_below k_holes_below
  have b_holes_below := F_holes_below.binds (ps := ["unmarked", "marked"]) fun _ _ _ _ _ _ us hl => match us, hl with | [_, _], _ => rfl
  have F_named_by := fun_mk (st := s_named_by) l_named_by co_named_by k_named_by
  have b_named_by := F_named_by.binds (ps := ["deed", "base", "top", "marked"]) fun _ _ _ _ _ _ us hl => match us, hl with | [_, _, _, _], _ => rfl
  have F_asked_by := fun_mk (st := s_asked_by) l_asked_by co_asked_by k_asked_by
  have b_asked_by := F_asked_by.binds (ps := ["deed", "free"]) fun _ _ _ _ _ _ us hl => match us, hl with | [_, _], _ => rfl
  have F_check_rows := fun_mk (st := s_check_rows) l_check_rows co_check_rows k_check_rows
  have b_check_rows := F_check_rows.binds (ps := ["rows"]) fun _ _ _ _ _ _ us hl => match us, hl with | [_], _ => rfl
  have F_check_answers := fun_mk (st := s_check_answers) l_check_answers co_check_answers k_check_answers
  have b_check_answers := F_check_answers.binds (ps := ["answers", "base", "top"]) fun _ _ _ _ _ _ us hl => match us, hl with | [_, _, _], _ => rfl
  have F_s_init : FunD K "__init__" "Sender.__init__" (defArgs s_s_init) (defBody s_s_init) (defScope s_s_init) [V.bl false] [] f_s_init _ := ⟨⟨oc_s_init, od_s_init, .ref t_s_init, kV_s_init, dc_s_init, pm_s_init, an_s_init, cd_s_init, ct_s_init, sl_s_init, rfl, l_s_init, co_s_init, .inr ⟨by simp, t_s_init, _, [.bool false], _, rfl, lt_s_init, rfl, .cons rfl .nil⟩, .inl rfl⟩, k_s_init⟩
  have b_s_init : Binds K (PySem.W.fnOf "__init__" "Sender.__init__" (defArgs s_s_init) (defBody s_s_init) (defScope s_s_init) (.ref t_s_init) kV_s_init dc_s_init pm_s_init an_s_init cd_s_init ct_s_init) ["self", "window", "rows", "last"] [] := by
    obtain ⟨ds, v, b⟩ := F_s_init.binds1 (ps := ["self", "window", "rows", "last"]) 4 1 (by simp) rfl fun _ _ _ _ _ _ _ us its hl hi => match us, its, hl, hi with | [_, _, _, _], [_], _, _ => ⟨_, rfl, rfl⟩
    cases v
    exact b
  have F_s_begin := fun_mk (st := s_s_begin) l_s_begin co_s_begin k_s_begin
  have b_s_begin := F_s_begin.binds (ps := ["self"]) fun _ _ _ _ _ _ us hl => match us, hl with | [_], _ => rfl
  have F_s_plan := fun_mk (st := s_s_plan) l_s_plan co_s_plan k_s_plan
  have b_s_plan := F_s_plan.binds (ps := ["self", "state"]) fun _ _ _ _ _ _ us hl => match us, hl with | [_, _], _ => rfl
  have F_s_hear := fun_mk (st := s_s_hear) l_s_hear co_s_hear k_s_hear
  have b_s_hear := F_s_hear.binds (ps := ["self", "state", "number", "blocks"]) fun _ _ _ _ _ _ us hl => match us, hl with | [_, _, _, _], _ => rfl
  have F_s_close := fun_mk (st := s_s_close) l_s_close co_s_close k_s_close
  have b_s_close := F_s_close.binds (ps := ["self", "state", "begun"]) fun _ _ _ _ _ _ us hl => match us, hl with | [_, _, _], _ => rfl
  have F_m_init := fun_mk (st := s_m_init) l_m_init co_m_init k_m_init
  have b_m_init := F_m_init.binds (ps := ["self", "sender", "state"]) fun _ _ _ _ _ _ us hl => match us, hl with | [_, _, _], _ => rfl
  have F_m_after := fun_mk (st := s_m_after) l_m_after co_m_after k_m_after
  have b_m_after := F_m_after.binds (ps := ["self", "answers"]) fun _ _ _ _ _ _ us hl => match us, hl with | [_, _], _ => rfl
  have F_l_purse := fun_mk (st := s_l_purse) l_l_purse co_l_purse k_l_purse
  have b_l_purse := F_l_purse.binds (ps := ["_law_script", "_law_k"]) fun _ _ _ _ _ _ us hl => match us, hl with | [_, _], _ => rfl
  have F_l_draw := fun_mk (st := s_l_draw) l_l_draw co_l_draw k_l_draw
  have b_l_draw := F_l_draw.binds (ps := ["_law_purse_here", "_law_many"]) fun _ _ _ _ _ _ us hl => match us, hl with | [_, _], _ => rfl
  have F_l_condition := fun_mk (st := s_l_condition) l_l_condition co_l_condition k_l_condition
  have b_l_condition := F_l_condition.binds (ps := ["_law_purse_here"]) fun _ _ _ _ _ _ us hl => match us, hl with | [_], _ => rfl
  have F_l_deed := fun_mk (st := s_l_deed) l_l_deed co_l_deed k_l_deed
  have b_l_deed := F_l_deed.binds (ps := ["_law_purse_here"]) fun _ _ _ _ _ _ us hl => match us, hl with | [_], _ => rfl
  have F_l_row := fun_mk (st := s_l_row) l_l_row co_l_row k_l_row
  have b_l_row := F_l_row.binds (ps := ["_law_purse_here"]) fun _ _ _ _ _ _ us hl => match us, hl with | [_], _ => rfl
  have F_l_sender := fun_mk (st := s_l_sender) l_l_sender co_l_sender k_l_sender
  have b_l_sender := F_l_sender.binds (ps := ["_law_purse_here", "_law_most"]) fun _ _ _ _ _ _ us hl => match us, hl with | [_, _], _ => rfl
  have F_l_line := fun_mk (st := s_l_line) l_l_line co_l_line k_l_line
  have b_l_line := F_l_line.binds (ps := ["_law_row_here"]) fun _ _ _ _ _ _ us hl => match us, hl with | [_], _ => rfl
  have F_l_lines := fun_mk (st := s_l_lines) l_l_lines co_l_lines k_l_lines
  have b_l_lines := F_l_lines.binds (ps := ["_law_giver"]) fun _ _ _ _ _ _ us hl => match us, hl with | [_], _ => rfl
  have F_l_made_sender := fun_mk (st := s_l_made_sender) l_l_made_sender co_l_made_sender k_l_made_sender
  have b_l_made_sender := F_l_made_sender.binds (ps := ["_law_giver"]) fun _ _ _ _ _ _ us hl => match us, hl with | [_], _ => rfl
  have F_l_blocks := fun_mk (st := s_l_blocks) l_l_blocks co_l_blocks k_l_blocks
  have b_l_blocks := F_l_blocks.binds (ps := ["_law_pieces"]) fun _ _ _ _ _ _ us hl => match us, hl with | [_], _ => rfl
  have F_l_answer := fun_mk (st := s_l_answer) l_l_answer co_l_answer k_l_answer
  have b_l_answer := F_l_answer.binds (ps := ["_law_purse_here", "_law_low", "_law_top_here"]) fun _ _ _ _ _ _ us hl => match us, hl with | [_, _, _], _ => rfl
  have F_l_answers := fun_mk (st := s_l_answers) l_l_answers co_l_answers k_l_answers
  have b_l_answers := F_l_answers.binds (ps := ["_law_purse_here", "_law_low", "_law_top_here", "_law_many"]) fun _ _ _ _ _ _ us hl => match us, hl with | [_, _, _, _], _ => rfl
  have F_l_made_answers := fun_mk (st := s_l_made_answers) l_l_made_answers co_l_made_answers k_l_made_answers
  have b_l_made_answers := F_l_made_answers.binds (ps := ["_law_found"]) fun _ _ _ _ _ _ us hl => match us, hl with | [_], _ => rfl
  have F_l_top := fun_mk (st := s_l_top) l_l_top co_l_top k_l_top
  have b_l_top := F_l_top.binds (ps := ["_law_memory"]) fun _ _ _ _ _ _ us hl => match us, hl with | [_], _ => rfl
  have F_l_twins := fun_mk (st := s_l_twins) l_l_twins co_l_twins k_l_twins
  have b_l_twins := F_l_twins.binds (ps := ["_law_purse_here"]) fun _ _ _ _ _ _ us hl => match us, hl with | [_], _ => rfl
  have F_l_kept := fun_mk (st := s_l_kept) l_l_kept co_l_kept k_l_kept
  have b_l_kept := F_l_kept.binds (ps := ["_law_memory"]) fun _ _ _ _ _ _ us hl => match us, hl with | [_], _ => rfl
  have F_l_right := fun_mk (st := s_l_right) l_l_right co_l_right k_l_right
  have b_l_right := F_l_right.binds (ps := ["_law_purse_here"]) fun _ _ _ _ _ _ us hl => match us, hl with | [_], _ => rfl
  have F_law := fun_mk (st := s_law) l_law co_law k_law
  have b_law := F_law.binds (ps := ["_law_script"]) fun _ _ _ _ _ _ us hl => match us, hl with | [_], _ => rfl
  have T : Txt K mg { f_is_integer := f_is_integer, d_is_integer := PySem.W.fnOf "is_integer" "is_integer" (defArgs s_is_integer) (defBody s_is_integer) (defScope s_is_integer) .none kV_is_integer dc_is_integer pm_is_integer an_is_integer cd_is_integer ct_is_integer, f_is_number := f_is_number, d_is_number := PySem.W.fnOf "is_number" "is_number" (defArgs s_is_number) (defBody s_is_number) (defScope s_is_number) .none kV_is_number dc_is_number pm_is_number an_is_number cd_is_number ct_is_number, f_check_number := f_check_number, d_check_number := PySem.W.fnOf "check_number" "check_number" (defArgs s_check_number) (defBody s_check_number) (defScope s_check_number) .none kV_check_number dc_check_number pm_check_number an_check_number cd_check_number ct_check_number, f_is_block := f_is_block, d_is_block := PySem.W.fnOf "is_block" "is_block" (defArgs s_is_block) (defBody s_is_block) (defScope s_is_block) .none kV_is_block dc_is_block pm_is_block an_is_block cd_is_block ct_is_block, f_a_init := f_a_init, d_a_init := PySem.W.fnOf "__init__" "Answer.__init__" (defArgs s_a_init) (defBody s_a_init) (defScope s_a_init) (.ref t_a_init) kV_a_init dc_a_init pm_a_init an_a_init cd_a_init ct_a_init, f_a_number := f_a_number, d_a_number := PySem.W.fnOf "number" "Answer.number" (defArgs s_a_number) (defBody s_a_number) (defScope s_a_number) .none kV_a_number dc_a_number pm_a_number an_a_number cd_a_number ct_a_number, f_a_blocks := f_a_blocks, d_a_blocks := PySem.W.fnOf "blocks" "Answer.blocks" (defArgs s_a_blocks) (defBody s_a_blocks) (defScope s_a_blocks) .none kV_a_blocks dc_a_blocks pm_a_blocks an_a_blocks cd_a_blocks ct_a_blocks, f_is_next_block := f_is_next_block, d_is_next_block := PySem.W.fnOf "is_next_block" "is_next_block" (defArgs s_is_next_block) (defBody s_is_next_block) (defScope s_is_next_block) .none kV_is_next_block dc_is_next_block pm_is_next_block an_is_next_block cd_is_next_block ct_is_next_block, f_condition_in := f_condition_in, d_condition_in := PySem.W.fnOf "condition_in" "condition_in" (defArgs s_condition_in) (defBody s_condition_in) (defScope s_condition_in) .none kV_condition_in dc_condition_in pm_condition_in an_condition_in cd_condition_in ct_condition_in, f_row_in := f_row_in, d_row_in := PySem.W.fnOf "row_in" "row_in" (defArgs s_row_in) (defBody s_row_in) (defScope s_row_in) .none kV_row_in dc_row_in pm_row_in an_row_in cd_row_in ct_row_in, f_condition_holds := f_condition_holds, d_condition_holds := PySem.W.fnOf "condition_holds" "condition_holds" (defArgs s_condition_holds) (defBody s_condition_holds) (defScope s_condition_holds) .none kV_condition_holds dc_condition_holds pm_condition_holds an_condition_holds cd_condition_holds ct_condition_holds, f_holes_below := f_holes_below, d_holes_below := PySem.W.fnOf "holes_below" "holes_below" (defArgs s_holes_below) (defBody s_holes_below) (defScope s_holes_below) .none kV_holes_below dc_holes_below pm_holes_below an_holes_below cd_holes_below ct_holes_below, f_named_by := f_named_by, d_named_by := PySem.W.fnOf "named_by" "named_by" (defArgs s_named_by) (defBody s_named_by) (defScope s_named_by) .none kV_named_by dc_named_by pm_named_by an_named_by cd_named_by ct_named_by, f_asked_by := f_asked_by, d_asked_by := PySem.W.fnOf "asked_by" "asked_by" (defArgs s_asked_by) (defBody s_asked_by) (defScope s_asked_by) .none kV_asked_by dc_asked_by pm_asked_by an_asked_by cd_asked_by ct_asked_by, f_check_rows := f_check_rows, d_check_rows := PySem.W.fnOf "check_rows" "check_rows" (defArgs s_check_rows) (defBody s_check_rows) (defScope s_check_rows) .none kV_check_rows dc_check_rows pm_check_rows an_check_rows cd_check_rows ct_check_rows, f_check_answers := f_check_answers, d_check_answers := PySem.W.fnOf "check_answers" "check_answers" (defArgs s_check_answers) (defBody s_check_answers) (defScope s_check_answers) .none kV_check_answers dc_check_answers pm_check_answers an_check_answers cd_check_answers ct_check_answers, f_s_init := f_s_init, d_s_init := PySem.W.fnOf "__init__" "Sender.__init__" (defArgs s_s_init) (defBody s_s_init) (defScope s_s_init) (.ref t_s_init) kV_s_init dc_s_init pm_s_init an_s_init cd_s_init ct_s_init, f_s_begin := f_s_begin, d_s_begin := PySem.W.fnOf "begin" "Sender.begin" (defArgs s_s_begin) (defBody s_s_begin) (defScope s_s_begin) .none kV_s_begin dc_s_begin pm_s_begin an_s_begin cd_s_begin ct_s_begin, f_s_plan := f_s_plan, d_s_plan := PySem.W.fnOf "plan" "Sender.plan" (defArgs s_s_plan) (defBody s_s_plan) (defScope s_s_plan) .none kV_s_plan dc_s_plan pm_s_plan an_s_plan cd_s_plan ct_s_plan, f_s_hear := f_s_hear, d_s_hear := PySem.W.fnOf "hear" "Sender.hear" (defArgs s_s_hear) (defBody s_s_hear) (defScope s_s_hear) .none kV_s_hear dc_s_hear pm_s_hear an_s_hear cd_s_hear ct_s_hear, f_s_close := f_s_close, d_s_close := PySem.W.fnOf "close" "Sender.close" (defArgs s_s_close) (defBody s_s_close) (defScope s_s_close) .none kV_s_close dc_s_close pm_s_close an_s_close cd_s_close ct_s_close, f_m_init := f_m_init, d_m_init := PySem.W.fnOf "__init__" "Memory.__init__" (defArgs s_m_init) (defBody s_m_init) (defScope s_m_init) .none kV_m_init dc_m_init pm_m_init an_m_init cd_m_init ct_m_init, f_m_after := f_m_after, d_m_after := PySem.W.fnOf "after" "Memory.after" (defArgs s_m_after) (defBody s_m_after) (defScope s_m_after) .none kV_m_after dc_m_after pm_m_after an_m_after cd_m_after ct_m_after, f_l_purse := f_l_purse, d_l_purse := PySem.W.fnOf "_law_purse" "_law_purse" (defArgs s_l_purse) (defBody s_l_purse) (defScope s_l_purse) .none kV_l_purse dc_l_purse pm_l_purse an_l_purse cd_l_purse ct_l_purse, f_l_draw := f_l_draw, d_l_draw := PySem.W.fnOf "_law_draw" "_law_draw" (defArgs s_l_draw) (defBody s_l_draw) (defScope s_l_draw) .none kV_l_draw dc_l_draw pm_l_draw an_l_draw cd_l_draw ct_l_draw, f_l_condition := f_l_condition, d_l_condition := PySem.W.fnOf "_law_condition" "_law_condition" (defArgs s_l_condition) (defBody s_l_condition) (defScope s_l_condition) .none kV_l_condition dc_l_condition pm_l_condition an_l_condition cd_l_condition ct_l_condition, f_l_deed := f_l_deed, d_l_deed := PySem.W.fnOf "_law_deed" "_law_deed" (defArgs s_l_deed) (defBody s_l_deed) (defScope s_l_deed) .none kV_l_deed dc_l_deed pm_l_deed an_l_deed cd_l_deed ct_l_deed, f_l_row := f_l_row, d_l_row := PySem.W.fnOf "_law_row" "_law_row" (defArgs s_l_row) (defBody s_l_row) (defScope s_l_row) .none kV_l_row dc_l_row pm_l_row an_l_row cd_l_row ct_l_row, f_l_sender := f_l_sender, d_l_sender := PySem.W.fnOf "_law_sender" "_law_sender" (defArgs s_l_sender) (defBody s_l_sender) (defScope s_l_sender) .none kV_l_sender dc_l_sender pm_l_sender an_l_sender cd_l_sender ct_l_sender, f_l_line := f_l_line, d_l_line := PySem.W.fnOf "_law_line" "_law_line" (defArgs s_l_line) (defBody s_l_line) (defScope s_l_line) .none kV_l_line dc_l_line pm_l_line an_l_line cd_l_line ct_l_line, f_l_lines := f_l_lines, d_l_lines := PySem.W.fnOf "_law_lines" "_law_lines" (defArgs s_l_lines) (defBody s_l_lines) (defScope s_l_lines) .none kV_l_lines dc_l_lines pm_l_lines an_l_lines cd_l_lines ct_l_lines, f_l_made_sender := f_l_made_sender, d_l_made_sender := PySem.W.fnOf "_law_made_sender" "_law_made_sender" (defArgs s_l_made_sender) (defBody s_l_made_sender) (defScope s_l_made_sender) .none kV_l_made_sender dc_l_made_sender pm_l_made_sender an_l_made_sender cd_l_made_sender ct_l_made_sender, f_l_blocks := f_l_blocks, d_l_blocks := PySem.W.fnOf "_law_blocks" "_law_blocks" (defArgs s_l_blocks) (defBody s_l_blocks) (defScope s_l_blocks) .none kV_l_blocks dc_l_blocks pm_l_blocks an_l_blocks cd_l_blocks ct_l_blocks, f_l_answer := f_l_answer, d_l_answer := PySem.W.fnOf "_law_answer" "_law_answer" (defArgs s_l_answer) (defBody s_l_answer) (defScope s_l_answer) .none kV_l_answer dc_l_answer pm_l_answer an_l_answer cd_l_answer ct_l_answer, f_l_answers := f_l_answers, d_l_answers := PySem.W.fnOf "_law_answers" "_law_answers" (defArgs s_l_answers) (defBody s_l_answers) (defScope s_l_answers) .none kV_l_answers dc_l_answers pm_l_answers an_l_answers cd_l_answers ct_l_answers, f_l_made_answers := f_l_made_answers, d_l_made_answers := PySem.W.fnOf "_law_made_answers" "_law_made_answers" (defArgs s_l_made_answers) (defBody s_l_made_answers) (defScope s_l_made_answers) .none kV_l_made_answers dc_l_made_answers pm_l_made_answers an_l_made_answers cd_l_made_answers ct_l_made_answers, f_l_top := f_l_top, d_l_top := PySem.W.fnOf "_law_top" "_law_top" (defArgs s_l_top) (defBody s_l_top) (defScope s_l_top) .none kV_l_top dc_l_top pm_l_top an_l_top cd_l_top ct_l_top, f_l_twins := f_l_twins, d_l_twins := PySem.W.fnOf "_law_twins" "_law_twins" (defArgs s_l_twins) (defBody s_l_twins) (defScope s_l_twins) .none kV_l_twins dc_l_twins pm_l_twins an_l_twins cd_l_twins ct_l_twins, f_l_kept := f_l_kept, d_l_kept := PySem.W.fnOf "_law_kept" "_law_kept" (defArgs s_l_kept) (defBody s_l_kept) (defScope s_l_kept) .none kV_l_kept dc_l_kept pm_l_kept an_l_kept cd_l_kept ct_l_kept, f_l_right := f_l_right, d_l_right := PySem.W.fnOf "_law_right" "_law_right" (defArgs s_l_right) (defBody s_l_right) (defScope s_l_right) .none kV_l_right dc_l_right pm_l_right an_l_right cd_l_right ct_l_right, f_law := fa, d_law := PySem.W.fnOf "law" "law" (defArgs s_law) (defBody s_law) (defScope s_law) .none kV_law dc_law pm_law an_law cd_law ct_law, c_Sender := c_Sender, c_Memory := c_Memory, c_Answer := c_Answer, p_number := p_number, p_blocks := p_blocks, t_CONDITIONS := t_CONDITIONS, t_DEEDS := t_DEEDS, t_empty := t_empty } := { n_isinstance := PySem.W.mg_none_of X G n_isinstance, n_int := PySem.W.mg_none_of X G n_int, n_bool := PySem.W.mg_none_of X G n_bool, n_tuple := PySem.W.mg_none_of X G n_tuple, n_str := PySem.W.mg_none_of X G n_str, n_len := PySem.W.mg_none_of X G n_len, n_list := PySem.W.mg_none_of X G n_list, n_range := PySem.W.mg_none_of X G n_range, n_enumerate := PySem.W.mg_none_of X G n_enumerate, n_all := PySem.W.mg_none_of X G n_all, n_any := PySem.W.mg_none_of X G n_any, n_min := PySem.W.mg_none_of X G n_min, n_max := PySem.W.mg_none_of X G n_max, n_abs := PySem.W.mg_none_of X G n_abs, n_divmod := PySem.W.mg_none_of X G n_divmod, n_repr := PySem.W.mg_none_of X G n_repr, c_MOST_SELECTORS := ⟨_, PySem.W.mg_of X G c_MOST_SELECTORS, ⟨_, rfl⟩⟩, c_MOST_WINDOW := ⟨_, PySem.W.mg_of X G c_MOST_WINDOW, ⟨_, rfl⟩⟩, c_MOST_ROWS := ⟨_, PySem.W.mg_of X G c_MOST_ROWS, ⟨_, rfl⟩⟩, c_MOST_PARTS := ⟨_, PySem.W.mg_of X G c_MOST_PARTS, ⟨_, rfl⟩⟩, c_MOST_ANSWERS := ⟨_, PySem.W.mg_of X G c_MOST_ANSWERS, ⟨_, rfl⟩⟩, c_CONDITIONS := ⟨_, PySem.W.mg_of X G c_CONDITIONS, rfl⟩, q_CONDITIONS := fun H => .inr ⟨_, #[.str "silent" tkCONDITIONS0, .str "still 1" tkCONDITIONS1, .str "still 2" tkCONDITIONS2, .str "doubt" tkCONDITIONS3, .str "holes" tkCONDITIONS4, .str "marked" tkCONDITIONS5, .str "open" tkCONDITIONS6], _, q_CONDITIONS, rfl, rfl, Nat.le_trans (show 7 ≤ 1000 by omega) (by decide), .cons ⟨_, rfl⟩ (.cons ⟨_, rfl⟩ (.cons ⟨_, rfl⟩ (.cons ⟨_, rfl⟩ (.cons ⟨_, rfl⟩ (.cons ⟨_, rfl⟩ (.cons ⟨_, rfl⟩ (.nil)))))))⟩, c_DEEDS := ⟨_, PySem.W.mg_of X G c_DEEDS, rfl⟩, q_DEEDS := fun H => .inr ⟨_, #[.str "clear" tkDEEDS0, .str "free" tkDEEDS1, .str "again first" tkDEEDS2, .str "again holes" tkDEEDS3, .str "again unmarked" tkDEEDS4, .str "again all" tkDEEDS5, .str "new" tkDEEDS6, .str "one" tkDEEDS7], _, q_DEEDS, rfl, rfl, Nat.le_trans (show 8 ≤ 1000 by omega) (by decide), .cons ⟨_, rfl⟩ (.cons ⟨_, rfl⟩ (.cons ⟨_, rfl⟩ (.cons ⟨_, rfl⟩ (.cons ⟨_, rfl⟩ (.cons ⟨_, rfl⟩ (.cons ⟨_, rfl⟩ (.cons ⟨_, rfl⟩ (.nil))))))))⟩, m_Sender := PySem.W.mg_of X G aC_Sender, cl_Sender := ⟨pgt_Sender, hd_Sender, po_Sender, sa_Sender⟩, mk_Sender := ⟨mks_Sender, a_s_init, i_s_init, kc_Sender⟩, na_Sender_window := na_Sender_window, na_Sender_rows := na_Sender_rows, na_Sender_marks_last := na_Sender_marks_last, na_Sender_program := na_Sender_program, na_Sender_asks_silent := na_Sender_asks_silent, na_Sender_asks_still := na_Sender_asks_still, m_Memory := PySem.W.mg_of X G aC_Memory, cl_Memory := ⟨pgt_Memory, hd_Memory, po_Memory, sa_Memory⟩, mk_Memory := ⟨mks_Memory, a_m_init, i_m_init, kc_Memory⟩, na_Memory_sender := na_Memory_sender, na_Memory_state := na_Memory_state, na_Memory_base := na_Memory_base, na_Memory_top := na_Memory_top, na_Memory_marked := na_Memory_marked, na_Memory_freed := na_Memory_freed, na_Memory_still := na_Memory_still, na_Memory_heard := na_Memory_heard, na_Memory_letters := na_Memory_letters, m_Answer := PySem.W.mg_of X G aC_Answer, cl_Answer := ⟨pgt_Answer, hd_Answer, po_Answer, sa_Answer⟩, mk_Answer := ⟨mks_Answer, a_a_init, i_a_init, kc_Answer⟩, na_Answer_told_number := na_Answer_told_number, na_Answer_told_blocks := na_Answer_told_blocks, ic_Answer := ⟨⟨pgt_Answer, hd_Answer, po_Answer, sa_Answer⟩, ica_Answer, icn_Answer, ict_Answer, icm_Answer, ice_Answer⟩, F_is_integer := F_is_integer, b_is_integer := b_is_integer, m_is_integer := PySem.W.mg_of X G a_is_integer, F_is_number := F_is_number, b_is_number := b_is_number, m_is_number := PySem.W.mg_of X G a_is_number, F_check_number := F_check_number, b_check_number := b_check_number, m_check_number := PySem.W.mg_of X G a_check_number, F_is_block := F_is_block, b_is_block := b_is_block, m_is_block := PySem.W.mg_of X G a_is_block, F_a_init := F_a_init, b_a_init := b_a_init, F_a_number := F_a_number, b_a_number := b_a_number, pr_a_number := ⟨pa_a_number, pg_a_number, pt_a_number, ⟨_, pr_a_number⟩⟩, F_a_blocks := F_a_blocks, b_a_blocks := b_a_blocks, pr_a_blocks := ⟨pa_a_blocks, pg_a_blocks, pt_a_blocks, ⟨_, pr_a_blocks⟩⟩, F_is_next_block := F_is_next_block, b_is_next_block := b_is_next_block, m_is_next_block := PySem.W.mg_of X G a_is_next_block, F_condition_in := F_condition_in, b_condition_in := b_condition_in, m_condition_in := PySem.W.mg_of X G a_condition_in, F_row_in := F_row_in, b_row_in := b_row_in, m_row_in := PySem.W.mg_of X G a_row_in, F_condition_holds := F_condition_holds, b_condition_holds := b_condition_holds, m_condition_holds := PySem.W.mg_of X G a_condition_holds, F_holes_below := F_holes_below, b_holes_below := b_holes_below, m_holes_below := PySem.W.mg_of X G a_holes_below, F_named_by := F_named_by, b_named_by := b_named_by, m_named_by := PySem.W.mg_of X G a_named_by, F_asked_by := F_asked_by, b_asked_by := b_asked_by, m_asked_by := PySem.W.mg_of X G a_asked_by, F_check_rows := F_check_rows, b_check_rows := b_check_rows, m_check_rows := PySem.W.mg_of X G a_check_rows, F_check_answers := F_check_answers, b_check_answers := b_check_answers, m_check_answers := PySem.W.mg_of X G a_check_answers, F_s_init := F_s_init, b_s_init := b_s_init, F_s_begin := F_s_begin, b_s_begin := b_s_begin, mt_s_begin := ⟨a_s_begin, i_s_begin, k_s_begin⟩, F_s_plan := F_s_plan, b_s_plan := b_s_plan, mt_s_plan := ⟨a_s_plan, i_s_plan, k_s_plan⟩, F_s_hear := F_s_hear, b_s_hear := b_s_hear, mt_s_hear := ⟨a_s_hear, i_s_hear, k_s_hear⟩, F_s_close := F_s_close, b_s_close := b_s_close, mt_s_close := ⟨a_s_close, i_s_close, k_s_close⟩, F_m_init := F_m_init, b_m_init := b_m_init, F_m_after := F_m_after, b_m_after := b_m_after, mt_m_after := ⟨a_m_after, i_m_after, k_m_after⟩, F_l_purse := F_l_purse, b_l_purse := b_l_purse, m_l_purse := PySem.W.mg_of X G a_l_purse, F_l_draw := F_l_draw, b_l_draw := b_l_draw, m_l_draw := PySem.W.mg_of X G a_l_draw, F_l_condition := F_l_condition, b_l_condition := b_l_condition, m_l_condition := PySem.W.mg_of X G a_l_condition, F_l_deed := F_l_deed, b_l_deed := b_l_deed, m_l_deed := PySem.W.mg_of X G a_l_deed, F_l_row := F_l_row, b_l_row := b_l_row, m_l_row := PySem.W.mg_of X G a_l_row, F_l_sender := F_l_sender, b_l_sender := b_l_sender, m_l_sender := PySem.W.mg_of X G a_l_sender, F_l_line := F_l_line, b_l_line := b_l_line, m_l_line := PySem.W.mg_of X G a_l_line, F_l_lines := F_l_lines, b_l_lines := b_l_lines, m_l_lines := PySem.W.mg_of X G a_l_lines, F_l_made_sender := F_l_made_sender, b_l_made_sender := b_l_made_sender, m_l_made_sender := PySem.W.mg_of X G a_l_made_sender, F_l_blocks := F_l_blocks, b_l_blocks := b_l_blocks, m_l_blocks := PySem.W.mg_of X G a_l_blocks, F_l_answer := F_l_answer, b_l_answer := b_l_answer, m_l_answer := PySem.W.mg_of X G a_l_answer, F_l_answers := F_l_answers, b_l_answers := b_l_answers, m_l_answers := PySem.W.mg_of X G a_l_answers, F_l_made_answers := F_l_made_answers, b_l_made_answers := b_l_made_answers, m_l_made_answers := PySem.W.mg_of X G a_l_made_answers, F_l_top := F_l_top, b_l_top := b_l_top, m_l_top := PySem.W.mg_of X G a_l_top, F_l_twins := F_l_twins, b_l_twins := b_l_twins, m_l_twins := PySem.W.mg_of X G a_l_twins, F_l_kept := F_l_kept, b_l_kept := b_l_kept, m_l_kept := PySem.W.mg_of X G a_l_kept, F_l_right := F_l_right, b_l_right := b_l_right, m_l_right := PySem.W.mg_of X G a_l_right, F_law := F_law, b_law := b_law, m_law := PySem.W.mg_of X G a_law }
  exact ⟨PySem.W.fnOf "law" "law" (defArgs s_law) (defBody s_law) (defScope s_law) .none kV_law dc_law pm_law an_law cd_law ct_law, fun s v => .of_eq rfl, fun base _ _ => ok_law T⟩
theorem walk {l : PySem.W.OpenLaw} {q : Program} {loose : List Str} {XP : (Str → Option Value) → Heap → Prop} {YP : World → Heap → Prop} {d : DefRec} {K : Params → PySem.W.Frag} (hn : l.most = some 63) (hdf : d.params.defaults = [])
    (hY : ∀ (w : World) (h : Heap), YP w h → (K w.params).In h)
    (F : ∀ (w : World) (mg : Str → Option Value) (fa : Addr) (h : Heap), (K w.params).In h → h.Ns mainGlobals mg → mg d.name = some (.ref fa) →
      ∃ fd : FuncData, (∀ (s : Shared) (u : Value), BindsTo s fd ⟨[u], []⟩ [("_law_script", u)]) ∧ ∀ base : Heap, (K w.params).In base → base.Ns mainGlobals mg → FnG l.prog w (K w.params) mg base 9 fa fd ["_law_script"] (sp_law (K w.params))) :
    PySem.W.WalkO q loose XP YP l.row.toRowW d [] (fun f vs => PySem.call f vs) :=
  walk_G (n := 63) (k := 9) (x := "_law_script") (sp := fun w => sp_law (K w.params)) hn (by decide) hdf ⟨rfl, by decide, by decide⟩ hY F (fun _ _ a ns hl hS => ⟨a, ns, rfl, hS, hl, fun _ => rfl⟩)
end Fb
open PySem PySem.W PyProof.Rows
set_option maxRecDepth 100000 in
set_option maxHeartbeats 0 in
theorem PySem.Challenge.cw_fewblocks_k27_whole_rows_parted_by_a_con_holds : PySem.Challenge.rw_fewblocks_k27_whole_rows_parted_by_a_con.Holds := by
  w_on; o_law; k_head; (case hw => w_witness2)
  k_fill
  refine Fb.walk (l := PySem.Challenge.rw_fewblocks_k27_whole_rows_parted_by_a_con) rfl rfl (fun w h Y => PySem.W.kIn_of Y) ?F
  case F =>
    intro w mg fa h KX G hmg
    refine' Fb.all_mk KX G hmg ?aC_Sender ?aC_Memory ?aC_Answer ?a_is_integer ?l_is_integer ?co_is_integer ?k_is_integer ?a_is_number ?l_is_number ?co_is_number ?k_is_number ?a_check_number ?l_check_number ?co_check_number ?k_check_number ?a_is_block ?l_is_block ?co_is_block ?k_is_block ?a_a_init ?i_a_init ?l_a_init ?co_a_init ?k_a_init ?lt_a_init ?pa_a_number ?pg_a_number ?pt_a_number ?pr_a_number ?l_a_number ?co_a_number ?k_a_number ?pa_a_blocks ?pg_a_blocks ?pt_a_blocks ?pr_a_blocks ?l_a_blocks ?co_a_blocks ?k_a_blocks ?a_is_next_block ?l_is_next_block ?co_is_next_block ?k_is_next_block ?a_condition_in ?l_condition_in ?co_condition_in ?k_condition_in ?a_row_in ?l_row_in ?co_row_in ?k_row_in ?a_condition_holds ?l_condition_holds ?co_condition_holds ?k_condition_holds ?a_holes_below ?l_holes_below ?co_holes_below ?k_holes_below ?a_named_by ?l_named_by ?co_named_by ?k_named_by ?a_asked_by ?l_asked_by ?co_asked_by ?k_asked_by ?a_check_rows ?l_check_rows ?co_check_rows ?k_check_rows ?a_check_answers ?l_check_answers ?co_check_answers ?k_check_answers ?a_s_init ?i_s_init ?l_s_init ?co_s_init ?k_s_init ?lt_s_init ?a_s_begin ?i_s_begin ?l_s_begin ?co_s_begin ?k_s_begin ?a_s_plan ?i_s_plan ?l_s_plan ?co_s_plan ?k_s_plan ?a_s_hear ?i_s_hear ?l_s_hear ?co_s_hear ?k_s_hear ?a_s_close ?i_s_close ?l_s_close ?co_s_close ?k_s_close ?a_m_init ?i_m_init ?l_m_init ?co_m_init ?k_m_init ?a_m_after ?i_m_after ?l_m_after ?co_m_after ?k_m_after ?a_l_purse ?l_l_purse ?co_l_purse ?k_l_purse ?a_l_draw ?l_l_draw ?co_l_draw ?k_l_draw ?a_l_condition ?l_l_condition ?co_l_condition ?k_l_condition ?a_l_deed ?l_l_deed ?co_l_deed ?k_l_deed ?a_l_row ?l_l_row ?co_l_row ?k_l_row ?a_l_sender ?l_l_sender ?co_l_sender ?k_l_sender ?a_l_line ?l_l_line ?co_l_line ?k_l_line ?a_l_lines ?l_l_lines ?co_l_lines ?k_l_lines ?a_l_made_sender ?l_l_made_sender ?co_l_made_sender ?k_l_made_sender ?a_l_blocks ?l_l_blocks ?co_l_blocks ?k_l_blocks ?a_l_answer ?l_l_answer ?co_l_answer ?k_l_answer ?a_l_answers ?l_l_answers ?co_l_answers ?k_l_answers ?a_l_made_answers ?l_l_made_answers ?co_l_made_answers ?k_l_made_answers ?a_l_top ?l_l_top ?co_l_top ?k_l_top ?a_l_twins ?l_l_twins ?co_l_twins ?k_l_twins ?a_l_kept ?l_l_kept ?co_l_kept ?k_l_kept ?a_l_right ?l_l_right ?co_l_right ?k_l_right ?a_law ?l_law ?co_law ?k_law ?n_isinstance ?n_int ?n_bool ?n_tuple ?n_str ?n_len ?n_list ?n_range ?n_enumerate ?n_all ?n_any ?n_min ?n_max ?n_abs ?n_divmod ?n_repr ?c_MOST_SELECTORS ?c_MOST_WINDOW ?c_MOST_ROWS ?c_MOST_PARTS ?c_MOST_ANSWERS ?c_CONDITIONS ?q_CONDITIONS ?c_DEEDS ?q_DEEDS ?pgt_Sender ?hd_Sender ?po_Sender ?sa_Sender ?mks_Sender ?kc_Sender ?na_Sender_window ?na_Sender_rows ?na_Sender_marks_last ?na_Sender_program ?na_Sender_asks_silent ?na_Sender_asks_still ?pgt_Memory ?hd_Memory ?po_Memory ?sa_Memory ?mks_Memory ?kc_Memory ?na_Memory_sender ?na_Memory_state ?na_Memory_base ?na_Memory_top ?na_Memory_marked ?na_Memory_freed ?na_Memory_still ?na_Memory_heard ?na_Memory_letters ?pgt_Answer ?hd_Answer ?po_Answer ?sa_Answer ?mks_Answer ?kc_Answer ?na_Answer_told_number ?na_Answer_told_blocks ?ica_Answer ?icn_Answer ?ict_Answer ?icm_Answer ?ice_Answer
    (case aC_Sender => k_is)
    (case aC_Memory => k_is)
    (case aC_Answer => k_is)
    (case a_is_integer => k_is)
    (case l_is_integer => k_is)
    (case co_is_integer => k_is)
    (case k_is_integer => k_is)
    (case a_is_number => k_is)
    (case l_is_number => k_is)
    (case co_is_number => k_is)
    (case k_is_number => k_is)
    (case a_check_number => k_is)
    (case l_check_number => k_is)
    (case co_check_number => k_is)
    (case k_check_number => k_is)
    (case a_is_block => k_is)
    (case l_is_block => k_is)
    (case co_is_block => k_is)
    (case k_is_block => k_is)
    (case a_a_init => k_is)
    (case i_a_init => k_is)
    (case l_a_init => k_is)
    (case co_a_init => k_is)
    (case k_a_init => k_is)
    (case lt_a_init => k_is)
    (case pa_a_number => k_is)
    (case pg_a_number => k_is)
    (case pt_a_number => k_is)
    (case pr_a_number => k_is)
    (case l_a_number => k_is)
    (case co_a_number => k_is)
    (case k_a_number => k_is)
    (case pa_a_blocks => k_is)
    (case pg_a_blocks => k_is)
    (case pt_a_blocks => k_is)
    (case pr_a_blocks => k_is)
    (case l_a_blocks => k_is)
    (case co_a_blocks => k_is)
    (case k_a_blocks => k_is)
    (case a_is_next_block => k_is)
    (case l_is_next_block => k_is)
    (case co_is_next_block => k_is)
    (case k_is_next_block => k_is)
    (case a_condition_in => k_is)
    (case l_condition_in => k_is)
    (case co_condition_in => k_is)
    (case k_condition_in => k_is)
    (case a_row_in => k_is)
    (case l_row_in => k_is)
    (case co_row_in => k_is)
    (case k_row_in => k_is)
    (case a_condition_holds => k_is)
    (case l_condition_holds => k_is)
    (case co_condition_holds => k_is)
    (case k_condition_holds => k_is)
    (case a_holes_below => k_is)
    (case l_holes_below => k_is)
    (case co_holes_below => k_is)
    (case k_holes_below => k_is)
    (case a_named_by => k_is)
    (case l_named_by => k_is)
    (case co_named_by => k_is)
    (case k_named_by => k_is)
    (case a_asked_by => k_is)
    (case l_asked_by => k_is)
    (case co_asked_by => k_is)
    (case k_asked_by => k_is)
    (case a_check_rows => k_is)
    (case l_check_rows => k_is)
    (case co_check_rows => k_is)
    (case k_check_rows => k_is)
    (case a_check_answers => k_is)
    (case l_check_answers => k_is)
    (case co_check_answers => k_is)
    (case k_check_answers => k_is)
    (case a_s_init => k_is)
    (case i_s_init => k_is)
    (case l_s_init => k_is)
    (case co_s_init => k_is)
    (case k_s_init => k_is)
    (case lt_s_init => k_is)
    (case a_s_begin => k_is)
    (case i_s_begin => k_is)
    (case l_s_begin => k_is)
    (case co_s_begin => k_is)
    (case k_s_begin => k_is)
    (case a_s_plan => k_is)
    (case i_s_plan => k_is)
    (case l_s_plan => k_is)
    (case co_s_plan => k_is)
    (case k_s_plan => k_is)
    (case a_s_hear => k_is)
    (case i_s_hear => k_is)
    (case l_s_hear => k_is)
    (case co_s_hear => k_is)
    (case k_s_hear => k_is)
    (case a_s_close => k_is)
    (case i_s_close => k_is)
    (case l_s_close => k_is)
    (case co_s_close => k_is)
    (case k_s_close => k_is)
    (case a_m_init => k_is)
    (case i_m_init => k_is)
    (case l_m_init => k_is)
    (case co_m_init => k_is)
    (case k_m_init => k_is)
    (case a_m_after => k_is)
    (case i_m_after => k_is)
    (case l_m_after => k_is)
    (case co_m_after => k_is)
    (case k_m_after => k_is)
    (case a_l_purse => k_is)
    (case l_l_purse => k_is)
    (case co_l_purse => k_is)
    (case k_l_purse => k_is)
    (case a_l_draw => k_is)
    (case l_l_draw => k_is)
    (case co_l_draw => k_is)
    (case k_l_draw => k_is)
    (case a_l_condition => k_is)
    (case l_l_condition => k_is)
    (case co_l_condition => k_is)
    (case k_l_condition => k_is)
    (case a_l_deed => k_is)
    (case l_l_deed => k_is)
    (case co_l_deed => k_is)
    (case k_l_deed => k_is)
    (case a_l_row => k_is)
    (case l_l_row => k_is)
    (case co_l_row => k_is)
    (case k_l_row => k_is)
    (case a_l_sender => k_is)
    (case l_l_sender => k_is)
    (case co_l_sender => k_is)
    (case k_l_sender => k_is)
    (case a_l_line => k_is)
    (case l_l_line => k_is)
    (case co_l_line => k_is)
    (case k_l_line => k_is)
    (case a_l_lines => k_is)
    (case l_l_lines => k_is)
    (case co_l_lines => k_is)
    (case k_l_lines => k_is)
    (case a_l_made_sender => k_is)
    (case l_l_made_sender => k_is)
    (case co_l_made_sender => k_is)
    (case k_l_made_sender => k_is)
    (case a_l_blocks => k_is)
    (case l_l_blocks => k_is)
    (case co_l_blocks => k_is)
    (case k_l_blocks => k_is)
    (case a_l_answer => k_is)
    (case l_l_answer => k_is)
    (case co_l_answer => k_is)
    (case k_l_answer => k_is)
    (case a_l_answers => k_is)
    (case l_l_answers => k_is)
    (case co_l_answers => k_is)
    (case k_l_answers => k_is)
    (case a_l_made_answers => k_is)
    (case l_l_made_answers => k_is)
    (case co_l_made_answers => k_is)
    (case k_l_made_answers => k_is)
    (case a_l_top => k_is)
    (case l_l_top => k_is)
    (case co_l_top => k_is)
    (case k_l_top => k_is)
    (case a_l_twins => k_is)
    (case l_l_twins => k_is)
    (case co_l_twins => k_is)
    (case k_l_twins => k_is)
    (case a_l_kept => k_is)
    (case l_l_kept => k_is)
    (case co_l_kept => k_is)
    (case k_l_kept => k_is)
    (case a_l_right => k_is)
    (case l_l_right => k_is)
    (case co_l_right => k_is)
    (case k_l_right => k_is)
    (case a_law => k_is)
    (case l_law => k_is)
    (case co_law => k_is)
    (case k_law => k_is)
    (case n_isinstance => k_is)
    (case n_int => k_is)
    (case n_bool => k_is)
    (case n_tuple => k_is)
    (case n_str => k_is)
    (case n_len => k_is)
    (case n_list => k_is)
    (case n_range => k_is)
    (case n_enumerate => k_is)
    (case n_all => k_is)
    (case n_any => k_is)
    (case n_min => k_is)
    (case n_max => k_is)
    (case n_abs => k_is)
    (case n_divmod => k_is)
    (case n_repr => k_is)
    (case c_MOST_SELECTORS => k_is)
    (case c_MOST_WINDOW => k_is)
    (case c_MOST_ROWS => k_is)
    (case c_MOST_PARTS => k_is)
    (case c_MOST_ANSWERS => k_is)
    (case c_CONDITIONS => k_is)
    (case q_CONDITIONS => k_is)
    (case c_DEEDS => k_is)
    (case q_DEEDS => k_is)
    (case pgt_Sender => k_is)
    (case hd_Sender => k_is)
    (case po_Sender => k_is)
    (case sa_Sender => k_is)
    (case mks_Sender => k_is)
    (case kc_Sender => k_is)
    (case na_Sender_window => k_is)
    (case na_Sender_rows => k_is)
    (case na_Sender_marks_last => k_is)
    (case na_Sender_program => k_is)
    (case na_Sender_asks_silent => k_is)
    (case na_Sender_asks_still => k_is)
    (case pgt_Memory => k_is)
    (case hd_Memory => k_is)
    (case po_Memory => k_is)
    (case sa_Memory => k_is)
    (case mks_Memory => k_is)
    (case kc_Memory => k_is)
    (case na_Memory_sender => k_is)
    (case na_Memory_state => k_is)
    (case na_Memory_base => k_is)
    (case na_Memory_top => k_is)
    (case na_Memory_marked => k_is)
    (case na_Memory_freed => k_is)
    (case na_Memory_still => k_is)
    (case na_Memory_heard => k_is)
    (case na_Memory_letters => k_is)
    (case pgt_Answer => k_is)
    (case hd_Answer => k_is)
    (case po_Answer => k_is)
    (case sa_Answer => k_is)
    (case mks_Answer => k_is)
    (case kc_Answer => k_is)
    (case na_Answer_told_number => k_is)
    (case na_Answer_told_blocks => k_is)
    (case ica_Answer => k_is)
    (case icn_Answer => k_is)
    (case ict_Answer => k_is)
    (case icm_Answer => k_is)
    (case ice_Answer => exact rfl)

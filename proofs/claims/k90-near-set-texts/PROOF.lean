import PyProof.Rows.All
import HandS.Codes
import KE.IntTextLaws
import Wide.All
import OpenK.AllK
import Wide.FinOn
import HandS.ForMost
import HandS.ForExc
import HandS.IsInst
import HandS.Flow
import HandS.Style
import HandS.Wide
import HandS.WideMore
import HandS.SortInts
import HandS.Zip
import HandS.More
import HandS.SetFor
import HandS.Conv
import HandS.FStr
import HandS.Defaults
import HandS.ExcInit
import HandS.ExcInitHot
import HandS.RaiseFrom
import HandS.SuiteRaise
import HandS.ExcField
import HandS.DeepEq
import HandS.ListEq
import PySem.Challenge.RW_roundline_k90_whole_near_set_texts
import KE.Datum
import KE.DatumIndex
import HandS.Set
import KE.KRevSl
import PyProof.StrBlock2
import PyProof.Rows.StrJoinRep
set_option Elab.async false
set_option linter.all false
section
set_option maxRecDepth 100000
namespace Rl
open PySem NumText TL
/-! ### texts as lists of codes: runs of figures, parts, words -/
def Runs (B : Nat) (p : List Nat) : Prop := ∀ a d b, p = a ++ (d ++ b) → AllDigits d → d.length ≤ B
structure Pg (B : Nat) (p : List Nat) : Prop where
  asc : ∀ c ∈ p, c < 128
  run : Runs B p
theorem Pg.inf {B : Nat} {a x b : List Nat} (h : Pg B (a ++ (x ++ b))) : Pg B x := by
  refine ⟨fun c hc => h.asc c (by simp [hc]), fun a' d b' e hd => ?_⟩
  subst e
  exact h.run (a ++ a') d (b' ++ b) (by simp [List.append_assoc]) hd
theorem Pg.left {B : Nat} {x b : List Nat} (h : Pg B (x ++ b)) : Pg B x := Pg.inf (a := []) (b := b) (by simpa using h)
theorem Pg.right {B : Nat} {a x : List Nat} (h : Pg B (a ++ x)) : Pg B x := Pg.inf (a := a) (b := []) (by simpa using h)
theorem Pg.take {B : Nat} {x : List Nat} (n : Nat) (h : Pg B x) : Pg B (x.take n) := Pg.left (b := x.drop n) (by rw [List.take_append_drop]; exact h)
theorem Pg.drop {B : Nat} {x : List Nat} (n : Nat) (h : Pg B x) : Pg B (x.drop n) := Pg.right (a := x.take n) (by rw [List.take_append_drop]; exact h)
theorem Pg.mono {B C : Nat} {x : List Nat} (h : Pg B x) (l : B ≤ C) : Pg C x := ⟨h.asc, fun a d b e hd => Nat.le_trans (h.run a d b e hd) l⟩
theorem Pg.nil {B : Nat} : Pg B [] := ⟨fun _ h => (by cases h), fun a d b e _ => by
  have := congrArg List.length e
  simp only [List.length_nil, List.length_append] at this
  omega⟩
theorem Pg.len {x : List Nat} (h : ∀ c ∈ x, c < 128) : Pg x.length x := ⟨h, fun a d b e _ => by
  have := congrArg List.length e
  simp only [List.length_append] at this
  omega⟩
theorem AllDigits.app {x y : List Nat} : AllDigits (x ++ y) ↔ AllDigits x ∧ AllDigits y :=
  ⟨fun h => ⟨fun c hc => h c (List.mem_append_left _ hc), fun c hc => h c (List.mem_append_right _ hc)⟩, fun h c hc => (List.mem_append.mp hc).elim (h.1 c) (h.2 c)⟩
/-- a run in x ++ y is a run at the end of x and one at the head of y -/
theorem run_split {B C : Nat} {x y : List Nat} (hx : Runs B x) (hy : Runs C y) : Runs (B + C) (x ++ y) := by
  intro a d b e hd
  -- the part of d in x: d.take (x.length - a.length); in y: the rest
  have hdT : AllDigits (d.take (x.length - a.length)) := fun c hc => hd c (List.mem_of_mem_take hc)
  have hdD : AllDigits (d.drop (x.length - a.length)) := fun c hc => hd c (List.mem_of_mem_drop hc)
  have ex : x = a.take x.length ++ (d.take (x.length - a.length) ++ b.take (x.length - a.length - d.length)) := by
    have := congrArg (List.take x.length) e
    rw [List.take_left, List.take_append, List.take_append] at this
    exact this
  have ey : y = a.drop x.length ++ (d.drop (x.length - a.length) ++ b.drop (x.length - a.length - d.length)) := by
    have := congrArg (List.drop x.length) e
    rw [List.drop_left, List.drop_append, List.drop_append] at this
    exact this
  have h1 := hx _ _ _ ex hdT
  have h2 := hy _ _ _ ey hdD
  have : d.length = (d.take (x.length - a.length)).length + (d.drop (x.length - a.length)).length := by
    rw [← List.length_append, List.take_append_drop]
  omega
theorem Pg.app {B C : Nat} {x y : List Nat} (hx : Pg B x) (hy : Pg C y) : Pg (B + C) (x ++ y) :=
  ⟨fun c hc => (List.mem_append.mp hc).elim (hx.asc c) (hy.asc c), run_split hx.run hy.run⟩
/-- with a sign between that is no figure -/
theorem run_sep {B : Nat} {x y : List Nat} {s : Nat} (hs : ¬ (48 ≤ s ∧ s ≤ 57)) (hx : Runs B x) (hy : Runs B y) : Runs B (x ++ s :: y) := by
  intro a d b e hd
  by_cases hl : a.length + d.length ≤ x.length
  · have ex : x = a ++ (d ++ b.take (x.length - a.length - d.length)) := by
      have := congrArg (List.take x.length) e
      rw [List.take_left, List.take_append, List.take_append, List.take_of_length_le (by omega : a.length ≤ x.length), List.take_of_length_le (by omega : d.length ≤ x.length - a.length)] at this
      exact this
    exact hx _ _ _ ex hd
  · by_cases hr : x.length < a.length
    · have ey : y = a.drop (x.length + 1) ++ (d ++ b) := by
        have := congrArg (List.drop (x.length + 1)) e
        rw [List.drop_append, List.drop_of_length_le (by omega), List.nil_append, List.drop_append, show x.length + 1 - a.length = 0 by omega, List.drop_zero, show x.length + 1 - x.length = 1 by omega] at this
        exact this
      exact hy _ _ _ ey hd
    · exfalso
      have g : (x ++ s :: y)[x.length]? = some s := by simp
      rw [e, List.getElem?_append_right (by omega), List.getElem?_append_left (by omega)] at g
      exact hs (hd s (List.mem_of_getElem? g))
theorem Pg.sep {B : Nat} {x y : List Nat} {s : Nat} (hs : ¬ (48 ≤ s ∧ s ≤ 57)) (h1 : s < 128) (hx : Pg B x) (hy : Pg B y) : Pg B (x ++ s :: y) :=
  ⟨fun c hc => by
    rcases List.mem_append.mp hc with h | h
    · exact hx.asc c h
    · rcases List.mem_cons.mp h with h | h
      · rw [h]; exact h1
      · exact hy.asc c h, run_sep hs hx.run hy.run⟩

/-! ### split at one sign -/
theorem pre_one (s c : Nat) (r : List Nat) : pre [s] (c :: r) = (c == s) := by
  show ([c] == [s]) = (c == s)
  simp
theorem spl_one_join {s : Nat} : ∀ (p acc : List Nat), joinL [s] (spl [s] 0 acc p) = acc ++ p ∧ spl [s] 0 acc p ≠ []
  | [], acc => by rw [spl_nil]; simp [joinL]
  | c :: r, acc => by
    cases h : pre [s] (c :: r) with
    | true =>
      rw [spl_hit h]
      have h' : c = s := by rw [pre_one] at h; exact eq_of_beq h
      obtain ⟨e, n⟩ := spl_one_join (s := s) r []
      refine ⟨?_, by simp⟩
      rw [show [s].length - 1 = 0 from rfl]
      cases q : spl [s] 0 [] r with
      | nil => exact absurd q n
      | cons x xs =>
        show acc ++ ([s] ++ joinL [s] (x :: xs)) = _
        rw [← q, e, h']
        simp
    | false =>
      rw [spl_miss h]
      obtain ⟨e, n⟩ := spl_one_join (s := s) r (acc ++ [c])
      exact ⟨by rw [e]; simp, n⟩
theorem spl_one_free {s : Nat} : ∀ (p acc : List Nat), s ∉ acc → ∀ w ∈ spl [s] 0 acc p, s ∉ w
  | [], acc, ha, w, hw => by rw [spl_nil] at hw; rw [List.mem_singleton.mp hw]; exact ha
  | c :: r, acc, ha, w, hw => by
    cases h : pre [s] (c :: r) with
    | true =>
      rw [spl_hit h] at hw
      rcases List.mem_cons.mp hw with e | hw
      · rw [e]; exact ha
      · exact spl_one_free r [] (by simp) w hw
    | false =>
      rw [spl_miss h] at hw
      refine spl_one_free r (acc ++ [c]) (fun hm => ?_) w hw
      rcases List.mem_append.mp hm with hm | hm
      · exact ha hm
      · rw [pre_one] at h
        rw [← List.mem_singleton.mp hm] at h
        simp at h
/-- the words of a text -/
abbrev wd (s : Nat) (p : List Nat) : List (List Nat) := spl [s] 0 [] p
theorem wd_join (s : Nat) (p : List Nat) : joinL [s] (wd s p) = p := by have := (spl_one_join (s := s) p []).1; simpa using this
theorem wd_ne (s : Nat) (p : List Nat) : wd s p ≠ [] := (spl_one_join p []).2
theorem wd_free (s : Nat) (p : List Nat) : ∀ w ∈ wd s p, s ∉ w := spl_one_free p [] (by simp)
theorem joinL_cons {s : List Nat} {w : List Nat} {ws : List (List Nat)} (h : ws ≠ []) : joinL s (w :: ws) = w ++ (s ++ joinL s ws) := by
  cases ws with
  | nil => exact absurd rfl h
  | cons x xs => rfl
theorem joinL_app {s : List Nat} : ∀ {us ws : List (List Nat)}, us ≠ [] → ws ≠ [] → joinL s (us ++ ws) = joinL s us ++ (s ++ joinL s ws)
  | [], _, h, _ => absurd rfl h
  | [u], ws, _, h => by rw [List.singleton_append, joinL_cons h]; rfl
  | u :: v :: us, ws, _, h => by
    have e1 : joinL s (u :: (v :: us ++ ws)) = u ++ (s ++ joinL s (v :: us ++ ws)) := joinL_cons (by simp)
    have e2 : joinL s (u :: v :: us) = u ++ (s ++ joinL s (v :: us)) := joinL_cons (List.cons_ne_nil _ _)
    rw [List.cons_append, e1, joinL_app (us := v :: us) (List.cons_ne_nil _ _) h, e2]
    simp only [List.append_assoc]
theorem mem_infix {s : List Nat} : ∀ {ws : List (List Nat)} {w : List Nat}, w ∈ ws → ∃ a b, joinL s ws = a ++ (w ++ b)
  | [], _, h => nomatch h
  | [u], w, h => ⟨[], [], by rw [List.mem_singleton.mp h]; simp [joinL]⟩
  | u :: v :: us, w, h => by
    rw [joinL_cons (by simp)]
    rcases List.mem_cons.mp h with e | h
    · exact ⟨[], s ++ joinL s (v :: us), by rw [e]; simp⟩
    · obtain ⟨a, b, e⟩ := mem_infix (s := s) h
      exact ⟨u ++ (s ++ a), b, by rw [e]; simp [List.append_assoc]⟩
theorem Pg.words {B : Nat} {p : List Nat} (h : Pg B p) (s : Nat) : ∀ w ∈ wd s p, Pg B w := fun w hw => by
  obtain ⟨a, b, e⟩ := mem_infix (s := [s]) hw
  rw [wd_join] at e
  rw [e] at h
  exact h.inf
theorem Pg.joined {B s : Nat} (hs : ¬ (48 ≤ s ∧ s ≤ 57)) (h1 : s < 128) : ∀ {ws : List (List Nat)}, (∀ w ∈ ws, Pg B w) → Pg B (joinL [s] ws)
  | [], _ => Pg.nil
  | [u], h => h u (by simp)
  | u :: v :: us, h => by
    rw [joinL_cons (by simp)]
    exact Pg.sep hs h1 (h u (by simp)) (Pg.joined hs h1 fun w hw => h w (by simp at hw ⊢; right; exact hw))
theorem wd_joinL {s : Nat} {ws : List (List Nat)} (h : ws ≠ []) (hf : ∀ w ∈ ws, s ∉ w) : wd s (joinL [s] ws) = ws := spl_join h hf
/-! ### partition: parts are infixes -/
theorem par_eq {S : List Nat} (hS : S ≠ []) : ∀ (p acc x y : List Nat), par S acc p = some (x, y) → acc ++ p = x ++ (S ++ y)
  | [], acc, x, y, h => by cases h
  | c :: r, acc, x, y, h => by
    cases q : pre S (c :: r) with
    | true =>
      rw [par_hit q] at h
      injection h with h
      injection h with h1 h2
      have e : (c :: r).take S.length = S := eq_of_beq q
      rw [← h1, ← h2]
      congr 1
      have t := (List.take_append_drop S.length (c :: r)).symm
      rw [e] at t
      exact t
    | false =>
      rw [par_miss q] at h
      have := par_eq hS r (acc ++ [c]) x y h
      rw [← this]
      simp
end Rl
end

section
set_option maxRecDepth 100000
namespace Rl
open PySem NumText TL
/-! ### numbers and their texts -/
def dg (w : List Nat) : Bool := w.all fun c => decide (48 ≤ c) && decide (c ≤ 57)
theorem dg_iff {w : List Nat} : dg w = true ↔ AllDigits w := by
  unfold dg AllDigits
  rw [List.all_eq_true]
  constructor
  · intro h c hc
    have := h c hc
    rw [Bool.and_eq_true, decide_eq_true_eq, decide_eq_true_eq] at this
    exact this
  · intro h c hc
    rw [Bool.and_eq_true, decide_eq_true_eq, decide_eq_true_eq]
    exact h c hc
theorem val_snoc (u : List Nat) (c : Nat) : digitsVal (u ++ [c]) = digitsVal u * 10 + (c - 48) := by
  unfold digitsVal
  rw [List.foldl_append]
  rfl
theorem numL_of : ∀ (k : Nat) (w : List Nat), w.length = k → AllDigits w → w ≠ [] → (w.head? ≠ some 48 ∨ w = [48]) → numL (digitsVal w) = w := by
  intro k
  induction k with
  | zero => intro w hl _ hne _; exact absurd (List.length_eq_zero_iff.mp hl) hne
  | succ k ih =>
    intro w hl hd hne h0
    have ew : w = w.dropLast ++ [w.getLast hne] := (List.dropLast_concat_getLast hne).symm
    generalize hu : w.dropLast = u at ew
    generalize hc : w.getLast hne = c at ew
    have hcd : 48 ≤ c ∧ c ≤ 57 := hd c (by rw [ew]; simp)
    have hud : AllDigits u := fun x hx => hd x (by rw [ew]; simp [hx])
    cases u with
    | nil =>
      rw [ew, List.nil_append]
      have : digitsVal [c] = c - 48 := by simp [digitsVal]
      rw [this, numL_lt (by omega)]
      congr 1
      omega
    | cons x xs =>
      have hx : (x :: xs).head? ≠ some 48 ∨ x :: xs = [48] := by
        rcases h0 with h0 | h0
        · left
          rw [ew] at h0
          exact h0
        · rw [h0] at hl ew
          simp at ew
      have hlu : (x :: xs).length = k := by
        rw [ew] at hl
        simp at hl ⊢
        omega
      have e := ih (x :: xs) hlu hud (by simp) hx
      have hpos : digitsVal (x :: xs) ≠ 0 := by
        intro z
        rw [z] at e
        have e2 : numL 0 = [48] := numL_lt (by decide)
        rw [e2] at e
        rcases h0 with h0 | h0
        · rw [ew, ← e] at h0
          simp at h0
        · rw [h0] at ew
          have := congrArg List.length ew
          simp at this
      rw [ew, val_snoc, numL_step (by omega), show (digitsVal (x :: xs) * 10 + (c - 48)) / 10 = digitsVal (x :: xs) by omega, e, show 48 + (digitsVal (x :: xs) * 10 + (c - 48)) % 10 = c by omega]
theorem numL_head {n : Nat} : 0 < n → (numL n).head? ≠ some 48 := by
  induction n using Nat.strongRecOn with
  | _ n ih =>
    intro hn
    by_cases h : n < 10
    · rw [numL_lt h]
      simp
      omega
    · rw [numL_step (by omega)]
      have := ih (n / 10) (by omega) (by omega)
      cases q : numL (n / 10) with
      | nil => exact absurd q (numL_ne _)
      | cons a b => rw [q] at this; exact this
theorem val_lt : ∀ (w : List Nat), AllDigits w → digitsVal w < 10 ^ w.length := by
  have key : ∀ (k : Nat) (w : List Nat), w.length = k → AllDigits w → digitsVal w < 10 ^ k := by
    intro k
    induction k with
    | zero => intro w hl _; rw [List.length_eq_zero_iff.mp hl]; decide
    | succ k ih =>
      intro w hl hd
      have hne : w ≠ [] := fun e => by rw [e] at hl; cases hl
      have ew : w = w.dropLast ++ [w.getLast hne] := (List.dropLast_concat_getLast hne).symm
      have h1 := ih w.dropLast (by simp [hl]) (fun x hx => hd x (List.dropLast_subset w hx))
      have h2 := hd (w.getLast hne) (List.getLast_mem hne)
      rw [ew, val_snoc, Nat.pow_succ]
      omega
  exact fun w h => key w.length w rfl h
theorem log2_ok {n B : Nat} (h : n < 10 ^ B) (hB : B ≤ 570) : n.log2 < 1920 := by
  have h2 : n < 2 ^ 1920 := Nat.lt_of_lt_of_le h (Nat.le_trans (Nat.pow_le_pow_right (by decide) hB) (by decide +kernel))
  by_cases h0 : n = 0
  · rw [h0]; decide
  · exact (Nat.log2_lt h0).mpr h2
theorem zero_num : numL 0 = [48] := numL_lt (by decide)

/-- the law's reading of a number from 1 on -/
def cnt (w : List Nat) : Nat := if w = [] ∨ w.head? = some 48 ∨ dg w = false then 0 else digitsVal w
theorem cnt_pos {w : List Nat} (h : 0 < cnt w) : w = numL (cnt w) := by
  unfold cnt at h ⊢
  by_cases c : w = [] ∨ w.head? = some 48 ∨ dg w = false
  · rw [if_pos c] at h; cases h
  · rw [if_neg c]
    have h1 : w ≠ [] := fun e => c (.inl e)
    have h2 : w.head? ≠ some 48 := fun e => c (.inr (.inl e))
    have h3 : dg w = true := by
      cases q : dg w with
      | true => rfl
      | false => exact absurd (.inr (.inr q)) c
    exact (numL_of _ w rfl (dg_iff.mp h3) h1 (.inl h2)).symm
theorem cnt_num {n : Nat} (h : 0 < n) : cnt (numL n) = n := by
  unfold cnt
  rw [if_neg, numL_val]
  rintro (e | e | e)
  · exact numL_ne _ e
  · exact numL_head h e
  · rw [dg_iff.mpr (numL_digits n)] at e
    cases e
theorem cnt_zero : cnt [48] = 0 := rfl

/-- the law's ascending numbers -/
def lawNums (least : Nat) : List Nat → List (List Nat) → Option (List Nat)
  | f, [] => some f
  | f, w :: ws => if (w ≠ [48] ∧ cnt w = 0) ∨ cnt w < least then none else if f ≠ [] ∧ cnt w ≤ f.getLastD 0 then none else lawNums least (f ++ [cnt w]) ws
theorem last_ne : ∀ {f : List Nat} (hne : f ≠ []), f.getLastD 0 = f.getLast hne
  | [], h => absurd rfl h
  | _ :: _, _ => rfl
theorem last_max : ∀ {f : List Nat} {n : Nat}, f.Pairwise (· < ·) → (f = [] ∨ f.getLastD 0 < n) → (f ++ [n]).Pairwise (· < ·) := by
  intro f n hp hl
  rw [List.pairwise_append]
  refine ⟨hp, List.pairwise_singleton _ _, fun a ha b hb => ?_⟩
  rw [List.mem_singleton.mp hb]
  rcases hl with e | hl
  · rw [e] at ha; cases ha
  · have hne : f ≠ [] := fun e => by rw [e] at ha; cases ha
    have el : f.getLastD 0 = f.getLast hne := last_ne hne
    rw [el] at hl
    have ef := (List.dropLast_concat_getLast hne).symm
    rw [ef] at hp ha
    rw [List.pairwise_append] at hp
    rcases List.mem_append.mp ha with ha | ha
    · exact Nat.lt_trans (hp.2.2 a ha _ (List.mem_singleton.mpr rfl)) hl
    · rw [List.mem_singleton.mp ha]; exact hl
theorem last_lt {f : List Nat} {n : Nat} {r : List Nat} (h : (f ++ n :: r).Pairwise (· < ·)) : f = [] ∨ f.getLastD 0 < n := by
  by_cases hne : f = []
  · exact .inl hne
  · right
    have el : f.getLastD 0 = f.getLast hne := last_ne hne
    rw [el]
    rw [List.pairwise_append] at h
    exact h.2.2 _ (List.getLast_mem hne) n (List.mem_cons_self ..)
theorem lawNums_some {least : Nat} : ∀ {ws : List (List Nat)} {f r : List Nat}, f.Pairwise (· < ·) → lawNums least f ws = some r → ∃ ns, r = f ++ ns ∧ ws = ns.map numL ∧ r.Pairwise (· < ·) ∧ ∀ n ∈ ns, least ≤ n
  | [], f, r, hf, h => by
    cases h
    exact ⟨[], by simp, rfl, hf, fun _ z => by cases z⟩
  | w :: ws, f, r, hf, h => by
    unfold lawNums at h
    split at h
    · cases h
    · rename_i c1
      split at h
      · cases h
      · rename_i c2
        have hl : f = [] ∨ f.getLastD 0 < cnt w := by
          by_cases e : f = []
          · exact .inl e
          · right
            have : ¬ cnt w ≤ f.getLastD 0 := fun z => c2 ⟨e, z⟩
            omega
        obtain ⟨ns, e1, e2, e3, e4⟩ := lawNums_some (last_max hf hl) h
        refine ⟨cnt w :: ns, by rw [e1]; simp, ?_, e3, fun n hn => ?_⟩
        · rw [List.map_cons, e2]
          congr 1
          by_cases z : 0 < cnt w
          · exact cnt_pos z
          · have z0 : cnt w = 0 := by omega
            have : w = [48] := Classical.byContradiction fun q => c1 (.inl ⟨q, z0⟩)
            rw [z0, this, zero_num]
        · rcases List.mem_cons.mp hn with e | hn
          · have : ¬ cnt w < least := fun z => c1 (.inr z)
            omega
          · exact e4 n hn
theorem lawNums_of {least : Nat} : ∀ {ns f : List Nat}, (f ++ ns).Pairwise (· < ·) → (∀ n ∈ ns, least ≤ n) → lawNums least f (ns.map numL) = some (f ++ ns)
  | [], f, _, _ => by simp [lawNums]
  | n :: ns, f, h, hl => by
    have ec : cnt (numL n) = n := by
      by_cases z : 0 < n
      · exact cnt_num z
      · have : n = 0 := by omega
        rw [this, zero_num, cnt_zero]
    have hln := hl n (List.mem_cons_self ..)
    rw [List.map_cons, lawNums, ec, if_neg, if_neg, lawNums_of (f := f ++ [n]) (by simpa using h) fun k hk => hl k (List.mem_cons_of_mem _ hk)]
    · simp
    · rintro ⟨h1, h2⟩
      rcases last_lt h with e | e
      · exact h1 e
      · omega
    · rintro (⟨h1, h2⟩ | h1)
      · subst h2
        exact h1 zero_num
      · omega
/-! ### the text of a set -/
abbrev OFW : List Nat := [111, 102]
abbrev BUTW : List Nat := [98, 117, 116]
abbrev OFS : List Nat := [32, 111, 102, 32]
abbrev BUTS : List Nat := [32, 98, 117, 116, 32]
def cw (cs : List Nat) : List (List Nat) := if cs = [] then [[46]] else cs.map numL
def hw (chs : List Nat) : List (List Nat) := if chs = [] then [] else BUTW :: chs.map numL
def wrds (m : Nat) (cs chs : List Nat) : List (List Nat) := cw cs ++ (OFW :: numL m :: hw chs)
/-- the numbers' text -/
def nt (ns : List Nat) : List Nat := joinL [32] (ns.map numL)
def Wr (m : Nat) (cs chs : List Nat) : List Nat := (if cs = [] then [46] else nt cs) ++ (OFS ++ (numL m ++ (if chs = [] then [] else BUTS ++ nt chs)))
theorem cw_ne (cs : List Nat) : cw cs ≠ [] := by
  unfold cw
  split
  · simp
  · rename_i h; simpa using h
theorem Wr_join (m : Nat) (cs chs : List Nat) : Wr m cs chs = joinL [32] (wrds m cs chs) := by
  unfold Wr wrds
  rw [joinL_app (cw_ne cs) (by simp), joinL_cons (List.cons_ne_nil _ _)]
  have e1 : joinL [32] (cw cs) = if cs = [] then [46] else nt cs := by
    unfold cw
    split
    · rfl
    · rfl
  rw [e1]
  unfold hw
  by_cases h : chs = []
  · simp [h, joinL]
  · have hm : chs.map numL ≠ [] := by simpa using h
    rw [if_neg h, if_neg h, joinL_cons (List.cons_ne_nil _ _), joinL_cons hm]
    unfold nt
    simp
theorem wrds_free (m : Nat) (cs chs : List Nat) : ∀ w ∈ wrds m cs chs, 32 ∉ w := by
  intro w hw'
  unfold wrds cw hw at hw'
  rcases List.mem_append.mp hw' with h | h
  · split at h
    · rw [List.mem_singleton.mp h]; decide
    · obtain ⟨n, _, e⟩ := List.mem_map.mp h
      rw [← e]; exact numL_free (.inl (by decide))
  · rcases List.mem_cons.mp h with e | h
    · rw [e]; decide
    · rcases List.mem_cons.mp h with e | h
      · rw [e]; exact numL_free (.inl (by decide))
      · split at h
        · cases h
        · rcases List.mem_cons.mp h with e | h
          · rw [e]; decide
          · obtain ⟨n, _, e⟩ := List.mem_map.mp h
            rw [← e]; exact numL_free (.inl (by decide))
theorem wd_Wr (m : Nat) (cs chs : List Nat) : wd 32 (Wr m cs chs) = wrds m cs chs := by
  rw [Wr_join]
  exact wd_joinL (by unfold wrds; simp) (wrds_free m cs chs)
/-! ### the program's reading of a number -/
def rdN (w : List Nat) : Option Int :=
  let d := if w.head? = some 45 then w.drop 1 else w
  if d = [] ∨ dg d = false ∨ (d.head? = some 48 ∧ w ≠ [48]) then none else some (if w.head? = some 45 then -((digitsVal d : Nat) : Int) else ((digitsVal d : Nat) : Int))
theorem rdN_num (n : Nat) : rdN (numL n) = some (n : Int) := by
  unfold rdN
  have h45 : (numL n).head? ≠ some 45 := by
    intro e
    have hm : 45 ∈ numL n := List.mem_of_mem_head? (by rw [e]; rfl)
    have := numL_digits n 45 hm
    omega
  dsimp only
  rw [if_neg h45, if_neg h45, numL_val, if_neg]
  rintro (e | e | ⟨e, f⟩)
  · exact numL_ne _ e
  · rw [dg_iff.mpr (numL_digits n)] at e; cases e
  · by_cases z : 0 < n
    · exact numL_head z e
    · have : n = 0 := by omega
      rw [this, zero_num] at f
      exact f rfl
/-- the numbers of a text -/
def rdNs (p : List Nat) : List (Option Int) := (wd 32 p).map rdN
theorem rdNs_nt {ns : List Nat} (h : ns ≠ []) : rdNs (nt ns) = ns.map fun (n : Nat) => some (n : Int) := by
  unfold rdNs nt
  rw [wd_joinL (by simpa using h) (fun w hw => by obtain ⟨n, _, e⟩ := List.mem_map.mp hw; rw [← e]; exact numL_free (.inl (by decide))), List.map_map]
  exact List.map_congr_left fun n _ => rdN_num n
theorem par_second {s c : Nat} {S p q : List Nat} (hsc : s ≠ c) (h : c ∉ p) : par (s :: c :: S) [] (p ++ (s :: c :: S ++ q)) = some (p, q) := by
  have := par_part (S := s :: c :: S) (p := p) (rest := q) (acc := []) (by simp) (fun i hi => ?_)
  · simpa using this
  · cases hp : pre (s :: c :: S) ((p ++ (s :: c :: S ++ q)).drop i) with
    | false => rfl
    | true =>
      exfalso
      have e : ((p ++ (s :: c :: S ++ q)).drop i).take (s :: c :: S).length = s :: c :: S := eq_of_beq hp
      have e1 : (p ++ (s :: c :: S ++ q))[i + 1]? = some c := by
        have z := congrArg (fun l => l[1]?) e
        simp only [List.getElem?_take, List.getElem?_drop] at z
        simpa using z
      by_cases hl : i + 1 < p.length
      · rw [List.getElem?_append_left hl] at e1
        exact h (List.mem_of_getElem? e1)
      · have el : i + 1 = p.length := by omega
        rw [List.getElem?_append_right (by omega), el, Nat.sub_self] at e1
        simp at e1
        exact hsc e1
theorem nt_free {ns : List Nat} {c : Nat} (hc : c < 48 ∨ 57 < c) (h32 : c ≠ 32) : c ∉ nt ns := by
  unfold nt
  have key : ∀ (ws : List (List Nat)), (∀ w ∈ ws, c ∉ w) → c ∉ joinL [32] ws := by
    intro ws
    induction ws with
    | nil => intro _ h; cases h
    | cons w ws ih =>
      intro hw hm
      by_cases e : ws = []
      · subst e
        exact hw w (List.mem_cons_self ..) hm
      · rw [joinL_cons e] at hm
        rcases List.mem_append.mp hm with hm | hm
        · exact hw w (List.mem_cons_self ..) hm
        · rcases List.mem_append.mp hm with hm | hm
          · exact h32 (List.mem_singleton.mp hm)
          · exact ih (fun u hu => hw u (List.mem_cons_of_mem _ hu)) hm
  exact key _ fun w hw => by obtain ⟨n, _, e⟩ := List.mem_map.mp hw; rw [← e]; exact numL_free hc
/-- what set_of_text takes out of a text: the modulus, the classes, the changed ones -/
def cut2 (S p : List Nat) : List Nat × Bool × List Nat := match par S [] p with | some (a, b) => (a, true, b) | none => (p, false, [])
def pModulus (p : List Nat) : Option Int := rdN (cut2 BUTS (cut2 OFS p).2.2).1
def pClasses (p : List Nat) : List (Option Int) := if (cut2 OFS p).1 = [46] then [] else rdNs (cut2 OFS p).1
def pChanged (p : List Nat) : List (Option Int) := if (cut2 BUTS (cut2 OFS p).2.2).2.1 = true then rdNs (cut2 BUTS (cut2 OFS p).2.2).2.2 else []
theorem cut_of (m : Nat) (cs chs : List Nat) : cut2 OFS (Wr m cs chs) = ((if cs = [] then [46] else nt cs), true, numL m ++ (if chs = [] then [] else BUTS ++ nt chs)) := by
  unfold cut2 Wr
  rw [show par OFS [] ((if cs = [] then [46] else nt cs) ++ (OFS ++ (numL m ++ (if chs = [] then [] else BUTS ++ nt chs)))) = some (_, _) from par_second (S := [102, 32]) (by decide) (by
    split
    · decide
    · exact nt_free (.inr (by decide)) (by decide))]
theorem cut_but (m : Nat) (chs : List Nat) : cut2 BUTS (numL m ++ (if chs = [] then [] else BUTS ++ nt chs)) = (numL m, !chs.isEmpty, nt chs) := by
  unfold cut2
  cases chs with
  | nil =>
    rw [if_pos rfl, List.append_nil, show par BUTS [] (numL m) = none from par_none1 (numL_free (.inl (by decide)))]
    rfl
  | cons a r =>
    rw [if_neg (List.cons_ne_nil _ _), show par BUTS [] (numL m ++ (BUTS ++ nt (a :: r))) = some (_, _) from by
      have := par_part1 (s := 32) (S := [98, 117, 116, 32]) (p := numL m) (rest := nt (a :: r)) (acc := []) (numL_free (.inl (by decide)))
      simpa using this]
    rfl
theorem parse_Wr (m : Nat) (cs chs : List Nat) : pModulus (Wr m cs chs) = some (m : Int) ∧ pClasses (Wr m cs chs) = cs.map (fun (n : Nat) => some (n : Int)) ∧ pChanged (Wr m cs chs) = chs.map (fun (n : Nat) => some (n : Int)) := by
  unfold pModulus pClasses pChanged
  rw [cut_of]
  dsimp only
  rw [cut_but]
  refine ⟨rdN_num m, ?_, ?_⟩
  · by_cases h : cs = []
    · rw [if_pos h, h]; rfl
    · rw [if_neg h, if_neg, rdNs_nt h]
      intro e
      have : 46 ∈ nt cs := by rw [e]; simp
      exact nt_free (.inl (by decide)) (by decide) this
  · cases chs with
    | nil => rfl
    | cons a r =>
      show rdNs (nt (a :: r)) = _
      rw [rdNs_nt (List.cons_ne_nil _ _)]
end Rl
end

section
set_option maxRecDepth 100000
namespace Rl
/-! ### periods of marks on a ring of n places -/
/-- goes on in steps of p, below n -/
def PerD (n : Nat) (mk : Nat → Bool) (p : Nat) : Prop := ∀ i, i + p < n → mk i = mk (i + p)
/-- the law's look: a place is as its remainder -/
def PerR (n : Nat) (mk : Nat → Bool) (p : Nat) : Prop := ∀ k, p ≤ k → k < n → mk k = mk (k % p)
theorem PerD.mod {n : Nat} {mk : Nat → Bool} {p : Nat} (h : PerD n mk p) (hp : 0 < p) : ∀ k, k < n → mk k = mk (k % p) := by
  intro k
  induction k using Nat.strongRecOn with
  | _ k ih =>
    intro hk
    by_cases hl : k < p
    · rw [Nat.mod_eq_of_lt hl]
    · have e := h (k - p) (by omega)
      rw [show k - p + p = k by omega] at e
      rw [← e, ih (k - p) (by omega) (by omega), ← Nat.mod_eq_sub_mod (by omega)]
theorem perR_iff {n : Nat} {mk : Nat → Bool} {p : Nat} (hp : 0 < p) : PerR n mk p ↔ PerD n mk p := by
  constructor
  · intro h i hi
    rw [h (i + p) (by omega) hi, Nat.add_mod_right]
    by_cases hl : i < p
    · rw [Nat.mod_eq_of_lt hl]
    · exact h i (by omega) (by omega)
  · intro h k _ hk
    exact h.mod hp k hk
/-- round the ring -/
def Rg (n : Nat) (mk : Nat → Bool) (p : Nat) : Prop := ∀ i, mk ((i + p) % n) = mk (i % n)
theorem Rg.add {n : Nat} {mk : Nat → Bool} {p q : Nat} (hp : Rg n mk p) (hq : Rg n mk q) : Rg n mk (p + q) := fun i => by
  rw [← Nat.add_assoc, hq (i + p), hp i]
theorem Rg.zero {n : Nat} {mk : Nat → Bool} : Rg n mk 0 := fun i => rfl
theorem Rg.mul {n : Nat} {mk : Nat → Bool} {p : Nat} (hp : Rg n mk p) : ∀ k, Rg n mk (p * k)
  | 0 => Rg.zero
  | k + 1 => by rw [Nat.mul_succ]; exact (Rg.mul hp k).add hp
theorem Rg.sub {n : Nat} {mk : Nat → Bool} {p q : Nat} (hp : Rg n mk (p + q)) (hq : Rg n mk q) : Rg n mk p := fun i => by
  rw [← hp i, ← Nat.add_assoc, hq (i + p)]
theorem Rg.mod {n : Nat} {mk : Nat → Bool} {p q : Nat} (hp : Rg n mk p) (hq : Rg n mk q) : Rg n mk (p % q) := by
  refine Rg.sub (q := q * (p / q)) ?_ (hq.mul _)
  rw [Nat.mod_add_div]
  exact hp
theorem Rg.gcd {n : Nat} {mk : Nat → Bool} (p q : Nat) : Rg n mk p → Rg n mk q → Rg n mk (Nat.gcd p q) := by
  induction p, q using Nat.gcd.induction with
  | H0 q => intro _ h; rw [Nat.gcd_zero_left]; exact h
  | H1 p q hp ih =>
    intro h1 h2
    rw [Nat.gcd_rec]
    exact ih (h2.mod h1) h1
theorem rg_iff {n : Nat} {mk : Nat → Bool} {p : Nat} (hp : 0 < p) (hd : p ∣ n) (hn : 0 < n) : Rg n mk p ↔ PerD n mk p := by
  constructor
  · intro h i hi
    have e := h i
    rw [Nat.mod_eq_of_lt hi, Nat.mod_eq_of_lt (by omega)] at e
    exact e.symm
  · intro h i
    have hm := h.mod hp
    rw [hm _ (Nat.mod_lt _ hn), hm _ (Nat.mod_lt i hn), Nat.mod_mod_of_dvd _ hd, Nat.mod_mod_of_dvd _ hd, Nat.add_mod_right]
/-- the least divisor that is a period -/
def perB (n : Nat) (mk : Nat → Bool) (p : Nat) : Bool := decide (n % p = 0) && (List.range n).all fun k => decide (k < p) || (mk k == mk (k % p))
theorem perB_iff {n : Nat} {mk : Nat → Bool} {p : Nat} : perB n mk p = true ↔ n % p = 0 ∧ PerR n mk p := by
  unfold perB PerR
  rw [Bool.and_eq_true, decide_eq_true_eq, List.all_eq_true]
  constructor
  · rintro ⟨h, g⟩
    refine ⟨h, fun k h1 h2 => ?_⟩
    have := g k (List.mem_range.mpr h2)
    rw [Bool.or_eq_true, decide_eq_true_eq] at this
    rcases this with z | z
    · omega
    · exact eq_of_beq z
  · rintro ⟨h, g⟩
    refine ⟨h, fun k hk => ?_⟩
    rw [Bool.or_eq_true, decide_eq_true_eq]
    by_cases z : k < p
    · exact .inl z
    · exact .inr (beq_iff_eq.mpr (g k (by omega) (List.mem_range.mp hk)))
structure IsLp (n : Nat) (mk : Nat → Bool) (s : Nat) : Prop where
  pos : 1 ≤ s
  le : s ≤ n
  per : perB n mk s = true
  least : ∀ t, 1 ≤ t → t < s → perB n mk t = false
theorem IsLp.uniq {n : Nat} {mk : Nat → Bool} {s t : Nat} (a : IsLp n mk s) (b : IsLp n mk t) : s = t := by
  by_cases h1 : s < t
  · have := b.least s a.pos h1
    rw [a.per] at this; cases this
  · by_cases h2 : t < s
    · have := a.least t b.pos h2
      rw [b.per] at this; cases this
    · omega
theorem perB_self {n : Nat} {mk : Nat → Bool} : perB n mk n = true := perB_iff.mpr ⟨Nat.mod_self n, fun k h1 h2 => by omega⟩
/-- the first place from a on, below n, or n -/
def lpFrom (n : Nat) (mk : Nat → Bool) : Nat → Nat → Nat
  | 0, a => a
  | k + 1, a => if perB n mk a = true then a else lpFrom n mk k (a + 1)
def lp (n : Nat) (mk : Nat → Bool) : Nat := lpFrom n mk (n - 1) 1
theorem lpFrom_ok {n : Nat} {mk : Nat → Bool} : ∀ (k a : Nat), 1 ≤ a → a + k = n → (∀ t, 1 ≤ t → t < a → perB n mk t = false) → IsLp n mk (lpFrom n mk k a)
  | 0, a, h1, h2, h3 => by
    have : a = n := by omega
    subst this
    exact ⟨h1, Nat.le_refl _, perB_self, h3⟩
  | k + 1, a, h1, h2, h3 => by
    show IsLp n mk (if perB n mk a = true then a else lpFrom n mk k (a + 1))
    by_cases c : perB n mk a = true
    · rw [if_pos c]
      exact ⟨h1, by omega, c, h3⟩
    · rw [if_neg c]
      refine lpFrom_ok k (a + 1) (by omega) (by omega) fun t t1 t2 => ?_
      by_cases e : t = a
      · rw [e]
        cases q : perB n mk a with
        | true => exact absurd q c
        | false => rfl
      · exact h3 t t1 (by omega)
theorem lp_ok {n : Nat} {mk : Nat → Bool} (hn : 1 ≤ n) : IsLp n mk (lp n mk) := lpFrom_ok (n - 1) 1 (Nat.le_refl _) (by omega) (fun t h1 h2 => by omega)
theorem lp_eq {n : Nat} {mk : Nat → Bool} {s : Nat} (hn : 1 ≤ n) (h : IsLp n mk s) : lp n mk = s := (lp_ok hn).uniq h
theorem perB_congr {n : Nat} {mk mk' : Nat → Bool} (h : ∀ k, k < n → mk k = mk' k) (p : Nat) (hp : 0 < p) : perB n mk p = perB n mk' p := by
  have key : ∀ {m m' : Nat → Bool}, (∀ k, k < n → m k = m' k) → perB n m p = true → perB n m' p = true := fun {m m'} h q => by
    obtain ⟨q1, q2⟩ := perB_iff.mp q
    refine perB_iff.mpr ⟨q1, fun k h1 h2 => ?_⟩
    have hk : k % p < n := Nat.lt_of_lt_of_le (Nat.mod_lt _ hp) (by omega)
    rw [← h k h2, ← h _ hk]
    exact q2 k h1 h2
  cases a : perB n mk p with
  | true => exact (key h a).symm
  | false =>
    cases b : perB n mk' p with
    | false => rfl
    | true => rw [key (fun k hk => (h k hk).symm) b] at a; cases a
theorem IsLp.congr {n : Nat} {mk mk' : Nat → Bool} {s : Nat} (h : ∀ k, k < n → mk k = mk' k) (a : IsLp n mk s) : IsLp n mk' s :=
  ⟨a.pos, a.le, by rw [← perB_congr h s a.pos]; exact a.per, fun t t1 t2 => by rw [← perB_congr h t t1]; exact a.least t t1 t2⟩
theorem lp_congr {n : Nat} {mk mk' : Nat → Bool} (hn : 1 ≤ n) (h : ∀ k, k < n → mk k = mk' k) : lp n mk = lp n mk' := (lp_eq hn ((lp_ok hn).congr fun k hk => (h k hk).symm))
theorem perB_D {n : Nat} {mk : Nat → Bool} {p : Nat} (hp : 0 < p) : perB n mk p = true ↔ p ∣ n ∧ PerD n mk p := by
  rw [perB_iff, perR_iff hp]
  exact ⟨fun ⟨a, b⟩ => ⟨Nat.dvd_of_mod_eq_zero a, b⟩, fun ⟨a, b⟩ => ⟨Nat.mod_eq_zero_of_dvd a, b⟩⟩
/-- every period that divides is a multiple of the least one -/
theorem IsLp.dvd {n : Nat} {mk : Nat → Bool} {s p : Nat} (a : IsLp n mk s) (hp : 0 < p) (h : perB n mk p = true) : s ∣ p := by
  have hn : 0 < n := Nat.lt_of_lt_of_le a.pos a.le
  obtain ⟨d1, p1⟩ := (perB_D a.pos).mp a.per
  obtain ⟨d2, p2⟩ := (perB_D hp).mp h
  have r := Rg.gcd s p ((rg_iff a.pos d1 hn).mpr p1) ((rg_iff hp d2 hn).mpr p2)
  have hg : 0 < Nat.gcd s p := Nat.gcd_pos_of_pos_left _ a.pos
  have dg : Nat.gcd s p ∣ n := Nat.dvd_trans (Nat.gcd_dvd_left s p) d1
  have q := (perB_D hg).mpr ⟨dg, (rg_iff hg dg hn).mp r⟩
  have hle : Nat.gcd s p ≤ s := Nat.gcd_le_left _ a.pos
  have he : Nat.gcd s p = s := by
    by_cases hlt : Nat.gcd s p < s
    · have := a.least _ hg hlt
      rw [q] at this; cases this
    · omega
  rw [← he]
  exact Nat.gcd_dvd_right s p
theorem perB_mul {n : Nat} {mk : Nat → Bool} {p k : Nat} (hp : 0 < p) (hk : 0 < k) (h : perB n mk p = true) (hd : p * k ∣ n) (hn : 0 < n) : perB n mk (p * k) = true := by
  obtain ⟨d1, p1⟩ := (perB_D hp).mp h
  exact (perB_D (Nat.mul_pos hp hk)).mpr ⟨hd, (rg_iff (Nat.mul_pos hp hk) hd hn).mp (((rg_iff hp d1 hn).mpr p1).mul k)⟩
/-- what prime_divisors hands back: every divisor from 2 on has one of them -/
structure Pds (n : Nat) (f : List Nat) : Prop where
  two : ∀ q ∈ f, 2 ≤ q
  all : ∀ k, 2 ≤ k → k ∣ n → ∃ q ∈ f, q ∣ k
/-- what least_period is left with is the least one -/
theorem lp_end {n : Nat} {mk : Nat → Bool} {P : Nat} {f : List Nat} (hn : 0 < n) (hP : 0 < P) (h : perB n mk P = true) (hf : Pds n f) (hs : ∀ q ∈ f, ¬ (P % q = 0 ∧ perB n mk (P / q) = true)) : IsLp n mk P := by
  have a := lp_ok (n := n) (mk := mk) hn
  obtain ⟨k, hk⟩ := a.dvd hP h
  have hk0 : 0 < k := by
    rcases Nat.eq_zero_or_pos k with z | z
    · rw [z, Nat.mul_zero] at hk; omega
    · exact z
  by_cases h2 : 2 ≤ k
  · exfalso
    have hdn : P ∣ n := ((perB_D hP).mp h).1
    obtain ⟨q, hq, hqk⟩ := hf.all k h2 (Nat.dvd_trans ⟨lp n mk, by rw [Nat.mul_comm]; exact hk⟩ hdn)
    obtain ⟨j, hj⟩ := hqk
    have hq2 := hf.two q hq
    have hj0 : 0 < j := by
      rcases Nat.eq_zero_or_pos j with z | z
      · rw [z, Nat.mul_zero] at hj; omega
      · exact z
    have e1 : P = q * (lp n mk * j) := by rw [hk, hj, Nat.mul_left_comm]
    have e2 : P / q = lp n mk * j := by rw [e1]; exact Nat.mul_div_cancel_left _ (by omega)
    refine hs q hq ⟨by rw [e1]; exact Nat.mul_mod_right q _, ?_⟩
    rw [e2]
    exact perB_mul a.pos hj0 a.per (Nat.dvd_trans ⟨q, by rw [e1, Nat.mul_comm]⟩ hdn) hn
  · have : k = 1 := by omega
    rw [this, Nat.mul_one] at hk
    rw [hk]
    exact a
/-- what stands of the divisors that are done stays when the period falls -/
theorem done_stays {n : Nat} {mk : Nat → Bool} {P P' q : Nat} (hn : 0 < n) (hP : 0 < P) (hP' : 0 < P') (hPn : P ∣ n) (hd : P' ∣ P) (hq : 2 ≤ q) (h : ¬ (P % q = 0 ∧ perB n mk (P / q) = true)) : ¬ (P' % q = 0 ∧ perB n mk (P' / q) = true) := by
  rintro ⟨h1, h2⟩
  obtain ⟨k, hk⟩ := hd
  have hk0 : 0 < k := by
    rcases Nat.eq_zero_or_pos k with z | z
    · rw [z, Nat.mul_zero] at hk; omega
    · exact z
  obtain ⟨j, hj⟩ := Nat.dvd_of_mod_eq_zero h1
  have hj0 : 0 < j := by
    rcases Nat.eq_zero_or_pos j with z | z
    · rw [z, Nat.mul_zero] at hj; omega
    · exact z
  have e1 : P' / q = j := by rw [hj]; exact Nat.mul_div_cancel_left _ (by omega)
  have e2 : P / q = j * k := by rw [hk, hj, Nat.mul_assoc]; exact Nat.mul_div_cancel_left _ (by omega)
  refine h ⟨?_, ?_⟩
  · rw [hk, hj, Nat.mul_assoc]; exact Nat.mul_mod_right q _
  · rw [e2]
    rw [e1] at h2
    exact perB_mul hj0 hk0 h2 (Nat.dvd_trans ⟨q, by rw [hk, hj, Nat.mul_assoc, Nat.mul_comm]⟩ hPn) hn
/-- the invariant of prime_divisors' loops: m what is left, f what is found -/
structure Pinv (n m : Nat) (f : List Nat) : Prop where
  two : ∀ q ∈ f, 2 ≤ q
  pos : 0 < m
  dvd : m ∣ n
  all : ∀ k, 2 ≤ k → k ∣ n → (∃ q ∈ f, q ∣ k) ∨ 1 < Nat.gcd k m
theorem Pinv.start {n : Nat} (hn : 0 < n) : Pinv n n [] := ⟨fun _ h => (by cases h), hn, Nat.dvd_refl n, fun k h1 h2 => .inr (by rw [Nat.gcd_eq_left h2]; omega)⟩
theorem Pinv.done {n m : Nat} {f : List Nat} (h : Pinv n m f) (hm : ¬ 1 < m) : Pds n f := by
  have hp := h.pos
  have e : m = 1 := by omega
  subst e
  refine ⟨h.two, fun k h1 h2 => (h.all k h1 h2).elim id fun z => ?_⟩
  rw [Nat.gcd_one_right] at z
  omega
theorem Pinv.snoc {n m p : Nat} {f : List Nat} (h : Pinv n m f) (hp : 2 ≤ p) : Pinv n m (f ++ [p]) :=
  ⟨fun q hq => (List.mem_append.mp hq).elim (h.two q) fun z => by rw [List.mem_singleton.mp z]; exact hp, h.pos, h.dvd, fun k h1 h2 => (h.all k h1 h2).imp (fun ⟨q, hq, d⟩ => ⟨q, List.mem_append_left _ hq, d⟩) id⟩
/-- m has no divisor from 2 on below p -/
def Low (m p : Nat) : Prop := ∀ d, 2 ≤ d → d ∣ m → p ≤ d
theorem Pinv.div {n m p : Nat} {f : List Nat} (h : Pinv n m f) (hp : 2 ≤ p) (hl : Low m p) (hf : p ∈ f) (hm : m % p = 0) : Pinv n (m / p) f ∧ Low (m / p) p ∧ m / p < m := by
  obtain ⟨j, hj⟩ := Nat.dvd_of_mod_eq_zero hm
  have hm0 := h.pos
  have e : m / p = j := by rw [hj]; exact Nat.mul_div_cancel_left _ (by omega)
  have hj0 : 0 < j := by
    rcases Nat.eq_zero_or_pos j with z | z
    · rw [z, Nat.mul_zero] at hj; omega
    · exact z
  rw [e]
  have hjm : j ∣ m := ⟨p, by rw [hj, Nat.mul_comm]⟩
  refine ⟨⟨h.two, hj0, Nat.dvd_trans hjm h.dvd, fun k h1 h2 => ?_⟩, fun d h1 h2 => hl d h1 (Nat.dvd_trans h2 hjm), ?_⟩
  · rcases h.all k h1 h2 with z | z
    · exact .inl z
    · by_cases hg : 1 < Nat.gcd k j
      · exact .inr hg
      · left
        refine ⟨p, hf, ?_⟩
        -- d = gcd k m, prime to j, divides p * j, so p
        have hkj : Nat.gcd k j = 1 := by
          have := Nat.gcd_pos_of_pos_right k hj0
          omega
        have hd1 : Nat.gcd k m ∣ k := Nat.gcd_dvd_left k m
        have hd2 : Nat.gcd k m ∣ p * j := by rw [← hj]; exact Nat.gcd_dvd_right k m
        have hc : Nat.Coprime (Nat.gcd k m) j := by
          have : Nat.gcd (Nat.gcd k m) j ∣ Nat.gcd k j := Nat.dvd_gcd (Nat.dvd_trans (Nat.gcd_dvd_left _ _) hd1) (Nat.gcd_dvd_right _ _)
          rw [hkj] at this
          exact Nat.eq_one_of_dvd_one this
        have hdp : Nat.gcd k m ∣ p := hc.dvd_of_dvd_mul_right hd2
        have h3 : p ≤ Nat.gcd k m := hl _ (by omega) (Nat.gcd_dvd_right k m)
        have h4 : Nat.gcd k m ≤ p := Nat.le_of_dvd (by omega) hdp
        have h5 : Nat.gcd k m = p := by omega
        rw [← h5]
        exact hd1
  · rw [hj]
    have : 2 * j ≤ p * j := Nat.mul_le_mul_right j hp
    omega
theorem Low.next {m p : Nat} (h : Low m p) (hm : ¬ m % p = 0) : Low m (p + 1) := fun d h1 h2 => by
  have := h d h1 h2
  by_cases e : d = p
  · subst e
    exact absurd (Nat.mod_eq_zero_of_dvd h2) hm
  · omega
theorem Low.two {m : Nat} : Low m 2 := fun _ h _ => h
end Rl
end

section
set_option maxRecDepth 100000
namespace Rl
open PySem NumText TL
/-! ### sets in their plainest form; what the law reads -/
def mk (cs : List Nat) (k : Nat) : Bool := decide (k ∈ cs)
/-- the classes below s -/
def cls (cs : List Nat) (s : Nat) : List Nat := (List.range s).filter (mk cs)
theorem cls_sorted (cs : List Nat) (s : Nat) : (cls cs s).Pairwise (· < ·) := List.Pairwise.filter _ List.pairwise_lt_range
theorem cls_lt {cs : List Nat} {s : Nat} : ∀ c ∈ cls cs s, c < s := fun c hc => List.mem_range.mp (List.mem_filter.mp hc).1
theorem mem_cls {cs : List Nat} {s k : Nat} : k ∈ cls cs s ↔ k < s ∧ k ∈ cs := by
  unfold cls mk
  rw [List.mem_filter, List.mem_range, decide_eq_true_eq]
theorem sorted_ext : ∀ {a b : List Nat}, a.Pairwise (· < ·) → b.Pairwise (· < ·) → (∀ x, x ∈ a ↔ x ∈ b) → a = b
  | [], [], _, _, _ => rfl
  | [], y :: b, _, _, h => absurd ((h y).mpr (List.mem_cons_self ..)) (by simp)
  | x :: a, [], _, _, h => absurd ((h x).mp (List.mem_cons_self ..)) (by simp)
  | x :: a, y :: b, ha, hb, h => by
    obtain ⟨hx, ha'⟩ := List.pairwise_cons.mp ha
    obtain ⟨hy, hb'⟩ := List.pairwise_cons.mp hb
    have e : x = y := by
      have h1 := (h x).mp (List.mem_cons_self ..)
      have h2 := (h y).mpr (List.mem_cons_self ..)
      rcases List.mem_cons.mp h1 with e | h1
      · exact e
      · rcases List.mem_cons.mp h2 with e | h2
        · exact e.symm
        · have := hy x h1
          have := hx y h2
          omega
    subst e
    rw [sorted_ext ha' hb' fun z => ?_]
    constructor
    · intro hz
      have := (h z).mp (List.mem_cons_of_mem _ hz)
      rcases List.mem_cons.mp this with e | hz'
      · have := hx z hz
        omega
      · exact hz'
    · intro hz
      have := (h z).mpr (List.mem_cons_of_mem _ hz)
      rcases List.mem_cons.mp this with e | hz'
      · have := hy z hz
        omega
      · exact hz'
structure Good (m : Nat) (cs chs : List Nat) : Prop where
  m1 : 1 ≤ m
  m720 : m ≤ 720
  cs_s : cs.Pairwise (· < ·)
  cs_lt : ∀ c ∈ cs, c < m
  lpe : lp m (mk cs) = m
  ch_s : chs.Pairwise (· < ·)
  ch1 : ∀ c ∈ chs, 1 ≤ c
theorem Good.cls {m : Nat} {cs chs : List Nat} (g : Good m cs chs) : cls cs m = cs :=
  sorted_ext (cls_sorted _ _) g.cs_s fun x => by
    rw [mem_cls]
    exact ⟨fun h => h.2, fun h => ⟨g.cs_lt x h, h⟩⟩
/-- the plainest form of a ring of marks is plain -/
theorem lp_again {n : Nat} {m m' : Nat → Bool} (hn : 1 ≤ n) (h : ∀ k, k < lp n m → m' k = m k) : lp (lp n m) m' = lp n m := by
  have a := lp_ok (n := n) (mk := m) hn
  refine lp_eq a.pos ⟨a.pos, Nat.le_refl _, perB_self, fun t t1 t2 => ?_⟩
  cases q : perB (lp n m) m' t with
  | false => rfl
  | true =>
    exfalso
    rw [perB_congr h t t1] at q
    obtain ⟨q1, q2⟩ := perB_iff.mp q
    obtain ⟨a1, a2⟩ := perB_iff.mp a.per
    have hd : t ∣ lp n m := Nat.dvd_of_mod_eq_zero q1
    have hdn : t ∣ n := Nat.dvd_trans hd (Nat.dvd_of_mod_eq_zero a1)
    have bad : perB n m t = true := perB_iff.mpr ⟨Nat.mod_eq_zero_of_dvd hdn, fun k k1 k2 => by
      have e1 : m k = m (k % lp n m) := by
        by_cases z : k < lp n m
        · rw [Nat.mod_eq_of_lt z]
        · exact a2 k (by omega) k2
      have hl : k % lp n m < lp n m := Nat.mod_lt _ a.pos
      have e2 : m (k % lp n m) = m (k % lp n m % t) := by
        by_cases z : k % lp n m < t
        · rw [Nat.mod_eq_of_lt z]
        · exact q2 _ (by omega) hl
      rw [e1, e2, Nat.mod_mod_of_dvd _ hd]⟩
    rw [a.least t t1 t2] at bad
    cases bad
/-- what is made of a modulus, classes and changed ones -/
theorem good_of {m : Nat} {cs chs : List Nat} (h1 : 1 ≤ m) (h2 : m ≤ 720) (hs : chs.Pairwise (· < ·)) (h3 : ∀ c ∈ chs, 1 ≤ c) : Good (lp m (mk cs)) (cls cs (lp m (mk cs))) chs := by
  have a := lp_ok (n := m) (mk := mk cs) h1
  refine ⟨a.pos, Nat.le_trans a.le h2, cls_sorted _ _, cls_lt, lp_again h1 fun k hk => ?_, hs, h3⟩
  unfold mk
  have : k ∈ cls cs (lp m (mk cs)) ↔ k ∈ cs := by
    rw [mem_cls]
    exact ⟨fun h => h.2, fun h => ⟨hk, h⟩⟩
  exact decide_eq_decide.mpr this
/-! ### the law's reading -/
abbrev T3 := Nat × List Nat × List Nat
def fin (m : Nat) (c1 ch : Option (List Nat)) (rest : List (List Nat)) : Option T3 :=
  match c1, ch with
  | some c, some h =>
    if ¬ (1 ≤ m ∧ m ≤ 720) then none
    else if (c.filter fun x => decide (m ≤ x)) ≠ [] then none
    else if rest ≠ [] ∧ (rest.head? ≠ some BUTW ∨ h = []) then none
    else if ¬ (lp m (mk c) = m ∧ cls c (lp m (mk c)) = c) then none
    else some (m, c, h)
  | _, _ => none
def cl1 (ws : List (List Nat)) : Option (List Nat) := if ws = [[46]] then some [] else if lawNums 0 [] ws = some [] then none else lawNums 0 [] ws
def lawRead (p : List Nat) : Option T3 :=
  if (wd 32 p).count OFW ≠ 1 ∨ (wd 32 p).getLast? = some OFW then none
  else fin (cnt ((wd 32 p).getD ((wd 32 p).idxOf OFW + 1) [])) (cl1 ((wd 32 p).take ((wd 32 p).idxOf OFW))) (lawNums 1 [] (((wd 32 p).drop ((wd 32 p).idxOf OFW + 2)).drop 1)) ((wd 32 p).drop ((wd 32 p).idxOf OFW + 2))
theorem fin_some {m : Nat} {c1 ch : Option (List Nat)} {rest : List (List Nat)} {t : T3} (h : fin m c1 ch rest = some t) :
    ∃ c e, c1 = some c ∧ ch = some e ∧ t = (m, c, e) ∧ 1 ≤ m ∧ m ≤ 720 ∧ (∀ x ∈ c, x < m) ∧ (rest = [] ∨ (rest.head? = some BUTW ∧ e ≠ [])) ∧ lp m (mk c) = m := by
  unfold fin at h
  cases c1 with
  | none => cases h
  | some c =>
    cases ch with
    | none => cases h
    | some e =>
      dsimp only at h
      split at h
      · cases h
      · rename_i q1
        split at h
        · cases h
        · rename_i q2
          split at h
          · cases h
          · rename_i q3
            split at h
            · cases h
            · rename_i q4
              cases h
              have q1' := Classical.not_not.mp q1
              have q2' := Classical.not_not.mp q2
              refine ⟨c, e, rfl, rfl, rfl, q1'.1, q1'.2, fun x hx => ?_, ?_, (Classical.not_not.mp q4).1⟩
              · by_cases z : x < m
                · exact z
                · have : x ∈ c.filter fun x => decide (m ≤ x) := List.mem_filter.mpr ⟨hx, decide_eq_true (by omega)⟩
                  rw [q2'] at this
                  cases this
              · by_cases z : rest = []
                · exact .inl z
                · right
                  by_cases z2 : rest.head? = some BUTW
                  · exact ⟨z2, fun z3 => q3 ⟨z, .inr z3⟩⟩
                  · exact absurd ⟨z, .inl z2⟩ q3
theorem idx_split {a : List Nat} : ∀ {l : List (List Nat)}, a ∈ l → l.idxOf a < l.length ∧ l = l.take (l.idxOf a) ++ a :: l.drop (l.idxOf a + 1) := by
  intro l h
  have h1 : l.idxOf a < l.length := List.idxOf_lt_length_of_mem h
  refine ⟨h1, ?_⟩
  have e : l[l.idxOf a] = a := List.getElem_idxOf h1
  have := (List.take_append_drop (l.idxOf a) l).symm
  rw [List.drop_eq_getElem_cons h1, e] at this
  exact this
theorem lawRead_some {p : List Nat} {t : T3} (h : lawRead p = some t) : Good t.1 t.2.1 t.2.2 ∧ p = Wr t.1 t.2.1 t.2.2 := by
  unfold lawRead at h
  split at h
  · cases h
  · rename_i q0
    have hc : (wd 32 p).count OFW = 1 := Classical.byContradiction fun z => q0 (.inl z)
    have hl : (wd 32 p).getLast? ≠ some OFW := fun z => q0 (.inr z)
    have hm : OFW ∈ wd 32 p := List.count_pos_iff.mp (by omega)
    obtain ⟨i1, i2⟩ := idx_split hm
    generalize (wd 32 p).idxOf OFW = i at *
    have hj := wd_join 32 p
    generalize wd 32 p = ps at *
    have hi2 : i + 1 < ps.length := by
      by_cases z : i + 1 < ps.length
      · exact z
      · exfalso
        have e : i + 1 = ps.length := by omega
        rw [List.drop_of_length_le (by omega)] at i2
        rw [i2] at hl
        simp at hl
    have ed : ps.drop (i + 1) = ps.getD (i + 1) [] :: ps.drop (i + 2) := by
      rw [List.drop_eq_getElem_cons hi2]
      simp [List.getD, List.getElem?_eq_getElem hi2]
    obtain ⟨c, e, e1, e2, e3, m1, m2, hlt, hr, hp⟩ := fin_some h
    subst e3
    have hcl : (ps.take i = cw c) ∧ c.Pairwise (· < ·) := by
      unfold cl1 at e1
      unfold cw
      split at e1
      · rename_i z
        cases e1
        exact ⟨by rw [z]; rfl, .nil⟩
      · split at e1
        · cases e1
        · rename_i z2
          obtain ⟨ns, n1, n2, n3, _⟩ := lawNums_some .nil e1
          rw [List.nil_append] at n1
          subst n1
          have : c ≠ [] := fun z => z2 (by rw [e1, z])
          rw [if_neg this]
          exact ⟨n2, n3⟩
    obtain ⟨ns, n1, n2, n3, n4⟩ := lawNums_some .nil e2
    rw [List.nil_append] at n1
    subst n1
    have hre : ps.drop (i + 2) = hw e := by
      unfold hw
      rcases hr with hr | ⟨hr, hne⟩
      · rw [hr] at n2 ⊢
        have : e = [] := by simpa using n2.symm
        rw [if_pos this]
      · rw [if_neg hne, ← n2]
        cases q : ps.drop (i + 2) with
        | nil => rw [q] at hr; cases hr
        | cons a b => rw [q] at hr; cases hr; rfl
    refine ⟨⟨m1, m2, hcl.2, hlt, hp, n3, n4⟩, ?_⟩
    dsimp only
    rw [Wr_join, ← hj]
    congr 1
    unfold wrds
    rw [← hre, ← hcl.1, ← cnt_pos m1, ← ed]
    exact i2
theorem ofw_not {n : Nat} : numL n ≠ OFW := fun e => by
  have : 111 ∈ numL n := by rw [e]; simp
  exact numL_free (.inr (by decide)) this
theorem cw_noOf (cs : List Nat) : OFW ∉ cw cs := by
  unfold cw
  intro h
  split at h
  · have := List.mem_singleton.mp h
    exact absurd this (by decide)
  · obtain ⟨n, _, e⟩ := List.mem_map.mp h
    exact ofw_not e
theorem tail_noOf (m : Nat) (chs : List Nat) : OFW ∉ numL m :: hw chs := by
  intro h
  rcases List.mem_cons.mp h with e | h
  · exact ofw_not e.symm
  · unfold hw at h
    split at h
    · cases h
    · rcases List.mem_cons.mp h with e | h
      · exact absurd e (by decide)
      · obtain ⟨n, _, e⟩ := List.mem_map.mp h
        exact ofw_not e
theorem count_zero {a : List Nat} {l : List (List Nat)} (h : a ∉ l) : l.count a = 0 := List.count_eq_zero.mpr h
theorem lawRead_Wr {m : Nat} {cs chs : List Nat} (g : Good m cs chs) : lawRead (Wr m cs chs) = some (m, cs, chs) := by
  unfold lawRead
  rw [wd_Wr]
  have hi : (wrds m cs chs).idxOf OFW = (cw cs).length := by
    unfold wrds
    rw [List.idxOf_append, if_neg (cw_noOf cs), List.idxOf_cons_self, Nat.zero_add]
  rw [if_neg, hi]
  · have e1 : (wrds m cs chs).take (cw cs).length = cw cs := List.take_left
    have e2 : (wrds m cs chs).getD ((cw cs).length + 1) [] = numL m := by
      unfold wrds
      simp [List.getD]
    have e3 : (wrds m cs chs).drop ((cw cs).length + 2) = hw chs := by
      unfold wrds
      simp [List.drop_append]
    rw [e1, e2, e3, cnt_num g.m1]
    have e4 : cl1 (cw cs) = some cs := by
      unfold cl1 cw
      by_cases z : cs = []
      · rw [if_pos z, if_pos rfl, z]
      · rw [if_neg z]
        have e5 : lawNums 0 [] (cs.map numL) = some cs := by
          have := lawNums_of (least := 0) (f := []) (ns := cs) (by simpa using g.cs_s) (fun _ _ => Nat.zero_le _)
          simpa using this
        rw [if_neg, e5, if_neg]
        · intro z2
          exact z (Option.some.inj z2)
        · intro z2
          have : [46] ∈ cs.map numL := by rw [z2]; simp
          obtain ⟨n, _, e⟩ := List.mem_map.mp this
          have : 46 ∈ numL n := by rw [e]; simp
          exact numL_free (.inl (by decide)) this
    have e5 : lawNums 1 [] ((hw chs).drop 1) = some chs := by
      have e6 : (hw chs).drop 1 = chs.map numL := by
        unfold hw
        by_cases z : chs = []
        · rw [if_pos z, z]; rfl
        · rw [if_neg z]; rfl
      rw [e6]
      have := lawNums_of (least := 1) (f := []) (ns := chs) (by simpa using g.ch_s) (fun n hn => g.ch1 n hn)
      simpa using this
    rw [e4, e5]
    unfold fin
    dsimp only
    rw [if_neg (fun z => z ⟨g.m1, g.m720⟩), if_neg, if_neg, if_neg]
    · rw [g.lpe]
      exact fun z => z ⟨rfl, g.cls⟩
    · rintro ⟨z1, z2⟩
      unfold hw at z1 z2
      by_cases z : chs = []
      · rw [if_pos z] at z1; exact z1 rfl
      · rw [if_neg z] at z2
        rcases z2 with z2 | z2
        · exact z2 rfl
        · exact z z2
    · intro z
      refine z (List.filter_eq_nil_iff.mpr fun x hx => ?_)
      have := g.cs_lt x hx
      rw [decide_eq_true_eq]
      omega
  · rintro (z | z)
    · refine z ?_
      unfold wrds
      rw [List.count_append, List.count_cons_self, count_zero (cw_noOf cs), count_zero (tail_noOf m chs)]
    · have hm : OFW ∈ numL m :: hw chs := by
        have e : wrds m cs chs = (cw cs ++ [OFW]) ++ (numL m :: hw chs) := by unfold wrds; simp
        rw [e, List.getLast?_append] at z
        cases q : (numL m :: hw chs).getLast? with
        | none => simp at q
        | some y =>
          rw [q] at z
          cases z
          exact List.mem_of_getLast? q
      exact tail_noOf m chs hm
end Rl
end

section
set_option maxRecDepth 100000
set_option maxHeartbeats 4000000
namespace Rl
open PySem L2
/-! ### the text by places -/
def top (i : Nat) : Stmt := PySem.Challenge.pw_roundline_k90_whole_near_set_texts.main.body.getD i (.Pass ⟨0, 0, 0, 0⟩)
abbrev tWhole : Stmt := top 9
abbrev tPrimes : Stmt := top 19
abbrev tPeriodic : Stmt := top 20
abbrev tLeast : Stmt := top 21
abbrev tSums : Stmt := top 22
abbrev tPInit : Stmt := inClass (top 23) 0
abbrev tChecked : Stmt := top 24
abbrev tDInit : Stmt := inClass (top 26) 0
abbrev tDMod : Stmt := inClass (top 26) 8
abbrev tDCls : Stmt := inClass (top 26) 9
abbrev tDChg : Stmt := inClass (top 26) 10
abbrev tRdN : Stmt := top 28
abbrev tRdNs : Stmt := top 29
abbrev tNumT : Stmt := top 30
abbrev tSetT : Stmt := top 31
abbrev tSetOf : Stmt := top 32
abbrev tRead : Stmt := top 33
abbrev tPot : Stmt := top 35
abbrev tDip : Stmt := top 36
abbrev tAlike : Stmt := top 37
abbrev tPlain : Stmt := top 38
abbrev tSome : Stmt := top 39
abbrev tWords : Stmt := top 40
abbrev tLine : Stmt := top 41
abbrev tCount : Stmt := top 42
abbrev tSign : Stmt := top 43
abbrev tWord : Stmt := top 44
abbrev tLines : Stmt := top 45
abbrev tChangd : Stmt := top 46
abbrev tNumbers : Stmt := top 47
abbrev tLawRead : Stmt := top 48
abbrev tTold : Stmt := top 49
abbrev tOdd : Stmt := top 50
abbrev tRight : Stmt := top 51
abbrev tLaw : Stmt := top 52
/-- numbers as values -/
abbrev iv (n : Nat) : V := V.int (n : Int)
abbrev ivs (ns : List Nat) : List V := ns.map iv
def ov : Option Int → V
  | none => .non
  | some i => .int i
end Rl
end

section
set_option maxRecDepth 100000
set_option maxHeartbeats 4000000
namespace Rl
open PySem L2
section
variable {P : Program} {w : World} {K : PySem.W.Frag} {mg : Str → Option Value} {base : Heap}
/-! is_whole -/
def spWhole : Sp := fun vs H Q _ => ∃ o : Option Int, vs = [ov o] ∧ Q (.bl o.isSome) H
theorem scWhole : FnScope ["thing"] ["thing"] (defScope tWhole) := ⟨rfl, rfl, rfl, by decide +kernel, rfl, by decide +kernel, by decide +kernel⟩
theorem ok_whole {f : Addr} {fd : FuncData} (F : Fun K "is_whole" "is_whole" tWhole f fd) (mi : mg "isinstance" = none) (mint : mg "int" = none) (mbool : mg "bool" = none) : FnOk P w K mg base CX0 1 f fd ["thing"] spWhole := by
  refine F.ok scWhole (fun vs H Q E h => ?_) (fun cdv A outer s H vs Q E hr h => ?_)
  · obtain ⟨o, rfl, _⟩ := h
    rfl
  · obtain ⟨o, rfl, k⟩ := h
    refine ⟨_, pss_one (ps_ret (pe_and (pe_callB call_isi (by rfl) mi (by decide +kernel) (pa_cons (pv 0) (pa_cons (pe_bltn (v := .ty "int") (by rfl) mint (by decide +kernel) rfl) pa_nil)))
      (pe_one (pe_not (pe_callB call_isi (by rfl) mi (by decide +kernel) (pa_cons (pv 0) (pa_cons (pe_bltn (v := .ty "bool") (by rfl) mbool (by decide +kernel) rfl) pa_nil))))))), ?_⟩
    cases o with
    | none =>
      exact ⟨_, rfl, _, _, _, _, false, rfl, .ty _, .base .non, kit_ty (by decide +kernel), false, rfl, iteF k⟩
    | some i =>
      exact ⟨_, rfl, _, _, _, _, true, rfl, .ty _, .base (.int i), kit_ty (by decide +kernel), true, rfl, iteT ⟨_, rfl, _, _, _, _, false, rfl, .ty _, .base (.int i), kit_ty (by decide +kernel), false, rfl, k⟩⟩
end
end Rl
end

section
set_option maxRecDepth 100000
set_option maxHeartbeats 4000000
namespace Rl
open PySem L2
/-! ### small words -/
theorem _root_.L2.Same.put {H H' : Hp} {l : Addr} {o : HO} (s : Same H H') (n : H l = none) : Same H (upd H' l o) := fun b u e => by
  rw [upd_ne (ne_of_none e n)]
  exact s b u e
theorem _root_.L2.Same.lay {H H' : Hp} {l : Addr} {o : HO} (s : Same H H') (n : H' l = none) : Same H (upd H' l o) := s.put (s.free n)
theorem nat_lt {n : Nat} {a b : Int} (ha : a = n) (h : b = (n : Int)) : a = b := by rw [ha, h]
theorem mod_nat (m p : Nat) : ((m : Int) % (p : Int)) = ((m % p : Nat) : Int) := (Int.natCast_emod m p).symm
theorem div_nat (m p : Nat) : ((m : Int) / (p : Int)) = ((m / p : Nat) : Int) := (Int.natCast_ediv m p).symm
theorem dec_iv {a b : Nat} : decide (V.int (a : Int) = V.int (b : Int)) = decide (a = b) := by
  refine decide_eq_decide.mpr ⟨fun h => ?_, fun h => by rw [h]⟩
  injection h with h
  exact Int.ofNat_inj.mp h
theorem ite3 {b : Bool} {c A B : Prop} [Decidable c] (e : b = decide c) (h1 : c → A) (h2 : ¬ c → B) : if b = true then A else B := by
  subst e
  by_cases h : c
  · rw [if_pos (decide_eq_true h)]; exact h1 h
  · rw [if_neg (by rw [decide_eq_false h]; exact Bool.false_ne_true)]; exact h2 h
theorem dm (m p : Nat) : decide (V.int ((m : Int) % (p : Int)) = V.int 0) = decide (m % p = 0) := by rw [mod_nat]; exact dec_iv (b := 0)
theorem dd (m p : Nat) : V.int ((m : Int) / (p : Int)) = iv (m / p) := by rw [div_nat]
theorem ivs_snoc (f : List Nat) (p : Nat) : ivs f ++ [iv p] = ivs (f ++ [p]) := by simp
theorem line_ok {n : Nat} (h : n ≤ 10000000) : n < sizeLine := Nat.lt_of_le_of_lt h (by decide)
section
variable {P : Program} {w : World} {K : PySem.W.Frag} {mg : Str → Option Value} {base : Heap}
/-! prime_divisors -/
def spPrimes : Sp := fun vs H Q _ => ∃ n : Nat, vs = [iv n] ∧ 1 ≤ n ∧ n ≤ 100000 ∧ ∀ H' p f, Same H H' → H p = none → H' p = some (.lst (ivs f)) → f.length ≤ n → (∀ q ∈ f, q ≤ n) → Pds n f → Q (.ref p) H'
theorem scPrimes : FnScope ["number", "found", "prime"] ["number"] (defScope tPrimes) := ⟨rfl, rfl, rfl, by decide +kernel, rfl, by decide +kernel, by decide +kernel⟩
theorem ok_primes {f : Addr} {fd : FuncData} (F : Fun K "prime_divisors" "prime_divisors" tPrimes f fd) : FnOk P w K mg base CX0 1 f fd ["number"] spPrimes := by
  refine F.ok scPrimes (fun vs H Q E h => ?_) (fun cdv A outer s H vs Q E hr h => ?_)
  · obtain ⟨n, rfl, _⟩ := h
    rfl
  · obtain ⟨n, rfl, n1, n2, k⟩ := h
    refine ⟨_, pss_cons (ps_set (i := 1) scPrimes.nd rfl (Or.inl rfl) (pe_lst pa_nil)) (pss_cons (ps_set (i := 2) scPrimes.nd rfl (Or.inl rfl) pe_int)
      (pss_cons (ps_while PassesOwn.never (pt_cmpR op_gt (pv 0) pe_int (nomark _))
        (pss_cons (ps_if (pt_cmpR op_eq (pe_op op_mod (pv 0) (pv 2)) pe_int (nomark _))
          (pss_cons (ps_expr (pe_bm PySem.F.plainAttrs_list PySem.F.slot_list_append PySem.F.type_list_append mt_append (pv 1) (pa_cons (pv 2) pa_nil)))
            (pss_one (ps_while PassesOwn.never (pt_cmpR op_eq (pe_op op_mod (pv 0) (pv 2)) pe_int (nomark _))
              (pss_one (ps_set (i := 0) scPrimes.nd rfl (Or.inl rfl) (pe_op op_fdiv (pv 0) (pv 2)))))))
          pss_nil)
        (pss_one (ps_set (i := 2) scPrimes.nd rfl (Or.inl rfl) (pe_op op_add (pv 2) pe_int)))))
      (pss_one (ps_ret (pv 1))))), ?_⟩
    refine ⟨Nat.zero_le _, fun l hl => ?_⟩
    refine ⟨fun μ σ H' => ∃ (m p : Nat) (f : List Nat), μ = m + 1 - p ∧ σ = [some (iv m), some (.ref l), some (iv p)] ∧ Same H H' ∧ H' l = some (.lst (ivs f)) ∧ Pinv n m f ∧ Low m p ∧ 2 ≤ p ∧ f.length + 2 ≤ p ∧ m ≤ n ∧ p ≤ n + 1 + 1 ∧ ∀ q ∈ f, q ≤ n,
      ⟨_, n, 2, [], rfl, rfl, (Same.refl H).lay hl, upd_same, Pinv.start n1, Low.two, Nat.le_refl _, Nat.le_refl _, Nat.le_refl _, by omega, fun _ h => by cases h⟩, ?_⟩
    rintro μ σ H1 ⟨m, p, f, rfl, rfl, s1, h1, pi, lo, p2, fl, mn, pn, fq⟩
    refine ⟨_, rfl, _, _, rfl, rfl, _, rfl, ite3 (c := 1 < m) (decide_eq_decide.mpr (by omega)) (fun hm => ?_) (fun hm => ?_)⟩
    · have hpm : p ≤ m := lo m hm (Nat.dvd_refl m)
      refine ⟨fun σ' H' => ∃ m' f', σ' = [some (iv m'), some (.ref l), some (iv (p + 1))] ∧ Same H H' ∧ H' l = some (.lst (ivs f')) ∧ Pinv n m' f' ∧ Low m' (p + 1) ∧ f'.length + 2 ≤ p + 1 ∧ m' ≤ m ∧ (∀ q ∈ f', q ≤ n), ?_, ?_⟩
      · rintro σ' H' ⟨m', f', rfl, s', h', pi', lo', fl', hm', fq'⟩
        exact ⟨m' + 1 - (p + 1), by omega, m', p + 1, f', rfl, rfl, s', h', pi', lo', by omega, fl', by omega, by omega, fq'⟩
      · refine ⟨_, rfl, _, rfl, _, _, rfl, rfl, (by show (0 : Int) < (p : Int); omega), rfl, _, rfl, ite3 (c := m % p = 0) (dm m p) (fun hd => ?_) (fun hd => ?_)⟩
        · refine ⟨_, rfl, .inl ⟨rfl, _, SqL.of h1⟩, _, rfl, l, _, _, rfl, rfl, h1, line_ok (by rw [List.length_map]; omega), ?_⟩
          refine ⟨fun μ σ H' => ∃ m', μ = m' ∧ σ = [some (iv m'), some (.ref l), some (iv p)] ∧ Same H H' ∧ H' l = some (.lst (ivs (f ++ [p]))) ∧ Pinv n m' (f ++ [p]) ∧ Low m' p ∧ m' ≤ m,
            ⟨_, m, rfl, rfl, s1.put (by exact hl), by rw [upd_same, ivs_snoc], pi.snoc p2, lo, Nat.le_refl _⟩, ?_⟩
          rintro μ σ H2 ⟨m', rfl, rfl, s2, h2, pi2, lo2, mm⟩
          refine ⟨_, rfl, _, rfl, _, _, rfl, rfl, (by show (0 : Int) < (p : Int); omega), rfl, _, rfl, ite3 (c := μ % p = 0) (dm μ p) (fun hd2 => ?_) (fun hd2 => ?_)⟩
          · obtain ⟨q1, q2, q3⟩ := pi2.div p2 lo2 (by simp) hd2
            refine ⟨fun σ' H' => σ' = [some (iv (μ / p)), some (.ref l), some (iv p)] ∧ H' = H2, ?_, ?_⟩
            · rintro σ' H' ⟨rfl, rfl⟩
              exact ⟨μ / p, q3, μ / p, rfl, rfl, s2, h2, q1, q2, by omega⟩
            · refine ⟨_, rfl, _, rfl, _, _, rfl, rfl, ⟨by omega, by omega⟩, ?_⟩
              exact ⟨by show [some (V.int ((μ : Int) / (p : Int))), _, _] = _; rw [dd], rfl⟩
          · refine ⟨_, rfl, _, _, rfl, rfl, ?_⟩
            exact ⟨μ, f ++ [p], rfl, s2, h2, pi2, lo2.next hd2, by simp; omega, mm, fun q hq => (List.mem_append.mp hq).elim (fq q) fun z => by rw [List.mem_singleton.mp z]; omega⟩
        · refine ⟨_, rfl, _, _, rfl, rfl, ?_⟩
          exact ⟨m, f, rfl, s1, h1, pi, lo.next hd, by omega, Nat.le_refl _, fq⟩
    · refine ⟨_, rfl, ?_⟩
      exact k H1 l f s1 hl h1 (by omega) fq (pi.done hm)
end
end Rl
end

section
set_option maxRecDepth 100000
set_option maxHeartbeats 4000000
namespace Rl
open PySem L2
open PySem.W (Datum Tup Holds)
/-! ### rules that the layer lacks: data compared -/
instance : Datum Nat where
  toD n := .int (n : Int)
  plain _ := rfl
  eqv a b := by
    show ((a : Int) == (b : Int)) = decide (a = b)
    rw [PySem.W.beq_decide]
    exact decide_eq_decide.mpr Int.ofNat_inj
  depth := 0
  depth_le _ := Nat.le_refl _
section
variable {K : PySem.W.Frag} {H : Hp}
theorem dp_nat (n : Nat) : Dp K H (iv n) (Datum.toD n) := .int _
theorem dpAll_of {α : Type} [DecidableEq α] [Datum α] {g : α → V} (hg : ∀ a, Dp K H (g a) (Datum.toD a)) : ∀ xs : List α, DpAll K H (xs.map g) (xs.map Datum.toD)
  | [] => .nil
  | x :: xs => .cons (hg x) (dpAll_of hg xs)
theorem dp_lst {α : Type} [DecidableEq α] [Datum α] {g : α → V} {xs : List α} {a : Addr} (hg : ∀ a, Dp K H (g a) (Datum.toD a)) (h : SqL K H a (xs.map g)) : Dp K H (.ref a) (Datum.toD xs) := .lst h (dpAll_of hg xs)
theorem dp_ivs {ns : List Nat} {a : Addr} (h : SqL K H a (ivs ns)) : Dp K H (.ref a) (Datum.toD ns) := dp_lst dp_nat h
theorem dp_bls {bs : List Bool} {a : Addr} (h : SqL K H a (bs.map V.bl)) : Dp K H (.ref a) (Datum.toD bs) := dp_lst (fun b => .bl b) h
theorem dp_strs {bs : List Str} {a : Addr} (h : SqL K H a (bs.map V.str)) : Dp K H (.ref a) (Datum.toD bs) := dp_lst (fun b => .str b) h
theorem dp_pair {α β : Type} [DecidableEq α] [Datum α] [DecidableEq β] [Datum β] {x y : V} {a : Addr} {u : α} {v : β} (h : SqT K H a [x, y]) (hx : Dp K H x (Datum.toD u)) (hy : Dp K H y (Datum.toD v)) : Dp K H (.ref a) (Datum.toD (u, v)) :=
  .tup h (.cons hx (.cons hy .nil))
end
def rEqT (α : Type) [DecidableEq α] [Datum α] (K : PySem.W.Frag) : R2 := fun x y H Q => ∃ a b : α, Dp K H x (Datum.toD a) ∧ Dp K H y (Datum.toD b) ∧ Q (.bl (decide (a = b))) H
def rNeT (α : Type) [DecidableEq α] [Datum α] (K : PySem.W.Frag) : R2 := fun x y H Q => ∃ a b : α, Dp K H x (Datum.toD a) ∧ Dp K H y (Datum.toD b) ∧ Q (.bl (decide (a ≠ b))) H
theorem op_eqT {X : Cx} (α : Type) [DecidableEq α] [Datum α] (hu : X.A.units + 64 < cLine) (hd : Datum.depth α ≤ 60) : OpR X (compareOp .Eq) (rEqT α X.K) := by
  intro pins s σ H x y v u Q I rx ry h
  obtain ⟨d, e, hx, hy, q⟩ := h
  exact PySem.W.eq_datum (Dp.reads I _ x v hx rx) (Dp.reads I _ y u hy ry) (by omega) ⟨.bl _, H, I, rfl, q⟩
theorem op_neT {X : Cx} (α : Type) [DecidableEq α] [Datum α] (hu : X.A.units + 64 < cLine) (hd : Datum.depth α ≤ 60) : OpR X (compareOp .NotEq) (rNeT α X.K) := by
  intro pins s σ H x y v u Q I rx ry h
  obtain ⟨d, e, hx, hy, q⟩ := h
  exact PySem.W.ne_datum (Dp.reads I _ x v hx rx) (Dp.reads I _ y u hy ry) (by omega) ⟨.bl _, H, I, rfl, q⟩
/-! ### slices -/
theorem cut_drop {xs : List V} {p : Nat} (h : p ≤ xs.length) : cutV xs (some (p : Int)) none = xs.drop p := by
  unfold cutV
  rw [HT.sIx_nat, HT.sIx_none, Nat.min_eq_left h]
  exact List.take_of_length_le (by rw [List.length_drop]; exact Nat.le_refl _)
theorem cut_take {xs : List V} {p : Nat} (h : p ≤ xs.length) : cutV xs none (some (p : Int)) = xs.take p := by
  unfold cutV
  rw [HT.sIx_nat, HT.sIx_none, Nat.min_eq_left h, List.drop_zero, Nat.sub_zero]
/-! ### len(set(a tuple of ints)) -/
theorem nodup_len : ∀ {ks ns : List Int}, ks.Nodup → (∀ k ∈ ks, k ∈ ns) → ks.length ≤ ns.length
  | [], _, _, _ => Nat.zero_le _
  | k :: ks, ns, h, hs => by
    obtain ⟨h1, h2⟩ := List.nodup_cons.mp h
    have hk : k ∈ ns := hs k (List.mem_cons_self ..)
    have ih := nodup_len (ks := ks) (ns := ns.erase k) h2 fun x hx => by
      have hx' := hs x (List.mem_cons_of_mem _ hx)
      have : x ≠ k := fun e => h1 (e ▸ hx)
      exact (List.mem_erase_of_ne this).mpr hx'
    rw [List.length_erase_of_mem hk] at ih
    have : 0 < ns.length := List.length_pos_of_mem hk
    rw [List.length_cons]
    omega
theorem dup_len {ks ns : List Int} (h : ks.Nodup) (hs : ∀ k ∈ ks, k ∈ ns) (hn : ¬ ns.Nodup) : ks.length < ns.length := by
  have key : ∀ {ns : List Int}, ¬ ns.Nodup → ∃ ms : List Int, ms.length < ns.length ∧ ∀ k ∈ ns, k ∈ ms := by
    intro ns
    induction ns with
    | nil => intro h; exact absurd List.nodup_nil h
    | cons x xs ih =>
      intro h
      by_cases hx : x ∈ xs
      · refine ⟨xs, Nat.lt_succ_self _, fun k hk => ?_⟩
        rcases List.mem_cons.mp hk with e | hk
        · rw [e]; exact hx
        · exact hk
      · have : ¬ xs.Nodup := fun z => h (List.nodup_cons.mpr ⟨hx, z⟩)
        obtain ⟨ms, h1, h2⟩ := ih this
        refine ⟨x :: ms, Nat.succ_lt_succ h1, fun k hk => ?_⟩
        rcases List.mem_cons.mp hk with e | hk
        · rw [e]; exact List.mem_cons_self ..
        · exact List.mem_cons_of_mem _ (h2 k hk)
  obtain ⟨ms, h1, h2⟩ := key hn
  exact Nat.lt_of_le_of_lt (nodup_len h fun k hk => h2 k (hs k hk)) h1
theorem intsAre_v : ∀ {ns : List Int} {us : List Value}, Vals (ns.map V.int) us → PyProof.Rows.IntsAre us ns
  | [], _, .nil => .nil
  | n :: ns, _, .cons r t => by
    obtain ⟨k, rfl⟩ := r
    exact .cons n k (intsAre_v t)
def tLenSetT (K : PySem.W.Frag) (ta : TE) : TE := fun σ H Q => ta σ H fun x H1 => ∃ (l : Addr) (ns : List Int), x = .ref l ∧ SqT K H1 l (ns.map V.int) ∧ ns.length ≤ 4050 ∧ ∀ c : Nat, (c < ns.length ↔ ¬ ns.Nodup) → Q (.int (c : Nat)) H1
theorem pe_lenSetT {X : Cx} {a : Expr} {ta : TE} {p p2 q pos : Pos} (hg : Gl X "len") (hm : X.mg "len" = none) (hg2 : Gl X "set") (hm2 : X.mg "set" = none) (ha : PE X a ta) (hc : X.calm = true := by rfl)
    (na : starEach [a] X.env = (false, eval a X.env) :: starEach [] X.env := by rfl) : PE X (.Call (.Name "len" p) [.Call (.Name "set" p2) [a] [] q] [] pos) (tLenSetT X.K ta) := by
  refine ⟨fun pins s σ H Q I h => ?_⟩
  refine PyProof.Rows.Call_ (ld_blt I hg hm PySem.boot_len ?_)
  refine PyProof.Rows.callWith_builtin1 (PyProof.Rows.args_cons ?_ rfl) rfl rfl
  refine PyProof.Rows.Call_ (ld_blt (u := .type "set") I hg2 hm2 (by decide +kernel) ?_)
  refine PyProof.Rows.callWith_type1 (PyProof.Rows.args_cons (thn (ha.run pins s σ H _ I h) fun v s1 ⟨x, H1, I1, r1, q1⟩ => PyProof.Rows.args_nil ?_) na) na rfl
  obtain ⟨l, ns, rfl, hq, hl, q1⟩ := q1
  cases r1
  obtain ⟨its, r, pl, hz⟩ := I1.tuple hq
  refine call_set_tupI ns (I1.ok.hd hc) pl (by simpa using intsAre_v r) (by unfold scanBound; omega) fun h' tk c hS hc' hk => ?_
  refine PyProof.Rows.args_nil ?_
  obtain ⟨o, es, ep, t, ho, hex, hd, hg', hnd, hmem, hsz, hf, hn, _⟩ := hS
  have I2 : Inv X pins σ H1 { s1 with heap := h', toks := tk } := I1.kept fun b o e => hk b o e
  have hlen : (es.toList.map keyOf).length = c := by rw [List.length_map, Array.length_toList, hn]
  have hsub : ∀ k ∈ es.toList.map keyOf, k ∈ ns := fun k hk => by
    have := (hmem k).mpr hk
    exact of_decide_eq_true this
  have hsup : ∀ k ∈ ns, k ∈ es.toList.map keyOf := fun k hk => (hmem k).mp (decide_eq_true hk)
  refine PySem.call_len_set ho hex hd hf (by rw [hn] <;> omega) ⟨.int c, H1, I2.tok _, ⟨_, by rw [hn]⟩, q1 c ⟨fun hlt hnn => ?_, fun hnn => ?_⟩⟩
  · have := nodup_len hnn hsup
    omega
  · have := dup_len hnd hsub hnn
    omega
end Rl
end

section
set_option maxRecDepth 100000
set_option maxHeartbeats 4000000
namespace Rl
open PySem L2
/-! ### sorted(a tuple of ints), any number -/
section
open PyProof.Rows
variable {prog : Program} {w : World} {A : Around} {E : Value → Shared → Prop} {s : Shared}
/-- a tuple's items, put into a new list at the heap's end -/
theorem gather_tup {l : Addr} {vs : List Value} {Q : List Value → Shared → Prop} (hl : s.heap.IsTuple l vs.toArray) (hv : vs.length ≤ sizeLine)
    (k : Q vs { s with heap := (s.heap.push (seqObj "list" #[] 0)).update s.heap.objs.size (Obj.mapSeq (· ++ vs.toArray)) }) : wpAny (model prog w) A (collect (.ref l)) Q E s := by
  obtain ⟨ob, hob, hcls, ep, hdat⟩ := id hl
  have hob' : (s.heap.push (seqObj "list" #[] 0)).get? l = some ob := Heap.get?_push_of_some _ hob
  have hnew : (s.heap.push (seqObj "list" #[] 0)).get? s.heap.objs.size = some (seqObj "list" #[] 0) := Heap.get?_push_size _ rfl
  have hz2 : ((#[] : Array Value) ++ vs.toArray).size ≤ sizeLine + 1 := by
    rw [Array.size_append, List.size_toArray, List.size_toArray, List.length_nil]
    omega
  unfold collect
  refine wpAny_bind (wpAny_runValue (codeAny_builtin entry_proto_collect' ?_))
  refine wpAny_bind (wpAny_newList (wpAny_pure ⟨Code.quiet_builtin _ (by decide +kernel), codeAny_builtin entry_list_iadd' ?_⟩))
  show wpAny _ _ (Builtin.List.listExtendWith (.ref s.heap.objs.size) (.ref l) (.ref s.heap.objs.size)) _ _ { s with heap := s.heap.push (seqObj "list" #[] 0) }
  unfold Builtin.List.listExtendWith
  refine wpAny_bind (wpAny_typeOf (T := "tuple") ⟨ob, hob', hcls⟩ ?_)
  rw [if_pos (by rw [show (Value.type "tuple" == Value.type "tuple") = true from rfl]; simp)]
  refine wpAny_bind (listItems_at hob' hdat (wpAny_bind (listItems_at hnew rfl ?_)))
  rw [if_neg (by simp)]
  refine wpAny_bind (listUpdate_at hnew rfl (wpAny_pure ?_) (Nat.zero_le _) hz2)
  show wpAny (model prog w) A (load s.heap.objs.size >>= fun o => match o.data with | .seq xs _ => pure xs.toList | _ => unsupported "internal:collect") Q E _
  refine wpAny_bind (wpAny_load (get?_update_seq hnew _) ?_)
  refine wpAny_pure ?_
  rw [show ((#[] : Array Value) ++ vs.toArray).toList = vs by simp]
  exact k
theorem sorted_tup {l : Addr} {vs : List Value} {lt : Value → Value → Bool} {Q : Value → Shared → Prop} (O : SrtO.Swo lt) (hl : s.heap.IsTuple l vs.toArray) (hv : vs.length ≤ sizeLine)
    (hS : 2 ≤ vs.length → ∀ (h₁ : Heap) (a : Addr), SrtO.SortableO prog w A.in1.in1 { s with heap := h₁ } a vs lt)
    (k : ∀ out : List Value, SrtO.Srtd lt out → SrtO.Stb lt out vs → Q (.ref (s.heap.objs.size + 1)) { s with heap := sortedAll s.heap vs out.toArray }) : wpAny (model prog w) A (call (.builtin "sorted") [.ref l]) Q E s := by
  refine Calls.call_function_entry kind_sorted plain_sorted entry_sorted (args_sorted1 _) ?_
  unfold Builtin.«sorted»
  refine wpAny_bind (m := checkCount "sorted" 1 1 _) (wpAny_pure (wpAny_bind (gather_tup hl hv (wpAny_bind (wpAny_newList ?_ hv)))))
  have e1 : ((s.heap.push (seqObj "list" #[] 0)).update s.heap.objs.size (Obj.mapSeq (· ++ vs.toArray))).objs.size = s.heap.objs.size + 1 := by rw [Heap.size_update, size_push']
  have e2 : (((s.heap.push (seqObj "list" #[] 0)).update s.heap.objs.size (Obj.mapSeq (· ++ vs.toArray))).push (seqObj "list" vs.toArray 0)).get? (s.heap.objs.size + 1) = some (seqObj "list" vs.toArray 0) := e1 ▸ Heap.get?_push_size _ rfl
  show wpAny _ _ _ _ _ { s with heap := ((s.heap.push (seqObj "list" #[] 0)).update s.heap.objs.size (Obj.mapSeq (· ++ vs.toArray))).push (seqObj "list" vs.toArray 0) }
  rw [e1]
  exact wpAny_bind (wpAny_holding (wpAny_call_entry slot_list_sort ⟨_, e2, rfl⟩ entry_list_sort (SrtO.list_sort_ord O e2 hv (fun h2 => hS h2 _ _) fun out o1 o2 => ⟨_, rfl, wpAny_pure ⟨_, rfl, k out o1 o2⟩⟩) (args_list_sort _)))
end
def rSortedT (K : PySem.W.Frag) : List V → Hp → VK → Prop := fun vs H Q => ∃ (a : Addr) (ns : List Int), vs = [V.ref a] ∧ (SqL K H a (ns.map V.int) ∨ SqT K H a (ns.map V.int)) ∧
  ∀ (ns' : List Int) (p : Addr), ns'.Perm ns → ns'.Pairwise (· ≤ ·) → H p = none → Q (.ref p) (upd H p (.lst (ns'.map V.int)))
theorem cr_sortedT {X : Cx} : CallR X (.builtin "sorted") (rSortedT X.K) := by
  intro pins s σ H vs us Q I r h
  obtain ⟨a, ns, rfl, hs, q⟩ := h
  rcases hs with hs | hs
  · exact cr_sortedI pins s σ H _ us Q I r ⟨a, ns, rfl, hs, q⟩
  · obtain ⟨its, rv, hl, hz⟩ := I.tuple hs
    obtain ⟨u, rfl, ru⟩ := vals1 r
    cases ru
    have hi := intsAre_v rv
    have hz' : its.length ≤ sizeLine := by rw [← rv.length]; exact hz
    refine sorted_tup SrtO.swo_int hl hz' (fun h2 h₁ a' => SrtO.ints_sortable hi h2) fun out h1 h2 => ?_
    obtain ⟨k1, k2, k3⟩ := SrtO.ints_out hi h1 h2
    obtain ⟨ep, he⟩ := PyProof.Rows.sortedAll_at s.heap its out.toArray
    have hlen : ((out.map SrtO.iv).map V.int).length ≤ sizeLine := by
      rw [List.length_map] at hz ⊢
      rw [k2.length_eq]
      exact hz
    have ob : ObjOk X.prog X.w (upd H (s.heap.objs.size + 1) (.lst ((out.map SrtO.iv).map V.int))) (PyProof.Rows.sortedAll s.heap its out.toArray) (s.heap.objs.size + 1) (.lst ((out.map SrtO.iv).map V.int)) := ⟨hlen, out, ep, vals_of_ints k1, he⟩
    exact ⟨.ref _, _, I.laid (t' := s.toks) (fun _ _ => PyProof.Rows.sortedAll_old) (Nat.le_succ _) ob, rfl, q _ _ k2 k3 (I.hok.fresh (Nat.le_succ _))⟩
end Rl
end

section
set_option maxRecDepth 100000
set_option maxHeartbeats 4000000
/-! ### try: .. except (C1, C2, C3): a suite that raises out -/
namespace Rl
open PySem PySem.Spec PyProof.Rows L2 HotX L2H
theorem flying_keeps {B h h' : Heap} {l : List Env} {a : Addr} {Z : Obj → Prop} (k : ∀ b o, h.get? b = some o → h'.get? b = some o) (x : HandSPX.FlyingZ B l a Z h) : HandSPX.FlyingZ B l a Z h' := by
  obtain ⟨x1, x2, x3, oe, vs, T, oT, ts, he, hz, hd, h1, hT, hTe, hoT, hdT, h3⟩ := x
  exact ⟨fun b o q => k b o (x1 b o q), x2, x3.of_keeps fun b o q _ => ⟨o, k b o q, rfl⟩, oe, vs, T, oT, ts, k _ _ he, hz, hd, h1, hT, hTe, k _ _ hoT, hdT, h3⟩
/-- what such a clause asks of an exception of the body: it is one of the three; then the suite's reading -/
def wTup (K : PySem.W.Frag) (cs : List Value) (ts : Addr → Value → Option Addr → TS) (D : Ends) : WX := fun cls d σ H => PySem.W.exmAny K cls cs = some true ∧ ∀ a, H a = none → ts a cls d D σ H
theorem ps_try3X {X : Cx} {x1 x2 x3 : Str} {c1 c2 c3 : Value} {body suite : List Stmt} {b₀ : Stmt} {p1 p2 p3 tp pos pos' : Pos} {kk : Nat} {tb : WX → TS} {ts : Addr → Value → Option Addr → TS} {Wout : WX}
    (hs : X.stack = X.env :: X.outer) (hf : X.env.frame = some X.env.locals) (n1 : Names X x1 c1) (n2 : Names X x2 c2) (n3 : Names X x3 c3) (hpa : ∀ hd : Option Value, PassesOwnAt (model X.prog X.w) (X.A.mark hd) X.A X.env X.xe) (tk : L2.Takes X Wout)
    (hb : ∀ (W : WX) (pn : List (Addr × Obj)) (xe : Value → Shared → Prop), L2N.Takes (X.tr pn xe) W → PassesOwn (model X.prog X.w) X.A X.env xe → PSs (X.tr pn xe) body (tb W))
    (hsu : ∀ (a : Addr) (oe : Obj) (cls : Value) (d : Option Addr) (pn : List (Addr × Obj)), L2N.Zn cls d oe → (∃ vs, oe.data = .fields vs) → L2.Takes (suiteX X a ((a, oe) :: pn)) Wout → HotC (suiteX X a ((a, oe) :: pn)) →
      PSs (suiteX X a ((a, oe) :: pn)) (b₀ :: suite) (ts a cls d))
    (hst : ∀ a pn, starEach [.Name x1 p1, .Name x2 p2, .Name x3 p3] (X.suite a pn).env = [(false, eval (.Name x1 p1) (X.suite a pn).env), (false, eval (.Name x2 p2) (X.suite a pn).env), (false, eval (.Name x3 p3) (X.suite a pn).env)] := by intros; rfl) :
    PS X (.Try body [.ExceptHandler (some (.Tuple [.Name x1 p1, .Name x2 p2, .Name x3 p3] kk tp)) none (b₀ :: suite) pos'] [] [] pos) (fun D σ H => tb (wTup X.K [c1, c2, c3] ts D) D σ H) := by
  refine ⟨fun pins s σ H D I h => ?_⟩
  have ok := I.ok
  have frm : X.A.frames = some (X.env :: X.outer) := by rw [ok.frames, hs]
  refine wpAny_Try_except ?_
  refine wpAny_mono ((hb (wTup X.K [c1, c2, c3] ts D) (X.pn ++ pins) (fun e t => wpAny (model X.prog X.w) X.A (noteFrame e X.env) (fun _ t2 => wpAny (model X.prog X.w) X.A (setFlight e none) (fun _ t3 =>
    wpAny (model X.prog X.w) X.A (handleBy e X.env [.ExceptHandler (some (.Tuple [.Name x1 p1, .Name x2 p2, .Name x3 p3] kk tp)) none (b₀ :: suite) pos']) (SP X pins D) X.xe t3) X.xe t2) X.xe t) (fun u s' xx => ?_) PassesOwn.looking).run [] s σ H D (I.toTry _) h) (fun f t hsp => ?_) (fun e t he => he)
  · obtain ⟨a, B, sI, pq, σ', H', cls, d, rfl, J', nb, up, sky, na, os, ag, hx, hyes⟩ := xx
    have J : Inv X pins σ' H' sI := J'.ofTry ok
    have sky' : Sky B (X.env :: X.outer) a (L2N.Zn cls d) X.env.locals s'.heap := by rw [← hs]; exact sky
    show wpAny (model X.prog X.w) X.A (noteFrame (.ref a) X.env) _ _ _
    refine L2N.Sky.land L2N.Zn.steady frm hf sky' fun h3 fl3 up3 => ?_
    have J3 : Inv X pins σ' H' { s' with heap := h3 } := J.landed nb fl3.1 (up.trans up3) os ag
    obtain ⟨oe3, vs3, he3, hz3, hd3⟩ := fl3.there
    have nfr : a ∉ frs (X.env :: X.outer) := fun hm => by
      obtain ⟨_, o', e', hnf⟩ := fl3.2.2.1.mem hm
      rw [he3] at e'
      cases e'
      exact hnf _ hd3
    have nL : a ≠ X.env.locals := fun z => nfr (List.mem_filterMap.mpr ⟨X.env, List.mem_cons_self, by rw [hf, z]⟩)
    have nF : a ∉ X.fs := fun hm => by
      obtain ⟨e, he, q⟩ := List.mem_filterMap.mp hm
      exact nfr (List.mem_filterMap.mpr ⟨e, List.mem_cons_of_mem _ he, q⟩)
    have S3 := J3.suite he3 hd3 na nL nF
    refine wpAny_handleBy_cons (codeAny_handlers_test ?_) (by intro q; cases q)
    -- the tuple of the classes
    have name : ∀ {x : Str} {c : Value} {p : Pos} {Q : Value → Shared → Prop} {E : Value → Shared → Prop}, Names X x c → Q c { s' with heap := h3 } → wpAny (model X.prog X.w) (X.A.mark (some (.ref a))) (eval (.Name x p) X.env) Q E { s' with heap := h3 } := fun {x c p Q E} hc q => by
      obtain ⟨hg, hdbg, hm | ⟨hm, hv, hnn⟩⟩ := hc
      · exact ld_glob (X := X.suite a ((a, oe3) :: (X.pn ++ pins))) S3 hg hm q hdbg
      · exact ld_blt (X := X.suite a ((a, oe3) :: (X.pn ++ pins))) S3 hg hm hv q hnn hdbg
    refine wpAny_Tuple_spliced ?_
    rw [show starEach [.Name x1 p1, .Name x2 p2, .Name x3 p3] X.env = _ from hst a []]
    refine Calls.spliced_cons (name n1 (Calls.spliced_cons (name n2 (Calls.spliced_cons (name n3 (Calls.spliced_nil ⟨by show 3 ≤ sizeLine; decide, ?_⟩))))))
    have k5 : ∀ b o, h3.get? b = some o → (h3.push { cls := .type "tuple", data := .seq [c1, c2, c3].toArray }).get? b = some o := fun b o q => Heap.get?_push_of_some _ q
    have fl5 := flying_keeps k5 fl3
    have up5 := up3.trans (Heap.UpToSlots.of_keeps k5)
    have J5 : Inv X pins σ' H' { s' with heap := h3.push { cls := .type "tuple", data := .seq [c1, c2, c3].toArray } } := J.landed nb fl5.1 (up.trans up5) os ag
    obtain ⟨oe5, vs5, he5, hz5, hd5⟩ := fl5.there
    have LT : PySem.W.Looks (model X.prog X.w) (h3.push { cls := .type "tuple", data := .seq [c1, c2, c3].toArray }) (typeOf (.ref a)) cls := fun A Q E s k q => wpAny_typeOf_ref (k _ _ he5) (by rw [hz5.1]; exact q)
    have LM := PySem.W.exm_tup3 (M := model X.prog X.w) J5.kIn LT (tp := h3.objs.size) (Heap.get?_push_size _ rfl) hx
    refine LM.here ?_
    refine codeAny_handlers_suite ?_
    refine HandSPX.lands_againZ fl5 fun h4 fl4 up4 => ?_
    have J4 : Inv X pins σ' H' { s' with heap := h4 } := J.landed nb fl4.1 ((up.trans up5).trans up4) os ag
    obtain ⟨oe4, vs4, he4, hz4, hd4⟩ := fl4.there
    have S4 := J4.suite he4 hd4 na nL nF
    have tkS : L2.Takes (suiteX X a ((a, oe4) :: (X.pn ++ pins))) Wout := fun u2 s2 xq => by
      obtain ⟨a2, B2, sI2, pn2, σ2, H2, cls2, d2, e2, I2, nb2, up2, sky2, na2, os2, ag2, w2⟩ := xq
      exact tk u2 s2 ⟨a2, B2, sI2, pins, σ2, H2, cls2, d2, e2, unsuiteX I2 ok, nb2, up2, sky2, na2, os2, ag2, w2⟩
    have hot : HotC (suiteX X a ((a, oe4) :: (X.pn ++ pins))) := ⟨(a, oe4), ⟨rfl, vs4, hd4, hz4.2.2 vs4 hd4⟩, List.mem_cons_self⟩
    refine wpAny_mono ((hsu a oe4 cls d (X.pn ++ pins) hz4 ⟨_, hd4⟩ tkS hot).run [] _ _ H' _ (suiteX_of S4) (hyes a na)) (fun f s6 hsp => ?_) (fun e6 s6 z => hpa (some (.ref a)) e6 s6 z)
    cases f with
    | next =>
      obtain ⟨σ6, H6, S6, q6⟩ := hsp
      exact ⟨_, _, unsuiteX S6 ok, q6⟩
    | brk =>
      obtain ⟨σ6, H6, S6, q6⟩ := hsp
      exact ⟨_, _, unsuiteX S6 ok, q6⟩
    | cont =>
      obtain ⟨σ6, H6, S6, q6⟩ := hsp
      exact ⟨_, _, unsuiteX S6 ok, q6⟩
    | ret u =>
      obtain ⟨v6, σ6, H6, S6, r6, q6⟩ := hsp
      exact ⟨_, _, _, unsuiteX S6 ok, r6, q6⟩
  · cases f with
    | next =>
      obtain ⟨σ', H', J', q⟩ := hsp
      exact wpAny_execs_nil ⟨σ', H', J'.ofTry ok, q⟩
    | brk =>
      obtain ⟨σ', H', J', q⟩ := hsp
      exact ⟨σ', H', J'.ofTry ok, q⟩
    | cont =>
      obtain ⟨σ', H', J', q⟩ := hsp
      exact ⟨σ', H', J'.ofTry ok, q⟩
    | ret u =>
      obtain ⟨v, σ', H', J', r, q⟩ := hsp
      exact ⟨v, σ', H', J'.ofTry ok, r, q⟩
end Rl
end

section
set_option maxRecDepth 100000
set_option maxHeartbeats 4000000
namespace Rl
open PySem L2
theorem sub_nat {a b : Nat} (h : b ≤ a) : (a : Int) - (b : Int) = ((a - b : Nat) : Int) := by omega
/-- the flags at a list -/
abbrev bls (bs : List Bool) : List V := bs.map V.bl
theorem perD_iff {bs : List Bool} {p : Nat} (hp : p ≤ bs.length) : bs.drop p = bs.take (bs.length - p) ↔ PerD bs.length (fun i => bs.getD i false) p := by
  constructor
  · intro h i hi
    have := congrArg (fun l : List Bool => l[i]?) h
    simp only [List.getElem?_drop] at this
    rw [List.getElem?_take_of_lt (by omega)] at this
    show bs.getD i false = bs.getD (i + p) false
    rw [List.getD_eq_getElem?_getD, List.getD_eq_getElem?_getD, ← this, Nat.add_comm]
  · intro h
    apply List.ext_getElem?
    intro i
    rw [List.getElem?_drop]
    by_cases hi : i + p < bs.length
    · rw [List.getElem?_take_of_lt (by omega)]
      have := h i hi
      dsimp only at this
      rw [List.getD_eq_getElem?_getD, List.getD_eq_getElem?_getD, List.getElem?_eq_getElem (by omega), List.getElem?_eq_getElem (by omega)] at this
      rw [Nat.add_comm p i, List.getElem?_eq_getElem hi, List.getElem?_eq_getElem (by omega)]
      simpa using this.symm
    · rw [List.getElem?_eq_none (by omega), List.getElem?_eq_none (by rw [List.length_take]; omega)]
section
variable {P : Program} {w : World} {K : PySem.W.Frag} {mg : Str → Option Value} {base : Heap}
/-! is_periodic -/
def spPeriodic (K : PySem.W.Frag) : Sp := fun vs H Q _ => ∃ (a : Addr) (bs : List Bool) (p : Nat), vs = [.ref a, iv p] ∧ SqL K H a (bls bs) ∧ p ≤ bs.length ∧ ∀ b H', Same H H' → (b = true ↔ PerD bs.length (fun i => bs.getD i false) p) → Q (.bl b) H'
theorem scPeriodic : FnScope ["flags", "period"] ["flags", "period"] (defScope tPeriodic) := ⟨rfl, rfl, rfl, by decide +kernel, rfl, by decide +kernel, by decide +kernel⟩
theorem ok_periodic {f : Addr} {fd : FuncData} (F : Fun K "is_periodic" "is_periodic" tPeriodic f fd) (ml : mg "len" = none) : FnOk P w K mg base CX0 1 f fd ["flags", "period"] (spPeriodic K) := by
  refine F.ok scPeriodic (fun vs H Q E h => ?_) (fun cdv A outer s H vs Q E hr h => ?_)
  · obtain ⟨a, bs, p, rfl, _⟩ := h
    rfl
  · obtain ⟨a, bs, p, rfl, hs, hp, k⟩ := h
    refine ⟨_, pss_one (ps_ret (pe_cmpR (op_eqT (List Bool) hr.units (by decide)) (pe_slice sl_list (pv 0) (po_some (pv 1)) po_none)
      (pe_slice sl_list (pv 0) po_none (po_some (pe_op op_sub (pe_callB call_len_seq (by rfl) ml PySem.boot_len (pa_cons (pv 0) pa_nil)) (pv 1)))) (nomark _))), ?_⟩
    refine ⟨_, rfl, _, rfl, _, rfl, a, _, rfl, hs, fun q hq => ?_⟩
    have s1 : Same H (upd H q (.lst (cutV (bls bs) (some (p : Int)) none))) := (Same.refl H).lay hq
    refine ⟨_, rfl, _, rfl, _, _, rfl, .inl (s1.seq hs), _, rfl, _, _, rfl, rfl, _, rfl, a, _, rfl, s1.seq hs, fun r hr' => ?_⟩
    have nrq : q ≠ r := fun e => by rw [← e, upd_same] at hr'; cases hr'
    refine ⟨bs.drop p, bs.take (bs.length - p), dp_bls (.inl (.inl ?_)), dp_bls (.inl (.inl ?_)), k _ _ (s1.lay hr') ?_⟩
    · rw [upd_ne nrq, upd_same, cut_drop (by rw [List.length_map]; exact hp), List.map_drop]
    · rw [upd_same]
      show some (HO.lst (cutV (bls bs) none (some ((bls bs).length - p : Int)))) = _
      rw [List.length_map, sub_nat hp, cut_take (by rw [List.length_map]; omega), List.map_take]
    · rw [decide_eq_true_eq]
      exact perD_iff hp
/-! least_period -/
def spLeast (K : PySem.W.Frag) : Sp := fun vs H Q _ => ∃ (a : Addr) (bs : List Bool), vs = [.ref a] ∧ SqL K H a (bls bs) ∧ 1 ≤ bs.length ∧ bs.length ≤ 100000 ∧ ∀ H', Same H H' → Q (iv (lp bs.length (fun i => bs.getD i false))) H'
theorem scLeast : FnScope ["flags", "period", "prime"] ["flags"] (defScope tLeast) := ⟨rfl, rfl, rfl, by decide +kernel, rfl, by decide +kernel, by decide +kernel⟩
theorem ok_least {f f1 f2 : Addr} {fd fd1 fd2 : FuncData} (F : Fun K "least_period" "least_period" tLeast f fd) (ml : mg "len" = none)
    (F1 : Fun K "prime_divisors" "prime_divisors" tPrimes f1 fd1) (g1 : mg "prime_divisors" = some (.ref f1)) (b1 : Binds K fd1 ["number"] [])
    (F2 : Fun K "is_periodic" "is_periodic" tPeriodic f2 fd2) (g2 : mg "is_periodic" = some (.ref f2)) (b2 : Binds K fd2 ["flags", "period"] []) : FnOk P w K mg base CX0 2 f fd ["flags"] (spLeast K) := by
  have G1 : FnOk P w K mg base CX0 1 f1 fd1 ["number"] spPrimes := ok_primes F1
  have G2 : FnOk P w K mg base CX0 1 f2 fd2 ["flags", "period"] (spPeriodic K) := ok_periodic F2 ml
  refine F.ok scLeast (fun vs H Q E h => ?_) (fun cdv A outer s H vs Q E hr h => ?_)
  · obtain ⟨a, bs, rfl, _⟩ := h
    rfl
  · obtain ⟨a, bs, rfl, hs, n1, n2, k⟩ := h
    refine ⟨_, pss_cons (ps_set (i := 1) scLeast.nd rfl (Or.inl rfl) (pe_callB call_len_seq (by rfl) ml PySem.boot_len (pa_cons (pv 0) pa_nil)))
      (pss_cons (ps_for PassesOwn.never rfl (pi_list (pe_call G1 hr rfl g1 F1.kp b1 .nil pass0 (pa_cons (pe_callB call_len_seq (by rfl) ml PySem.boot_len (pa_cons (pv 0) pa_nil)) pa_nil))) (pg_name (i := 2) scLeast.nd rfl (Or.inl rfl))
        (pss_one (ps_while PassesOwn.never (PW.pt (pw_and (pt_cmpR op_eq (pe_op op_mod (pv 1) (pv 2)) pe_int (nomark _)) (pw_and1 (pt_val (pe_call G2 hr rfl g2 F2.kp b2 .nil pass0 (pa_cons (pv 0) (pa_cons (pe_op op_fdiv (pv 1) (pv 2)) pa_nil)))))))
          (pss_one (ps_set (i := 1) scLeast.nd rfl (Or.inl rfl) (pe_op op_fdiv (pv 1) (pv 2)))))))
      (pss_one (ps_ret (pv 1)))), ?_⟩
    have hln : (bls bs).length = bs.length := List.length_map ..
    refine ⟨_, rfl, _, _, rfl, .inl hs, _, rfl, _, _, rfl, .inl hs, bs.length, by rw [hln]; rfl, n1, n2, fun H1 l f s1 nl hl fl fq pd => ?_⟩
    refine ⟨l, rfl, ⟨_, SqL.of hl⟩, for_list (K := K) (a := l) (xs := ivs f) (fun i σ H' => ∃ (p : Nat) (z : Option V), σ = [some (.ref a), some (iv p), z] ∧ Same H H' ∧ H' l = some (.lst (ivs f)) ∧ 0 < p ∧ perB bs.length (fun i => bs.getD i false) p = true ∧
        ∀ j q, j < i → f[j]? = some q → ¬ (p % q = 0 ∧ perB bs.length (fun i => bs.getD i false) (p / q) = true))
      ⟨bs.length, none, by rw [hln]; rfl, s1, hl, n1, perB_self, fun j q h => absurd h (Nat.not_lt_zero j)⟩ (fun i σ H' _ ⟨_, _, _, _, h, _⟩ => SqL.of h) ?_ ?_⟩
    · rintro i x σ H' hi ⟨p, z, rfl, s2, h2, p0, pp, hd⟩
      obtain ⟨q, hq, rfl⟩ : ∃ q, f[i]? = some q ∧ x = iv q := by
        rw [List.getElem?_map] at hi
        cases e : f[i]? with
        | none => rw [e] at hi; cases hi
        | some u => rw [e] at hi; exact ⟨u, rfl, (Option.some.inj hi).symm⟩
      have hq2 : 2 ≤ q := pd.two q (List.mem_of_getElem? hq)
      have hqn : q ≤ 100000 := Nat.le_trans (fq q (List.mem_of_getElem? hq)) n2
      refine ⟨fun μ σ H' => ∃ (p : Nat), μ = p ∧ σ = [some (.ref a), some (iv p), some (iv q)] ∧ Same H H' ∧ H' l = some (.lst (ivs f)) ∧ 0 < p ∧ perB bs.length (fun i => bs.getD i false) p = true ∧
        (∀ j q, j < i → f[j]? = some q → ¬ (p % q = 0 ∧ perB bs.length (fun i => bs.getD i false) (p / q) = true)), ⟨_, p, rfl, rfl, s2, h2, p0, pp, hd⟩, ?_⟩
      rintro μ σ H3 ⟨p, rfl, rfl, s3, h3, p0, pp, hd⟩
      have hdn := ((perB_D p0).mp pp).1
      have last : ¬ (μ % q = 0 ∧ perB bs.length (fun i => bs.getD i false) (μ / q) = true) → ∀ j r, j < i + 1 → f[j]? = some r → ¬ (μ % r = 0 ∧ perB bs.length (fun i => bs.getD i false) (μ / r) = true) := fun hn j r hj hr => by
        by_cases e : j = i
        · subst e
          rw [hq] at hr
          cases hr
          exact hn
        · exact hd j r (by omega) hr
      refine ⟨_, rfl, _, rfl, _, _, rfl, rfl, (by show (0 : Int) < (q : Int); omega), rfl, _, rfl, ite3 (dm μ q) (fun h0 => ?_) (fun h0 => iteF ⟨μ, _, rfl, s3, h3, p0, pp, last fun z => h0 z.1⟩)⟩
      have hle : μ / q ≤ bs.length := Nat.le_trans (Nat.div_le_self _ _) (Nat.le_of_dvd n1 hdn)
      have hlt : μ / q < μ := Nat.div_lt_self p0 hq2
      have hpos : 0 < μ / q := Nat.div_pos (Nat.le_of_dvd p0 (Nat.dvd_of_mod_eq_zero h0)) (by omega)
      have hdv : μ / q ∣ μ := Nat.div_dvd_of_dvd (Nat.dvd_of_mod_eq_zero h0)
      refine ⟨_, rfl, _, rfl, _, rfl, _, _, rfl, rfl, ⟨by omega, by omega⟩, a, bs, μ / q, by rw [← dd]; rfl, s3.seq hs, hle, fun b H4 s4 hb => ⟨b, rfl, ?_⟩⟩
      cases b with
      | true =>
        refine iteT ⟨fun σ' H' => σ' = [some (.ref a), some (iv (μ / q)), some (iv q)] ∧ H' = H4, ?_, ?_⟩
        · rintro σ' H' ⟨rfl, rfl⟩
          refine ⟨μ / q, hlt, μ / q, rfl, rfl, s3.trans s4, s4 _ _ h3, hpos, (perB_D hpos).mpr ⟨Nat.dvd_trans hdv hdn, hb.mp rfl⟩, fun j r hj hr => ?_⟩
          exact done_stays n1 p0 hpos hdn hdv (pd.two r (List.mem_of_getElem? hr)) (hd j r hj hr)
        · refine ⟨_, rfl, _, rfl, _, _, rfl, rfl, ⟨by omega, by omega⟩, ?_⟩
          exact ⟨by rw [← dd]; rfl, rfl⟩
      | false =>
        refine iteF ⟨μ, _, rfl, s3.trans s4, s4 _ _ h3, p0, pp, last fun z => ?_⟩
        have := hb.mpr ((perB_D hpos).mp z.2).2
        cases this
    · rintro σ H' ⟨p, z, rfl, s2, h2, p0, pp, hd⟩
      refine ⟨_, rfl, ?_⟩
      have e : IsLp bs.length (fun i => bs.getD i false) p := lp_end n1 p0 pp pd fun q hq => by
        obtain ⟨j, hj, e⟩ := List.mem_iff_getElem.mp hq
        exact hd j q (by rw [List.length_map]; exact hj) (List.getElem?_eq_some_iff.mpr ⟨hj, e⟩)
      rw [← lp_eq n1 e]
      exact k _ s2
end
end Rl
end

section
set_option maxRecDepth 100000
set_option maxHeartbeats 4000000
namespace Rl
open PySem L2
theorem ints_snoc (xs : List Int) (z : Int) : xs.map V.int ++ [V.int z] = (xs ++ [z]).map V.int := by simp
section
variable {P : Program} {w : World} {K : PySem.W.Frag} {mg : Str → Option Value} {base : Heap}
/-! sums_of -/
def spSums (K : PySem.W.Frag) : Sp := fun vs H Q _ => ∃ (a : Addr) (bs : List Bool), vs = [.ref a] ∧ SqL K H a (bls bs) ∧ 1 ≤ bs.length ∧ bs.length ≤ 100000 ∧ ∀ H' p xs, Same H H' → H p = none → H' p = some (.lst xs) → Q (.ref p) H'
theorem scSums : FnScope ["flags", "found", "place"] ["flags"] (defScope tSums) := ⟨rfl, rfl, rfl, by decide +kernel, rfl, by decide +kernel, by decide +kernel⟩
theorem ok_sums {f : Addr} {fd : FuncData} (F : Fun K "sums_of" "sums_of" tSums f fd) (ml : mg "len" = none) (mr : mg "range" = none) (mint : mg "int" = none) : FnOk P w K mg base CX0 1 f fd ["flags"] (spSums K) := by
  refine F.ok scSums (fun vs H Q E h => ?_) (fun cdv A outer s H vs Q E hr h => ?_)
  · obtain ⟨a, bs, rfl, _⟩ := h
    rfl
  · obtain ⟨a, bs, rfl, hs, n1, n2, k⟩ := h
    refine ⟨_, pss_cons (ps_set (i := 1) scSums.nd rfl (Or.inl rfl) (pe_lst (pa_cons pe_int pa_nil)))
      (pss_cons (ps_for PassesOwn.never rfl (pi_range2 (by rfl) mr (pa_cons pe_int (pa_cons (pe_op op_add (pe_callB call_len_seq (by rfl) ml PySem.boot_len (pa_cons (pv 0) pa_nil)) pe_int) pa_nil))) (pg_name (i := 2) scSums.nd rfl (Or.inl rfl))
        (pss_one (ps_expr (pe_bm PySem.F.plainAttrs_list PySem.F.slot_list_append PySem.F.type_list_append mt_append (pv 1) (pa_cons
          (pe_op op_add (pe_ix ix_list (pv 1) (pe_un un_neg pe_int) (fun _ _ => rfl))
            (pe_callTy call_int1 (by rfl) mint (by decide +kernel) (pa_cons (pe_ix ix_list (pv 0) (pe_op op_mod (pv 2) (pe_callB call_len_seq (by rfl) ml PySem.boot_len (pa_cons (pv 0) pa_nil))) (fun _ _ => rfl)) pa_nil))) pa_nil)))))
      (pss_one (ps_ret (pv 1)))), ?_⟩
    have hln : (bls bs).length = bs.length := List.length_map ..
    refine ⟨by decide, fun l hl => ?_⟩
    have s1 : Same H (upd H l (.lst [V.int 0])) := (Same.refl H).lay hl
    refine ⟨_, rfl, _, _, rfl, .inl (s1.seq hs), _, _, rfl, rfl, 1, (bs.length : Int) + 1, by rw [hln], ⟨by omega, by omega, by omega, by omega⟩, ?_⟩
    rw [show ((bs.length : Int) + 1 - 1).toNat = bs.length by omega]
    refine for_range (lo := 1) (n := bs.length) (fun i σ H' => ∃ (ns : List Int) (v : Int) (z : Option V), σ = [some (.ref a), some (.ref l), z] ∧ Same H H' ∧ H' l = some (.lst ((ns ++ [v]).map V.int)) ∧ ns.length ≤ i)
      ⟨[], 0, none, rfl, s1, upd_same, Nat.zero_le _⟩ ?_ ?_
    · rintro i σ H' hi ⟨ns, v, z, rfl, s2, h2, hl2⟩
      have hm : (1 + i) % bs.length < bs.length := Nat.mod_lt _ n1
      have hb : (bls bs)[(1 + i) % bs.length]? = some (V.bl (bs.getD ((1 + i) % bs.length) false)) := by
        rw [List.getElem?_map, List.getD_eq_getElem?_getD, List.getElem?_eq_getElem hm]
        rfl
      have he : (ns ++ [v]).map V.int = ns.map V.int ++ [V.int v] := by rw [List.map_append]; rfl
      refine ⟨_, rfl, .inl ⟨rfl, _, SqL.of h2⟩, _, rfl, _, rfl, l, _, _, V.int v, rfl, rfl, SqL.of h2, by rw [he]; exact atI_last _ _, _, rfl, _, rfl, _, rfl, _, _, rfl, .inl (s2.seq hs), _, _, rfl, rfl, (by show (0 : Int) < ((bls bs).length : Int); rw [hln]; omega), a, _, _, _, rfl, rfl, s2.seq hs,
        at_of (j := (1 + i) % bs.length) (by show (1 + (i : Int)) % ((bls bs).length : Int) = _; rw [hln, ← mod_nat, show ((1 + i : Nat) : Int) = 1 + (i : Int) by omega]) hb, .inr ⟨_, rfl, _, _, rfl, rfl, l, _, _, rfl, rfl, h2, line_ok (by rw [List.length_map, List.length_append, List.length_singleton]; omega), ?_⟩⟩
      refine ⟨ns ++ [v], v + (if bs.getD ((1 + i) % bs.length) false then 1 else 0), _, rfl, s2.put hl, by rw [upd_same]; exact congrArg (fun l => some (HO.lst l)) (ints_snoc _ _), by rw [List.length_append, List.length_singleton]; omega⟩
    · rintro σ H' ⟨ns, v, z, rfl, s2, h2, _⟩
      exact ⟨_, rfl, k H' l _ s2 hl h2⟩
end
end Rl
end

section
set_option maxRecDepth 100000
set_option maxHeartbeats 4000000
namespace Rl
open PySem L2
/-! ### Plainest -/
def plF (s : Nat) (fl : Addr) (vf : V) (b : Addr) : List (Str × V) := putF "below" (.ref b) (putF "flipped" vf (putF "flags" (.ref fl) (putF "period" (iv s) [])))
theorem plF_period {s : Nat} {fl : Addr} {vf : V} {b : Addr} : (plF s fl vf b).lookup ("period" : Str) = some (iv s) := by
  unfold plF
  rw [lookup_putF, if_neg (by decide +kernel), lookup_putF, if_neg (by decide +kernel), lookup_putF, if_neg (by decide +kernel), lookup_putF, if_pos rfl]
theorem plF_flags {s : Nat} {fl : Addr} {vf : V} {b : Addr} : (plF s fl vf b).lookup ("flags" : Str) = some (.ref fl) := by
  unfold plF
  rw [lookup_putF, if_neg (by decide +kernel), lookup_putF, if_neg (by decide +kernel), lookup_putF, if_pos rfl]
theorem plF_flipped {s : Nat} {fl : Addr} {vf : V} {b : Addr} : (plF s fl vf b).lookup ("flipped" : Str) = some vf := by
  unfold plF
  rw [lookup_putF, if_neg (by decide +kernel), lookup_putF, if_pos rfl]
/-- the least period of flags -/
abbrev lpb (bs : List Bool) : Nat := lp bs.length (fun i => bs.getD i false)
/-- at p: the plainest form of the flags bs, with the changed ones vf -/
def PlAt (C : Addr) (H : Hp) (p : Addr) (bs : List Bool) (vf : V) : Prop := ∃ dx fl b, H p = some (.ins C dx (plF (lpb bs) fl vf b)) ∧ H fl = some (.lst (bls (bs.take (lpb bs))))
theorem PlAt.same {C : Addr} {H H' : Hp} {p : Addr} {bs : List Bool} {vf : V} (h : PlAt C H p bs vf) (s : Same H H') : PlAt C H' p bs vf := by
  obtain ⟨dx, fl, b, h1, h2⟩ := h
  exact ⟨dx, fl, b, s _ _ h1, s _ _ h2⟩
structure TxP (K : PySem.W.Frag) (C : Addr) : Prop where
  cl : Cls K C
  nP : NoAttr K C "period"
  nF : NoAttr K C "flags"
  nX : NoAttr K C "flipped"
  nB : NoAttr K C "below"
section
variable {P : Program} {w : World} {K : PySem.W.Frag} {mg : Str → Option Value} {base : Heap}
def spPInit (K : PySem.W.Frag) (C : Addr) : Sp := fun vs H Q _ => ∃ (H0 : Hp) (p dx a : Addr) (bs : List Bool) (vf : V), vs = [.ref p, .ref a, vf] ∧ Same H0 H ∧ H0 p = none ∧ H p = some (.ins C dx []) ∧ SqL K H0 a (bls bs) ∧ 1 ≤ bs.length ∧ bs.length ≤ 100000 ∧
  ∀ H', Same H0 H' → PlAt C H' p bs vf → Q .non H'
theorem scPInit : FnScope ["self", "flags", "flipped"] ["self", "flags", "flipped"] (defScope tPInit) := ⟨rfl, rfl, rfl, by decide +kernel, rfl, by decide +kernel, by decide +kernel⟩
theorem put_le {f : Str} {v : V} {fs : List (Str × V)} {n : Nat} (h : fs.length ≤ n) : (putF f v fs).length ≤ n + 1 := Nat.le_trans (length_putF f v fs) (Nat.succ_le_succ h)
theorem put_ne {f : Str} {v : V} {fs : List (Str × V)} {g : Str} (h : ¬ g = f) : (putF f v fs).lookup g = fs.lookup g := by rw [lookup_putF, if_neg h]
theorem put_eq {f : Str} {v : V} {fs : List (Str × V)} : (putF f v fs).lookup f = some v := by rw [lookup_putF, if_pos rfl]
theorem ok_pinit {f f1 f2 C : Addr} {fd fd1 fd2 : FuncData} (F : Fun K "__init__" "Plainest.__init__" tPInit f fd) (T : TxP K C)
    {j1 : Nat} (G1 : FnOk P w K mg base CX0 2 f1 fd1 ["flags"] (spLeast K)) (F1 : PySem.W.keepIn K (.ref f1) = true) (g1 : mg "least_period" = some (.ref f1)) (b1 : Binds K fd1 ["flags"] [])
    (G2 : FnOk P w K mg base CX0 1 f2 fd2 ["flags"] (spSums K)) (F2 : PySem.W.keepIn K (.ref f2) = true) (g2 : mg "sums_of" = some (.ref f2)) (b2 : Binds K fd2 ["flags"] []) : FnOk P w K mg base CX0 3 f fd ["self", "flags", "flipped"] (spPInit K C) := by
  refine F.ok scPInit (fun vs H Q E h => ?_) (fun cdv A outer s H vs Q E hr h => ?_)
  · obtain ⟨_, p, dx, a, bs, vf, rfl, _⟩ := h
    rfl
  · obtain ⟨H0, p, dx, a, bs, vf, rfl, s0, p0, hp, hs, n1, n2, k⟩ := h
    have hr1 : Room 1 _ := hr.mono (by decide)
    refine ⟨_, pss_cons (ps_fld (pv 0) (pe_call G1 hr rfl g1 F1 b1 .nil pass0 (pa_cons (pv 1) pa_nil)) rfl)
      (pss_cons (ps_fld (pv 0) (pe_slice sl_list (pv 1) po_none (po_some (pe_fld (pv 0) rfl))) rfl)
      (pss_cons (ps_fld (pv 0) (pv 2) rfl)
      (pss_one (ps_fld (pv 0) (pe_call G2 hr1 rfl g2 F2 b2 .nil pass0 (pa_cons (pe_fld (pv 0) rfl) pa_nil)) rfl)))), ?_⟩
    have hln : (bls bs).length = bs.length := List.length_map ..
    have hlp := lp_ok (n := bs.length) (mk := fun i => bs.getD i false) n1
    -- self.period
    refine ⟨_, rfl, a, bs, rfl, s0.seq hs, n1, n2, fun H1 s1 => ?_⟩
    have hp1 := s1 _ _ hp
    have s01 : Same H0 H1 := s0.trans s1
    refine ⟨_, rfl, p, C, dx, [], rfl, hp1, T.cl, T.nP, by decide, ?_⟩
    have s02 : Same H0 (upd H1 p (.ins C dx (putF "period" (iv (lpb bs)) []))) := s01.put p0
    -- self.flags
    refine ⟨_, rfl, _, rfl, p, C, dx, _, _, rfl, upd_same, T.cl, T.nP, put_eq, _, rfl, a, _, rfl, s02.seq hs, fun fl hfl => ?_⟩
    have s03 := s02.lay (o := .lst (cutV (bls bs) none (some (lpb bs : Int)))) hfl
    have nfp : p ≠ fl := fun e => by rw [← e, upd_same] at hfl; cases hfl
    have f0 : H0 fl = none := s02.free hfl
    refine ⟨_, rfl, p, C, dx, _, rfl, by rw [upd_ne nfp, upd_same], T.cl, T.nF, Nat.lt_of_le_of_lt (put_le (n := 0) (Nat.le_refl _)) (by decide), ?_⟩
    -- self.flipped
    refine ⟨_, rfl, _, rfl, p, C, dx, _, rfl, upd_same, T.cl, T.nX, Nat.lt_of_le_of_lt (put_le (put_le (n := 0) (Nat.le_refl _))) (by decide), ?_⟩
    -- self.below
    have s04 : Same H0 (upd (upd (upd (upd H1 p (.ins C dx (putF "period" (iv (lpb bs)) []))) fl (.lst (cutV (bls bs) none (some (lpb bs : Int))))) p (.ins C dx (putF "flags" (.ref fl) (putF "period" (iv (lpb bs)) []))))
      p (.ins C dx (putF "flipped" vf (putF "flags" (.ref fl) (putF "period" (iv (lpb bs)) []))))) := (s03.put p0).put p0
    have hcut : cutV (bls bs) none (some (lpb bs : Int)) = bls (bs.take (lpb bs)) := by rw [cut_take (by rw [hln]; exact hlp.le)]; exact List.map_take.symm
    refine ⟨_, rfl, p, C, dx, _, _, rfl, upd_same, T.cl, T.nF, by rw [put_ne (by decide +kernel), put_eq], fl, bs.take (lpb bs), rfl, SqL.of (by rw [upd_ne nfp.symm, upd_ne nfp.symm, upd_same, hcut]), ?_, ?_, fun H5 b xs s5 nb hb => ?_⟩
    · rw [List.length_take]; have := hlp.pos; have := hlp.le; show 1 ≤ min (lpb bs) bs.length; simp only [lpb]; omega
    · rw [List.length_take]; omega
    refine ⟨_, rfl, p, C, dx, _, rfl, s5 _ _ upd_same, T.cl, T.nB, Nat.lt_of_le_of_lt (put_le (put_le (put_le (n := 0) (Nat.le_refl _)))) (by decide), ?_⟩
    refine k _ ((s04.trans s5).put p0) ⟨dx, fl, b, upd_same, ?_⟩
    rw [upd_ne nfp.symm]
    refine s5 _ _ ?_
    rw [upd_ne nfp.symm, upd_ne nfp.symm, upd_same, hcut]
end
end Rl
end

section
set_option maxRecDepth 100000
set_option maxHeartbeats 4000000
namespace Rl
open PySem L2
/-! ### checked -/
section
variable {P : Program} {w : World} {K : PySem.W.Frag} {mg : Str → Option Value} {base : Heap}
/-- as the layer's Fun.okX, for a def whose exceptions have no context -/
theorem okN {x qual : Str} {st : Stmt} {f : Addr} {fd : FuncData} {N ps : List Str} {k : Nat} {sp : Sp} (F : Fun K x qual st f fd) (S : FnScope N ps (defScope st)) (len : ∀ vs H Q E, sp vs H Q E → vs.length = ps.length)
    (hbody : ∀ (cdv : Value) (A : Around) (outer : List Env) (s : Shared) (H : Hp) (vs : List V) (Q : VK) (E : XK), Room k (A.deeper (PyProof.Rows.envOfC qual (defScope st) s.heap.objs.size f cdv)) → sp vs H Q E →
      ∃ t, PSs (cxOf (L2N.CX P w) P w K mg base N qual (defScope st) f cdv A outer s H E) (defBody st) t ∧ t { nx := fun _ H' => Q .non H', rt := Q } (start N vs) H) : FnOk P w K mg base (L2N.CX P w) (k + 1) f fd ps sp := by
  obtain ⟨oc, od, kV, doc, pm, an, cdv, ct, osl, rfl, lk, hcd⟩ := F.ex
  exact fn_of lk hcd S len fun A outer s H vs Q E hr hsp => hbody cdv A outer s H vs Q E hr hsp
end
/-- an own class of errors without an __init__ of its own -/
structure TxX (K : PySem.W.Frag) (mg : Str → Option Value) (x : Str) (C : Addr) : Prop where
  g : mg x = some (.ref C)
  x : PySem.W.excIn K C [.type "ValueError", .type "Exception", .type "BaseException", .type "object"] "ValueError.__new__" = true
  k : PySem.W.keepIn K (.ref C) = true
  b : PySem.W.subIn K (.ref C) (.type "BaseException") = some true
  t : PySem.W.typeIn K (.ref C) = some (.type "type")
structure Bi (mg : Str → Option Value) : Prop where
  isinstance : mg "isinstance" = none
  int : mg "int" = none
  bool : mg "bool" = none
  str : mg "str" = none
  tuple : mg "tuple" = none
  list : mg "list" = none
  len : mg "len" = none
  set : mg "set" = none
  all : mg "all" = none
  range : mg "range" = none
  sorted : mg "sorted" = none
  enumerate : mg "enumerate" = none
  abs : mg "abs" = none
  max : mg "max" = none
  min : mg "min" = none
def okC (n : Int) (o : Option Int) : Bool := match o with
  | none => false
  | some c => decide (0 ≤ c) && decide (c < n)
def okH (o : Option Int) : Bool := match o with
  | none => false
  | some c => decide (1 ≤ c)
abbrev sN (d : Nat) : Option Int := some (d : Int)
theorem okC_all {n : Nat} : ∀ {cs : List (Option Int)}, cs.all (okC n) = true → ∃ ds : List Nat, cs = ds.map sN ∧ ∀ d ∈ ds, d < n
  | [], _ => ⟨[], rfl, fun _ h => by cases h⟩
  | o :: cs, h => by
    rw [List.all_cons, Bool.and_eq_true] at h
    obtain ⟨ds, e, hl⟩ := okC_all h.2
    cases o with
    | none => cases h.1
    | some c =>
      have h1 : (decide (0 ≤ c) && decide (c < (n : Int))) = true := h.1
      rw [Bool.and_eq_true, decide_eq_true_eq, decide_eq_true_eq] at h1
      refine ⟨c.toNat :: ds, ?_, fun d hd => ?_⟩
      · rw [List.map_cons, ← e]
        congr 2
        omega
      · rcases List.mem_cons.mp hd with z | hd
        · omega
        · exact hl d hd
theorem okH_all : ∀ {cs : List (Option Int)}, cs.all okH = true → ∃ ds : List Nat, cs = ds.map sN ∧ ∀ d ∈ ds, 1 ≤ d
  | [], _ => ⟨[], rfl, fun _ h => by cases h⟩
  | o :: cs, h => by
    rw [List.all_cons, Bool.and_eq_true] at h
    obtain ⟨ds, e, hl⟩ := okH_all h.2
    cases o with
    | none => cases h.1
    | some c =>
      have h1 : decide (1 ≤ c) = true := h.1
      rw [decide_eq_true_eq] at h1
      refine ⟨c.toNat :: ds, ?_, fun d hd => ?_⟩
      · rw [List.map_cons, ← e]
        congr 2
        omega
      · rcases List.mem_cons.mp hd with z | hd
        · omega
        · exact hl d hd
theorem okC_of {n : Nat} {ds : List Nat} (h : ∀ d ∈ ds, d < n) : (ds.map sN).all (okC n) = true := by
  rw [List.all_map, List.all_eq_true]
  intro d hd
  show (decide ((0 : Int) ≤ d) && decide ((d : Int) < n)) = true
  have := h d hd
  rw [Bool.and_eq_true, decide_eq_true_eq, decide_eq_true_eq]
  omega
theorem okH_of {ds : List Nat} (h : ∀ d ∈ ds, 1 ≤ d) : (ds.map sN).all okH = true := by
  rw [List.all_map, List.all_eq_true]
  intro d hd
  show decide ((1 : Int) ≤ d) = true
  have := h d hd
  rw [decide_eq_true_eq]
  omega
abbrev zs (ds : List Nat) : List Int := ds.map fun (d : Nat) => (d : Int)
theorem zs_nodup {ds : List Nat} : (zs ds).Nodup ↔ ds.Nodup := by
  unfold List.Nodup
  rw [List.pairwise_map]
  constructor
  · intro h
    exact h.imp fun hab e => hab (by rw [e])
  · intro h
    exact h.imp fun hab e => hab (Int.ofNat_inj.mp e)
theorem sN_inj : ∀ {a b : List Nat}, a.map sN = b.map sN → a = b
  | [], [], _ => rfl
  | [], _ :: _, h => by cases h
  | _ :: _, [], h => by cases h
  | x :: a, y :: b, h => by
    rw [List.map_cons, List.map_cons] at h
    injection h with h1 h2
    have e1 : (x : Int) = (y : Int) := Option.some.inj h1
    rw [Int.ofNat_inj.mp e1, sN_inj h2]
theorem ov_ivs (ds : List Nat) : (ds.map sN).map ov = ivs ds := by rw [List.map_map]; rfl
theorem ivs_ints (ds : List Nat) : ivs ds = (zs ds).map V.int := by rw [List.map_map]; rfl
/-- what the arguments must be -/
structure Chk (m : Option Int) (cs ch : List (Option Int)) (n : Nat) (ds es : List Nat) : Prop where
  em : m = some (n : Int)
  n1 : 1 ≤ n
  n2 : n ≤ 720
  ec : cs = ds.map sN
  dl : ∀ d ∈ ds, d < n
  dn : ds.Nodup
  eh : ch = es.map sN
  e1 : ∀ e ∈ es, 1 ≤ e
  en : es.Nodup
def bsOf (n : Nat) (ds : List Nat) : List Bool := (List.range n).map (mk ds)
theorem bsOf_len (n : Nat) (ds : List Nat) : (bsOf n ds).length = n := by unfold bsOf; rw [List.length_map, List.length_range]
theorem bsOf_get {n : Nat} {ds : List Nat} {k : Nat} (h : k < n) : (bsOf n ds).getD k false = mk ds k := by
  unfold bsOf
  rw [List.getD_eq_getElem?_getD, List.getElem?_map, List.getElem?_range h]
  rfl
theorem lpb_bsOf {n : Nat} {ds : List Nat} (hn : 1 ≤ n) : lpb (bsOf n ds) = lp n (mk ds) := by
  unfold lpb
  rw [bsOf_len]
  exact lp_congr hn fun k hk => bsOf_get hk
/-- the plainest form of (n, ds, es) at p -/
def PsAt (C : Addr) (H : Hp) (p : Addr) (n : Nat) (ds es : List Nat) : Prop := ∃ t, PlAt C H p (bsOf n ds) (.ref t) ∧ H t = some (.tup (ivs es))
theorem PsAt.same {C : Addr} {H H' : Hp} {p : Addr} {n : Nat} {ds es : List Nat} (h : PsAt C H p n ds es) (s : Same H H') : PsAt C H' p n ds es := by
  obtain ⟨t, h1, h2⟩ := h
  exact ⟨t, h1.same s, s _ _ h2⟩
theorem sorted_lt {xs ns : List Int} (hp : xs.Perm ns) (hs : xs.Pairwise (· ≤ ·)) (hn : ns.Nodup) : xs.Pairwise (· < ·) := by
  have hx : xs.Nodup := hp.nodup_iff.mpr hn
  exact (List.pairwise_and_iff.mpr ⟨hs, hx⟩).imp fun h => by omega
theorem zs_perm {xs : List Int} {es : List Nat} (hp : xs.Perm (zs es)) : ∃ es' : List Nat, xs = zs es' ∧ es'.Perm es := by
  have hx : ∀ x ∈ xs, 0 ≤ x := fun x hx => by
    obtain ⟨d, _, e⟩ := List.mem_map.mp (hp.mem_iff.mp hx)
    omega
  refine ⟨xs.map Int.toNat, ?_, ?_⟩
  · unfold zs
    rw [List.map_map]
    symm
    exact (List.map_congr_left (g := id) fun x h => by have := hx x h; show ((x.toNat : Nat) : Int) = x; omega).trans (List.map_id _)
  · have := hp.map Int.toNat
    unfold zs at this
    rw [List.map_map] at this
    exact this.trans (List.Perm.of_eq ((List.map_congr_left (g := id) fun x _ => by show ((x : Int)).toNat = x; omega).trans (List.map_id _)))
theorem zs_lt {es : List Nat} (h : (zs es).Pairwise (· < ·)) : es.Pairwise (· < ·) := by
  unfold zs at h
  rw [List.pairwise_map] at h
  exact h.imp fun h => by omega
end Rl
end

section
set_option maxRecDepth 100000
set_option maxHeartbeats 4000000
namespace Rl
open PySem L2
section
variable {P : Program} {w : World} {K : PySem.W.Frag} {mg : Str → Option Value} {base : Heap}
def spChecked (CP C1 C2 C3 : Addr) : Sp := fun vs H Q E => ∃ (m : Option Int) (a b : Addr) (cs ch : List (Option Int)), vs = [ov m, .ref a, .ref b] ∧ H a = some (.tup (cs.map ov)) ∧ H b = some (.tup (ch.map ov)) ∧ cs.length ≤ 4050 ∧ ch.length ≤ 4050 ∧
  (∀ n ds es, Chk m cs ch n ds es → ∀ H' p es', Same H H' → es'.Perm es → es'.Pairwise (· < ·) → PsAt CP H' p n ds es' → Q (.ref p) H') ∧
  ((¬ ∃ n ds es, Chk m cs ch n ds es) → ∀ C, (C = C1 ∨ C = C2 ∨ C = C3) → ∀ H', Same H H' → E (.ref C) none H')
theorem scChecked : FnScope ["modulus", "classes", "changed", "flags", "one", "remainder"] ["modulus", "classes", "changed"] (defScope tChecked) := ⟨rfl, rfl, rfl, by decide +kernel, rfl, by decide +kernel, by decide +kernel⟩
theorem map_all {α β : Type} (f : α → β) (l : List α) (i : Nat) (x : α) (h : l[i]? = some x) : (l.map f).take (i + 1) = (l.map f).take i ++ [f x] := by
  rw [List.take_add_one, List.getElem?_map, h]
  rfl
theorem in_ivs {n : Nat} : ∀ {ds : List Nat}, inV (iv n) (ivs ds) = mk ds n
  | [] => rfl
  | d :: ds => by
    show (((d : Int) == (n : Int)) || inV (iv n) (ivs ds)) = mk (d :: ds) n
    rw [in_ivs]
    unfold mk
    by_cases h : d = n
    · subst h; simp
    · have h1 : ((d : Int) == (n : Int)) = false := by simpa using fun e => h (Int.ofNat_inj.mp e)
      have h2 : ¬ n = d := fun e => h e.symm
      rw [h1, Bool.false_or]
      exact decide_eq_decide.mpr ⟨fun z => List.mem_cons_of_mem _ z, fun z => (List.mem_cons.mp z).elim (fun e => absurd e h2) id⟩
theorem get_map {α β : Type} {f : α → β} {l : List α} {i : Nat} {y : β} (h : (l.map f)[i]? = some y) : ∃ x, l[i]? = some x ∧ y = f x := by
  rw [List.getElem?_map] at h
  cases e : l[i]? with
  | none => rw [e] at h; cases h
  | some x => rw [e] at h; exact ⟨x, rfl, (Option.some.inj h).symm⟩
theorem bls_snoc (bs : List Bool) (b : Bool) : bls bs ++ [V.bl b] = bls (bs ++ [b]) := by simp
theorem lst_at {H : Hp} {D : Addr} {xs ys : List V} (h : xs = ys) : upd H D (.lst xs) D = some (.lst ys) := by rw [upd_same, h]
theorem len_take {α : Type} {l : List α} {n i : Nat} (h : l.length ≤ n) : (l.take i).length ≤ n := by rw [List.length_take]; omega
theorem flat_ivs (ds : List Nat) : (ivs ds).all flatV = true := by
  rw [List.all_map, List.all_eq_true]
  intro d _
  rfl
theorem ok_checked {f f1 f2 CP C1 C2 C3 : Addr} {fd fd1 fd2 : FuncData} {kN : Tok} (F : Fun K "checked" "checked" tChecked f fd) (B : Bi mg) (X1 : TxX K mg "NoModulus" C1) (X2 : TxX K mg "NoClasses" C2) (X3 : TxX K mg "NoChanged" C3)
    (mN : mg "MOST_MODULUS" = some (.int 720 kN)) (G1 : FnOk P w K mg base CX0 1 f1 fd1 ["thing"] spWhole) (g1 : mg "is_whole" = some (.ref f1)) (k1 : PySem.W.keepIn K (.ref f1) = true) (b1 : Binds K fd1 ["thing"] [])
    (M : Mk K CP f2) (G2 : FnOk P w K mg base CX0 3 f2 fd2 ["self", "flags", "flipped"] (spPInit K CP)) (g2 : mg "Plainest" = some (.ref CP)) (b2 : Binds K fd2 ["self", "flags", "flipped"] []) :
    FnOk P w K mg base (L2N.CX P w) 5 f fd ["modulus", "classes", "changed"] (spChecked CP C1 C2 C3) := by
  refine okN F scChecked (fun vs H Q E h => ?_) (fun cdv A outer s H vs Q E hr h => ?_)
  · obtain ⟨m, a, b, cs, ch, rfl, _⟩ := h
    rfl
  · obtain ⟨m, a, b, cs, ch, rfl, ha, hb, la, lb, kQ, kE⟩ := h
    have hr1 : Room 1 _ := hr.mono (by decide)
    refine ⟨_, pss_cons (ps_if (PW.pt (pw_or (pt_not (pt_val (pe_call G1 hr1 rfl g1 k1 b1 .nil pass0 (pa_cons (pv 0) pa_nil)))) (pw_or1 (pt_not (pt_chain op_le op_le pe_int (pv 0) (pe_glob (v := .int 720) rfl mN ⟨_, rfl⟩))))))
        (pss_one (L2N.ps_raise rfl (L2N.takes_of rfl rfl rfl rfl) (L2N.pmk_own PySem.F.excBase_ValueError X1.x X1.g X1.k (raises_own X1.b X1.t) rfl))) pss_nil)
      (pss_cons (ps_if (PW.pt (pw_or (pt_not (pt_val (pe_callB call_isi (by rfl) B.isinstance (by decide +kernel) (pa_cons (pv 1) (pa_cons (pe_bltn (v := .ty "tuple") (by rfl) B.tuple (by decide +kernel) rfl) pa_nil))))) (pw_or1 (pt_not (pt_val
          (pe_callB (cr_all rfl) (by rfl) B.all (by decide +kernel) (pa_cons (pe_lc (own := [("one", 4)]) (g := gName 4) (tt := tYes) rfl scChecked.nd (pi_tup (pv 1)) (blkOk_by (N := ["modulus", "classes", "changed", "flags", "one", "remainder"]) (sc := defScope tChecked) (by decide +kernel))
            (fun _ _ _ _ _ => pg_name (i := 4) scChecked.nd rfl (Or.inl rfl)) (fun _ _ _ _ _ => pts_nil)
            (fun _ _ _ _ _ => pe_and (pe_call G1 hr1 rfl g1 k1 b1 .nil pass0 (pa_cons (pv 4) pa_nil)) (pe_one (pe_chain op_le op_lt pe_int (pv 4) (pv 0))))) pa_nil)))))))
        (pss_one (L2N.ps_raise rfl (L2N.takes_of rfl rfl rfl rfl) (L2N.pmk_own PySem.F.excBase_ValueError X2.x X2.g X2.k (raises_own X2.b X2.t) rfl))) pss_nil)
      (pss_cons (ps_if (pt_cmpR op_lt (pe_lenSetT (by rfl) B.len (by rfl) B.set (pv 1)) (pe_callB call_len_seq (by rfl) B.len PySem.boot_len (pa_cons (pv 1) pa_nil)) (nomark _))
        (pss_one (L2N.ps_raise rfl (L2N.takes_of rfl rfl rfl rfl) (L2N.pmk_own PySem.F.excBase_ValueError X2.x X2.g X2.k (raises_own X2.b X2.t) rfl))) pss_nil)
      (pss_cons (ps_if (PW.pt (pw_or (pt_not (pt_val (pe_callB call_isi (by rfl) B.isinstance (by decide +kernel) (pa_cons (pv 2) (pa_cons (pe_bltn (v := .ty "tuple") (by rfl) B.tuple (by decide +kernel) rfl) pa_nil))))) (pw_or1 (pt_not (pt_val
          (pe_callB (cr_all rfl) (by rfl) B.all (by decide +kernel) (pa_cons (pe_lc (own := [("one", 4)]) (g := gName 4) (tt := tYes) rfl scChecked.nd (pi_tup (pv 2)) (blkOk_by (N := ["modulus", "classes", "changed", "flags", "one", "remainder"]) (sc := defScope tChecked) (by decide +kernel))
            (fun _ _ _ _ _ => pg_name (i := 4) scChecked.nd rfl (Or.inl rfl)) (fun _ _ _ _ _ => pts_nil)
            (fun _ _ _ _ _ => pe_and (pe_call G1 hr1 rfl g1 k1 b1 .nil pass0 (pa_cons (pv 4) pa_nil)) (pe_one (pe_cmpR op_ge (pv 4) pe_int (nomark _))))) pa_nil)))))))
        (pss_one (L2N.ps_raise rfl (L2N.takes_of rfl rfl rfl rfl) (L2N.pmk_own PySem.F.excBase_ValueError X3.x X3.g X3.k (raises_own X3.b X3.t) rfl))) pss_nil)
      (pss_cons (ps_if (pt_cmpR op_lt (pe_lenSetT (by rfl) B.len (by rfl) B.set (pv 2)) (pe_callB call_len_seq (by rfl) B.len PySem.boot_len (pa_cons (pv 2) pa_nil)) (nomark _))
        (pss_one (L2N.ps_raise rfl (L2N.takes_of rfl rfl rfl rfl) (L2N.pmk_own PySem.F.excBase_ValueError X3.x X3.g X3.k (raises_own X3.b X3.t) rfl))) pss_nil)
      (pss_cons (ps_setLc (i := 3) (own := [("remainder", 5)]) (g := gName 5) (tt := tYes) rfl scChecked.nd rfl rfl (sw_true rfl rfl rfl (by decide +kernel)) (pi_range1 (by rfl) B.range (pa_cons (pv 0) pa_nil)) (blkOk_by (N := ["modulus", "classes", "changed", "flags", "one", "remainder"]) (sc := defScope tChecked) (by decide +kernel))
            (fun _ _ _ _ _ => pg_name (i := 5) scChecked.nd rfl (Or.inl rfl)) (fun _ _ _ _ _ => pts_nil)
            (fun _ _ _ _ _ => pe_cmpR (r := rIn K false) op_in_seq (pv 5) (pv 1) (by rfl)))
      (pss_one (ps_ret (pe_make M G2 hr (by rfl) g2 b2 .nil pass0 (pa_cons (pv 3) (pa_cons (pe_callTy call_tuple_of (by rfl) B.tuple (by decide +kernel) (pa_cons (pe_callB cr_sortedT (by rfl) B.sorted (by decide +kernel) (pa_cons (pv 2) pa_nil)) pa_nil)) pa_nil)))))))))), ?_⟩
    have noM : (¬ ∃ n : Nat, m = some (n : Int) ∧ 1 ≤ n ∧ n ≤ 720) → E (.ref C1) none H := fun z => kE (fun ⟨n, ds, es, c⟩ => z ⟨n, c.em, c.n1, c.n2⟩) _ (.inl rfl) _ (Same.refl H)
    refine ⟨_, rfl, m, rfl, _, rfl, ?_⟩
    cases m with
    | none => exact iteT (iteT (noM fun ⟨n, e, _⟩ => by cases e))
    | some mi =>
    refine iteF ⟨_, rfl, _, _, rfl, rfl, _, rfl, ite3 (c := 1 ≤ mi) rfl (fun h1 => ?_) (fun h1 => ⟨_, rfl, iteT (noM fun ⟨n, e, z1, _⟩ => h1 (by cases e; omega))⟩)⟩
    refine ⟨_, _, rfl, rfl, _, rfl, ?_⟩
    by_cases h2 : mi ≤ 720
    case neg =>
      refine ite3 (c := ¬ mi ≤ 720) decide_not.symm (fun _ => noM fun ⟨n, e, _, z2⟩ => h2 (by cases e; omega)) (fun z => absurd h2 z)
    refine ite3 (c := ¬ mi ≤ 720) decide_not.symm (fun z => absurd h2 z) (fun _ => ?_)
    obtain ⟨n, rfl⟩ := Int.eq_ofNat_of_zero_le (show 0 ≤ mi by omega)
    have n1 : 1 ≤ n := by omega
    have n2 : n ≤ 720 := by omega
    -- the classes
    refine ⟨_, rfl, _, _, _, _, true, rfl, .ty _, .base (.tup ha), kit_ty (by decide +kernel), _, rfl, iteF ?_⟩
    refine ⟨_, rfl, a, rfl, ⟨_, SqT.of ha⟩, fun D hD => lc_tup (K := K) (a := a) (xs := cs.map ov) (fun i H' => Same H H' ∧ H' D = some (.lst (bls ((cs.map (okC n)).take i)))) ⟨(Same.refl H).lay hD, lst_at rfl⟩ (fun i H' _ ⟨s1, _⟩ => SqT.of (s1 _ _ ha)) ?_ ?_⟩
    · rintro i x H' hi ⟨s1, h1'⟩
      obtain ⟨o, ho, rfl⟩ := get_map hi
      have hlen : (bls ((cs.map (okC n)).take i)).length < sizeLine := line_ok (by rw [List.length_map]; exact Nat.le_trans (len_take (n := 4050) (by rw [List.length_map]; exact la)) (by decide))
      have more := map_all (okC n) cs i o ho
      refine ⟨rfl, _, rfl, o, rfl, _, rfl, ?_⟩
      cases o with
      | none => exact iteF ⟨_, h1', hlen, s1.put hD, lst_at (by rw [more, bls_snoc]; rfl)⟩
      | some c =>
        refine iteT ⟨_, rfl, _, _, rfl, rfl, _, rfl, ite3 (c := 0 ≤ c) rfl (fun c0 => ?_) (fun c0 => ⟨_, h1', hlen, s1.put hD, lst_at (by rw [more, bls_snoc]; show bls (_ ++ [false]) = bls (_ ++ [decide (0 ≤ c) && decide (c < (n : Int))]); rw [decide_eq_false c0]; rfl)⟩)⟩
        exact ⟨_, rfl, _, _, rfl, rfl, _, h1', hlen, s1.put hD, lst_at (by rw [more, bls_snoc]; show bls (_ ++ [_]) = bls (_ ++ [decide (0 ≤ c) && decide (c < (n : Int))]); rw [decide_eq_true c0]; rfl)⟩
    rintro H1 ⟨s1, h1'⟩
    have full : ∀ {α β γ : Type} (g : α → β) (g' : α → γ) (l : List α), (l.map g).take (l.map g').length = l.map g := fun g g' l => List.take_of_length_le (by rw [List.length_map, List.length_map]; exact Nat.le_refl _)
    refine ⟨D, cs.map (okC n), rfl, SqL.of (by rw [h1', full]), _, rfl, ite3 (c := ¬ cs.all (okC n) = true) (by rw [List.all_map]; show (!cs.all (okC n)) = _; cases cs.all (okC n) <;> rfl) (fun hc => kE (fun ⟨n', ds, es, c⟩ => hc ?_) _ (.inr (.inl rfl)) _ s1) (fun hc => ?_)⟩
    · have e := Option.some.inj c.em
      rw [c.ec, show n = n' from Int.ofNat_inj.mp e]
      exact okC_of c.dl
    obtain ⟨ds, rfl, dl⟩ := okC_all (Classical.not_not.mp hc)
    rw [ov_ivs] at ha
    refine ⟨_, rfl, a, zs ds, rfl, SqT.of (by rw [← ivs_ints]; exact s1 _ _ ha), by rw [List.length_map] at la ⊢; exact la, fun c hcn => ?_⟩
    refine ⟨_, rfl, a, _, rfl, .inr (SqT.of (s1 _ _ ha)), _, _, rfl, rfl, _, rfl, ite3 (c := ¬ ds.Nodup) (decide_eq_decide.mpr ?_) (fun hn => kE (fun ⟨n', ds', es, c⟩ => hn ?_) _ (.inr (.inl rfl)) _ s1) (fun hn => ?_)⟩
    · rw [← zs_nodup, ← hcn, List.length_map, List.length_map]
      omega
    · rw [sN_inj c.ec]
      exact c.dn
    have dn := Classical.not_not.mp hn
    -- the changed ones
    refine ⟨_, rfl, _, _, _, _, true, rfl, .ty _, .base (.tup (s1 _ _ hb)), kit_ty (by decide +kernel), _, rfl, iteF ?_⟩
    refine ⟨_, rfl, b, rfl, ⟨_, SqT.of (s1 _ _ hb)⟩, fun D2 hD2 => lc_tup (K := K) (a := b) (xs := ch.map ov) (fun i H' => Same H H' ∧ H' D2 = some (.lst (bls ((ch.map okH).take i)))) ⟨s1.lay hD2, lst_at rfl⟩ (fun i H' _ ⟨s2, _⟩ => SqT.of (s2 _ _ hb)) ?_ ?_⟩
    · rintro i x H' hi ⟨s2, h2'⟩
      obtain ⟨o, ho, rfl⟩ := get_map hi
      have hlen : (bls ((ch.map okH).take i)).length < sizeLine := line_ok (by rw [List.length_map]; exact Nat.le_trans (len_take (n := 4050) (by rw [List.length_map]; exact lb)) (by decide))
      have more := map_all okH ch i o ho
      refine ⟨rfl, _, rfl, o, rfl, _, rfl, ?_⟩
      cases o with
      | none => exact iteF ⟨_, h2', hlen, s2.put (s1.free hD2), lst_at (by rw [more, bls_snoc]; rfl)⟩
      | some c => exact iteT ⟨_, rfl, _, _, rfl, rfl, _, h2', hlen, s2.put (s1.free hD2), lst_at (by rw [more, bls_snoc]; rfl)⟩
    rintro H2 ⟨s2, h2'⟩
    refine ⟨D2, ch.map okH, rfl, SqL.of (by rw [h2', full]), _, rfl, ite3 (c := ¬ ch.all okH = true) (by rw [List.all_map]; show (!ch.all okH) = _; cases ch.all okH <;> rfl) (fun hc => kE (fun ⟨n', ds, es, c⟩ => hc ?_) _ (.inr (.inr rfl)) _ s2) (fun hc => ?_)⟩
    · rw [c.eh]
      exact okH_of c.e1
    obtain ⟨es, rfl, e1⟩ := okH_all (Classical.not_not.mp hc)
    rw [ov_ivs] at hb
    refine ⟨_, rfl, b, zs es, rfl, SqT.of (by rw [← ivs_ints]; exact s2 _ _ hb), by rw [List.length_map] at lb ⊢; exact lb, fun c hcn => ?_⟩
    refine ⟨_, rfl, b, _, rfl, .inr (SqT.of (s2 _ _ hb)), _, _, rfl, rfl, _, rfl, ite3 (c := ¬ es.Nodup) (decide_eq_decide.mpr ?_) (fun hn => kE (fun ⟨n', ds', es', c⟩ => hn ?_) _ (.inr (.inr rfl)) _ s2) (fun hn => ?_)⟩
    · rw [← zs_nodup, ← hcn, List.length_map, List.length_map]
      omega
    · rw [sN_inj c.eh]
      exact c.en
    have en := Classical.not_not.mp hn
    -- the flags
    refine ⟨_, rfl, (n : Int), rfl, by omega, by omega, fun D3 hD3 => lc_range (lo := 0) (n := n) (fun i H' => Same H H' ∧ H' D3 = some (.lst (bls (bsOf i ds)))) ⟨s2.lay hD3, lst_at rfl⟩ ?_ ?_⟩
    · rintro i H' hi ⟨s3, h3'⟩
      refine ⟨rfl, _, rfl, _, rfl, a, _, rfl, .inr (SqT.of (s3 _ _ ha)), rfl, flat_ivs ds, _, h3', line_ok (by rw [List.length_map, bsOf_len]; omega), s3.put (s2.free hD3), lst_at ?_⟩
      show bls (bsOf i ds) ++ [V.bl (inV (V.int (0 + (i : Int))) (ivs ds))] = _
      rw [Int.zero_add, in_ivs, bls_snoc]
      unfold bsOf
      rw [List.range_succ, List.map_append]
      rfl
    rintro H3 ⟨s3, h3'⟩
    refine ⟨_, rfl, _, rfl, b, zs es, rfl, .inr (SqT.of (by rw [← ivs_ints]; exact s3 _ _ hb)), fun ns' p4 perm pw np4 => ?_⟩
    obtain ⟨es', rfl, pe⟩ := zs_perm perm
    have hlt := zs_lt (sorted_lt perm pw (zs_nodup.mpr en))
    refine ⟨p4, _, rfl, .inl ⟨SqL.of upd_same, fun p5 np5 => ?_⟩⟩
    have n54 : p4 ≠ p5 := fun e => by rw [← e, upd_same] at np5; cases np5
    have s4 : Same H3 (upd H3 p4 (.lst ((zs es').map V.int))) := (Same.refl H3).lay np4
    have s5 : Same H3 (upd (upd H3 p4 (.lst ((zs es').map V.int))) p5 (.tup ((zs es').map V.int))) := s4.lay np5
    intro x dx nx ndx nex
    have s6 := (s5.lay ndx (o := .own x))
    have s7 : Same (upd (upd H3 p4 (.lst ((zs es').map V.int))) p5 (.tup ((zs es').map V.int))) (upd (upd (upd (upd H3 p4 (.lst ((zs es').map V.int))) p5 (.tup ((zs es').map V.int))) dx (.own x)) x (.ins CP dx [])) := ((Same.refl _).lay ndx).put nx
    refine ⟨_, x, dx, D3, bsOf n ds, .ref p5, rfl, s7, nx, upd_same, SqL.of (s5 _ _ h3'), by rw [bsOf_len]; exact n1, by rw [bsOf_len]; omega, fun H9 s9 hp => ⟨rfl, ?_⟩⟩
    refine kQ n ds es ⟨rfl, n1, n2, rfl, dl, dn, rfl, e1, en⟩ H9 x es' (s3.trans (s5.trans s9)) pe hlt ⟨p5, hp, s9 _ _ ?_⟩
    rw [upd_same, ivs_ints]
end
end Rl
end

section
set_option maxRecDepth 100000
set_option maxHeartbeats 4000000
namespace Rl
open PySem L2
/-! ### Distances -/
theorem bsOf_take {n s : Nat} {ds : List Nat} (h : s ≤ n) : (bsOf n ds).take s = bsOf s ds := by
  unfold bsOf
  rw [← List.map_take, List.take_range, Nat.min_eq_left h]
theorem bsOf_succ (i : Nat) (ds : List Nat) : bsOf (i + 1) ds = bsOf i ds ++ [mk ds i] := by
  unfold bsOf
  rw [List.range_succ, List.map_append]
  rfl
theorem PsAt.get {C : Addr} {H : Hp} {p : Addr} {n : Nat} {ds es : List Nat} (h : PsAt C H p n ds es) (hn : 1 ≤ n) :
    ∃ dx fl b t, H p = some (.ins C dx (plF (lp n (mk ds)) fl (.ref t) b)) ∧ H fl = some (.lst (bls (bsOf (lp n (mk ds)) ds))) ∧ H t = some (.tup (ivs es)) := by
  obtain ⟨t, ⟨dx, fl, b, h1, h2⟩, h3⟩ := h
  rw [lpb_bsOf hn] at h1 h2
  rw [bsOf_take (lp_ok hn).le] at h2
  exact ⟨dx, fl, b, t, h1, h2, h3⟩
/-- a bare instance is none of its objects -/
theorem PsAt.other {C CD : Addr} {H : Hp} {p d dx : Addr} {n : Nat} {ds es : List Nat} {o : HO} (h : PsAt C H p n ds es) (hd : H d = some (.ins CD dx [])) : PsAt C (upd H d o) p n ds es := by
  obtain ⟨t, ⟨dx', fl, b, h1, h2⟩, h3⟩ := h
  have n1 : p ≠ d := ne_of h1 hd (fun e => by
    injection e with _ _ e3
    have := plF_period (s := lpb (bsOf n ds)) (fl := fl) (vf := .ref t) (b := b)
    rw [e3] at this
    cases this)
  have n2 : fl ≠ d := ne_of h2 hd (fun e => by cases e)
  have n3 : t ≠ d := ne_of h3 hd (fun e => by cases e)
  exact ⟨t, ⟨dx', fl, b, by rw [upd_ne n1]; exact h1, by rw [upd_ne n2]; exact h2⟩, by rw [upd_ne n3]; exact h3⟩
/-- at d: the set of (n, ds, es) -/
def DAt (CD CP : Addr) (H : Hp) (d : Addr) (n : Nat) (ds es : List Nat) : Prop := ∃ dx p, H d = some (.ins CD dx (putF "plain" (.ref p) [])) ∧ PsAt CP H p n ds es
theorem DAt.same {CD CP : Addr} {H H' : Hp} {d : Addr} {n : Nat} {ds es : List Nat} (h : DAt CD CP H d n ds es) (s : Same H H') : DAt CD CP H' d n ds es := by
  obtain ⟨dx, p, h1, h2⟩ := h
  exact ⟨dx, p, s _ _ h1, h2.same s⟩
structure TxD (K : PySem.W.Frag) (C : Addr) : Prop where
  cl : Cls K C
  nP : NoAttr K C "plain"
section
variable {P : Program} {w : World} {K : PySem.W.Frag} {mg : Str → Option Value} {base : Heap}
def spDInit (CD CP C1 C2 C3 : Addr) : Sp := fun vs H Q E => ∃ (H0 : Hp) (d dx a b : Addr) (m : Option Int) (cs ch : List (Option Int)), vs = [.ref d, ov m, .ref a, .ref b] ∧ Same H0 H ∧ H0 d = none ∧ H d = some (.ins CD dx []) ∧ H0 a = some (.tup (cs.map ov)) ∧ H0 b = some (.tup (ch.map ov)) ∧ cs.length ≤ 4050 ∧ ch.length ≤ 4050 ∧
  (∀ n ds es, Chk m cs ch n ds es → ∀ H' es', Same H0 H' → es'.Perm es → es'.Pairwise (· < ·) → DAt CD CP H' d n ds es' → Q .non H') ∧
  ((¬ ∃ n ds es, Chk m cs ch n ds es) → ∀ C, (C = C1 ∨ C = C2 ∨ C = C3) → ∀ H', Same H0 H' → E (.ref C) none H')
theorem scDInit : FnScope ["self", "modulus", "classes", "changed"] ["self", "modulus", "classes", "changed"] (defScope tDInit) := ⟨rfl, rfl, rfl, by decide +kernel, rfl, by decide +kernel, by decide +kernel⟩
theorem ok_dinit {f f1 CD CP C1 C2 C3 : Addr} {fd fd1 : FuncData} {ds1 : List Value} (hk : ∃ (oc : Value) (od : Option Addr) (dV kV doc pm : Value) (an : Option Addr) (cdv ct : Value) (osl : Array (Option Value)),
      fd = PySem.W.fnOf "__init__" "Distances.__init__" (defArgs tDInit) (defBody tDInit) (defScope tDInit) dV kV doc pm an cdv ct ∧ K.lookup f = some ⟨oc, od, .func fd, osl⟩ ∧ PySem.W.codeIn K cdv "Distances.__init__" = true) (B : Bi mg) (T : TxD K CD)
    (gP : mg "Plainest" = some (.ref CP)) (hi : PySem.W.kitOne K (.type "int") (.ref CP) = some false) (hn : PySem.W.kitOne K (.type "NoneType") (.ref CP) = some false)
    (G1 : FnOk P w K mg base (L2N.CX P w) 5 f1 fd1 ["modulus", "classes", "changed"] (spChecked CP C1 C2 C3)) (g1 : mg "checked" = some (.ref f1)) (k1 : PySem.W.keepIn K (.ref f1) = true) (b1 : Binds K fd1 ["modulus", "classes", "changed"] []) :
    FnOk P w K mg base (L2N.CX P w) 6 f fd ["self", "modulus", "classes", "changed"] (spDInit CD CP C1 C2 C3) := by
  obtain ⟨oc, od, dV, kV, doc, pm, an, cdv, ct, osl, rfl, lk, hcd⟩ := hk
  refine fn_of lk hcd scDInit (fun vs H Q E h => ?_) (fun A outer s H vs Q E hr h => ?_)
  · obtain ⟨_, d, dx, a, b, m, cs, ch, rfl, _⟩ := h
    rfl
  · obtain ⟨H0, d, dx, a, b, m, cs, ch, rfl, s0, d0, hd, ha, hb, la, lb, kQ, kE⟩ := h
    refine ⟨_, pss_one (ps_fld (pv 0) (pe_ifExp (pt_val (pe_callB call_isi (by rfl) B.isinstance (by decide +kernel) (pa_cons (pv 1) (pa_cons (pe_glob (v := .ref CP) rfl gP rfl) pa_nil)))) (pv 1)
      (pe_call G1 hr rfl g1 k1 b1 .nil (L2N.passes_call (W := fun cls d _ H => E cls d H) (L2N.takes_of rfl rfl rfl rfl) fun _ _ _ _ h => h) (pa_cons (pv 1) (pa_cons (pv 2) (pa_cons (pv 3) pa_nil))))) rfl), ?_⟩
    have ty : ∃ t, TyX K H (ov m) t ∧ PySem.W.kitOne K t (.ref CP) = some false := by
      cases m with
      | none => exact ⟨_, .base .non, hn⟩
      | some i => exact ⟨_, .base (.int i), hi⟩
    obtain ⟨t, ht, hkt⟩ := ty
    refine ⟨_, rfl, _, _, _, _, false, rfl, .own _, ht, hkt, false, rfl, ?_⟩
    refine ⟨_, rfl, _, rfl, _, rfl, m, a, b, cs, ch, rfl, s0 _ _ ha, s0 _ _ hb, la, lb, fun n ds es c H1 p es' s1 pe pl hp => ?_, fun hno C hC H1 s1 => kE hno C hC H1 (s0.trans s1)⟩
    refine ⟨_, rfl, d, CD, dx, [], rfl, s1 _ _ hd, T.cl, T.nP, by decide, ?_⟩
    exact kQ n ds es c _ es' ((s0.trans s1).put d0) pe pl ⟨dx, p, upd_same, hp.other (s1 _ _ hd)⟩
/-! modulus, classes, changed -/
def spDMod (CD CP : Addr) : Sp := fun vs H Q _ => ∃ (d : Addr) (n : Nat) (ds es : List Nat), vs = [.ref d] ∧ DAt CD CP H d n ds es ∧ 1 ≤ n ∧ Q (iv (lp n (mk ds))) H
def spDCls (CD CP : Addr) : Sp := fun vs H Q _ => ∃ (d : Addr) (n : Nat) (ds es : List Nat), vs = [.ref d] ∧ DAt CD CP H d n ds es ∧ 1 ≤ n ∧ n ≤ 100000 ∧ ∀ H' p, Same H H' → H p = none → H' p = some (.tup (ivs (cls ds (lp n (mk ds))))) → Q (.ref p) H'
def spDChg (CD CP : Addr) : Sp := fun vs H Q _ => ∃ (d : Addr) (n : Nat) (ds es : List Nat), vs = [.ref d] ∧ DAt CD CP H d n ds es ∧ 1 ≤ n ∧ ∀ t, H t = some (.tup (ivs es)) → Q (.ref t) H
theorem scDMod : FnScope ["self"] ["self"] (defScope tDMod) := ⟨rfl, rfl, rfl, by decide +kernel, rfl, by decide +kernel, by decide +kernel⟩
theorem scDChg : FnScope ["self"] ["self"] (defScope tDChg) := ⟨rfl, rfl, rfl, by decide +kernel, rfl, by decide +kernel, by decide +kernel⟩
theorem scDCls : FnScope ["self", "remainder", "flag"] ["self"] (defScope tDCls) := ⟨rfl, rfl, rfl, by decide +kernel, rfl, by decide +kernel, by decide +kernel⟩
theorem ok_dmod {f CD CP : Addr} {fd : FuncData} (F : Fun K "modulus" "Distances.modulus" tDMod f fd) (T : TxD K CD) (TP : TxP K CP) : FnOk P w K mg base CX0 1 f fd ["self"] (spDMod CD CP) := by
  refine F.ok scDMod (fun vs H Q E h => ?_) (fun cdv A outer s H vs Q E hr h => ?_)
  · obtain ⟨d, n, ds, es, rfl, _⟩ := h
    rfl
  · obtain ⟨d, n, ds, es, rfl, ⟨dx, p, h1, hp⟩, n1, k⟩ := h
    obtain ⟨dx2, fl, b, t, h2, h3, h4⟩ := hp.get n1
    refine ⟨_, pss_one (ps_ret (pe_fld (pe_fld (pv 0) rfl) rfl)), ?_⟩
    exact ⟨_, rfl, d, CD, dx, _, _, rfl, h1, T.cl, T.nP, put_eq, p, CP, dx2, _, _, rfl, h2, TP.cl, TP.nP, plF_period, k⟩
theorem ok_dchg {f CD CP : Addr} {fd : FuncData} (F : Fun K "changed" "Distances.changed" tDChg f fd) (T : TxD K CD) (TP : TxP K CP) : FnOk P w K mg base CX0 1 f fd ["self"] (spDChg CD CP) := by
  refine F.ok scDChg (fun vs H Q E h => ?_) (fun cdv A outer s H vs Q E hr h => ?_)
  · obtain ⟨d, n, ds, es, rfl, _⟩ := h
    rfl
  · obtain ⟨d, n, ds, es, rfl, ⟨dx, p, h1, hp⟩, n1, k⟩ := h
    obtain ⟨dx2, fl, b, t, h2, h3, h4⟩ := hp.get n1
    refine ⟨_, pss_one (ps_ret (pe_fld (pe_fld (pv 0) rfl) rfl)), ?_⟩
    exact ⟨_, rfl, d, CD, dx, _, _, rfl, h1, T.cl, T.nP, put_eq, p, CP, dx2, _, _, rfl, h2, TP.cl, TP.nX, plF_flipped, k t h4⟩
theorem cls_succ (ds : List Nat) (i : Nat) : cls ds (i + 1) = cls ds i ++ (if mk ds i = true then [i] else []) := by
  unfold cls
  rw [List.range_succ, List.filter_append]
  congr 1
  by_cases h : mk ds i = true
  · rw [if_pos h, List.filter_cons_of_pos h]
    rfl
  · rw [if_neg h, List.filter_cons_of_neg h]
    rfl
theorem cls_len (ds : List Nat) (i : Nat) : (cls ds i).length ≤ i := by
  unfold cls
  exact Nat.le_trans (List.length_filter_le _ _) (by rw [List.length_range]; exact Nat.le_refl _)
theorem ok_dcls {f CD CP : Addr} {fd : FuncData} (F : Fun K "classes" "Distances.classes" tDCls f fd) (B : Bi mg) (T : TxD K CD) (TP : TxP K CP) : FnOk P w K mg base CX0 1 f fd ["self"] (spDCls CD CP) := by
  refine F.ok scDCls (fun vs H Q E h => ?_) (fun cdv A outer s H vs Q E hr h => ?_)
  · obtain ⟨d, n, ds, es, rfl, _⟩ := h
    rfl
  · obtain ⟨d, n, ds, es, rfl, ⟨dx, p, h1, hp⟩, n1, n2, k⟩ := h
    obtain ⟨dx2, fl, b, t, h2, h3, h4⟩ := hp.get n1
    have hle := (lp_ok (n := n) (mk := mk ds) n1).le
    refine ⟨_, pss_one (ps_ret (pe_callTy call_tuple_of (by rfl) B.tuple (by decide +kernel) (pa_cons (pe_lc (own := [("remainder", 1), ("flag", 2)])
      (g := gTup K 2 (gCons (gName 1) (gCons (gName 2) gNil))) (tt := tB (tVar 2)) (te := tVar 1) rfl scDCls.nd (pi_enum (by rfl) B.enumerate (pa_cons (pe_fld (pe_fld (pv 0) rfl) rfl) pa_nil)) (blkOk_by (N := ["self", "remainder", "flag"]) (sc := defScope tDCls) (by decide +kernel))
      (fun _ _ _ _ _ => pg_tup rfl (pgs_cons (pg_name (i := 1) scDCls.nd rfl (Or.inl rfl)) (pgs_cons (pg_name (i := 2) scDCls.nd rfl (Or.inl rfl)) pgs_nil))) (fun _ _ _ _ _ => pts_one (pt_val (pv 2)))
      (fun _ _ _ _ _ => pv 1)) pa_nil))), ?_⟩
    refine ⟨_, rfl, d, CD, dx, _, _, rfl, h1, T.cl, T.nP, put_eq, p, CP, dx2, _, _, rfl, h2, TP.cl, TP.nF, plF_flags, fl, _, rfl, SqL.of h3, fun D hD => ?_⟩
    generalize lp n (mk ds) = sz at *
    refine ⟨fun i μ H' => μ = sz - i ∧ i ≤ sz ∧ Same H H' ∧ H' D = some (.lst (ivs (cls ds i))), ⟨_, rfl, Nat.zero_le _, (Same.refl H).lay hD, lst_at rfl⟩, ?_⟩
    rintro i μ H1 ⟨rfl, hi, s1, hd⟩
    by_cases hlt : i < sz
    · right
      have hx : (bls (bsOf sz ds))[i]? = some (V.bl (mk ds i)) := by
        unfold bsOf
        rw [List.getElem?_map, List.getElem?_map, List.getElem?_range hlt]
        rfl
      refine ⟨⟨_, _, SqL.of (s1 _ _ h3), hx⟩, fun H' => Same H H' ∧ H' D = some (.lst (ivs (cls ds (i + 1)))), fun H' ⟨a1, a2⟩ => ⟨sz - (i + 1), by omega, rfl, hlt, a1, a2⟩, ?_⟩
      rintro v H2 ⟨T2, x, rfl, hT, rfl, hall⟩
      have ex : x = V.bl (mk ds i) := by
        have := hall _ (SqL.of (s1 _ _ h3))
        rw [hx] at this
        exact (Option.some.inj this).symm
      subst ex
      have s2 : Same H (upd H1 T2 (.tup [.int (i : Nat), .bl (mk ds i)])) := s1.lay hT
      have hd2 : upd H1 T2 (.tup [.int (i : Nat), .bl (mk ds i)]) D = some (.lst (ivs (cls ds i))) := by
        rw [upd_ne (ne_of_none hd hT)]; exact hd
      refine ⟨T2, _, rfl, SqT.of upd_same, rfl, _, _, rfl, _, _, rfl, rfl, rfl, _, rfl, _, rfl, ?_⟩
      rw [cls_succ]
      cases hm : mk ds i with
      | true => exact ⟨_, rfl, _, by rw [hm] at hd2; exact hd2, line_ok (by rw [List.length_map]; have := cls_len ds i; omega), by rw [hm] at s2; exact s2.put hD, lst_at (by rw [if_pos rfl]; exact ivs_snoc _ _)⟩
      | false => exact ⟨by rw [hm] at s2; exact s2, by rw [hm] at hd2; rw [if_neg (by decide), List.append_nil]; exact hd2⟩
    · left
      have e : i = sz := by omega
      subst e
      refine ⟨⟨_, SqL.of (s1 _ _ h3), by rw [List.length_map, bsOf_len]; exact Nat.le_refl _⟩, D, _, rfl, .inl ⟨SqL.of hd, fun l hl => ?_⟩⟩
      exact k _ l (s1.lay hl) (s1.free hl) upd_same
end
end Rl
end

section
set_option maxRecDepth 100000
set_option maxHeartbeats 4000000
namespace Rl
open PySem L2 SX
open NumText (AllDigits digitsVal)
/-! ### texts: what the layer's functions are over lists of codes -/
theorem starts_one (p : List Nat) (c : Nat) : Txt.startswith (S p) (S [c]) = decide (p.head? = some c) := by
  unfold Txt.startswith
  rw [StrLaws.subAt_eq, S_len, S_len]
  show (decide (0 + 1 ≤ p.length) && ((p.drop 0).take 1 == [c])) = _
  cases p with
  | nil => simp
  | cons x r =>
    rw [List.drop_zero, List.take_succ_cons, List.take_zero, List.head?_cons]
    have h : decide (0 + 1 ≤ (x :: r).length) = true := decide_eq_true (by rw [List.length_cons]; omega)
    rw [h, Bool.true_and]
    by_cases e : x = c
    · subst e; simp
    · rw [decide_eq_false (fun z => e (Option.some.inj z))]
      simp [e]
theorem isdigit_S {p : List Nat} (h : ∀ c ∈ p, c < 128) : Txt.isdigit (S p) = (decide (p ≠ []) && dg p) := by
  unfold Txt.isdigit
  rw [S_len, ← Array.all_toList]
  show (decide (p.length > 0) && p.all Unicode.isDigit) = _
  have e1 : decide (p.length > 0) = decide (p ≠ []) := decide_eq_decide.mpr List.length_pos_iff
  have e2 : p.all Unicode.isDigit = dg p := by
    unfold dg
    rw [Bool.eq_iff_iff, List.all_eq_true, List.all_eq_true]
    have key : ∀ c, c < 128 → Unicode.isDigit c = (decide (48 ≤ c) && decide (c ≤ 57)) := by decide +kernel
    exact ⟨fun q c hc => by rw [← key c (h c hc)]; exact q c hc, fun q c hc => by rw [key c (h c hc)]; exact q c hc⟩
  rw [e1, e2]
theorem cutS_from {p : List Nat} {k : Nat} : cutS (S p) (some (k : Int)) none = S (p.drop k) := by
  unfold cutS
  rw [HT.sIx_nat, HT.sIx_none, S_len]
  show S ((p.drop (min k p.length)).take (p.length - min k p.length)) = _
  congr 1
  by_cases h : k ≤ p.length
  · rw [Nat.min_eq_left h]
    exact List.take_of_length_le (by rw [List.length_drop]; exact Nat.le_refl _)
  · rw [Nat.min_eq_right (by omega), List.drop_of_length_le (by omega), List.drop_of_length_le (by omega), List.take_nil]
theorem cutS_to {p : List Nat} {k : Nat} : cutS (S p) none (some (k : Int)) = S (p.take k) := by
  unfold cutS
  rw [HT.sIx_nat, HT.sIx_none, S_len]
  show S ((p.drop 0).take (min k p.length - 0)) = _
  rw [List.drop_zero, Nat.sub_zero]
  congr 1
  by_cases h : k ≤ p.length
  · rw [Nat.min_eq_left h]
  · rw [Nat.min_eq_right (by omega), List.take_of_length_le (by omega), List.take_of_length_le (by omega)]
theorem cutS_mid {p : List Nat} {j k : Nat} (h : j ≤ k) : cutS (S p) (some (j : Int)) (some (k : Int)) = S ((p.drop j).take (k - j)) := by
  unfold cutS
  rw [HT.sIx_nat, HT.sIx_nat, S_len]
  show S ((p.drop (min j p.length)).take (min k p.length - min j p.length)) = _
  congr 1
  by_cases h1 : j ≤ p.length
  · rw [Nat.min_eq_left h1]
    by_cases h2 : k ≤ p.length
    · rw [Nat.min_eq_left h2]
    · rw [Nat.min_eq_right (by omega), List.take_of_length_le (by rw [List.length_drop]; omega), List.take_of_length_le (by rw [List.length_drop]; omega)]
  · rw [Nat.min_eq_right (by omega), List.drop_of_length_le (by omega), List.drop_of_length_le (by omega), List.take_nil, List.take_nil]
theorem dec_S {a b : List Nat} : decide (V.str (S a) = V.str (S b)) = decide (a = b) := decide_eq_decide.mpr ⟨fun h => by injection h with h; exact S_inj h, fun h => by rw [h]⟩
theorem Str_eq (x : String) : (Str.ofString x) = S (x.toList.map Char.toNat) := TL.ext_tl (TL.tl_ofString x)
section
variable {P : Program} {w : World} {K : PySem.W.Frag} {mg : Str → Option Value} {base : Heap}
/-! read_number -/
def spRdN : Sp := fun vs H Q _ => ∃ (p : List Nat) (b : Nat), vs = [.str (S p)] ∧ Pg b p ∧ b ≤ 500 ∧ p.length ≤ 100000 ∧ Q (ov (rdN p)) H
theorem scRdN : FnScope ["word", "digits"] ["word"] (defScope tRdN) := ⟨rfl, rfl, rfl, by decide +kernel, rfl, by decide +kernel, by decide +kernel⟩
theorem ok_rdN {f : Addr} {fd : FuncData} (F : Fun K "read_number" "read_number" tRdN f fd) (B : Bi mg) : FnOk P w K mg base CX0 1 f fd ["word"] spRdN := by
  refine F.ok scRdN (fun vs H Q E h => ?_) (fun cdv A outer s H vs Q E hr h => ?_)
  · obtain ⟨p, b, rfl, _⟩ := h
    rfl
  · obtain ⟨p, b, rfl, hp, hb, hl, k⟩ := h
    refine ⟨_, pss_cons (ps_set (i := 1) scRdN.nd rfl (Or.inl rfl) (pe_ifExp (pt_val (pe_m1 PySem.F.slot_str_startswith PySem.F.type_str_startswith mt_startswith (pv 0) pe_str)) (pe_slice sl_str (pv 0) (po_some pe_int) po_none) (pv 0)))
      (pss_cons (ps_if (PW.pt (pw_or (pt_not (pt_val (pe_m0 PySem.F.slot_str_isdigit PySem.F.type_str_isdigit mt_isdigit (pv 1)))) (pw_or1 (PW.pt (pw_and (pt_val (pe_m1 PySem.F.slot_str_startswith PySem.F.type_str_startswith mt_startswith (pv 1) pe_str)) (pw_and1 (pt_cmpR op_ne (pv 0) pe_str (nomark _))))))))
        (pss_one (ps_ret pe_non)) pss_nil)
      (pss_one (ps_ret (pe_callTy call_int_str (by rfl) B.int (by decide +kernel) (pa_cons (pv 0) pa_nil))))), ?_⟩
    -- what follows with the figures d
    have rest : ∀ (d : List Nat), d = (if p.head? = some 45 then p.drop 1 else p) →
        tSeq (tIfS (tOr (tNot (tB (tM0 (fun x xs H Q => ∃ a, x = V.str a ∧ xs = [] ∧ True ∧ Q (V.bl (Txt.isdigit a)) H) (tVar 1)))) (tAnd (tB (tM1 (fun x xs H Q => ∃ a b, x = V.str a ∧ xs = [V.str b] ∧ Q (V.bl (Txt.startswith a b)) H) (tVar 1) (tC (.str "0")))) (tTest (tOp rNe (tVar 0) (tC (.str "0")))))) (tRet (tC .non)) tNext)
          (tRet (tCB (fun xs H Q => ∃ a n, xs = [V.str a] ∧ PySem.intText? a = some n ∧ a.length ≤ 640 ∧ Q (V.int n) H) (tCons (tVar 0) tNil))) { nx := fun _ H' => Q .non H', rt := Q } [some (.str (S p)), some (.str (S d))] H := by
      intro d ed
      have hd : Pg b d := by
        rw [ed]
        split
        · exact hp.drop 1
        · exact hp
      have rn : rdN p = if d = [] ∨ dg d = false ∨ (d.head? = some 48 ∧ p ≠ [48]) then none else some (if p.head? = some 45 then -((digitsVal d : Nat) : Int) else ((digitsVal d : Nat) : Int)) := by
        unfold rdN
        rw [← ed]
      refine ⟨_, rfl, ⟨_, rfl⟩, S d, rfl, rfl, trivial, _, rfl, ?_⟩
      rw [isdigit_S hd.asc]
      by_cases h1 : (decide (d ≠ []) && dg d) = true
      · rw [h1]
        rw [Bool.and_eq_true, decide_eq_true_eq] at h1
        refine ⟨_, rfl, ⟨_, rfl⟩, S d, S [48], rfl, rfl, _, rfl, ?_⟩
        rw [starts_one]
        have hlen : d.length ≤ 500 := by
          have := hd.run [] d [] (by simp) (dg_iff.mp h1.2)
          omega
        have fin : ¬ (d.head? = some 48 ∧ p ≠ [48]) → ∃ v, [some (V.str (S p)), some (V.str (S d))][0]? = some (some v) ∧ ∃ a n, [v] = [V.str a] ∧ PySem.intText? a = some n ∧ a.length ≤ 640 ∧ Q (V.int n) H := fun h3 => by
          rw [rn, if_neg (by rintro (z | z | z); exact h1.1 z; rw [h1.2] at z; cases z; exact h3 z)] at k
          by_cases h4 : p.head? = some 45
          · rw [if_pos h4] at ed k
            have ep : p = 45 :: d := by
              rw [ed]
              cases p with
              | nil => cases h4
              | cons x r => cases h4; rfl
            have hl2 : (S p).length ≤ 640 := by rw [S_len, ep, List.length_cons]; omega
            exact ⟨_, rfl, S p, _, rfl, intText_neg (x := S p) (cs := d) ep (dg_iff.mp h1.2) h1.1 (by omega), hl2, k⟩
          · rw [if_neg h4] at ed k
            subst ed
            have hl2 : (S d).length ≤ 640 := by rw [S_len]; omega
            exact ⟨_, rfl, S d, _, rfl, intText_digits (x := S d) (dg_iff.mp h1.2) h1.1 (by omega), hl2, k⟩
        refine ite3 (c := d.head? = some 48) rfl (fun h2 => ?_) (fun h2 => fin fun z => h2 z.1)
        refine ⟨_, rfl, rfl, _, rfl, ?_⟩
        refine ite3 (c := p ≠ [48]) (by rw [show (V.str "0") = V.str (S [48]) from rfl, dec_S]; exact decide_not.symm) (fun h3 => ?_) (fun h3 => fin fun z => h3 z.2)
        rw [rn, if_pos (.inr (.inr ⟨h2, h3⟩))] at k
        exact k
      · rw [rn, if_pos] at k
        · have : (decide (d ≠ []) && dg d) = false := by
            cases q : (decide (d ≠ []) && dg d) with
            | true => exact absurd q h1
            | false => rfl
          rw [this]
          exact k
        · by_cases z : d = []
          · exact .inl z
          · right; left
            cases q : dg d with
            | false => rfl
            | true => exact absurd (by rw [q, Bool.and_true]; exact decide_eq_true z) h1
    refine ⟨_, rfl, ⟨_, rfl⟩, S p, S [45], rfl, rfl, _, rfl, ?_⟩
    rw [starts_one]
    refine ite3 (c := p.head? = some 45) rfl (fun h45 => ?_) (fun h45 => ?_)
    · refine ⟨_, rfl, _, rfl, S p, rfl, Nat.le_of_lt (line_ok (by rw [S_len]; omega)), ?_⟩
      rw [show (some (1 : Int)) = some ((1 : Nat) : Int) from rfl, cutS_from]
      exact rest (p.drop 1) (by rw [if_pos h45])
    · exact ⟨_, rfl, rest p (by rw [if_neg h45])⟩
end
end Rl
end

section
set_option maxRecDepth 100000
set_option maxHeartbeats 4000000
namespace Rl
open PySem L2 SX
open NumText (AllDigits digitsVal)
abbrev sV (l : List Nat) : V := .str (S l)
abbrev sVs (ls : List (List Nat)) : List V := ls.map sV
theorem word_len {s : Nat} {p w : List Nat} (h : w ∈ wd s p) : w.length ≤ p.length := by
  obtain ⟨a, b, e⟩ := mem_infix (s := [s]) h
  rw [wd_join] at e
  rw [e]
  simp only [List.length_append]
  omega
theorem words_len (s : Nat) (p : List Nat) : (wd s p).length ≤ p.length + 1 := by
  have key : ∀ (p acc : List Nat), (TL.spl [s] 0 acc p).length ≤ p.length + 1 := by
    intro p
    induction p with
    | nil => intro acc; rw [TL.spl_nil]; simp
    | cons c r ih =>
      intro acc
      cases h : TL.pre [s] (c :: r) with
      | true =>
        rw [TL.spl_hit h, List.length_cons, List.length_cons]
        have := ih []
        exact Nat.succ_le_succ this
      | false =>
        rw [TL.spl_miss h, List.length_cons]
        have := ih (acc ++ [c])
        omega
  exact key p []
theorem split_wd {s : Nat} (hs : s < 256) (p : List Nat) : (Txt.split (S p) (S [s])).map V.str = sVs (wd s p) := by
  rw [split_S (by simp) (by simp [hs]), List.map_map]
  rfl
section
variable {P : Program} {w : World} {K : PySem.W.Frag} {mg : Str → Option Value} {base : Heap}
/-! read_numbers -/
def spRdNs : Sp := fun vs H Q _ => ∃ (p : List Nat) (b : Nat), vs = [sV p] ∧ Pg b p ∧ b ≤ 500 ∧ p.length ≤ 100000 ∧ ∀ H' q, Same H H' → H q = none → H' q = some (.tup ((rdNs p).map ov)) → Q (.ref q) H'
theorem scRdNs : FnScope ["words", "word"] ["words"] (defScope tRdNs) := ⟨rfl, rfl, rfl, by decide +kernel, rfl, by decide +kernel, by decide +kernel⟩
theorem ok_rdNs {f f1 : Addr} {fd fd1 : FuncData} (F : Fun K "read_numbers" "read_numbers" tRdNs f fd) (B : Bi mg) (G1 : FnOk P w K mg base CX0 1 f1 fd1 ["word"] spRdN) (g1 : mg "read_number" = some (.ref f1)) (k1 : PySem.W.keepIn K (.ref f1) = true) (b1 : Binds K fd1 ["word"] []) :
    FnOk P w K mg base CX0 2 f fd ["words"] spRdNs := by
  refine F.ok scRdNs (fun vs H Q E h => ?_) (fun cdv A outer s H vs Q E hr h => ?_)
  · obtain ⟨p, b, rfl, _⟩ := h
    rfl
  · obtain ⟨p, b, rfl, hp, hb, hl, k⟩ := h
    refine ⟨_, pss_one (ps_ret (pe_callTy call_tuple_of (by rfl) B.tuple (by decide +kernel) (pa_cons (pe_lc (own := [("word", 1)]) (g := gName 1) (tt := tYes) rfl scRdNs.nd (pi_list (pe_split (pv 0) pe_str)) (blkOk_by (N := ["words", "word"]) (sc := defScope tRdNs) (by decide +kernel))
      (fun _ _ _ _ _ => pg_name (i := 1) scRdNs.nd rfl (Or.inl rfl)) (fun _ _ _ _ _ => pts_nil) (fun _ _ _ _ _ => pe_call G1 hr rfl g1 k1 b1 .nil pass0 (pa_cons (pv 1) pa_nil))) pa_nil))), ?_⟩
    refine ⟨_, rfl, ⟨_, rfl⟩, S p, S [32], rfl, rfl, rfl, Nat.le_of_lt (line_ok (by rw [S_len]; omega)), fun q hq => ?_⟩
    rw [split_wd (by decide)]
    have s1 := (Same.refl H).lay (o := .lst (sVs (wd 32 p))) hq
    refine ⟨q, rfl, ⟨_, SqL.of upd_same⟩, fun D hD => lc_list (K := K) (a := q) (xs := sVs (wd 32 p)) (fun i H' => Same (upd H q (.lst (sVs (wd 32 p)))) H' ∧ H' D = some (.lst (((rdNs p).map ov).take i))) ⟨(Same.refl _).lay hD, lst_at rfl⟩ (fun i H' _ ⟨s2, _⟩ => SqL.of (s2 _ _ upd_same)) ?_ ?_⟩
    · rintro i x H' hi ⟨s2, h2⟩
      obtain ⟨u, hu, rfl⟩ := get_map hi
      have hm := List.mem_of_getElem? hu
      have hlen : (((rdNs p).map ov).take i).length < sizeLine := line_ok (Nat.le_trans (len_take (n := p.length + 1) (by unfold rdNs; rw [List.length_map, List.length_map]; exact words_len 32 p)) (by omega))
      refine ⟨rfl, _, rfl, u, b, rfl, hp.words 32 u hm, hb, Nat.le_trans (word_len hm) hl, _, h2, hlen, s2.put hD, lst_at ?_⟩
      have := map_all (fun u => ov (rdN u)) (wd 32 p) i u hu
      unfold rdNs
      rw [List.map_map]
      exact this.symm
    rintro H1 ⟨s2, h2⟩
    have full : ((rdNs p).map ov).take (sVs (wd 32 p)).length = (rdNs p).map ov := List.take_of_length_le (by unfold rdNs; simp)
    rw [full] at h2
    exact ⟨D, _, rfl, .inl ⟨SqL.of h2, fun l hl => k _ l ((s1.trans s2).lay hl) ((s1.trans s2).free hl) upd_same⟩⟩
/-! numbers_text -/
theorem log_ok {n : Nat} (h : n < 10 ^ 500) : ((n : Int)).natAbs.log2 < 1920 := by
  rw [Int.natAbs_natCast]
  exact log2_ok h (by decide)
theorem sum_le {M : Nat} : ∀ {l : List Nat}, (∀ x ∈ l, x ≤ M) → l.sum ≤ l.length * M
  | [], _ => by simp
  | x :: l, h => by
    have h1 := h x (List.mem_cons_self ..)
    have h2 := sum_le (l := l) fun y hy => h y (List.mem_cons_of_mem _ hy)
    rw [List.sum_cons, List.length_cons, Nat.add_mul, Nat.one_mul]
    omega
theorem num_len {n : Nat} (h : n < 10 ^ 500) : (TL.numL n).length ≤ 500 := TL.numL_len (by decide) h
/-- the texts of numbers, as values -/
abbrev nVs (ns : List Nat) : List V := (ns.map TL.numL).map sV
theorem nums_fit {ns : List Nat} (h : ∀ n ∈ ns, n < 10 ^ 500) (hl : ns.length ≤ 5000) : (((ns.map TL.numL).map S).map (·.length)).sum + ((ns.map TL.numL).map S).length * (S [32]).length ≤ 16777216 := by
  rw [lens]
  have h1 := sum_le (M := 500) (l := (ns.map TL.numL).map (·.length)) fun x hx => by
    obtain ⟨u, hu, rfl⟩ := List.mem_map.mp hx
    obtain ⟨n, hn, rfl⟩ := List.mem_map.mp hu
    exact num_len (h n hn)
  rw [List.length_map, List.length_map] at h1
  rw [List.length_map, List.length_map, S_len]
  have : ns.length * 500 ≤ 5000 * 500 := Nat.mul_le_mul_right _ hl
  simp only [List.length_singleton]
  omega
def spNumT : Sp := fun vs H Q _ => ∃ (a : Addr) (ns : List Nat), vs = [.ref a] ∧ H a = some (.tup (ivs ns)) ∧ (∀ n ∈ ns, n < 10 ^ 500) ∧ ns.length ≤ 5000 ∧ ∀ H', Same H H' → Q (sV (nt ns)) H'
theorem scNumT : FnScope ["numbers", "number"] ["numbers"] (defScope tNumT) := ⟨rfl, rfl, rfl, by decide +kernel, rfl, by decide +kernel, by decide +kernel⟩
theorem nums_step {ns : List Nat} {i n : Nat} (h : ns[i]? = some n) : (nVs ns).take i ++ [V.str (Str.ofString (toString ((n : Nat) : Int)))] = (nVs ns).take (i + 1) := by
  unfold nVs
  rw [List.map_map, num_S]
  exact (map_all (sV ∘ TL.numL) ns i n h).symm
theorem ok_numT {f : Addr} {fd : FuncData} (F : Fun K "numbers_text" "numbers_text" tNumT f fd) (B : Bi mg) : FnOk P w K mg base CX0 1 f fd ["numbers"] spNumT := by
  refine F.ok scNumT (fun vs H Q E h => ?_) (fun cdv A outer s H vs Q E hr h => ?_)
  · obtain ⟨a, ns, rfl, _⟩ := h
    rfl
  · obtain ⟨a, ns, rfl, ha, hn, hl, k⟩ := h
    refine ⟨_, pss_one (ps_ret (pe_join pe_str (pe_lc (own := [("number", 1)]) (g := gName 1) (tt := tYes) rfl scNumT.nd (pi_tup (pv 0)) (blkOk_by (N := ["numbers", "number"]) (sc := defScope tNumT) (by decide +kernel))
      (fun _ _ _ _ _ => pg_name (i := 1) scNumT.nd rfl (Or.inl rfl)) (fun _ _ _ _ _ => pts_nil) (fun _ _ _ _ _ => pe_callTy call_str_int (by rfl) B.str (by decide +kernel) (pa_cons (pv 1) pa_nil))))), ?_⟩
    refine ⟨⟨_, rfl⟩, _, rfl, a, rfl, ⟨_, SqT.of ha⟩, fun D hD => lc_tup (K := K) (a := a) (xs := ivs ns) (fun i H' => Same H H' ∧ H' D = some (.lst ((nVs ns).take i))) ⟨(Same.refl H).lay hD, lst_at rfl⟩ (fun i H' _ ⟨s1, _⟩ => SqT.of (s1 _ _ ha)) ?_ ?_⟩
    · rintro i x H' hi ⟨s1, h1⟩
      obtain ⟨n, hni, rfl⟩ := get_map hi
      refine ⟨rfl, _, rfl, _, rfl, log_ok (hn n (List.mem_of_getElem? hni)), _, h1, line_ok (Nat.le_trans (len_take (n := 5000) (by simp; exact hl)) (by decide)), s1.put hD, lst_at (nums_step hni)⟩
    rintro H1 ⟨s1, h1⟩
    have full : (nVs ns).take (ivs ns).length = ((ns.map TL.numL).map S).map V.str := by
      rw [List.take_of_length_le (by simp)]
      simp
    rw [full] at h1
    refine ⟨S [32], D, (ns.map TL.numL).map S, rfl, rfl, .inl (SqL.of h1), nums_fit hn hl, ?_⟩
    rw [join_S]
    exact k H1 s1
end
end Rl
end

section
set_option maxRecDepth 100000
set_option maxHeartbeats 4000000
namespace Rl
open PySem L2 SX
/-- e or 'y', e a text -/
def tOrS (te : TE) (y : List Nat) : TE := fun σ H Q => te σ H fun x H1 => ∃ p : List Nat, x = sV p ∧ p.length ≤ 10000000 ∧ Q (sV (if p = [] then y else p)) H1
theorem pe_orS {X : Cx} {a b : Expr} {ta : TE} {y : List Nat} {pos : Pos} (ha : PE X a ta) (hb : PE X b (tC (sV y))) : PE X (.BoolOp .Or [a, b] pos) (tOrS ta y) := by
  have hor : PE X (.BoolOp .Or [a, b] pos) (tOrT X.K ta (tC (sV y))) := pe_orT ha (pe_one hb)
  refine ⟨fun pins s σ H Q I h => ?_⟩
  refine PyProof.Rows.BoolOp_or (thn (ha.run pins s σ H _ I h) fun v s1 ⟨x, H1, I1, r1, p, ex, hp, q⟩ => ?_)
  subst ex
  obtain ⟨t, rfl⟩ := id r1
  refine thn (tru_ok pins s1 σ H1 (sV p) _ (fun c H2 => c = ((p.length : Int) != 0) ∧ H2 = H1) I1 r1 ⟨_, ⟨Nat.le_of_lt (line_ok (by rw [S_len]; omega)), rfl⟩, by rw [S_len], rfl⟩) fun c s2 ⟨H2, I2, e1, e2⟩ => ?_
  subst e2
  by_cases hpe : p = []
  · subst hpe
    subst e1
    rw [if_pos rfl] at q
    exact (pe_one (op := .Or) (pos := pos) hb).run pins s2 σ H2 Q I2 q
  · rw [if_neg hpe] at q
    have : c = true := by
      rw [e1, bne_iff_ne]
      have := List.length_pos_iff.mpr hpe
      omega
    subst this
    exact ⟨sV p, H2, I2, r1, q⟩
theorem nt_len {ns : List Nat} (h : ∀ n ∈ ns, n < 10 ^ 500) (hl : ns.length ≤ 5000) : (nt ns).length ≤ 5000 * 501 := by
  have key : ∀ ws : List (List Nat), (∀ w ∈ ws, w.length ≤ 500) → (TL.joinL [32] ws).length ≤ ws.length * 501 := by
    intro ws
    induction ws with
    | nil => intro _; simp [TL.joinL]
    | cons w ws ih =>
      intro hw
      have h1 := hw w (List.mem_cons_self ..)
      have h2 := ih fun u hu => hw u (List.mem_cons_of_mem _ hu)
      by_cases e : ws = []
      · subst e
        show w.length ≤ _
        simp
        omega
      · rw [joinL_cons e]
        simp only [List.length_append, List.length_cons, List.length_nil]
        omega
  have := key (ns.map TL.numL) fun w hw => by
    obtain ⟨n, hn, rfl⟩ := List.mem_map.mp hw
    exact num_len (h n hn)
  rw [List.length_map] at this
  exact Nat.le_trans this (Nat.mul_le_mul_right _ hl)
theorem nt_nil : ∀ {ns : List Nat}, nt ns = [] → ns = []
  | [], _ => rfl
  | n :: ns, h => by
    exfalso
    unfold nt at h
    rw [List.map_cons] at h
    by_cases e : ns.map TL.numL = []
    · rw [e] at h
      exact TL.numL_ne n h
    · rw [joinL_cons e] at h
      exact TL.numL_ne n (List.append_eq_nil_iff.mp h).1
section
variable {P : Program} {w : World} {K : PySem.W.Frag} {mg : Str → Option Value} {base : Heap}
def spSetT (CD CP : Addr) : Sp := fun vs H Q _ => ∃ (d : Addr) (n : Nat) (ds es : List Nat), vs = [.ref d] ∧ DAt CD CP H d n ds es ∧ 1 ≤ n ∧ n ≤ 720 ∧ es.length ≤ 4050 ∧ (∀ e ∈ es, e < 10 ^ 500) ∧ ∀ H', Same H H' → Q (sV (Wr (lp n (mk ds)) (cls ds (lp n (mk ds))) es)) H'
theorem scSetT : FnScope ["distances", "words", "changed"] ["distances"] (defScope tSetT) := ⟨rfl, rfl, rfl, by decide +kernel, rfl, by decide +kernel, by decide +kernel⟩
theorem ok_setT {f f1 f2 f3 f4 CD CP : Addr} {fd fd1 fd2 fd3 fd4 : FuncData} (F : Fun K "set_text" "set_text" tSetT f fd) (TD : TxD K CD) (nC : ∀ p : Addr, (putF "plain" (V.ref p) []).lookup ("classes" : Str) = none ∧ (putF "plain" (V.ref p) []).lookup ("modulus" : Str) = none ∧ (putF "plain" (V.ref p) []).lookup ("changed" : Str) = none)
    (G1 : FnOk P w K mg base CX0 1 f1 fd1 ["numbers"] spNumT) (g1 : mg "numbers_text" = some (.ref f1)) (k1 : PySem.W.keepIn K (.ref f1) = true) (b1 : Binds K fd1 ["numbers"] [])
    (G2 : FnOk P w K mg base CX0 1 f2 fd2 ["self"] (spDCls CD CP)) (m2 : Meth K CD "classes" f2) (b2 : Binds K fd2 ["self"] [])
    (G3 : FnOk P w K mg base CX0 1 f3 fd3 ["self"] (spDMod CD CP)) (m3 : Meth K CD "modulus" f3) (b3 : Binds K fd3 ["self"] [])
    (G4 : FnOk P w K mg base CX0 1 f4 fd4 ["self"] (spDChg CD CP)) (m4 : Meth K CD "changed" f4) (b4 : Binds K fd4 ["self"] []) : FnOk P w K mg base CX0 2 f fd ["distances"] (spSetT CD CP) := by
  refine F.ok scSetT (fun vs H Q E h => ?_) (fun cdv A outer s H vs Q E hr h => ?_)
  · obtain ⟨d, n, ds, es, rfl, _⟩ := h
    rfl
  · obtain ⟨d, n, ds, es, rfl, hd, n1, n2, le, be, k⟩ := h
    refine ⟨_, pss_cons (ps_set (i := 1) scSetT.nd rfl (Or.inl rfl) (pe_joined (.cons (pe_fmt (pe_orS (y := [46]) (pe_call G1 hr rfl g1 k1 b1 .nil pass0 (pa_cons (pe_meth0 (pv 0) TD.cl m2 G2 hr b2 .nil pass0) pa_nil)) pe_str)) (.cons pe_str (.cons (pe_fmt (pe_meth0 (pv 0) TD.cl m3 G3 hr b3 .nil pass0)) .nil)))))
      (pss_cons (ps_set (i := 2) scSetT.nd rfl (Or.inl rfl) (pe_meth0 (pv 0) TD.cl m4 G4 hr b4 .nil pass0))
      (pss_one (ps_ret (pe_ifExp (pt_truth (pv 2) (by intro _; rfl)) (pe_joined (.cons (pe_fmt (pv 1)) (.cons pe_str (.cons (pe_fmt (pe_call G1 hr rfl g1 k1 b1 .nil pass0 (pa_cons (pv 2) pa_nil))) .nil)))) (pv 1))))), ?_⟩
    have hle := (lp_ok (n := n) (mk := mk ds) n1).le
    have hc1 : ∀ c ∈ cls ds (lp n (mk ds)), c < 10 ^ 500 := fun c hc => Nat.lt_of_lt_of_le (cls_lt c hc) (Nat.le_trans hle (Nat.le_trans n2 (by decide +kernel)))
    have hc2 : (cls ds (lp n (mk ds))).length ≤ 5000 := Nat.le_trans (cls_len _ _) (by omega)
    have hc3 := nt_len hc1 hc2
    have hs : lp n (mk ds) < 10 ^ 500 := Nat.lt_of_le_of_lt hle (Nat.lt_of_le_of_lt n2 (by decide +kernel))
    have hs2 := num_len hs
    generalize hg : lp n (mk ds) = sz at *
    obtain ⟨dx, p, h1, hp⟩ := id hd
    obtain ⟨dx2, fl, b, t, h2, h3, h4⟩ := hp.get n1
    refine ⟨_, rfl, d, dx, _, rfl, h1, (nC p).1, d, n, ds, es, rfl, hd, n1, by omega, fun H1 q s1 nq hq => ?_⟩
    rw [hg] at hq
    refine ⟨q, cls ds sz, rfl, hq, hc1, hc2, fun H2 s2 => ?_⟩
    have s02 : Same H H2 := s1.trans s2
    have ect : (if nt (cls ds sz) = [] then [46] else nt (cls ds sz)) = (if cls ds sz = [] then [46] else nt (cls ds sz)) := by
      by_cases z : cls ds sz = []
      · rw [if_pos z, z]; rfl
      · rw [if_neg z, if_neg (fun e => z (nt_nil e))]
    have hct : (if cls ds sz = [] then [46] else nt (cls ds sz)).length ≤ 3000000 := by
      split
      · decide
      · omega
    refine ⟨nt (cls ds sz), rfl, by omega, ?_⟩
    rw [ect]
    have eW : Wr sz (cls ds sz) es = (if cls ds sz = [] then [46] else nt (cls ds sz)) ++ (OFS ++ (TL.numL sz ++ (if es = [] then [] else BUTS ++ nt es))) := rfl
    generalize (if cls ds sz = [] then [46] else nt (cls ds sz)) = ct at *
    refine .inl ⟨_, rfl, Nat.le_of_lt (line_ok (by rw [S_len]; omega)), _, rfl, ?_, ?_⟩
    · rw [show Str.empty = S [] from rfl, S_cat, S_len, List.nil_append]; exact Nat.le_of_lt (line_ok (by omega))
    rw [show Str.empty = S [] from rfl, S_cat, List.nil_append]
    refine ⟨_, rfl, ?_, _, rfl, d, dx, _, rfl, s02 _ _ h1, (nC p).2.1, d, n, ds, es, rfl, hd.same s02, n1, ?_⟩
    · rw [show (Str.ofString " of ") = S OFS from rfl, S_cat, S_len, List.length_append]; exact Nat.le_of_lt (line_ok (by simp; omega))
    rw [show (Str.ofString " of ") = S OFS from rfl, S_cat, hg]
    refine .inr ⟨_, rfl, log_ok hs, _, rfl, ?_, ?_⟩
    · rw [num_S, S_cat, S_len]; exact Nat.le_of_lt (line_ok (by simp; omega))
    rw [num_S, S_cat]
    -- changed
    refine ⟨_, rfl, d, dx, _, rfl, s02 _ _ h1, (nC p).2.2, d, n, ds, es, rfl, hd.same s02, n1, fun t' ht' => ?_⟩
    refine ⟨_, rfl, _, .inr (.inl ⟨_, SqT.of ht', rfl⟩), ?_⟩
    cases es with
    | nil =>
      refine ⟨_, rfl, ?_⟩
      rw [eW, if_pos rfl, List.append_nil, ← List.append_assoc] at k
      exact k H2 s02
    | cons e0 er =>
      have hne := nt_len be (Nat.le_trans le (by decide))
      refine ⟨_, rfl, .inl ⟨_, rfl, Nat.le_of_lt (line_ok (by rw [S_len]; simp; omega)), _, rfl, ?_, ?_⟩⟩
      · rw [S_cat, S_len, List.nil_append]; exact Nat.le_of_lt (line_ok (by simp; omega))
      rw [S_cat, List.nil_append]
      refine ⟨_, rfl, ?_, ?_⟩
      · rw [show (Str.ofString " but ") = S BUTS from rfl, S_cat, S_len]; exact Nat.le_of_lt (line_ok (by simp; omega))
      rw [show (Str.ofString " but ") = S BUTS from rfl, S_cat]
      refine ⟨_, rfl, t', e0 :: er, rfl, ht', be, Nat.le_trans le (by decide), fun H3 s3 => .inl ⟨_, rfl, Nat.le_of_lt (line_ok (by rw [S_len]; omega)), _, rfl, ?_, ?_⟩⟩
      · rw [S_cat, S_len]; exact Nat.le_of_lt (line_ok (by simp; omega))
      rw [S_cat]
      rw [eW, if_neg (List.cons_ne_nil _ _)] at k
      have := k H3 (s02.trans s3)
      simp only [← List.append_assoc] at this ⊢
      exact this
end
end Rl
end

section
set_option maxRecDepth 100000
set_option maxHeartbeats 4000000
namespace Rl
open PySem L2 SX
/-! ### NoText: an own error with a field -/
abbrev tNTInit : Stmt := inClass (top 7) 0
theorem scNTInit : FnScope ["self", "line"] ["self", "line"] (defScope tNTInit) := ⟨rfl, rfl, rfl, by decide +kernel, rfl, by decide +kernel, by decide +kernel⟩
def spNT (CT : Addr) : Sp := fun vs H Q _ => ∃ (a : Addr) (v : V), vs = [.ref a, v] ∧ H a = some (exo a CT none) ∧ ∀ d, H d = none → d ≠ a → Q .non (upd (upd H d (exd d [("line", v)])) a (exo a CT (some d)))
/-- what the written part says of NoText, at CT, and of its __init__ -/
structure TxT (K : PySem.W.Frag) (mg : Str → Option Value) (CT fT : Addr) (fdT : FuncData) : Prop where
  ox : OexC K CT
  iC : PySem.W.findIn K (.ref CT) "__init__" = some (some (.ref fT))
  tI : PySem.W.typeIn K (.ref fT) = some (.type "function")
  nL : PySem.W.findIn K (.ref CT) "line" = some none
  g : mg "NoText" = some (.ref CT)
  F : Fun K "__init__" "NoText.__init__" tNTInit fT fdT
  b : Binds K fdT ["self", "line"] []
section
variable {P : Program} {w : World} {K : PySem.W.Frag} {mg : Str → Option Value} {base : Heap}
theorem nt_read {K : PySem.W.Frag} {CT : Addr} (ox : OexC K CT) (nL : PySem.W.findIn K (.ref CT) "line" = some none) {vs : List V} {H : Hp} {Q : VK} {E : XK} (h : spNT CT vs H Q E) :
    tOst K "line" (tVar 0) (tVar 1) { nx := fun _ H' => Q .non H', rt := Q } (L2.start ["self", "line"] vs) H := by
  obtain ⟨a, v, rfl, ha, k⟩ := h
  exact ⟨_, rfl, _, rfl, a, CT, rfl, ox, nL, .inl ⟨ha, fun dx hdx hne => k dx hdx hne⟩⟩
theorem ok_ntC {CT fT : Addr} {fdT : FuncData} {CX : CXT} (T : TxT K mg CT fT fdT) : FnOk P w K mg base CX 1 fT fdT ["self", "line"] (spNT CT) := by
  obtain ⟨oc, od, kV, doc, pm, an, cdv, ct, osl, rfl, lk, hcd⟩ := T.F.ex
  refine fn_of lk hcd scNTInit (fun vs H Q E h => ?_) (fun A outer s H vs Q E hr h => ?_)
  · obtain ⟨a, v, rfl, _⟩ := h
    rfl
  · exact ⟨_, pss_one (ps_ost (pv 0) (pv 1)), nt_read T.ox T.nL h⟩
theorem ok_ntH {CT fT : Addr} {fdT : FuncData} {CX : CXT} (T : TxT K mg CT fT fdT) : L2H.FnH P w K mg base CX 1 fT fdT ["self", "line"] (spNT CT) := by
  obtain ⟨oc, od, kV, doc, pm, an, cdv, ct, osl, rfl, lk, hcd⟩ := T.F.ex
  refine L2H.fn_ofH lk hcd scNTInit (fun vs H Q E h => ?_) (fun A outer s H vs Q E p hot hr h => ?_)
  · obtain ⟨a, v, rfl, _⟩ := h
    rfl
  · exact ⟨_, pss_one (ps_ost (pv 0) (pv 1)), nt_read T.ox T.nL h⟩
/-- NoText(0): what it leaves -/
theorem nt_made {CT : Addr} {v : V} {H : Hp} {Q : XK} (k : ∀ d H', Same H H' → H' d = some (.xd [("line", v)]) → Q (.ref CT) (some d) H') :
    [v].length ≤ 1000 ∧ ∀ a, H a = none → spNT CT (.ref a :: ([v] ++ [])) (upd H a (exo a CT none))
      (fun u H2 => u = .non ∧ ∃ (d : Addr) (fs : List (Str × V)), H2 a = some (exo a CT (some d)) ∧ H2 d = some (exd d fs) ∧ H d = none ∧ Q (.ref CT) (some d) (upd (del H2 a) d (.xd fs))) (fun _ _ _ => False) := by
  refine ⟨by simp, fun a ha => ⟨a, v, rfl, upd_same, fun d hd hda => ⟨rfl, d, [("line", v)], upd_same, by rw [upd_ne hda, upd_same], ?_, ?_⟩⟩⟩
  · rw [upd_ne hda] at hd
    exact hd
  · rw [upd_ne hda] at hd
    refine k d _ (fun b o e => ?_) upd_same
    have nb : b ≠ a := ne_of_none e ha
    have nd : b ≠ d := ne_of_none e hd
    rw [upd_ne nd, del_ne nb, upd_ne nb, upd_ne nd, upd_ne nb]
    exact e
end
/-! ### set_of_text -/
theorem part_cut {p S' : List Nat} (hS : S' ≠ []) : Txt.partition (S p) (S S') = (S (cut2 S' p).1, S (if (cut2 S' p).2.1 = true then S' else []), S (cut2 S' p).2.2) := by
  unfold cut2
  cases q : TL.par S' [] p with
  | none => exact partition_none hS q
  | some xy => exact partition_some hS q
theorem cut_parts {p S' : List Nat} {b : Nat} (hS : S' ≠ []) (h : Pg b p) : Pg b (cut2 S' p).1 ∧ Pg b (cut2 S' p).2.2 ∧ (cut2 S' p).1.length ≤ p.length ∧ (cut2 S' p).2.2.length ≤ p.length := by
  unfold cut2
  cases q : TL.par S' [] p with
  | none => exact ⟨h, Pg.nil, Nat.le_refl _, Nat.zero_le _⟩
  | some xy =>
    obtain ⟨x, y⟩ := xy
    have e := par_eq hS p [] x y q
    rw [List.nil_append] at e
    rw [e] at h
    refine ⟨h.left, h.right.right, ?_, ?_⟩
    · rw [e]; simp only [List.length_append]; omega
    · rw [e]; simp only [List.length_append]; omega
theorem rdNs_len (p : List Nat) : (rdNs p).length ≤ p.length + 1 := by
  unfold rdNs
  rw [List.length_map]
  exact words_len 32 p
/-- both ways of an if-expression lead to what follows by one word -/
theorem tIf_by {t : TT} {ta tb : TE} {σ : St} {H : Hp} {Q : VK} (Pv : V → Hp → Prop) (h : ∀ Q' : VK, (∀ v H', Pv v H' → Q' v H') → tIf t ta tb σ H Q') (key : ∀ v H', Pv v H' → Q v H') : tIf t ta tb σ H Q := h Q key
theorem chk_len {p : List Nat} (hl : p.length < 4000 + 1) : (pClasses p).length ≤ 4050 ∧ (pChanged p).length ≤ 4050 := by
  have hp : Pg p.length p → True := fun _ => trivial
  have cut_le : ∀ (S' q : List Nat), S' ≠ [] → (cut2 S' q).1.length ≤ q.length ∧ (cut2 S' q).2.2.length ≤ q.length := by
    intro S' q hS
    unfold cut2
    cases e : TL.par S' [] q with
    | none => exact ⟨Nat.le_refl _, Nat.zero_le _⟩
    | some xy =>
      obtain ⟨x, y⟩ := xy
      have e2 := par_eq hS q [] x y e
      rw [List.nil_append] at e2
      rw [e2]
      simp only [List.length_append]
      omega
  have h1 := cut_le OFS p (by simp)
  have h2 := cut_le BUTS (cut2 OFS p).2.2 (by simp)
  constructor
  · unfold pClasses
    split
    · exact Nat.zero_le _
    · exact Nat.le_trans (rdNs_len _) (by omega)
  · unfold pChanged
    split
    · exact Nat.le_trans (rdNs_len _) (by omega)
    · exact Nat.zero_le _
def LineAt (H : Hp) (d : Addr) : Prop := H d = some (.xd [(("line" : Str), V.int 0)])
def spSetOf (CD CP CT : Addr) : Sp := fun vs H Q E => ∃ (p : List Nat) (b : Nat), vs = [sV p] ∧ Pg b p ∧ b ≤ 500 ∧ p.length < 4000 + 1 ∧
  (∀ n ds es, Chk (pModulus p) (pClasses p) (pChanged p) n ds es → ∀ H' d es', Same H H' → es'.Perm es → es'.Pairwise (· < ·) → DAt CD CP H' d n ds es' → Q (.ref d) H') ∧
  ((¬ ∃ n ds es, Chk (pModulus p) (pClasses p) (pChanged p) n ds es) → ∀ d H', Same H H' → LineAt H' d → E (.ref CT) (some d) H')
theorem scSetOf : FnScope ["text", "head", "parted", "rest", "number", "parted_again", "tail", "classes", "found"] ["text"] (defScope tSetOf) := ⟨rfl, rfl, rfl, by decide +kernel, rfl, by decide +kernel, by decide +kernel⟩
section
variable {P : Program} {w : World} {K : PySem.W.Frag} {mg : Str → Option Value} {base : Heap}
theorem ok_setOf {f f1 f2 fI CD CP CT C1 C2 C3 fT : Addr} {fd fd1 fd2 fdI fdT : FuncData} (F : Fun K "set_of_text" "set_of_text" tSetOf f fd) (B : Bi mg) (T : TxT K mg CT fT fdT)
    (g1 : mg "NoModulus" = some (.ref C1)) (g2 : mg "NoClasses" = some (.ref C2)) (g3 : mg "NoChanged" = some (.ref C3)) (hx : ∀ C, (C = C1 ∨ C = C2 ∨ C = C3) → PySem.W.exmAny K (.ref C) [.ref C1, .ref C2, .ref C3] = some true)
    (G1 : FnOk P w K mg base CX0 1 f1 fd1 ["word"] spRdN) (gg1 : mg "read_number" = some (.ref f1)) (k1 : PySem.W.keepIn K (.ref f1) = true) (b1 : Binds K fd1 ["word"] [])
    (G2 : FnOk P w K mg base CX0 2 f2 fd2 ["words"] spRdNs) (gg2 : mg "read_numbers" = some (.ref f2)) (k2 : PySem.W.keepIn K (.ref f2) = true) (b2 : Binds K fd2 ["words"] [])
    (M : Mk K CD fI) (GI : FnOk P w K mg base (L2N.CX P w) 6 fI fdI ["self", "modulus", "classes", "changed"] (spDInit CD CP C1 C2 C3)) (gD : mg "Distances" = some (.ref CD)) (bI : Binds K fdI ["self", "modulus", "classes", "changed"] []) :
    FnOk P w K mg base (L2.CX P w) 8 f fd ["text"] (spSetOf CD CP CT) := by
  refine F.okX scSetOf (fun vs H Q E h => ?_) (fun cdv A outer s H vs Q E hr h => ?_)
  · obtain ⟨p, b, rfl, _⟩ := h
    rfl
  · obtain ⟨p, b, rfl, hp, hb, hl, kQ, kE⟩ := h
    have hr1 : Room 1 _ := hr.mono (by decide)
    have hr2 : Room 2 _ := hr.mono (by decide)
    have nd := scSetOf.nd
    refine ⟨_, pss_cons (ps_asg (pe_partition (pv 0) pe_str) (pg_tup rfl (pgs_cons (pg_name (i := 1) nd rfl (Or.inl rfl)) (pgs_cons (pg_name (i := 2) nd rfl (Or.inl rfl)) (pgs_cons (pg_name (i := 3) nd rfl (Or.inl rfl)) pgs_nil)))))
      (pss_cons (ps_asg (pe_partition (pv 3) pe_str) (pg_tup rfl (pgs_cons (pg_name (i := 4) nd rfl (Or.inl rfl)) (pgs_cons (pg_name (i := 5) nd rfl (Or.inl rfl)) (pgs_cons (pg_name (i := 6) nd rfl (Or.inl rfl)) pgs_nil)))))
      (pss_cons (ps_set (i := 7) nd rfl (Or.inl rfl) (pe_ifExp (pt_cmpR op_eq (pv 1) pe_str (nomark _)) (pe_tup pa_nil) (pe_call G2 hr2 rfl gg2 k2 b2 .nil pass0 (pa_cons (pv 1) pa_nil))))
      (pss_cons (ps_try3X (c1 := .ref C1) (c2 := .ref C2) (c3 := .ref C3) (Wout := fun cls d _ H => E cls d H)
          (tb := fun W => tAsg (tMake CD (spDInit CD CP C1 C2 C3) [] (fun cls d H => ∀ σ, W cls d σ H) (tCons (tCall spRdN [] E0 (tCons (tVar 4) tNil)) (tCons (tVar 7) (tCons (tIf (fun σ H Q => tVar 5 σ H fun x H' => ∃ k, TruV K x H' k ∧ Q k H') (tCall spRdNs [] E0 (tCons (tVar 6) tNil)) (tTup tNil)) tNil)))) (gName 8))
          (ts := fun a cls d => fun _ σ H => tMkO CT (spNT CT) [] (tCons (tC (.int 0)) tNil) σ H fun cls d H' => E cls d H')
          rfl rfl ⟨rfl, by decide, .inl g1⟩ ⟨rfl, by decide, .inl g2⟩ ⟨rfl, by decide, .inl g3⟩ (fun hd => L2H.passesAt_of rfl hd) (L2.takes_of rfl rfl rfl rfl)
          (fun W pn xe tk _ => pss_one (ps_set (i := 8) nd rfl (Or.inl rfl) (pe_make M GI hr rfl gD bI .nil (L2N.passes_call tk fun _ _ σ _ h => h σ)
            (pa_cons (pe_call G1 hr1 rfl gg1 k1 b1 .nil pass0 (pa_cons (pv 4) pa_nil)) (pa_cons (pv 7) (pa_cons (pe_ifExp (pt_truth (pv 5) (by intro _; rfl)) (pe_call G2 hr2 rfl gg2 k2 b2 .nil pass0 (pa_cons (pv 6) pa_nil)) (pe_tup pa_nil)) pa_nil))))))
          (fun a oe cls d pn hz hf tk hot => pss_one (L2H.ps_raiseHN hot tk (L2H.pmk5_oexH (CX := CX0) T.ox T.iC T.tI (ok_ntH T) (L2H.roomH_mark (hr.mono (by decide : 2 ≤ 7)) _) hot T.b pass0 rfl T.g (pa_cons pe_int pa_nil)))))
      (pss_one (ps_ret (pv 8)))))), ?_⟩
    have z4 : ∀ {n : Nat}, n ≤ 4001 → n ≤ sizeLine := fun h => Nat.le_of_lt (line_ok (by omega))
    obtain ⟨pg1, pg2, l1, l2⟩ := cut_parts (S' := OFS) (by simp) hp
    obtain ⟨pg3, pg4, l3, l4⟩ := cut_parts (S' := BUTS) (by simp) pg2
    refine ⟨_, rfl, ⟨_, rfl⟩, S p, S OFS, rfl, rfl, rfl, z4 (by rw [S_len]; omega), fun q hq => ?_⟩
    rw [part_cut (by simp)]
    have s1 := (Same.refl H).lay (o := .tup [.str (S (cut2 OFS p).1), .str (S (if (cut2 OFS p).2.1 = true then OFS else [])), .str (S (cut2 OFS p).2.2)]) hq
    refine ⟨q, _, rfl, SqT.of upd_same, rfl, _, _, rfl, _, _, rfl, _, _, rfl, rfl, ?_⟩
    refine ⟨_, rfl, ⟨_, rfl⟩, S (cut2 OFS p).2.2, S BUTS, rfl, rfl, rfl, z4 (by rw [S_len]; omega), fun q2 hq2 => ?_⟩
    rw [part_cut (by simp)]
    have s2 := s1.lay (o := .tup [.str (S (cut2 BUTS (cut2 OFS p).2.2).1), .str (S (if (cut2 BUTS (cut2 OFS p).2.2).2.1 = true then BUTS else [])), .str (S (cut2 BUTS (cut2 OFS p).2.2).2.2)]) hq2
    refine ⟨q2, _, rfl, SqT.of upd_same, rfl, _, _, rfl, _, _, rfl, _, _, rfl, rfl, ?_⟩
    dsimp only [tSeq, tAsg]
    refine tIf_by (fun v H' => ∃ a7, v = .ref a7 ∧ Same H H' ∧ H' a7 = some (.tup ((pClasses p).map ov))) (fun Q7 hQ7 => ?_) ?_
    · refine ⟨_, rfl, rfl, _, rfl, ite3 (c := (cut2 OFS p).1 = [46]) (by rw [show (V.str ".") = V.str (S [46]) from rfl, dec_S]) (fun hc => ?_) (fun hc => ?_)⟩
      · refine ⟨Nat.zero_le _, fun a7 h7 => hQ7 _ _ ⟨a7, rfl, s2.lay h7, ?_⟩⟩
        unfold pClasses
        rw [upd_same, if_pos hc]
        rfl
      · refine ⟨_, rfl, (cut2 OFS p).1, b, rfl, pg1, hb, by omega, fun H3 a7 s3 n7 h7 => hQ7 _ _ ⟨a7, rfl, s2.trans s3, ?_⟩⟩
        unfold pClasses
        rw [h7, if_neg hc]
    rintro v7 H3 ⟨a7, rfl, s3, h7⟩
    refine ⟨_, rfl, (cut2 BUTS (cut2 OFS p).2.2).1, b, rfl, pg3, hb, by omega, _, rfl, ?_⟩
    dsimp only [tCons]
    refine tIf_by (fun v H' => ∃ a9, v = .ref a9 ∧ Same H3 H' ∧ H' a9 = some (.tup ((pChanged p).map ov))) (fun Q9 hQ9 => ?_) ?_
    · refine ⟨_, rfl, _, ⟨z4 (by rw [S_len]; split <;> simp), rfl⟩, ?_⟩
      have ec : pChanged p = if (cut2 BUTS (cut2 OFS p).2.2).2.1 = true then rdNs (cut2 BUTS (cut2 OFS p).2.2).2.2 else [] := rfl
      cases hc : (cut2 BUTS (cut2 OFS p).2.2).2.1 with
      | true =>
        rw [hc, if_pos rfl] at ec
        exact ⟨_, rfl, (cut2 BUTS (cut2 OFS p).2.2).2.2, b, rfl, pg4, hb, by omega, fun H4 a9 s4 n9 h9 => hQ9 _ _ ⟨a9, rfl, s4, by rw [ec]; exact h9⟩⟩
      | false =>
        rw [hc, if_neg (by decide)] at ec
        exact ⟨Nat.zero_le _, fun a9 h9 => hQ9 _ _ ⟨a9, rfl, (Same.refl H3).lay h9, by rw [ec]; exact upd_same⟩⟩
    rintro v9 H9 ⟨a9, rfl, s9, h9⟩
    obtain ⟨cl1, cl2⟩ := chk_len hl
    intro x dx nx ndx nex
    have s10 : Same H9 (upd (upd H9 dx (.own x)) x (.ins CD dx [])) := ((Same.refl H9).lay ndx).put nx
    refine ⟨H9, x, dx, a7, a9, pModulus p, pClasses p, pChanged p, rfl, s10, nx, upd_same, s9 _ _ h7, h9, cl1, cl2, fun n ds es c H' es' s' pe pw hd => ⟨rfl, ?_⟩, fun hno C hC H' s' => ?_⟩
    · exact ⟨_, rfl, kQ n ds es c H' x es' ((s3.trans s9).trans s') pe pw hd⟩
    · exact fun σ => ⟨hx C hC, fun a ha => nt_made fun d H'' s'' hd => kE hno d H'' (((s3.trans s9).trans s').trans s'') hd⟩
end
end Rl
end

section
set_option maxRecDepth 100000
set_option maxHeartbeats 4000000
namespace Rl
open PySem L2 SX
open NumText (AllDigits digitsVal)
/-! ### read_set -/
theorem rdN_small {w : List Nat} {b n : Nat} (h : Pg b w) (hb : b ≤ 500) (e : rdN w = some (n : Int)) : n < 10 ^ 500 := by
  have key : ∀ d : List Nat, Pg b d → dg d = true → digitsVal d < 10 ^ 500 := fun d hd hg => by
    have h1 := hd.run [] d [] (by simp) (dg_iff.mp hg)
    exact Nat.lt_of_lt_of_le (val_lt d (dg_iff.mp hg)) (Nat.pow_le_pow_right (by decide) (by omega))
  unfold rdN at e
  dsimp only at e
  by_cases h45 : w.head? = some 45
  · rw [if_pos h45, if_pos h45] at e
    split at e
    · cases e
    · rename_i c
      have := key _ (h.drop 1) (by
        cases q : dg (w.drop 1) with
        | true => rfl
        | false => exact absurd (.inr (.inl q)) c)
      have e2 := Option.some.inj e
      omega
  · rw [if_neg h45, if_neg h45] at e
    split at e
    · cases e
    · rename_i c
      have := key _ h (by
        cases q : dg w with
        | true => rfl
        | false => exact absurd (.inr (.inl q)) c)
      have e2 := Option.some.inj e
      omega
theorem rdNs_small {p : List Nat} {b : Nat} {es : List Nat} (h : Pg b p) (hb : b ≤ 500) (e : rdNs p = es.map sN) : ∀ x ∈ es, x < 10 ^ 500 := by
  intro x hx
  have : sN x ∈ rdNs p := by rw [e]; exact List.mem_map.mpr ⟨x, hx, rfl⟩
  unfold rdNs at this
  obtain ⟨w, hw, ew⟩ := List.mem_map.mp this
  exact rdN_small (h.words 32 w hw) hb ew
theorem changed_small {p : List Nat} {b : Nat} {es : List Nat} (h : Pg b p) (hb : b ≤ 500) (e : pChanged p = es.map sN) : ∀ x ∈ es, x < 10 ^ 500 := by
  obtain ⟨_, h2, _, _⟩ := cut_parts (S' := OFS) (by simp) h
  obtain ⟨_, h4, _, _⟩ := cut_parts (S' := BUTS) (by simp) h2
  unfold pChanged at e
  split at e
  · exact rdNs_small h4 hb e
  · have : es = [] := by simpa using e.symm
    intro x hx
    rw [this] at hx
    cases hx
/-- the text of a set asks for just that set -/
theorem chk_Wr {m : Nat} {cs chs : List Nat} (g : Good m cs chs) : Chk (pModulus (Wr m cs chs)) (pClasses (Wr m cs chs)) (pChanged (Wr m cs chs)) m cs chs := by
  obtain ⟨h1, h2, h3⟩ := parse_Wr m cs chs
  exact ⟨h1, g.m1, g.m720, h2, g.cs_lt, g.cs_s.imp fun h e => by omega, h3, g.ch1, g.ch_s.imp fun h e => by omega⟩
theorem chk_uniq {m : Option Int} {cs ch : List (Option Int)} {n n' : Nat} {ds ds' es es' : List Nat} (a : Chk m cs ch n ds es) (b : Chk m cs ch n' ds' es') : n = n' ∧ ds = ds' ∧ es = es' := by
  refine ⟨Int.ofNat_inj.mp (Option.some.inj (a.em.symm.trans b.em)), sN_inj (a.ec.symm.trans b.ec), sN_inj (a.eh.symm.trans b.eh)⟩
def spRead (CD CP CT : Addr) (K : PySem.W.Frag) : Sp := fun vs H Q E =>
  (∃ (p : List Nat) (b : Nat), vs = [sV p] ∧ Pg b p ∧ b ≤ 500 ∧ p.length < 4000 + 1 ∧
    (∀ m cs chs, Good m cs chs → p = Wr m cs chs → ∀ H' d n ds, Same H H' → DAt CD CP H' d n ds chs → 1 ≤ n → n ≤ 720 → lp n (mk ds) = m → cls ds m = cs → Q (.ref d) H') ∧
    ((∀ m cs chs, Good m cs chs → p ≠ Wr m cs chs) → ∀ d H', Same H H' → LineAt H' d → E (.ref CT) (some d) H')) ∨
  ∃ (x : V) (t : Value), vs = [x] ∧ TyX K H x t ∧ PySem.W.kitOne K t (.type "str") = some false ∧ ∀ d H', Same H H' → LineAt H' d → E (.ref CT) (some d) H'
theorem scRead : FnScope ["text", "found"] ["text"] (defScope tRead) := ⟨rfl, rfl, rfl, by decide +kernel, rfl, by decide +kernel, by decide +kernel⟩
section
variable {P : Program} {w : World} {K : PySem.W.Frag} {mg : Str → Option Value} {base : Heap}
theorem ok_read {f f1 f2 CD CP CT fT : Addr} {fd fd1 fd2 fdT : FuncData} (F : Fun K "read_set" "read_set" tRead f fd) (B : Bi mg) (T : TxT K mg CT fT fdT)
    (G1 : FnOk P w K mg base (L2.CX P w) 8 f1 fd1 ["text"] (spSetOf CD CP CT)) (g1 : mg "set_of_text" = some (.ref f1)) (k1 : PySem.W.keepIn K (.ref f1) = true) (b1 : Binds K fd1 ["text"] [])
    (G2 : FnOk P w K mg base CX0 2 f2 fd2 ["distances"] (spSetT CD CP)) (g2 : mg "set_text" = some (.ref f2)) (k2 : PySem.W.keepIn K (.ref f2) = true) (b2 : Binds K fd2 ["distances"] []) :
    FnOk P w K mg base (L2.CX P w) 9 f fd ["text"] (spRead CD CP CT K) := by
  refine F.okX scRead (fun vs H Q E h => ?_) (fun cdv A outer s H vs Q E hr h => ?_)
  · rcases h with ⟨p, b, rfl, _⟩ | ⟨x, t, rfl, _⟩
    · rfl
    · rfl
  · have hr2 : Room 2 _ := hr.mono (by decide)
    refine ⟨_, pss_cons (ps_if (pt_not (pt_val (pe_callB call_isi (by rfl) B.isinstance (by decide +kernel) (pa_cons (pv 0) (pa_cons (pe_bltn (v := .ty "str") (by rfl) B.str (by decide +kernel) rfl) pa_nil)))))
        (pss_one (ps_raise rfl (L2.takes_of rfl rfl rfl rfl) (pmk_oex (CX := CX0) T.ox T.iC T.tI (ok_ntC T) hr2 T.b .nil pass0 rfl T.g (pa_cons pe_int pa_nil)))) pss_nil)
      (pss_cons (ps_set (i := 1) scRead.nd rfl (Or.inl rfl) (pe_call G1 hr rfl g1 k1 b1 .nil (passes_call (W := fun cls d _ H => E cls d H) (L2.takes_of rfl rfl rfl rfl) fun _ _ _ _ h => h) (pa_cons (pv 0) pa_nil)))
      (pss_cons (ps_if (pt_cmpR op_ne (pe_call G2 hr2 rfl g2 k2 b2 .nil pass0 (pa_cons (pv 1) pa_nil)) (pv 0) (nomark _))
        (pss_one (ps_raise rfl (L2.takes_of rfl rfl rfl rfl) (pmk_oex (CX := CX0) T.ox T.iC T.tI (ok_ntC T) hr2 T.b .nil pass0 rfl T.g (pa_cons pe_int pa_nil)))) pss_nil)
      (pss_one (ps_ret (pv 1))))), ?_⟩
    rcases h with ⟨p, b, rfl, hp, hb, hl, kQ, kE⟩ | ⟨x, t, rfl, ht, hk, kE⟩
    · refine ⟨_, rfl, _, _, _, _, true, rfl, .ty _, .base (.str _), kit_ty (by decide +kernel), _, rfl, ?_⟩
      refine ⟨_, rfl, p, b, rfl, hp, hb, hl, fun n ds es c H1 d es' s1 pe pw hd => ?_, fun hno d H1 s1 hd => kE (fun m cs chs g e => hno ⟨m, cs, chs, by rw [e]; exact chk_Wr g⟩) d H1 s1 hd⟩
      have hsm := changed_small hp hb c.eh
      have hsm' : ∀ e ∈ es', e < 10 ^ 500 := fun e he => hsm e (pe.mem_iff.mp he)
      have hlen : es'.length ≤ 4050 := by
        have := (chk_len hl).2
        rw [c.eh, List.length_map] at this
        rw [pe.length_eq]
        exact this
      have hg : Good (lp n (mk ds)) (cls ds (lp n (mk ds))) es' := good_of c.n1 c.n2 pw fun e he => c.e1 e (pe.mem_iff.mp he)
      refine ⟨_, rfl, d, n, ds, es', rfl, hd, c.n1, c.n2, hlen, hsm', fun H2 s2 => ?_⟩
      refine ⟨_, rfl, rfl, _, rfl, ite3 (c := ¬ Wr (lp n (mk ds)) (cls ds (lp n (mk ds))) es' = p) (by rw [dec_S]; exact decide_not.symm) (fun hne => ?_) (fun heq => ?_)⟩
      · refine nt_made fun d' H3 s3 h3 => kE (fun m cs chs g e => hne ?_) d' H3 ((s1.trans s2).trans s3) h3
        have c2 := chk_Wr g
        rw [← e] at c2
        obtain ⟨e1, e2, e3⟩ := chk_uniq c c2
        subst e1 e2 e3
        have e4 : es' = es := sorted_ext pw g.ch_s fun x => pe.mem_iff
        rw [e4, g.lpe, g.cls]
        exact e.symm
      · exact ⟨_, rfl, kQ _ _ _ hg (Classical.not_not.mp heq).symm H2 d n ds (s1.trans s2) (hd.same s2) c.n1 c.n2 rfl rfl⟩
    · refine ⟨_, rfl, _, _, _, _, false, rfl, .ty _, ht, hk, _, rfl, ?_⟩
      exact nt_made fun d' H3 s3 h3 => kE d' H3 s3 h3
end
end Rl
end

section
set_option maxRecDepth 100000
set_option maxHeartbeats 4000000
namespace Rl
open PySem L2 PyProof.Rows
open PySem.W (Datum)
/-! ### ** of greater numbers -/
def CPowW (i j : Int) : Prop := 0 ≤ j ∧ (Builtin.Int.intBits i : Int) * j ≤ 2 ^ 27
theorem op_powW {X : Cx} : OpR X (binaryOp .Pow) (rI CPowW fun i j => .int (i ^ j.toNat)) := opI fun _ _ _ _ _ _ _ hc q => PyProof.Rows.pow_int hc.1 hc.2 q
/-! ### text times a number -/
theorem op_mulS {X : Cx} : OpR X (binaryOp .Mult) (fun x y H Q => ∃ (c : Nat) (n : Nat), x = .str ⟨#[c]⟩ ∧ y = .int (n : Int) ∧ n ≤ 1000 ∧ Q (.str ⟨(List.replicate n c).toArray⟩) H) := by
  intro pins s σ H x y v u Q I rx ry h
  obtain ⟨c, n, rfl, rfl, hn, q⟩ := h
  obtain ⟨t, rfl⟩ := rx
  obtain ⟨t', rfl⟩ := ry
  refine PySem.SB.mul (PyProof.Rows.mulOk_of 1 1000 (Nat.le_refl 1) (by omega) (by omega) (by decide) (by decide)) fun t2 k => ?_
  refine ⟨.str ⟨(List.replicate n c).toArray⟩, H, I.tok _, ⟨t2, ?_⟩, q⟩
  have := PyProof.Rows.mul_one_list c (n : Int)
  rw [show ((n : Int)).toNat = n from rfl] at this
  have e : Txt.mul ⟨#[c]⟩ (n : Int) = ⟨(List.replicate n c).toArray⟩ := by
    generalize Txt.mul ⟨#[c]⟩ (n : Int) = z at this
    obtain ⟨⟨z⟩⟩ := z
    exact congrArg (fun l => Str.mk (Array.mk l)) this
  rw [e]
/-! ### xs[::e], e 1 or -1 -/
def tStepL (K : PySem.W.Frag) (te ts : TE) : TE := fun σ H Q => te σ H fun x H1 => ts σ H1 fun y H2 => ∃ (a : Addr) (xs : List V) (i : Int), x = .ref a ∧ y = .int i ∧ (i = 1 ∨ i = -1) ∧ SqL K H2 a xs ∧ ∀ p, H2 p = none → Q (.ref p) (upd H2 p (.lst (if i = 1 then xs else xs.reverse)))
theorem pick_one (items : Array Value) : PySem.slicePick items none none (some 1) = items := by
  have e : PySem.slicePick items none none (some 1) = PySem.slicePick items none none none := rfl
  rw [e]
  have := slicePick_cut items.toList none none
  rw [HT.sIx_none, HT.sIx_none, Nat.sub_zero, List.drop_zero, List.take_length] at this
  exact this
theorem pe_stepL {X : Cx} {e st : Expr} {te ts : TE} {p3 pos : Pos} (he : PE X e te) (hs : PE X st ts) : PE X (.Subscript e (.Slice none none (some st) p3) pos) (tStepL X.K te ts) := by
  refine ⟨fun pins s σ H Q I h => ?_⟩
  refine PyProof.Rows.Subscript_ (thn (he.run pins s σ H _ I h) fun v s1 ⟨x, H1, I1, r1, q1⟩ => ?_)
  refine wpAny_Slice (thn (po_none.run pins s1 σ H1 (fun o H2 => o = none ∧ H2 = H1) I1 ⟨rfl, rfl⟩) fun vl s2 ⟨l, H2, I2, pl, el, e2⟩ => ?_)
  subst el e2
  refine thn (po_none.run pins s2 σ H2 (fun o H3 => o = none ∧ H3 = H2) I2 ⟨rfl, rfl⟩) fun vu s3 ⟨u, H3, I3, pu, eu, e3⟩ => ?_
  subst eu e3
  show wpAny (model X.prog X.w) X.A (evalPart (some st) X.env) _ _ _
  rw [evalPart_some]
  refine thn (hs.run pins s3 σ H3 _ I3 q1) fun vs s4 ⟨y, H4, I4, r4, q4⟩ => ?_
  obtain ⟨a, xs, i, rfl, rfl, hi, hx, q⟩ := q4
  cases r1
  obtain ⟨t, rfl⟩ := r4
  have I5 : Inv X pins σ H4 { s4 with heap := s4.heap.push { cls := .type "slice", data := .fields #[vl, vu, .int i t] } } := I4.kept (t' := s4.toks) fun b ob q => Heap.get?_push_of_some _ q
  obtain ⟨its, r, ht, hz⟩ := I5.list hx
  have hlen := r.length
  show wpAny (model X.prog X.w) X.A (subscriptTail e (.Slice none none (some st) p3) (.ref a) (.ref s4.heap.objs.size)) (EP X pins σ Q) X.xe { s4 with heap := s4.heap.push { cls := .type "slice", data := .fields #[vl, vu, .int i t] } }
  refine tail_any (ops := [.ref a, .ref s4.heap.objs.size]) ht.isList.typeIs (PySem.slot_list_getitem.lookup) ?_ (by with_unfolding_all rfl)
  refine wpAny_getItem_list_slice (st := some i) ht.isList (Heap.IsSliceOf.new _ vl vu (.int i t)) pl pu (.int i t) (by rcases hi with rfl | rfl <;> decide) ?_ (by rw [List.size_toArray]; omega)
  rcases hi with rfl | rfl
  · rw [pick_one]
    refine ⟨.ref _, _, I5.laid (t' := s4.toks) (o := .lst xs) (fun b ob q => Heap.get?_push_of_some _ q) (Nat.le_refl _) ?_, rfl, q _ (I5.hok.fresh (Nat.le_refl _))⟩
    exact ⟨hz, _, 0, r, Heap.get?_push_size _ rfl⟩
  · rw [PySem.W.krv_pick]
    refine ⟨.ref _, _, I5.laid (t' := s4.toks) (o := .lst xs.reverse) (fun b ob q => Heap.get?_push_of_some _ q) (Nat.le_refl _) ?_, rfl, q _ (I5.hok.fresh (Nat.le_refl _))⟩
    exact ⟨by rw [List.length_reverse]; exact hz, _, 0, r.reverse, Heap.get?_push_size _ rfl⟩
/-! ### list.count, list.index of texts -/
theorem strs_hold {X : Cx} {pins : List (Addr × Obj)} {σ : L2.St} {H : Hp} {s : Shared} (I : Inv X pins σ H s) {ss : List Str} {us : List Value} (r : Vals (ss.map V.str) us) : PySem.W.HoldAll s.heap us ss :=
  Dp.readsAll I _ _ us (dpAll_of (K := X.K) (H := H) (fun b => .str b) ss) r
theorem count_eqP {α : Type} [DecidableEq α] (xs : List α) (x : α) : (xs.countP fun y => decide (y = x)) = xs.count x := by
  unfold List.count
  congr 1
theorem mt_lcountS {X : Cx} (hu : X.A.units + 64 < cLine) : MtR X "list.count" (fun x vs H Q => ∃ (a : Addr) (ss : List Str) (z : Str), x = .ref a ∧ vs = [.str z] ∧ SqL X.K H a (ss.map V.str) ∧ Q (.int (ss.count z : Nat)) H) := by
  intro pins s σ H x xs v us Q I rx rxs h
  obtain ⟨a, ss, z, rfl, rfl, hs, q⟩ := h
  cases rx
  obtain ⟨u, rfl, ru⟩ := rxs.one
  obtain ⟨t, rfl⟩ := ru
  obtain ⟨its, rv, hl, hz⟩ := I.list hs
  refine PySem.W.count_list_datum (α := Str) (x := z) (xs := ss) hl.isList (by simpa using strs_hold I rv) ⟨_, Reads.str _ _⟩ (by show X.A.units + 1 + 0 < cLine; omega) ?_
  rw [count_eqP]
  exact ⟨.int (ss.count z : Nat), H, I.tok _, ⟨_, rfl⟩, q⟩
theorem mt_indexS {X : Cx} (hu : X.A.units + 64 < cLine) : MtR X "list.index" (fun x vs H Q => ∃ (a : Addr) (ss : List Str) (z : Str), x = .ref a ∧ vs = [.str z] ∧ SqL X.K H a (ss.map V.str) ∧ z ∈ ss ∧ Q (.int (ss.idxOf z : Nat)) H) := by
  intro pins s σ H x xs v us Q I rx rxs h
  obtain ⟨a, ss, z, rfl, rfl, hs, hm, q⟩ := h
  cases rx
  obtain ⟨u, rfl, ru⟩ := rxs.one
  obtain ⟨t, rfl⟩ := ru
  obtain ⟨its, rv, hl, hz⟩ := I.list hs
  refine PySem.W.index_list_datum (α := Str) (x := z) (xs := ss) hl.isList (strs_hold I rv) ⟨_, Reads.str _ _⟩ (by show X.A.units + 1 + 0 < cLine; omega) (by simpa using hz) hm ?_
  exact ⟨.int (ss.idxOf z : Nat), H, I.tok _, ⟨_, rfl⟩, q⟩
/-! ### f(k = v): keywords alone -/
theorem pe_callK0 {X : Cx} {CX : CXT} {k : Nat} {f : Addr} {fd : FuncData} {ps ks : List Str} {sp : Sp} {E : XK} {x : Str} {p pos : Pos} {kws : List Keyword} {tk : TA} {g : List Value → List Value → List Value} {gV : List V → List V → List V}
    (F : FnOk X.prog X.w X.K X.mg X.base CX k f fd ps sp) (hr : Room k X.A) (hg : Gl X x) (hm : X.mg x = some (.ref f)) (hk : PySem.W.keepIn X.K (.ref f) = true) (hb : KBinds X.K fd ps ks g gV) (hx : Passes CX X E)
    (hkw : PK X kws tk) (hall : (backToKw pos (keywordEach kws X.env)).all (·.1.isSome) = true := by rfl) (hks : (backToKw pos (keywordEach kws X.env)).filterMap (·.1) = ks := by rfl)
    (hdb : (x == ("__debug__" : Str)) = false := by decide)
    (hpl : ((backTo pos (starEach [] X.env)).any (·.1) || (backToKw pos (keywordEach kws X.env)).any (·.1.isNone)) = false := by rfl) :
    PE X (.Call (.Name x p) [] kws pos) (tCallK sp gV E tNil tk) := by
  refine ⟨fun pins s σ H Q I h => ?_⟩
  refine wpAny_Call_Name_kw (ld_glob I hg hm ?_ hdb)
  refine PySem.W.callWith_KW0 (h₀ := X.base) I.ok.mod.kin hk hall (thn (hkw.run pos pins s σ H _ I h) fun ws s2 ⟨zs, H2, I2, rz, q2⟩ => ⟨I2.kIn, ?_⟩) hpl
  rw [hks]
  exact run_fnk F hr hb hx I2 .nil rz q2
end Rl
end

section
set_option maxRecDepth 100000
set_option maxHeartbeats 4000000
namespace Rl
open PySem L2
/-! ### the law's pot of chances -/
def PotAt (H : Hp) (p : Addr) (b : Nat) : Prop := ∃ p0 p1 p2 : Int, H p = some (.lst [.int p0, .int p1, .int p2]) ∧ 0 ≤ p1 ∧ p1 < 10 ^ 34 ∧ 0 ≤ p2 ∧ p2 ≤ (b : Int)
theorem PotAt.mono {H : Hp} {p : Addr} {b c : Nat} (h : PotAt H p b) (hc : b ≤ c) : PotAt H p c := by
  obtain ⟨p0, p1, p2, h1, h2, h3, h4, h5⟩ := h
  exact ⟨p0, p1, p2, h1, h2, h3, h4, by omega⟩
/-- all but the pot stays -/
def Pk (p : Addr) (H H' : Hp) : Prop := ∀ x o, x ≠ p → H x = some o → H' x = some o
theorem Pk.refl {p : Addr} {H : Hp} : Pk p H H := fun _ _ _ h => h
theorem Pk.trans {p : Addr} {H H1 H2 : Hp} (a : Pk p H H1) (b : Pk p H1 H2) : Pk p H H2 := fun x o n h => b x o n (a x o n h)
theorem Same.pk {p : Addr} {H H' : Hp} (s : Same H H') : Pk p H H' := fun x o _ h => s x o h
theorem Pk.lay {p : Addr} {H H' : Hp} {q : Addr} {o : HO} (k : Pk p H H') (n : H' q = none) : Pk p H (upd H' q o) := k.trans (Same.pk ((Same.refl H').lay n))
theorem Pk.put {p : Addr} {H H' : Hp} {q : Addr} {o : HO} (k : Pk p H H') (n : H q = none) : Pk p H (upd H' q o) := fun x o nx e => by
  rw [upd_ne (ne_of_none e n)]
  exact k x o nx e
theorem PotAt.ne {H : Hp} {p q : Addr} {b : Nat} (h : PotAt H p b) (n : H q = none) : p ≠ q := by
  obtain ⟨p0, p1, p2, h1, _⟩ := h
  exact ne_of_none h1 n
theorem PotAt.ne' {H : Hp} {p q : Addr} {b : Nat} (h : PotAt H p b) (n : H q = none) : q ≠ p := (h.ne n).symm
theorem PotAt.lay {H : Hp} {p q : Addr} {b : Nat} {o : HO} (h : PotAt H p b) (n : H q = none) : PotAt (upd H q o) p b := by
  obtain ⟨p0, p1, p2, h1, h2⟩ := h
  exact ⟨p0, p1, p2, by rw [upd_ne (ne_of_none h1 n)]; exact h1, h2⟩
theorem PotAt.upd {H : Hp} {p q : Addr} {b : Nat} {o : HO} (h : PotAt H p b) (n : p ≠ q) : PotAt (upd H q o) p b := by
  obtain ⟨p0, p1, p2, h1, h2⟩ := h
  exact ⟨p0, p1, p2, by rw [upd_ne n]; exact h1, h2⟩
theorem PotAt.same {H H' : Hp} {p : Addr} {b : Nat} (h : PotAt H p b) (s : Same H H') : PotAt H' p b := by
  obtain ⟨p0, p1, p2, h1, h2⟩ := h
  exact ⟨p0, p1, p2, s _ _ h1, h2⟩
theorem pow_ok {i : Int} {m : Nat} (h : i.natAbs < 2 ^ m) (hm : m ≤ 10000) : CPowW i 3 := by
  have := PySem.intBits_le_iff.mpr h
  refine ⟨by decide, ?_⟩
  have h2 : (Builtin.Int.intBits i : Int) ≤ 10000 := by omega
  omega
theorem nat_of {i : Int} (h : 0 ≤ i) : ∃ n : Nat, i = (n : Int) := ⟨i.toNat, by omega⟩
section
variable {P : Program} {w : World} {K : PySem.W.Frag} {mg : Str → Option Value} {base : Heap}
def spDip : Sp := fun vs H Q _ => ∃ (p : Addr) (b m : Nat), vs = [.ref p, iv m] ∧ PotAt H p b ∧ b ≤ 1000000 ∧ 1 ≤ m ∧ m ≤ 10 ^ 14 ∧ ∀ v H', v < m → Pk p H H' → PotAt H' p (b + 1) → Q (iv v) H'
theorem scDip : FnScope ["_law_pot_here", "_law_many", "_law_found", "_law_mixed"] ["_law_pot_here", "_law_many"] (defScope tDip) := ⟨rfl, rfl, rfl, by decide +kernel, rfl, by decide +kernel, by decide +kernel⟩
theorem ok_dip {f : Addr} {fd : FuncData} (F : Fun K "_law_dip" "_law_dip" tDip f fd) (B : Bi mg) : FnOk P w K mg base CX0 1 f fd ["_law_pot_here", "_law_many"] spDip := by
  refine F.ok scDip (fun vs H Q E h => ?_) (fun cdv A outer s H vs Q E hr h => ?_)
  · obtain ⟨p, b, m, rfl, _⟩ := h
    rfl
  · obtain ⟨p, b, m, rfl, hp, hb, m1, m2, k⟩ := h
    have nd := scDip.nd
    refine ⟨_, pss_cons (ps_if (pt_cmpR op_gt (pe_ix ix_list (pv 0) pe_int (fun _ _ => rfl)) pe_int (nomark _))
        (pss_cons (ps_set (i := 2) nd rfl (Or.inl rfl) (pe_op op_mod (pe_callTy call_int1 (by rfl) B.int (by decide +kernel) (pa_cons (pe_ix ix_list (pv 0) pe_int (fun _ _ => rfl)) pa_nil)) (pv 1)))
          (pss_cons (ps_asg (pe_op op_fdivW (pe_ix ix_list (pv 0) pe_int (fun _ _ => rfl)) (pv 1)) (pg_sub (pv 0) pe_int set_list))
            (pss_one (ps_ret (pv 2)))))
        pss_nil)
      (pss_cons (ps_asg (pe_op op_add (pe_ix ix_list (pv 0) pe_int (fun _ _ => rfl)) pe_int) (pg_sub (pv 0) pe_int set_list))
      (pss_cons (ps_set (i := 3) nd rfl (Or.inl rfl) (pe_op op_mod (pe_callTy call_int1 (by rfl) B.int (by decide +kernel) (pa_cons (pe_op op_powW (pe_op op_add (pe_ix ix_list (pv 0) pe_int (fun _ _ => rfl)) (pe_op op_mul pe_int (pe_ix ix_list (pv 0) pe_int (fun _ _ => rfl)))) pe_int) pa_nil)) (pe_op op_add (pe_op op_pow pe_int pe_int) pe_int)))
      (pss_cons (ps_set (i := 3) nd rfl (Or.inl rfl) (pe_op op_mod (pe_callTy call_int1 (by rfl) B.int (by decide +kernel) (pa_cons (pe_op op_powW (pe_op op_add (pv 3) (pe_op op_mul pe_int (pe_ix ix_list (pv 0) pe_int (fun _ _ => rfl)))) pe_int) pa_nil)) (pe_op op_add (pe_op op_pow pe_int pe_int) pe_int)))
      (pss_one (ps_ret (pe_op op_mod (pe_callTy call_int1 (by rfl) B.int (by decide +kernel) (pa_cons (pe_op op_fdivW (pv 3) (pe_op op_pow pe_int pe_int)) pa_nil)) (pv 1))))))), ?_⟩
    obtain ⟨p0, p1, p2, h1, a1, a2, a3, a4⟩ := hp
    have hm0 : (0 : Int) < (m : Int) := by omega
    have hv : ∀ x : Int, ∃ v : Nat, x % (m : Int) = (v : Int) ∧ v < m := fun x => by
      have e1 := Int.emod_nonneg x (b := (m : Int)) (by omega)
      have e2 := Int.emod_lt_of_pos x hm0
      exact ⟨(x % (m : Int)).toNat, by omega, by omega⟩
    have hk : ∀ (x : Int) H', Pk p H H' → PotAt H' p (b + 1) → Q (.int (x % (m : Int))) H' := fun x H' q1 q2 => by
      obtain ⟨v, e1, e2⟩ := hv x
      rw [e1]
      exact k v _ e2 q1 q2
    have hmN : (m : Int).natAbs < 2 ^ 64 := by
      have : (10 : Nat) ^ 14 < 2 ^ 64 := by decide
      omega
    refine ⟨_, rfl, p, _, 0, _, rfl, rfl, SqL.of h1, rfl, _, _, rfl, rfl, _, rfl, ite3 (c := 0 < p0) rfl (fun c0 => ?_) (fun c0 => ?_)⟩
    · refine ⟨_, rfl, p, _, 0, _, rfl, rfl, SqL.of h1, rfl, .inl ⟨_, rfl, _, rfl, _, _, rfl, rfl, hm0, ?_⟩⟩
      refine ⟨_, rfl, p, _, 0, _, rfl, rfl, SqL.of h1, rfl, _, rfl, _, _, rfl, rfl, wide_div hm0 hmN (by decide) (by decide), _, rfl, p, _, 0, 0, rfl, rfl, h1, rfl, ?_⟩
      exact ⟨_, rfl, hk p0 _ (fun x o nx hx => by rw [upd_ne nx]; exact hx) ⟨_, p1, p2, upd_same, a1, a2, a3, by omega⟩⟩
    · have hM1 : (10 : Int) ^ (Int.toNat 41) + 9 = 100000000000000000000000000000000000000009 := by decide +kernel
      have hM2 : (10 : Int) ^ (Int.toNat 39) + 57 = 1000000000000000000000000000000000000057 := by decide +kernel
      have hM3 : (10 : Int) ^ (Int.toNat 7) = 10000000 := by decide +kernel
      have hP : ∀ j : Int, 0 ≤ j → j ≤ 1000 → CPow 10 j := fun j h0 h1 => ⟨h0, by omega, by decide⟩
      refine ⟨_, rfl, p, _, 2, _, rfl, rfl, SqL.of h1, rfl, _, _, rfl, rfl, _, rfl, p, _, 2, 2, rfl, rfl, h1, rfl, ?_⟩
      have h2 : upd H p (.lst [.int p0, .int p1, .int (p2 + 1)]) p = some (.lst [.int p0, .int p1, .int (p2 + 1)]) := upd_same
      refine ⟨_, rfl, p, _, 1, _, rfl, rfl, SqL.of h2, rfl, _, rfl, p, _, 2, _, rfl, rfl, SqL.of h2, rfl, _, _, rfl, rfl, .inl ⟨by decide, by decide⟩, _, _, rfl, rfl, ?_⟩
      have w1 : (p1 + 86028121 * (p2 + 1)).natAbs < 2 ^ 150 := by
        have : (2 : Nat) ^ 150 = 1427247692705959881058285969449495136382746624 := by decide +kernel
        omega
      refine ⟨_, _, rfl, rfl, pow_ok w1 (by decide), .inl ⟨_, rfl, _, _, rfl, rfl, hP 41 (by decide) (by decide), _, _, rfl, rfl, _, _, rfl, rfl, ?_⟩⟩
      have e0 := Int.emod_nonneg ((p1 + 86028121 * (p2 + 1)) ^ 3) (b := 100000000000000000000000000000000000000009) (by decide)
      have e1 := Int.emod_lt_of_pos ((p1 + 86028121 * (p2 + 1)) ^ 3) (b := 100000000000000000000000000000000000000009) (by decide)
      show (0 : Int) < (10 : Int) ^ (Int.toNat 41) + 9 ∧ _
      refine ⟨by rw [hM1]; decide, ?_⟩
      show _
      have ex : (p1 + 86028121 * (p2 + 1)) ^ (Int.toNat 3) % ((10 : Int) ^ (Int.toNat 41) + 9) = (p1 + 86028121 * (p2 + 1)) ^ 3 % 100000000000000000000000000000000000000009 := by rw [hM1]; rfl
      dsimp only
      rw [ex]
      generalize (p1 + 86028121 * (p2 + 1)) ^ 3 % 100000000000000000000000000000000000000009 = x1 at e0 e1 ⊢
      have w2 : (x1 + 179424673 * (p2 + 1)).natAbs < 2 ^ 150 := by
        have : (2 : Nat) ^ 150 = 1427247692705959881058285969449495136382746624 := by decide +kernel
        omega
      refine ⟨_, rfl, _, rfl, p, _, 2, _, rfl, rfl, SqL.of h2, rfl, _, _, rfl, rfl, .inl ⟨by decide, by decide⟩, _, _, rfl, rfl, _, _, rfl, rfl, pow_ok w2 (by decide), .inl ⟨_, rfl, _, _, rfl, rfl, hP 39 (by decide) (by decide), _, _, rfl, rfl, _, _, rfl, rfl, ?_⟩⟩
      show (0 : Int) < (10 : Int) ^ (Int.toNat 39) + 57 ∧ _
      refine ⟨by rw [hM2]; decide, ?_⟩
      refine ⟨_, rfl, _, _, rfl, rfl, hP 7 (by decide) (by decide), _, _, rfl, rfl, ?_⟩
      have hd : CDivW (((x1 + 179424673 * (p2 + 1)) ^ Int.toNat 3) % (10 ^ Int.toNat 39 + 57)) (10 ^ Int.toNat 7) := wide_div (b := 64) (by decide) (by decide) (by decide) (by decide)
      refine ⟨hd, .inl ⟨_, rfl, _, rfl, _, _, rfl, rfl, hm0, ?_⟩⟩
      exact hk _ _ (fun x o nx hx => by rw [upd_ne nx]; exact hx) ⟨p0, p1, p2 + 1, upd_same, a1, a2, by omega, by omega⟩
end
end Rl
end

section
set_option maxRecDepth 100000
set_option maxHeartbeats 4000000
namespace Rl
open PySem L2 SX
section
variable {P : Program} {w : World} {K : PySem.W.Frag} {mg : Str → Option Value} {base : Heap}
def spPot (K : PySem.W.Frag) : Sp := fun vs H Q _ => ∃ (a : Addr) (ns : List Int) (k : Nat), vs = [.ref a, iv k] ∧ SqL K H a (ns.map V.int) ∧ k ≤ 4 ∧ ∀ p H', H p = none → Same H H' → PotAt H' p 0 → Q (.ref p) H'
theorem scPot : FnScope ["_law_script", "_law_k", "_law_cell"] ["_law_script", "_law_k"] (defScope tPot) := ⟨rfl, rfl, rfl, by decide +kernel, rfl, by decide +kernel, by decide +kernel⟩
theorem ok_pot {f : Addr} {fd : FuncData} (F : Fun K "_law_pot" "_law_pot" tPot f fd) (B : Bi mg) : FnOk P w K mg base CX0 1 f fd ["_law_script", "_law_k"] (spPot K) := by
  refine F.ok scPot (fun vs H Q E h => ?_) (fun cdv A outer s H vs Q E hr h => ?_)
  · obtain ⟨a, ns, k, rfl, _⟩ := h
    rfl
  · obtain ⟨a, ns, k, rfl, hs, hk, kQ⟩ := h
    have nd := scPot.nd
    refine ⟨_, pss_cons (ps_set (i := 2) nd rfl (Or.inl rfl) pe_int)
      (pss_cons (ps_if (pt_cmpR op_lt (pv 1) (pe_callB call_len_seq (by rfl) B.len PySem.boot_len (pa_cons (pv 0) pa_nil)) (nomark _))
        (pss_one (ps_set (i := 2) nd rfl (Or.inl rfl) (pe_callB call_abs (by rfl) B.abs (by decide +kernel) (pa_cons (pe_callTy call_int1 (by rfl) B.int (by decide +kernel) (pa_cons (pe_ix ix_list (pv 0) (pv 1) (fun _ _ => rfl)) pa_nil)) pa_nil)))) pss_nil)
      (pss_one (ps_ret (pe_lst (pa_cons (pe_callB (call_max2 rfl) (by rfl) B.max (by decide +kernel) (pa_cons pe_int (pa_cons (pe_op op_sub (pv 2) (pe_op op_pow pe_int pe_int)) pa_nil)))
        (pa_cons (pe_op op_add (pe_op op_mod (pe_callTy call_int1 (by rfl) B.int (by decide +kernel) (pa_cons (pv 2) pa_nil)) (pe_op op_add (pe_op op_pow pe_int pe_int) pe_int)) (pe_op op_mul pe_int (pv 1)))
          (pa_cons pe_int pa_nil))))))), ?_⟩
    have hM1 : (10 : Int) ^ (Int.toNat 33) + 33 = 1000000000000000000000000000000033 := by decide +kernel
    have hP : ∀ j : Int, 0 ≤ j → j ≤ 1000 → CPow 10 j := fun j h0 h1 => ⟨h0, by omega, by decide⟩
    have fin : ∀ (c : Int) (D : Ends), D.rt = Q → (∀ (p : Addr), H p = none → ∀ x y : Int, 0 ≤ y → y < 10 ^ 34 → Q (.ref p) (upd H p (.lst [.int x, .int y, .int 0]))) := fun c D _ p hp x y y0 y1 =>
      kQ p _ hp ((Same.refl H).lay hp) ⟨x, y, 0, upd_same, y0, y1, by decide, by decide⟩
    have fin2 := fin 0 { nx := fun _ H' => Q .non H', rt := Q } rfl
    have hy : ∀ c : Int, 0 ≤ c % ((10 : Int) ^ (Int.toNat 33) + 33) + 524309 * (k : Int) ∧ c % ((10 : Int) ^ (Int.toNat 33) + 33) + 524309 * (k : Int) < 10 ^ 34 := fun c => by
      rw [hM1]
      have e0 := Int.emod_nonneg c (b := 1000000000000000000000000000000033) (by decide)
      have e1 := Int.emod_lt_of_pos c (b := 1000000000000000000000000000000033) (by decide)
      omega
    refine ⟨_, rfl, _, rfl, _, _, rfl, .inl hs, _, _, rfl, rfl, _, rfl, ?_⟩
    refine ite3 (c := k < ns.length) (decide_eq_decide.mpr (by rw [List.length_map]; omega)) (fun hlt => ?_) (fun hlt => ?_)
    · have hx : (ns.map V.int)[k]? = some (V.int ns[k]) := by rw [List.getElem?_map, List.getElem?_eq_getElem hlt]; rfl
      refine ⟨_, rfl, _, rfl, a, _, _, _, rfl, rfl, hs, at_of (j := k) rfl hx, .inl ⟨_, rfl, _, rfl, ?_⟩⟩
      refine ⟨_, rfl, _, _, rfl, rfl, hP 18 (by decide) (by decide), _, _, rfl, rfl, _, _, rfl, ?_⟩
      refine ⟨_, rfl, .inl ⟨_, rfl, _, _, rfl, rfl, hP 33 (by decide) (by decide), _, _, rfl, rfl, _, _, rfl, rfl, (by show (0 : Int) < (10 : Int) ^ (Int.toNat 33) + 33; rw [hM1]; decide), ?_⟩⟩
      refine ⟨_, rfl, _, _, rfl, rfl, .inl ⟨by decide, by decide⟩, _, _, rfl, rfl, (by show 3 ≤ sizeLine; decide), fun p hp => ?_⟩
      exact fin2 p hp _ _ (hy _).1 (hy _).2
    · refine ⟨_, rfl, _, _, rfl, rfl, hP 18 (by decide) (by decide), _, _, rfl, rfl, _, _, rfl, ?_⟩
      refine ⟨_, rfl, .inl ⟨_, rfl, _, _, rfl, rfl, hP 33 (by decide) (by decide), _, _, rfl, rfl, _, _, rfl, rfl, (by show (0 : Int) < (10 : Int) ^ (Int.toNat 33) + 33; rw [hM1]; decide), ?_⟩⟩
      refine ⟨_, rfl, _, _, rfl, rfl, .inl ⟨by decide, by decide⟩, _, _, rfl, rfl, (by show 3 ≤ sizeLine; decide), fun p hp => ?_⟩
      exact fin2 p hp _ _ (hy _).1 (hy _).2
/-! _law_words -/
def spWords : Sp := fun vs H Q _ => ∃ (a : Addr) (ns : List Nat), vs = [.ref a] ∧ H a = some (.lst (ivs ns)) ∧ (∀ n ∈ ns, n < 10 ^ 500) ∧ ns.length ≤ 5000 ∧ ∀ H', Same H H' → Q (sV (nt ns)) H'
theorem scWords : FnScope ["_law_numbers_here", "_law_number"] ["_law_numbers_here"] (defScope tWords) := ⟨rfl, rfl, rfl, by decide +kernel, rfl, by decide +kernel, by decide +kernel⟩
theorem ok_words {f : Addr} {fd : FuncData} (F : Fun K "_law_words" "_law_words" tWords f fd) (B : Bi mg) : FnOk P w K mg base CX0 1 f fd ["_law_numbers_here"] spWords := by
  refine F.ok scWords (fun vs H Q E h => ?_) (fun cdv A outer s H vs Q E hr h => ?_)
  · obtain ⟨a, ns, rfl, _⟩ := h
    rfl
  · obtain ⟨a, ns, rfl, ha, hn, hl, k⟩ := h
    refine ⟨_, pss_one (ps_ret (pe_join pe_str (pe_lc (own := [("_law_number", 1)]) (g := gName 1) (tt := tYes) rfl scWords.nd (pi_list (pv 0)) (blkOk_by (N := ["_law_numbers_here", "_law_number"]) (sc := defScope tWords) (by decide +kernel))
      (fun _ _ _ _ _ => pg_name (i := 1) scWords.nd rfl (Or.inl rfl)) (fun _ _ _ _ _ => pts_nil) (fun _ _ _ _ _ => pe_callTy call_str_int (by rfl) B.str (by decide +kernel) (pa_cons (pv 1) pa_nil))))), ?_⟩
    refine ⟨⟨_, rfl⟩, _, rfl, a, rfl, ⟨_, SqL.of ha⟩, fun D hD => lc_list (K := K) (a := a) (xs := ivs ns) (fun i H' => Same H H' ∧ H' D = some (.lst ((nVs ns).take i))) ⟨(Same.refl H).lay hD, lst_at rfl⟩ (fun i H' _ ⟨s1, _⟩ => SqL.of (s1 _ _ ha)) ?_ ?_⟩
    · rintro i x H' hi ⟨s1, h1⟩
      obtain ⟨n, hni, rfl⟩ := get_map hi
      refine ⟨rfl, _, rfl, _, rfl, log_ok (hn n (List.mem_of_getElem? hni)), _, h1, line_ok (Nat.le_trans (len_take (n := 5000) (by simp; exact hl)) (by decide)), s1.put hD, lst_at (nums_step hni)⟩
    rintro H1 ⟨s1, h1⟩
    have full : (nVs ns).take (ivs ns).length = ((ns.map TL.numL).map S).map V.str := by
      rw [List.take_of_length_le (by simp)]
      simp
    rw [full] at h1
    refine ⟨S [32], D, (ns.map TL.numL).map S, rfl, rfl, .inl (SqL.of h1), nums_fit hn hl, ?_⟩
    rw [join_S]
    exact k H1 s1
end
end Rl
end

section
set_option maxRecDepth 100000
set_option maxHeartbeats 4000000
namespace Rl
open PySem L2 SX
open NumText (AllDigits digitsVal)
/-- a comprehension over a text's signs -/
theorem lc_str {x : Str} {g : TG} {tt : TT} {te : TE} {vs : List Nat} {σ : St} {H1 : Hp} {D : Addr} {Qd : Hp → Prop} (Pv : Nat → Hp → Prop) (h0 : Pv 0 (upd H1 D (.lst [])))
    (hs : ∀ i c H, x.cps[i]? = some c → Pv i H → g (.str ⟨#[c]⟩) (wipe σ vs) H fun σ2 H2 => wipe σ2 vs = wipe σ vs ∧ tt σ2 H2 fun b H3 =>
      if b = true then te σ2 H3 fun y H4 => ∃ acc, H4 D = some (.lst acc) ∧ acc.length < sizeLine ∧ Pv (i + 1) (upd H4 D (.lst (acc ++ [y]))) else Pv (i + 1) H3) (hd : ∀ H, Pv x.cps.size H → Qd H) :
    ∃ W : Nat → Nat → Hp → Prop, (∃ m, W 0 m (upd H1 D (.lst []))) ∧ ∀ i m H, W i m H →
      ((Its x).stop i H ∧ Qd H) ∨ ((Its x).go i H ∧ ∃ Nx : Hp → Prop, (∀ H', Nx H' → ∃ m', m' < m ∧ W (i + 1) m' H') ∧ ∀ y H', (Its x).yld i H y H' → g y (wipe σ vs) H' fun σ2 H2 => wipe σ2 vs = wipe σ vs ∧ tt σ2 H2 fun b H3 =>
        if b = true then te σ2 H3 fun y H4 => ∃ acc, H4 D = some (.lst acc) ∧ acc.length < sizeLine ∧ Nx (upd H4 D (.lst (acc ++ [y]))) else Nx H3) := by
  refine ⟨fun i m H => m = x.cps.size - i ∧ i ≤ x.cps.size ∧ Pv i H, ⟨x.cps.size, by simp, Nat.zero_le _, h0⟩, ?_⟩
  rintro i m H ⟨rfl, hi, p⟩
  by_cases hlt : i < x.cps.size
  · refine .inr ⟨hlt, Pv (i + 1), fun H' p' => ⟨x.cps.size - (i + 1), by omega, rfl, hlt, p'⟩, fun y H' yl => ?_⟩
    obtain ⟨e, c, hc, rfl⟩ := yl
    subst e
    exact hs i c _ hc p
  · have e : i = x.cps.size := by omega
    subst e
    exact .inl ⟨Nat.le_refl _, hd H p⟩
theorem filter_take_snoc {α : Type} (q : α → Bool) (xs : List α) (i : Nat) (c : α) (h : xs[i]? = some c) : (xs.take (i + 1)).filter q = (xs.take i).filter q ++ (if q c = true then [c] else []) := by
  rw [List.take_succ, h, List.filter_append]
  congr 1
  cases e : q c <;> simp [e]
def isdg (c : Nat) : Bool := decide (48 ≤ c) && decide (c ≤ 57)
theorem dg_all (p : List Nat) : dg p = p.all isdg := rfl
theorem in_digits (c : Nat) : decide (c ∈ (Str.ofString "0123456789").cps.toList) = isdg c := by
  have e : (Str.ofString "0123456789").cps.toList = [48, 49, 50, 51, 52, 53, 54, 55, 56, 57] := by decide +kernel
  rw [e]
  unfold isdg
  rw [← Bool.decide_and]
  refine decide_eq_decide.mpr ?_
  simp only [List.mem_cons, List.not_mem_nil, or_false]
  omega
theorem dec_S0 {a : List Nat} : decide (V.str (S a) = V.str "") = decide (a = []) := dec_S (b := [])
section
variable {P : Program} {w : World} {K : PySem.W.Frag} {mg : Str → Option Value} {base : Heap}
/-! _law_count -/
def spCount : Sp := fun vs H Q _ => ∃ (p : List Nat) (b : Nat), vs = [sV p] ∧ Pg b p ∧ b ≤ 500 ∧ p.length ≤ 100000 ∧ ∀ H', Same H H' → Q (iv (cnt p)) H'
theorem scCount : FnScope ["_law_word_here", "_law_sign_here"] ["_law_word_here"] (defScope tCount) := ⟨rfl, rfl, rfl, by decide +kernel, rfl, by decide +kernel, by decide +kernel⟩
theorem ok_count {f : Addr} {fd : FuncData} (F : Fun K "_law_count" "_law_count" tCount f fd) (B : Bi mg) : FnOk P w K mg base CX0 1 f fd ["_law_word_here"] spCount := by
  refine F.ok scCount (fun vs H Q E h => ?_) (fun cdv A outer s H vs Q E hr h => ?_)
  · obtain ⟨p, b, rfl, _⟩ := h
    rfl
  · obtain ⟨p, b, rfl, hp, hb, hl, k⟩ := h
    have nd := scCount.nd
    refine ⟨_, pss_cons (ps_if (PW.pt (pw_or (pt_cmpR op_eq (pv 0) pe_str (nomark _)) (pw_or (pt_cmpR op_eq (pe_ix ix_str (pv 0) pe_int (fun _ _ => rfl)) pe_str (nomark _)) (pw_or1 (pt_cmpR (op_neT (List Str) hr.units (by decide))
        (pe_lc (own := [("_law_sign_here", 1)]) (g := gName 1) rfl nd (pi_str (pv 0)) (blkOk_by (N := ["_law_word_here", "_law_sign_here"]) (sc := defScope tCount) (by decide +kernel))
          (fun _ _ _ _ _ => pg_name (i := 1) nd rfl (Or.inl rfl)) (fun _ _ _ _ _ => pts_one (pt_cmpR op_notIn_sign (pv 1) pe_str rfl)) (fun _ _ _ _ _ => pv 1)) (pe_lst pa_nil) (nomark _))))))
        (pss_one (ps_ret pe_int)) pss_nil)
      (pss_one (ps_ret (pe_callTy call_int_str (by rfl) B.int (by decide +kernel) (pa_cons (pv 0) pa_nil)))), ?_⟩
    refine ⟨_, rfl, rfl, _, rfl, ite3 (c := p = []) dec_S0 (fun h0 => ?_) (fun h0 => ?_)⟩
    · have : cnt p = 0 := by unfold cnt; rw [if_pos (.inl h0)]
      rw [this] at k
      exact k _ (Same.refl H)
    · obtain ⟨c, r, rfl⟩ : ∃ c r, p = c :: r := by
        cases p with
        | nil => exact absurd rfl h0
        | cons c r => exact ⟨c, r, rfl⟩
      refine ⟨_, rfl, _, _, c, rfl, rfl, Nat.le_of_lt (line_ok (by rw [S_len]; omega)), atI_nat (j := 0) rfl, rfl, _, rfl, ?_⟩
      refine ite3 (c := c = 48) (by rw [show (V.str "0") = V.str (S [48]) from rfl, show (V.str (Str.mk #[c])) = V.str (S [c]) from rfl, dec_S]; exact decide_eq_decide.mpr (by simp)) (fun h1 => ?_) (fun h1 => ?_)
      · have : cnt (c :: r) = 0 := by unfold cnt; rw [if_pos (.inr (.inl (by rw [h1]; rfl)))]
        rw [this] at k
        exact k _ (Same.refl H)
      · refine ⟨_, rfl, _, rfl, fun D hD => lc_str (x := S (c :: r)) (fun i H' => Same H H' ∧ H' D = some (.lst (((((c :: r).take i).filter fun x => !isdg x).map fun x => S [x]).map V.str))) ⟨(Same.refl H).lay hD, upd_same⟩ ?_ ?_⟩
        · rintro i x H' hi ⟨s1, h2⟩
          have hi' : (c :: r)[i]? = some x := by
            have e : (S (c :: r)).cps = (c :: r).toArray := rfl
            rw [e, List.getElem?_toArray] at hi
            exact hi
          have st := filter_take_snoc (fun x => !isdg x) (c :: r) i x hi'
          refine ⟨rfl, _, rfl, x, _, rfl, rfl, _, rfl, ?_⟩
          rw [in_digits]
          cases e : isdg x with
          | true =>
            rw [e] at st
            refine ⟨s1, ?_⟩
            rw [h2, st]
            simp
          | false =>
            rw [e] at st
            refine ⟨_, rfl, _, h2, line_ok ?_, s1.put hD, ?_⟩
            · rw [List.length_map, List.length_map]
              refine Nat.le_trans (List.length_filter_le _ _) ?_
              rw [List.length_take]
              omega
            · rw [upd_same, st]
              simp
        · rintro H1 ⟨s1, h2⟩
          have hsz : (S (c :: r)).cps.size = (c :: r).length := rfl
          rw [hsz, List.take_length] at h2
          refine ⟨Nat.zero_le _, fun D2 hD2 => ?_⟩
          refine ⟨((c :: r).filter fun x => !isdg x).map fun x => S [x], [], dp_strs (.inl (.inl ?_)), dp_strs (bs := []) (.inl (.inl upd_same)), _, rfl, ?_⟩
          · rw [upd_ne (ne_of_none h2 hD2)]
            exact h2
          · have hiff : (((c :: r).filter fun x => !isdg x).map fun x => S [x]) ≠ [] ↔ dg (c :: r) = false := by
              rw [Ne, List.map_eq_nil_iff, List.filter_eq_nil_iff, dg_all]
              constructor
              · intro h
                cases q : (c :: r).all isdg with
                | false => rfl
                | true => exact absurd (fun a ha => by have := List.all_eq_true.mp q a ha; simp [this]) h
              · intro h h2
                have : (c :: r).all isdg = true := List.all_eq_true.mpr fun a ha => by have := h2 a ha; simpa using this
                rw [h] at this
                cases this
            refine ite3 (c := dg (c :: r) = false) (decide_eq_decide.mpr hiff) (fun h3 => ?_) (fun h3 => ?_)
            · have : cnt (c :: r) = 0 := by unfold cnt; rw [if_pos (.inr (.inr h3))]
              rw [this] at k
              exact k _ (s1.lay hD2)
            · have h4 : dg (c :: r) = true := by
                cases q : dg (c :: r) with
                | true => rfl
                | false => exact absurd q h3
              have ec : cnt (c :: r) = digitsVal (c :: r) := by
                unfold cnt
                rw [if_neg]
                rintro (z | z | z)
                · exact h0 z
                · exact h1 (Option.some.inj z)
                · exact h3 z
              have hlen : (c :: r).length ≤ 500 := by
                have := hp.run [] (c :: r) [] (by simp) (dg_iff.mp h4)
                omega
              have hl2 : (S (c :: r)).length ≤ 640 := by rw [S_len]; omega
              refine ⟨_, rfl, S (c :: r), _, rfl, intText_digits (x := S (c :: r)) (dg_iff.mp h4) h0 (by omega), hl2, ?_⟩
              rw [← ec]
              exact k _ (s1.lay hD2)
end
end Rl
end

section
set_option maxRecDepth 100000
set_option maxHeartbeats 4000000
namespace Rl
open PySem L2 SX
section
variable {P : Program} {w : World} {K : PySem.W.Frag} {mg : Str → Option Value} {base : Heap}
/-- a list of numbers, or None -/
def OL (H : Hp) (v : V) (o : Option (List Nat)) : Prop := match o with
  | none => v = .non
  | some ns => ∃ q, v = .ref q ∧ H q = some (.lst (ivs ns))
theorem OL.same {H H' : Hp} {v : V} {o : Option (List Nat)} (h : OL H v o) (s : Same H H') : OL H' v o := by
  cases o with
  | none => exact h
  | some ns =>
    obtain ⟨q, h1, h2⟩ := h
    exact ⟨q, h1, s _ _ h2⟩
/-- an if by the one word that its test says -/
theorem tIfS_by {t : TT} {a b : TS} {D : Ends} {σ : St} {H : Hp} (c : Prop) [Decidable c] (h : ∀ Q' : Bool → Hp → Prop, (∀ H', Same H H' → Q' (decide c) H') → t σ H Q') (h1 : c → ∀ H', Same H H' → a D σ H') (h2 : ¬ c → ∀ H', Same H H' → b D σ H') : tIfS t a b D σ H := by
  refine h _ fun H' s => ?_
  by_cases q : c
  · rw [decide_eq_true q]; exact h1 q H' s
  · rw [decide_eq_false q]; exact h2 q H' s
theorem qt_of {Q : Bool → Hp → Prop} {c : Prop} [Decidable c] {b : Bool} {H : Hp} (h : Q (decide c) H) (e : b = true ↔ c) : Q b H := by
  have : b = decide c := by
    cases b with
    | true => exact (decide_eq_true (e.mp rfl)).symm
    | false => exact (decide_eq_false fun z => Bool.false_ne_true (e.mpr z)).symm
  rw [this]
  exact h
/-! _law_numbers -/
def spNumbers : Sp := fun vs H Q _ => ∃ (a : Addr) (ws : List (List Nat)) (b least : Nat), vs = [.ref a, iv least] ∧ H a = some (.lst (sVs ws)) ∧ (∀ w ∈ ws, Pg b w ∧ w.length ≤ 100000) ∧ b ≤ 500 ∧ ws.length ≤ 100000 ∧
  ∀ v H', Same H H' → OL H' v (lawNums least [] ws) → Q v H'
theorem scNumbers : FnScope ["_law_parts", "_law_least", "_law_found", "_law_part", "_law_number"] ["_law_parts", "_law_least"] (defScope tNumbers) := ⟨rfl, rfl, rfl, by decide +kernel, rfl, by decide +kernel, by decide +kernel⟩
theorem ok_numbers {f f1 : Addr} {fd fd1 : FuncData} (F : Fun K "_law_numbers" "_law_numbers" tNumbers f fd) (B : Bi mg)
    (G1 : FnOk P w K mg base CX0 1 f1 fd1 ["_law_word_here"] spCount) (g1 : mg "_law_count" = some (.ref f1)) (k1 : PySem.W.keepIn K (.ref f1) = true) (b1 : Binds K fd1 ["_law_word_here"] []) : FnOk P w K mg base CX0 2 f fd ["_law_parts", "_law_least"] spNumbers := by
  refine F.ok scNumbers (fun vs H Q E h => ?_) (fun cdv A outer s H vs Q E hr h => ?_)
  · obtain ⟨a, ws, b, least, rfl, _⟩ := h
    rfl
  · obtain ⟨a, ws, b, least, rfl, ha, hw, hb, hl, kQ⟩ := h
    have kN : lawNums least [] ws = none → ∀ H', Same H H' → Q .non H' := fun e H' s => kQ _ H' s (by rw [e]; rfl)
    have kS : ∀ ns, lawNums least [] ws = some ns → ∀ q H', Same H H' → H q = none → H' q = some (.lst (ivs ns)) → Q (.ref q) H' := fun ns e q H' s _ hq => kQ _ H' s (by rw [e]; exact ⟨q, rfl, hq⟩)
    have nd := scNumbers.nd
    refine ⟨_, pss_cons (ps_set (i := 2) nd rfl (Or.inl rfl) (pe_lst pa_nil))
      (pss_cons (ps_for PassesOwn.never rfl (pi_list (pv 0)) (pg_name (i := 3) nd rfl (Or.inl rfl))
        (pss_cons (ps_set (i := 4) nd rfl (Or.inl rfl) (pe_call G1 hr rfl g1 k1 b1 .nil pass0 (pa_cons (pv 3) pa_nil)))
        (pss_cons (ps_if (PW.pt (pw_or (PW.pt (pw_and (pt_cmpR op_ne (pv 3) pe_str (nomark _)) (pw_and1 (pt_cmpR op_eq (pv 4) pe_int (nomark _))))) (pw_or1 (pt_cmpR op_lt (pv 4) (pv 1) (nomark _))))) (pss_one (ps_ret pe_non)) pss_nil)
        (pss_cons (ps_if (PW.pt (pw_and (pt_cmpR (op_neT (List Nat) hr.units (by decide)) (pv 2) (pe_lst pa_nil) (nomark _)) (pw_and1 (pt_cmpR op_le (pv 4) (pe_ix ix_list (pv 2) (pe_un un_neg pe_int) (fun _ _ => rfl)) (nomark _))))) (pss_one (ps_ret pe_non)) pss_nil)
        (pss_one (ps_expr (pe_bm PySem.F.plainAttrs_list PySem.F.slot_list_append PySem.F.type_list_append mt_append (pv 2) (pa_cons (pv 4) pa_nil))))))))
      (pss_one (ps_ret (pv 2)))), ?_⟩
    refine ⟨Nat.zero_le _, fun l hl0 => ?_⟩
    refine ⟨_, rfl, a, rfl, ⟨_, SqL.of (((Same.refl H).lay hl0) _ _ ha)⟩, for_list (K := K) (a := a) (xs := sVs ws) (fun i σ H' => ∃ (f : List Nat) (z1 z2 : Option V), σ = [some (.ref a), some (iv least), some (.ref l), z1, z2] ∧ Same H H' ∧ H' l = some (.lst (ivs f)) ∧ f.length ≤ i ∧ lawNums least f (ws.drop i) = lawNums least [] ws)
      ⟨[], none, none, rfl, (Same.refl H).lay hl0, upd_same, Nat.le_refl _, rfl⟩ (fun i σ H' _ ⟨_, _, _, _, s1, _⟩ => SqL.of (s1 _ _ ha)) ?_ ?_⟩
    · rintro i x σ H' hi ⟨f, z1, z2, rfl, s1, h1, hfl, hf⟩
      obtain ⟨u, hu, rfl⟩ := get_map hi
      have hm := List.mem_of_getElem? hu
      have hilt : i < ws.length := (List.getElem?_eq_some_iff.mp hu).1
      have hd : ws.drop i = u :: ws.drop (i + 1) := by
        rw [List.drop_eq_getElem_cons hilt]
        congr 1
        exact (List.getElem?_eq_some_iff.mp hu).2
      rw [hd, lawNums] at hf
      obtain ⟨w1, w2⟩ := hw u hm
      refine ⟨_, rfl, u, b, rfl, w1, hb, w2, fun H2 s2 => ?_⟩
      have h2 := s2 _ _ h1
      -- the three tests
      dsimp only [tSeq, tAsg]
      refine tIfS_by ((u ≠ [48] ∧ cnt u = 0) ∨ cnt u < least) (fun Qt hQ => ?_) (fun hc H3 s3 => ?_) (fun hc H3 s3 => ?_)
      · have e48 : (!decide (V.str (S u) = V.str "0")) = decide (u ≠ [48]) := by
          rw [show (V.str "0") = V.str (S [48]) from rfl, dec_S]; exact decide_not.symm
        have t3 : ¬ (u ≠ [48] ∧ cnt u = 0) → Qt (decide (((cnt u : Nat) : Int) < ((least : Nat) : Int))) H2 := fun hn => qt_of (hQ H2 (Same.refl _)) (by
          rw [decide_eq_true_eq]
          constructor
          · intro h; exact .inr (by omega)
          · rintro (h | h)
            · exact absurd h hn
            · omega)
        refine ⟨_, rfl, rfl, _, rfl, ite3 (c := u ≠ [48]) e48 (fun c1 => ?_) (fun c1 => ?_)⟩
        · refine ⟨_, rfl, rfl, _, rfl, ite3 (c := cnt u = 0) (dec_iv (b := 0)) (fun c2 => ?_) (fun c2 => ?_)⟩
          · exact qt_of (hQ H2 (Same.refl _)) ⟨fun _ => .inl ⟨c1, c2⟩, fun _ => rfl⟩
          · exact ⟨_, rfl, _, rfl, _, _, rfl, rfl, _, rfl, t3 fun z => c2 z.2⟩
        · exact ⟨_, rfl, _, rfl, _, _, rfl, rfl, _, rfl, t3 fun z => c1 z.1⟩
      · rw [if_pos hc] at hf
        exact kN hf.symm _ ((s1.trans s2).trans s3)
      · rw [if_neg hc] at hf
        have s13 := (s1.trans s2).trans s3
        have h3 := s3 _ _ h2
        dsimp only [tNext, tSeq]
        refine tIfS_by (f ≠ [] ∧ cnt u ≤ f.getLastD 0) (fun Qt hQ => ?_) (fun hc2 H4 s4 => ?_) (fun hc2 H4 s4 => ?_)
        · refine ⟨_, rfl, Nat.zero_le _, fun D2 hD2 => ?_⟩
          have s4 := (Same.refl H3).lay (o := .lst []) hD2
          have h4 := s4 _ _ h3
          refine ⟨f, [], dp_ivs (SqL.of h4), dp_ivs (ns := []) (SqL.of upd_same), _, rfl, ite3 (c := f ≠ []) rfl (fun c1 => ?_) (fun c1 => ?_)⟩
          · have hs : ivs f = ivs f.dropLast ++ [iv (f.getLastD 0)] := by
              rw [last_ne c1, ← List.map_singleton (f := iv), ← List.map_append, List.dropLast_concat_getLast]
            refine ⟨_, rfl, _, rfl, _, rfl, l, _, _, iv (f.getLastD 0), rfl, rfl, SqL.of h4, by rw [hs]; exact atI_last _ _, _, _, rfl, rfl, _, rfl, ?_⟩
            refine qt_of (hQ _ s4) ?_
            rw [decide_eq_true_eq]
            exact ⟨fun h => ⟨c1, by omega⟩, fun h => by have := h.2; omega⟩
          · exact qt_of (hQ _ s4) ⟨fun z => absurd z Bool.false_ne_true, fun z => absurd z.1 c1⟩
        · rw [if_pos hc2] at hf
          exact kN hf.symm _ (s13.trans s4)
        · rw [if_neg hc2] at hf
          have h4 := s4 _ _ h3
          refine ⟨_, rfl, .inl ⟨rfl, _, SqL.of h4⟩, _, rfl, l, _, _, rfl, rfl, h4, line_ok (by rw [List.length_map]; omega), ?_⟩
          refine ⟨f ++ [cnt u], _, _, rfl, (s13.trans s4).put hl0, by rw [upd_same, ivs_snoc], by rw [List.length_append, List.length_singleton]; omega, hf⟩
    · rintro σ H' ⟨f, z1, z2, rfl, s1, h1, hfl, hf⟩
      rw [List.drop_of_length_le (by simp)] at hf
      exact ⟨_, rfl, kS f hf.symm l H' s1 hl0 h1⟩
end
end Rl
end

section
set_option maxRecDepth 100000
set_option maxHeartbeats 4000000
namespace Rl
open PySem L2 SX
/-- the marks of the classes at d -/
def MarksAt (H : Hp) (d : Addr) (cs : List Nat) : Prop := ∃ kvs : List (Key × V), H d = some (.dK kvs) ∧ kvs.length ≤ 5000 ∧ ∀ k : Nat, (valV kvs (Sum.inl (k : Int))).isSome = mk cs k
theorem MarksAt.same {H H' : Hp} {d : Addr} {cs : List Nat} (h : MarksAt H d cs) (s : Same H H') : MarksAt H' d cs := by
  obtain ⟨kvs, h1, h2⟩ := h
  exact ⟨kvs, s _ _ h1, h2⟩
theorem MarksAt.put {H : Hp} {d l : Addr} {cs : List Nat} {o : HO} (h : MarksAt H d cs) (n : d ≠ l) : MarksAt (upd H l o) d cs := by
  obtain ⟨kvs, h1, h2⟩ := h
  exact ⟨kvs, by rw [upd_ne n]; exact h1, h2⟩
theorem MarksAt.ne {H : Hp} {d l : Addr} {cs : List Nat} (h : MarksAt H d cs) (n : H l = none) : d ≠ l := by
  obtain ⟨kvs, h1, h2⟩ := h
  exact ne_of_none h1 n
theorem bl_ne {a b : Bool} : (!decide (V.bl a = V.bl b)) = decide (a ≠ b) := by cases a <;> cases b <;> decide
section
variable {P : Program} {w : World} {K : PySem.W.Frag} {mg : Str → Option Value} {base : Heap}
def spPlain (K : PySem.W.Frag) : Sp := fun vs H Q _ => ∃ (m : Nat) (a : Addr) (cs : List Nat), vs = [iv m, .ref a] ∧ H a = some (.lst (ivs cs)) ∧ 1 ≤ m ∧ m ≤ 720 ∧ cs.length ≤ 4900 ∧
  ∀ t q H', Same H H' → H t = none → H q = none → H' t = some (.tup [iv (lp m (mk cs)), .ref q]) → H' q = some (.lst (ivs (cls cs (lp m (mk cs))))) → Q (.ref t) H'
abbrev plN : List Str := ["_law_modulus", "_law_classes", "_law_marks", "_law_one", "_law_size", "_law_k"]
theorem scPlain : FnScope plN ["_law_modulus", "_law_classes"] (defScope tPlain) := ⟨rfl, rfl, rfl, by decide +kernel, rfl, by decide +kernel, by decide +kernel⟩
theorem ok_plain {f : Addr} {fd : FuncData} (F : Fun K "_law_plainest" "_law_plainest" tPlain f fd) (B : Bi mg) : FnOk P w K mg base CX0 1 f fd ["_law_modulus", "_law_classes"] (spPlain K) := by
  refine F.ok scPlain (fun vs H Q E h => ?_) (fun cdv A outer s H vs Q E hr h => ?_)
  · obtain ⟨m, a, cs, rfl, _⟩ := h
    rfl
  · obtain ⟨m, a, cs, rfl, ha, m1, m2, hl, kQ⟩ := h
    have nd := scPlain.nd
    have hu := hu_of hr
    refine ⟨_, pss_cons (ps_set (i := 2) nd rfl (Or.inr rfl) pe_dnewK)
      (pss_cons (ps_for PassesOwn.never rfl (pi_list (pv 1)) (pg_name (i := 3) nd rfl (Or.inl rfl)) (pss_one (ps_dput hu (pv 2) (pv 3) pe_bl rfl)))
      (pss_cons (ps_for PassesOwn.never rfl (pi_range2 (by rfl) B.range (pa_cons pe_int (pa_cons (pe_op op_add (pv 0) pe_int) pa_nil))) (pg_name (i := 4) nd rfl (Or.inr rfl))
        (pss_one (ps_if (pt_cmpR op_eq (pe_op op_mod (pv 0) (pv 4)) pe_int (nomark _))
          (pss_one (ps_if (pt_cmpR (op_eqT (List Nat) hr.units (by decide))
              (pe_lc (own := [("_law_k", 5)]) (g := gName 5) rfl nd (pi_range2 (by rfl) B.range (pa_cons (pv 4) (pa_cons (pv 0) pa_nil))) (blkOk_by (N := plN) (sc := defScope tPlain) (by decide +kernel))
                (fun _ _ _ _ _ => pg_name (i := 5) nd rfl (Or.inl rfl)) (fun _ _ _ _ _ => pts_one (pt_cmpR op_ne (pe_cmp (pc_din hu (pv 5) (pv 2))) (pe_cmp (pc_din hu (pe_op op_mod (pv 5) (pv 4)) (pv 2))) (nomark _))) (fun _ _ _ _ _ => pv 5))
              (pe_lst pa_nil) (nomark _))
            (pss_one (ps_ret (pe_tup (pa_cons (pv 4) (pa_cons
              (pe_lc (own := [("_law_k", 5)]) (g := gName 5) rfl nd (pi_range1 (by rfl) B.range (pa_cons (pv 4) pa_nil)) (blkOk_by (N := plN) (sc := defScope tPlain) (by decide +kernel))
                (fun _ _ _ _ _ => pg_name (i := 5) nd rfl (Or.inl rfl)) (fun _ _ _ _ _ => pts_one (pt_cmp (pc_din hu (pv 5) (pv 2)))) (fun _ _ _ _ _ => pv 5))
              pa_nil))))) pss_nil)) pss_nil)))
      (pss_one (ps_ret (pe_tup (pa_cons (pv 0) (pa_cons (pe_callB cr_sortedT (by rfl) B.sorted (by decide +kernel) (pa_cons (pv 1) pa_nil)) pa_nil))))))), ?_⟩
    refine fun d hd0 => ?_
    have sd : Same H (upd H d (.dK [])) := (Same.refl H).lay hd0
    refine ⟨_, rfl, a, rfl, ⟨_, SqL.of (sd _ _ ha)⟩, for_list (K := K) (a := a) (xs := ivs cs) (fun i σ H' => ∃ (z : Option V), σ = [some (iv m), some (.ref a), some (.ref d), z, none, none] ∧ Same H H' ∧ ∃ kvs : List (Key × V), H' d = some (.dK kvs) ∧ kvs.length ≤ i ∧ ∀ k : Nat, (valV kvs (Sum.inl (k : Int))).isSome = mk (cs.take i) k)
      ⟨none, rfl, sd, [], upd_same, Nat.le_refl _, fun k => rfl⟩ (fun i σ H' _ ⟨_, _, s1, _⟩ => SqL.of (s1 _ _ ha)) ?_ ?_⟩
    · rintro i x σ H' hi ⟨z, rfl, s1, kvs, h1, hk, hv⟩
      obtain ⟨u, hu', rfl⟩ := get_map hi
      have hilt : i < cs.length := (List.getElem?_eq_some_iff.mp hu').1
      refine ⟨_, rfl, _, rfl, d, _, rfl, DPut.k (k := Sum.inl (u : Int)) h1 (line_ok (by omega)), _, rfl, s1.put hd0, _, upd_same, Nat.le_trans (length_putK ..) (Nat.succ_le_succ hk), fun k => ?_⟩
      rw [valV_put]
      have e : mk (cs.take (i + 1)) k = (decide (k = u) || mk (cs.take i) k) := by
        unfold mk
        rw [List.take_succ, hu', ← Bool.decide_or]
        refine decide_eq_decide.mpr ?_
        simp [or_comm]
      rw [e]
      by_cases hku : k = u
      · subst hku
        rw [if_pos rfl, decide_eq_true rfl]
        rfl
      · rw [if_neg (fun z => hku (Int.ofNat_inj.mp (Sum.inl.inj z))), decide_eq_false hku, Bool.false_or]
        exact hv k
    rintro σ H1 ⟨z, rfl, s1, kvs, h1, hk, hv⟩
    have hm1 : MarksAt H1 d cs := ⟨kvs, h1, by rw [List.length_map] at hk; omega, fun k => by rw [hv k]; rw [List.length_map, List.take_length]⟩
    refine ⟨_, rfl, _, _, rfl, rfl, 1, (m : Int) + 1, rfl, ⟨by omega, by omega, by omega, by omega⟩, ?_⟩
    rw [show ((m : Int) + 1 - 1).toNat = m by omega]
    refine for_range (lo := 1) (n := m) (fun i σ H' => ∃ (z1 z2 : Option V), σ = [some (iv m), some (.ref a), some (.ref d), z1, z2, none] ∧ Same H1 H' ∧ ∀ t, 0 < t → t ≤ i → perB m (mk cs) t = false)
      ⟨z, none, rfl, Same.refl _, fun t t1 t2 => by omega⟩ ?_ ?_
    · rintro i σ H' hi ⟨z1, z2, rfl, s2, hno⟩
      have es : (1 : Int) + (i : Int) = ((1 + i : Nat) : Int) := by omega
      rw [es]
      generalize hsz : 1 + i = sz
      have sz1 : 0 < sz := by omega
      have last : perB m (mk cs) sz = false → ∀ t, 0 < t → t ≤ i + 1 → perB m (mk cs) t = false := fun hn t t1 t2 => by
        by_cases e : t = sz
        · rw [e]; exact hn
        · exact hno t t1 (by omega)
      refine ⟨_, rfl, _, rfl, _, _, rfl, rfl, (by show (0 : Int) < (sz : Int); omega), rfl, _, rfl, ite3 (dm m sz) (fun h0 => ?_) (fun h0 => ⟨_, _, rfl, s2, last ?_⟩)⟩
      · have hszm : sz ≤ m := by omega
        have hm2 : MarksAt H' d cs := hm1.same s2
        refine ⟨_, rfl, _, rfl, (sz : Int), (m : Int), rfl, ⟨by omega, by omega, by omega, by omega⟩, fun D hD => ?_⟩
        rw [show ((m : Int) - (sz : Int)).toNat = m - sz by omega]
        refine lc_range (lo := (sz : Int)) (n := m - sz) (fun j H3 => Same H' H3 ∧ ∃ acc : List Nat, H3 D = some (.lst (ivs acc)) ∧ acc.length ≤ j ∧ (acc = [] ↔ ∀ k, sz ≤ k → k < sz + j → mk cs k = mk cs (k % sz)))
          ⟨(Same.refl _).lay hD, [], upd_same, Nat.le_refl _, fun _ k k1 k2 => by omega, fun _ => rfl⟩ ?_ ?_
        · rintro j H3 hj ⟨s3, acc, h3, hal, hiff⟩
          rw [show (sz : Int) + (j : Int) = ((sz + j : Nat) : Int) from (Int.natCast_add sz j).symm]
          obtain ⟨kvs, q1, q2, q3⟩ := hm2.same s3
          have q4 : (!decide (V.bl (valV kvs (Sum.inl ((sz + j : Nat) : Int))).isSome = V.bl (valV kvs (Sum.inl (((sz + j : Nat) : Int) % (sz : Int)))).isSome)) = decide (mk cs (sz + j) ≠ mk cs ((sz + j) % sz)) := by
            rw [mod_nat, q3, q3]
            exact bl_ne
          refine ⟨rfl, _, rfl, _, rfl, d, _, rfl, DGet.k (k := Sum.inl ((sz + j : Nat) : Int)) q1, _, rfl, _, rfl, _, _, rfl, rfl, (by show (0 : Int) < (sz : Int); omega), _, rfl, d, _, rfl, DGet.k (k := Sum.inl (((sz + j : Nat) : Int) % (sz : Int))) q1, rfl, _, rfl, ite3 (c := mk cs (sz + j) ≠ mk cs ((sz + j) % sz)) q4 (fun hne => ?_) (fun heq => ?_)⟩
          · refine ⟨_, rfl, _, h3, line_ok (by rw [List.length_map]; omega), s3.put hD, acc ++ [sz + j], by rw [upd_same, ivs_snoc], by rw [List.length_append, List.length_singleton]; omega, ?_⟩
            constructor
            · intro z; exact absurd z (by simp)
            · intro z; exact absurd (z (sz + j) (by omega) (by omega)) hne
          · refine ⟨s3, acc, h3, by omega, hiff.trans ⟨fun z k k1 k2 => ?_, fun z k k1 k2 => z k k1 (by omega)⟩⟩
            by_cases e : k = sz + j
            · rw [e]; exact Classical.not_not.mp heq
            · exact z k k1 (by omega)
        · rintro H3 ⟨s3, acc, h3, hal, hiff⟩
          rw [show sz + (m - sz) = m by omega] at hiff
          refine ⟨Nat.zero_le _, fun D2 hD2 => ?_⟩
          have s4 := s3.lay (o := .lst []) hD2
          refine ⟨acc, [], dp_ivs (SqL.of (by rw [upd_ne (ne_of_none h3 hD2)]; exact h3)), dp_ivs (ns := []) (SqL.of upd_same), _, rfl, ite3 (c := acc = []) rfl (fun c1 => ?_) (fun c1 => ⟨_, _, rfl, s2.trans s4, last ?_⟩)⟩
          · have hp : perB m (mk cs) sz = true := perB_iff.mpr ⟨h0, hiff.mp c1⟩
            have hlp : lp m (mk cs) = sz := lp_eq m1 ⟨sz1, hszm, hp, fun t t1 t2 => hno t t1 (by omega)⟩
            rw [hlp] at kQ
            refine ⟨_, rfl, _, rfl, (sz : Int), rfl, ⟨by omega, by omega, fun D3 hD3 => ?_⟩⟩
            have hm4 := hm2.same s4
            refine lc_range (lo := (0 : Int)) (n := sz) (fun j H5 => Same H' H5 ∧ H5 D3 = some (.lst (ivs ((List.range j).filter (mk cs))))) ⟨s4.lay hD3, upd_same⟩ ?_ ?_
            · rintro j H5 hj ⟨s5, h5⟩
              rw [show (0 : Int) + (j : Int) = (j : Int) by omega]
              obtain ⟨kvs, q1, q2, q3⟩ := hm2.same s5
              have er : (List.range (j + 1)).filter (mk cs) = (List.range j).filter (mk cs) ++ (if mk cs j = true then [j] else []) := by
                rw [List.range_succ, List.filter_append]
                congr 1
                cases e : mk cs j <;> simp [e]
              refine ⟨rfl, _, rfl, _, rfl, d, _, rfl, DGet.k (k := Sum.inl ((j : Nat) : Int)) q1, _, rfl, ?_⟩
              rw [q3]
              cases e : mk cs j with
              | true =>
                rw [e, if_pos rfl] at er
                refine ⟨_, rfl, _, h5, line_ok ?_, s5.put (s4.free hD3), by rw [upd_same, ivs_snoc, er]⟩
                rw [List.length_map]
                refine Nat.le_trans (List.length_filter_le _ _) ?_
                rw [List.length_range]
                omega
              | false =>
                rw [e, if_neg Bool.false_ne_true, List.append_nil] at er
                exact ⟨s5, by rw [er]; exact h5⟩
            · rintro H5 ⟨s5, h5⟩
              refine ⟨by show 2 ≤ sizeLine; decide, fun t ht => ?_⟩
              have sA : Same H H' := s1.trans s2
              refine kQ t D3 _ (sA.trans (s5.lay ht)) ((sA.trans s5).free ht) ((sA.trans s4).free hD3) upd_same ?_
              rw [upd_ne (ne_of_none h5 ht)]
              exact h5
          · cases q : perB m (mk cs) sz with
            | false => rfl
            | true => exact absurd (hiff.mpr (perB_iff.mp q).2) c1
      · cases q : perB m (mk cs) sz with
        | false => rfl
        | true => exact absurd (perB_iff.mp q).1 h0
    · rintro σ H' ⟨z1, z2, rfl, s2, hno⟩
      have := hno m (by omega) (Nat.le_refl _)
      rw [perB_self] at this
      cases this
end
end Rl
end

section
set_option maxRecDepth 100000
set_option maxHeartbeats 4000000
namespace Rl
open PySem L2 SX
/-! ### rules for texts as lists of codes -/
theorem op_cat {X : Cx} : OpR X (binaryOp .Add) (fun x y H Q => ∃ a b : List Nat, x = sV a ∧ y = sV b ∧ a.length + b.length ≤ 10000000 ∧ Q (sV (a ++ b)) H) := by
  intro pins s σ H x y v u Q I rx ry h
  obtain ⟨a, b, rfl, rfl, hl, q⟩ := h
  refine op_add_str pins s σ H _ _ v u Q I rx ry ⟨_, _, rfl, rfl, ?_, ?_⟩
  · rw [S_len, S_len]; exact Nat.le_of_lt (line_ok hl)
  · rw [S_cat]; exact q
theorem call_strN {X : Cx} : CallR X (.type "str") (fun xs H Q => ∃ n : Nat, xs = [iv n] ∧ n < 10 ^ 500 ∧ Q (sV (TL.numL n)) H) := by
  intro pins s σ H xs us Q I rs h
  obtain ⟨n, rfl, hn, q⟩ := h
  refine call_str_int pins s σ H _ us Q I rs ⟨_, rfl, log_ok hn, ?_⟩
  rw [num_S]
  exact q
/-! ### what _law_some gives, at t; beside the pot p -/
structure SomeAt (H : Hp) (t p : Addr) (m : Nat) (cs chs es : List Nat) (a c : Addr) : Prop where
  ht : H t = some (.tup [iv m, .ref a, .ref c])
  ha : H a = some (.lst (ivs cs))
  hc : H c = some (.lst (ivs chs))
  tp : t ≠ p
  ap : a ≠ p
  cp : c ≠ p
  m1 : 1 ≤ m
  m7 : m ≤ 720
  cl : cs.length ≤ 720
  pe : es.Perm chs
  pw : es.Pairwise (· < ·)
  e1 : ∀ e ∈ es, 1 ≤ e
  e2 : ∀ e ∈ es, e < 10 ^ 15
  el : es.length ≤ 6
theorem SomeAt.pk {H H' : Hp} {t p : Addr} {m : Nat} {cs chs es : List Nat} {a c : Addr} (h : SomeAt H t p m cs chs es a c) (s : Pk p H H') : SomeAt H' t p m cs chs es a c :=
  { h with ht := s _ _ h.tp h.ht, ha := s _ _ h.ap h.ha, hc := s _ _ h.cp h.hc }
theorem SomeAt.same {H H' : Hp} {t p : Addr} {m : Nat} {cs chs es : List Nat} {a c : Addr} (h : SomeAt H t p m cs chs es a c) (s : Same H H') : SomeAt H' t p m cs chs es a c := h.pk (Same.pk s)
theorem chs_eq {chs es : List Nat} {ns : List Int} (h : ns.Perm (zs chs)) (hs : ns.Pairwise (· ≤ ·)) (pe : es.Perm chs) (pw : es.Pairwise (· < ·)) : ns.map V.int = ivs es := by
  obtain ⟨es', rfl, hp⟩ := zs_perm h
  have nd : es.Nodup := pw.imp fun h => Nat.ne_of_lt h
  have nd2 : (zs chs).Nodup := zs_nodup.mpr (pe.nodup_iff.mp nd)
  have hlt := sorted_lt h hs nd2
  have e : es' = es := sorted_ext (by
    have := List.pairwise_map.mp hlt
    exact this.imp fun h => by omega) pw fun x => (hp.trans pe.symm).mem_iff
  rw [e, ← ivs_ints]
theorem nt_len2 {k : Nat} {ns : List Nat} (h : ∀ n ∈ ns, (TL.numL n).length ≤ k) : (nt ns).length ≤ ns.length * (k + 1) := by
  have key : ∀ ws : List (List Nat), (∀ w ∈ ws, w.length ≤ k) → (TL.joinL [32] ws).length ≤ ws.length * (k + 1) := by
    intro ws
    induction ws with
    | nil => intro _; simp [TL.joinL]
    | cons w ws ih =>
      intro hw
      have h1 := hw w (List.mem_cons_self ..)
      have h2 := ih fun u hu => hw u (List.mem_cons_of_mem _ hu)
      by_cases e : ws = []
      · subst e
        show w.length ≤ _
        simp
        omega
      · rw [joinL_cons e, List.length_append, List.length_append, List.length_cons, List.length_cons, List.length_nil, Nat.add_mul, Nat.one_mul]
        omega
  have := key (ns.map TL.numL) fun w hw => by
    obtain ⟨n, hn, rfl⟩ := List.mem_map.mp hw
    exact h n hn
  rw [List.length_map] at this
  exact this
theorem nt_le {k : Nat} {ns : List Nat} (hk : 0 < k) (h : ∀ n ∈ ns, n < 10 ^ k) : (nt ns).length ≤ ns.length * (k + 1) := nt_len2 fun n hn => TL.numL_len hk (h n hn)
/-- what the law writes for such a set: its length -/
theorem Wr_len {m : Nat} {cs chs : List Nat} (hm : m ≤ 720) (h1 : ∀ c ∈ cs, c < m) (h2 : cs.length ≤ 720) (h3 : ∀ c ∈ chs, c < 10 ^ 15) (h4 : chs.length ≤ 6) : (Wr m cs chs).length ≤ 3100 := by
  have a1 := nt_le (k := 3) (by decide) (ns := cs) fun n hn => by have := h1 n hn; omega
  have a2 := nt_le (k := 15) (by decide) (ns := chs) h3
  have a3 : (TL.numL m).length ≤ 3 := TL.numL_len (by decide) (by omega)
  unfold Wr
  simp only [List.length_append]
  have a4 : (if cs = [] then [46] else nt cs).length ≤ 2880 := by
    split
    · decide
    · omega
  have a5 : (if chs = [] then ([] : List Nat) else BUTS ++ nt chs).length ≤ 101 := by
    split
    · decide
    · rw [List.length_append]; simp; omega
  have a6 : OFS.length = 4 := rfl
  omega
end Rl
end

section
set_option maxRecDepth 100000
set_option maxHeartbeats 4000000
namespace Rl
open PySem L2 SX
section
variable {P : Program} {w : World} {K : PySem.W.Frag} {mg : Str → Option Value} {base : Heap}
def spLine : Sp := fun vs H Q _ => ∃ (t p : Addr) (m : Nat) (cs chs es : List Nat) (a c : Addr), vs = [.ref t] ∧ SomeAt H t p m cs chs es a c ∧ ∀ H', Same H H' → Q (sV (Wr (lp m (mk cs)) (cls cs (lp m (mk cs))) es)) H'
theorem scLine : FnScope ["_law_some_here", "_law_size", "_law_classes", "_law_found"] ["_law_some_here"] (defScope tLine) := ⟨rfl, rfl, rfl, by decide +kernel, rfl, by decide +kernel, by decide +kernel⟩
theorem ok_line {f f1 f2 : Addr} {fd fd1 fd2 : FuncData} (F : Fun K "_law_set_line" "_law_set_line" tLine f fd) (B : Bi mg)
    (G1 : FnOk P w K mg base CX0 1 f1 fd1 ["_law_modulus", "_law_classes"] (spPlain K)) (g1 : mg "_law_plainest" = some (.ref f1)) (k1 : PySem.W.keepIn K (.ref f1) = true) (b1 : Binds K fd1 ["_law_modulus", "_law_classes"] [])
    (G2 : FnOk P w K mg base CX0 1 f2 fd2 ["_law_numbers_here"] spWords) (g2 : mg "_law_words" = some (.ref f2)) (k2 : PySem.W.keepIn K (.ref f2) = true) (b2 : Binds K fd2 ["_law_numbers_here"] []) : FnOk P w K mg base CX0 2 f fd ["_law_some_here"] spLine := by
  refine F.ok scLine (fun vs H Q E h => ?_) (fun cdv A outer s H vs Q E hr h => ?_)
  · obtain ⟨t, p, m, cs, chs, es, a, c, rfl, _⟩ := h
    rfl
  · obtain ⟨t, p, m, cs, chs, es, a, c, rfl, so, kQ⟩ := h
    have nd := scLine.nd
    refine ⟨_, pss_cons (ps_asg (pe_call G1 hr rfl g1 k1 b1 .nil pass0 (pa_cons (pe_ix ix_tup (pv 0) pe_int (fun _ _ => rfl)) (pa_cons (pe_ix ix_tup (pv 0) pe_int (fun _ _ => rfl)) pa_nil))) (pg_tup rfl (pgs_cons (pg_name (i := 1) nd rfl (Or.inl rfl)) (pgs_cons (pg_name (i := 2) nd rfl (Or.inl rfl)) pgs_nil))))
      (pss_cons (ps_set (i := 3) nd rfl (Or.inl rfl) (pe_op op_cat (pe_op op_cat (pe_ifExp (pt_cmpR (op_neT (List Nat) hr.units (by decide)) (pv 2) (pe_lst pa_nil) (nomark _)) (pe_call G2 hr rfl g2 k2 b2 .nil pass0 (pa_cons (pv 2) pa_nil)) pe_str) pe_str) (pe_callTy call_strN (by rfl) B.str (by decide +kernel) (pa_cons (pv 1) pa_nil))))
      (pss_one (ps_ret (pe_ifExp (pt_cmpR (op_neT (List Nat) hr.units (by decide)) (pe_ix ix_tup (pv 0) pe_int (fun _ _ => rfl)) (pe_lst pa_nil) (nomark _))
        (pe_op op_cat (pe_op op_cat (pv 3) pe_str) (pe_call G2 hr rfl g2 k2 b2 .nil pass0 (pa_cons (pe_callB cr_sortedT (by rfl) B.sorted (by decide +kernel) (pa_cons (pe_ix ix_tup (pv 0) pe_int (fun _ _ => rfl)) pa_nil)) pa_nil)))
        (pv 3))))), ?_⟩
    have hlp := lp_ok (n := m) (mk := mk cs) so.m1
    refine ⟨_, rfl, t, _, 0, _, rfl, rfl, SqT.of so.ht, rfl, _, rfl, t, _, 1, _, rfl, rfl, SqT.of so.ht, rfl, m, a, cs, rfl, so.ha, so.m1, so.m7, by have := so.cl; omega, fun t1 q H1 s1 n1 nq h1 hq => ?_⟩
    generalize hsz : lp m (mk cs) = sz at *
    have hsz7 : sz ≤ 720 := Nat.le_trans hlp.le so.m7
    have hcl : (cls cs sz).length ≤ 720 := Nat.le_trans (cls_len _ _) hsz7
    have hclt : ∀ x ∈ cls cs sz, x < 10 ^ 3 := fun x hx => by have := cls_lt x hx; omega
    have h500 : ∀ {x k : Nat}, x < 10 ^ k → k ≤ 500 → x < 10 ^ 500 := fun hx hk => Nat.lt_of_lt_of_le hx (Nat.pow_le_pow_right (by decide) hk)
    refine ⟨t1, _, rfl, SqT.of h1, rfl, _, _, rfl, _, _, rfl, rfl, ?_⟩
    have s01 := s1
    dsimp only [tSeq, tAsg, tOp]
    refine tIf_by (fun v H' => v = sV (if cls cs sz = [] then [46] else nt (cls cs sz)) ∧ Same H1 H') (fun Q7 hQ7 => ?_) ?_
    · refine ⟨_, rfl, Nat.zero_le _, fun D hD => ⟨cls cs sz, [], dp_ivs (SqL.of (by rw [upd_ne (ne_of_none hq hD)]; exact hq)), dp_ivs (ns := []) (SqL.of upd_same), _, rfl, ite3 (c := cls cs sz ≠ []) rfl (fun c1 => ?_) (fun c1 => ?_)⟩⟩
      · have sD : Same H1 (upd H1 D (.lst [])) := (Same.refl _).lay hD
        refine ⟨_, rfl, q, cls cs sz, rfl, sD _ _ hq, fun n hn => h500 (hclt n hn) (by decide), by omega, fun H2 s2 => hQ7 _ _ ⟨by rw [if_neg c1], sD.trans s2⟩⟩
      · exact hQ7 _ _ ⟨by rw [if_pos (Classical.not_not.mp c1)]; rfl, (Same.refl _).lay hD⟩
    rintro v2 H2 ⟨rfl, s2⟩
    have hW := Wr_len (m := sz) (cs := cls cs sz) (chs := es) hsz7 cls_lt hcl so.e2 so.el
    have eW : Wr sz (cls cs sz) es = (if cls cs sz = [] then [46] else nt (cls cs sz)) ++ (OFS ++ (TL.numL sz ++ (if es = [] then [] else BUTS ++ nt es))) := rfl
    generalize hct : (if cls cs sz = [] then [46] else nt (cls cs sz)) = ct at *
    rw [eW] at hW
    simp only [List.length_append] at hW
    refine ⟨ct, OFS, rfl, rfl, by simp; omega, _, rfl, sz, rfl, h500 (k := 3) (by omega) (by decide), ct ++ OFS, TL.numL sz, rfl, rfl, by simp; omega, ?_⟩
    have so2 := so.same (s01.trans s2)
    refine ⟨_, rfl, t, _, 2, _, rfl, rfl, SqT.of so2.ht, rfl, Nat.zero_le _, fun D hD => ⟨chs, [], dp_ivs (SqL.of (by rw [upd_ne (ne_of_none so2.hc hD)]; exact so2.hc)), dp_ivs (ns := []) (SqL.of upd_same), _, rfl, ite3 (c := chs ≠ []) rfl (fun c1 => ?_) (fun c1 => ?_)⟩⟩
    · have c2 : es ≠ [] := fun z => c1 (by have := so.pe.length_eq; rw [z] at this; exact List.length_eq_zero_iff.mp this.symm)
      rw [if_neg c2] at hW
      rw [eW, if_neg c2] at kQ
      simp only [List.length_append] at hW
      have sD : Same H2 (upd H2 D (.lst [])) := (Same.refl _).lay hD
      have so3 := so2.same sD
      refine ⟨_, rfl, ct ++ OFS ++ TL.numL sz, BUTS, rfl, rfl, by simp; omega, _, rfl, t, _, 2, _, rfl, rfl, SqT.of so3.ht, rfl, c, zs chs, rfl, .inl (SqL.of (by rw [← ivs_ints]; exact so3.hc)), fun ns' p' hp hs hn => ?_⟩
      rw [chs_eq hp hs so.pe so.pw]
      refine ⟨p', es, rfl, upd_same, fun n hn => h500 (so.e2 n hn) (by decide), by have := so.el; omega, fun H4 s4 => ⟨ct ++ OFS ++ TL.numL sz ++ BUTS, nt es, rfl, rfl, by simp; omega, ?_⟩⟩
      have := kQ H4 (((s01.trans s2).trans (sD.lay hn)).trans s4)
      simp only [List.append_assoc] at this ⊢
      exact this
    · have c2 : es = [] := by
        have := so.pe.length_eq
        rw [Classical.not_not.mp c1] at this
        exact List.length_eq_zero_iff.mp this
      rw [eW, if_pos c2] at kQ
      have := kQ _ ((s01.trans s2).lay (o := .lst []) hD)
      refine ⟨_, rfl, ?_⟩
      simp only [List.append_assoc, List.append_nil] at this ⊢
      exact this
end
end Rl
end

section
set_option maxRecDepth 100000
set_option maxHeartbeats 4000000
namespace Rl
open PySem L2 SX
theorem tSeq_by {t u : TS} {D : Ends} {σ : St} {H : Hp} (R : St → Hp → Prop) (h : ∀ D' : Ends, D'.rt = D.rt → (∀ σ' H', R σ' H' → D'.nx σ' H') → t D' σ H) (k : ∀ σ' H', R σ' H' → u D σ' H') : tSeq t u D σ H := h { D with nx := u D } rfl k
theorem tIfS_any {t : TT} {a b : TS} {D : Ends} {σ : St} {H : Hp} (R : Hp → Prop) (h : ∀ Q' : Bool → Hp → Prop, (∀ b H', R H' → Q' b H') → t σ H Q') (h1 : ∀ H', R H' → a D σ H') (h2 : ∀ H', R H' → b D σ H') : tIfS t a b D σ H := by
  refine h _ fun q H' r => ?_
  cases q with
  | true => exact h1 H' r
  | false => exact h2 H' r
theorem ite_any {b : Bool} {A B : Prop} (h1 : A) (h2 : B) : if b = true then A else B := by
  cases b with
  | true => exact h1
  | false => exact h2
theorem two_of {v : Nat} (hv : v < 2) : ∃ i : Int, [V.int 1, V.int (-1)][v]? = some (V.int i) ∧ (i = 1 ∨ i = -1) := by
  match v, hv with
  | 0, _ => exact ⟨1, rfl, .inl rfl⟩
  | 1, _ => exact ⟨-1, rfl, .inr rfl⟩
theorem ex_sorted {chs : List Nat} (h : chs.Nodup) : ∃ es : List Nat, es.Perm chs ∧ es.Pairwise (· < ·) := by
  refine ⟨chs.mergeSort (fun a b => decide (a ≤ b)), List.mergeSort_perm _ _, ?_⟩
  have h1 := List.pairwise_mergeSort (le := fun a b : Nat => decide (a ≤ b)) (fun a b c => by simp; omega) (fun a b => by simp; omega) chs
  have h2 : (chs.mergeSort (fun a b => decide (a ≤ b))).Nodup := (List.mergeSort_perm _ _).nodup_iff.mpr h
  refine (List.pairwise_and_iff.mpr ⟨h1, h2⟩).imp fun h => ?_
  have h3 := of_decide_eq_true h.1
  have h4 : _ ≠ _ := h.2
  omega
theorem five {v1 v2 v3 : Nat} (h1 : v1 < 12) (h2 : v2 < 12) (h3 : v3 < 720) {i : Nat} (hi : i < 5) : ∃ m : Nat, [V.int (1 + (v1 : Int)), V.int (1 + (v2 : Int)), V.int 60, V.int 720, V.int (1 + (v3 : Int))][i]? = some (iv m) ∧ 1 ≤ m ∧ m ≤ 720 := by
  have e : ∀ v : Nat, V.int (1 + (v : Int)) = iv (1 + v) := fun v => by show V.int (1 + (v : Int)) = V.int ((1 + v : Nat) : Int); rw [Int.natCast_add]; rfl
  match i, hi with
  | 0, _ => exact ⟨1 + v1, congrArg some (e v1), by omega, by omega⟩
  | 1, _ => exact ⟨1 + v2, congrArg some (e v2), by omega, by omega⟩
  | 2, _ => exact ⟨60, rfl, by omega, by omega⟩
  | 3, _ => exact ⟨720, rfl, by omega, by omega⟩
  | 4, _ => exact ⟨1 + v3, congrArg some (e v3), by omega, by omega⟩
theorem four {M v1 v2 v3 v4 : Nat} (h1 : v1 < M) (h2 : v2 < M) (h3 : v3 < M) (h4 : v4 < M) {i : Nat} (hi : i < 4) : ∃ m : Nat, [iv v1, iv v2, iv v3, iv v4][i]? = some (iv m) ∧ m < M := by
  match i, hi with
  | 0, _ => exact ⟨v1, rfl, h1⟩
  | 1, _ => exact ⟨v2, rfl, h2⟩
  | 2, _ => exact ⟨v3, rfl, h3⟩
  | 3, _ => exact ⟨v4, rfl, h4⟩
section
variable {P : Program} {w : World} {K : PySem.W.Frag} {mg : Str → Option Value} {base : Heap}
def spSome : Sp := fun vs H Q _ => ∃ (p : Addr) (b far : Nat), vs = [.ref p, iv far] ∧ PotAt H p b ∧ b ≤ 100000 ∧ 1 ≤ far ∧ far ≤ 10 ^ 14 ∧
  ∀ t m cs chs es a c H', SomeAt H' t p m cs chs es a c → Pk p H H' → PotAt H' p (b + 1000) → Q (.ref t) H'
abbrev smN : List Str := ["_law_pot_here", "_law_far", "_law_modulus", "_law_classes", "_law_k", "_law_size", "_law_rest", "_law_changed_here", "_law_lap", "_law_one", "_law_other"]
theorem scSome : FnScope smN ["_law_pot_here", "_law_far"] (defScope tSome) := ⟨rfl, rfl, rfl, by decide +kernel, rfl, by decide +kernel, by decide +kernel⟩
theorem ok_some {f f1 : Addr} {fd fd1 : FuncData} (F : Fun K "_law_some" "_law_some" tSome f fd) (B : Bi mg)
    (G1 : FnOk P w K mg base CX0 1 f1 fd1 ["_law_pot_here", "_law_many"] spDip) (g1 : mg "_law_dip" = some (.ref f1)) (k1 : PySem.W.keepIn K (.ref f1) = true) (b1 : Binds K fd1 ["_law_pot_here", "_law_many"] []) :
    FnOk P w K mg base CX0 2 f fd ["_law_pot_here", "_law_far"] spSome := by
  refine F.ok scSome (fun vs H Q E h => ?_) (fun cdv A outer s H vs Q E hr h => ?_)
  · obtain ⟨p, b, far, rfl, _⟩ := h
    rfl
  · obtain ⟨p, b, far, rfl, hp, hb, f1', f2', kQ⟩ := h
    have nd := scSome.nd
    refine ⟨_, pss_cons (ps_set (i := 2) nd rfl (Or.inl rfl) (pe_ix ix_list (pe_lst (pa_cons (pe_op op_add pe_int (pe_call G1 hr rfl g1 k1 b1 .nil pass0 (pa_cons (pv 0) (pa_cons pe_int pa_nil)))) (pa_cons (pe_op op_add pe_int (pe_call G1 hr rfl g1 k1 b1 .nil pass0 (pa_cons (pv 0) (pa_cons pe_int pa_nil)))) (pa_cons pe_int (pa_cons pe_int (pa_cons (pe_op op_add pe_int (pe_call G1 hr rfl g1 k1 b1 .nil pass0 (pa_cons (pv 0) (pa_cons pe_int pa_nil)))) pa_nil))))))
        (pe_call G1 hr rfl g1 k1 b1 .nil pass0 (pa_cons (pv 0) (pa_cons pe_int pa_nil))) (fun _ _ => rfl)))
      (pss_cons (ps_if (PW.pt (pw_and (pt_cmpR op_lt (pv 2) pe_int (nomark _)) (pw_and1 (pt_cmpR op_eq (pe_call G1 hr rfl g1 k1 b1 .nil pass0 (pa_cons (pv 0) (pa_cons pe_int pa_nil))) pe_int (nomark _)))))
        (pss_one (ps_setLc (i := 3) (own := [("_law_k", 4)]) (g := gName 4) rfl nd rfl rfl (sw_true rfl rfl rfl (by decide +kernel)) (pi_range1 (by rfl) B.range (pa_cons (pv 2) pa_nil)) (blkOk_by (N := smN) (sc := defScope tSome) (by decide +kernel))
          (fun _ _ _ _ _ => pg_name (i := 4) nd rfl (Or.inl rfl)) (fun _ _ _ _ _ => pts_one (pt_cmpR op_eq (pe_call G1 hr rfl g1 k1 b1 .nil pass0 (pa_cons (pv 0) (pa_cons pe_int pa_nil))) pe_int (nomark _))) (fun _ _ _ _ _ => pv 4)))
        (pss_cons (ps_asg (pe_tup (pa_cons (pe_op op_add pe_int (pe_call G1 hr rfl g1 k1 b1 .nil pass0 (pa_cons (pv 0) (pa_cons pe_int pa_nil)))) (pa_cons (pe_call G1 hr rfl g1 k1 b1 .nil pass0 (pa_cons (pv 0) (pa_cons pe_int pa_nil))) pa_nil))) (pg_tup rfl (pgs_cons (pg_name (i := 5) nd rfl (Or.inr rfl)) (pgs_cons (pg_name (i := 6) nd rfl (Or.inr rfl)) pgs_nil))))
        (pss_one (ps_setLc (i := 3) (own := [("_law_k", 4)]) (g := gName 4) rfl nd rfl rfl (sw_true rfl rfl rfl (by decide +kernel)) (pi_range1 (by rfl) B.range (pa_cons (pv 2) pa_nil)) (blkOk_by (N := smN) (sc := defScope tSome) (by decide +kernel))
          (fun _ _ _ _ _ => pg_name (i := 4) nd rfl (Or.inl rfl)) (fun _ _ _ _ _ => pts_one (pt_cmpR op_eq (pe_op op_mod (pv 4) (pv 5)) (pv 6) (nomark _))) (fun _ _ _ _ _ => pv 4)))))
      (pss_cons (ps_set (i := 7) nd rfl (Or.inl rfl) (pe_lst pa_nil))
      (pss_cons (ps_for PassesOwn.never rfl (pi_range1 (by rfl) B.range (pa_cons (pe_call G1 hr rfl g1 k1 b1 .nil pass0 (pa_cons (pv 0) (pa_cons pe_int pa_nil))) pa_nil)) (pg_name (i := 8) nd rfl (Or.inl rfl))
        (pss_cons (ps_set (i := 9) nd rfl (Or.inr rfl) (pe_op op_add pe_int (pe_ix ix_list (pe_lst (pa_cons (pe_call G1 hr rfl g1 k1 b1 .nil pass0 (pa_cons (pv 0) (pa_cons pe_int pa_nil))) (pa_cons (pe_call G1 hr rfl g1 k1 b1 .nil pass0 (pa_cons (pv 0) (pa_cons pe_int pa_nil)))
            (pa_cons (pe_call G1 hr rfl g1 k1 b1 .nil pass0 (pa_cons (pv 0) (pa_cons (pe_op op_pow pe_int pe_int) pa_nil))) (pa_cons (pe_call G1 hr rfl g1 k1 b1 .nil pass0 (pa_cons (pv 0) (pa_cons (pv 1) pa_nil))) pa_nil)))))
            (pe_call G1 hr rfl g1 k1 b1 .nil pass0 (pa_cons (pv 0) (pa_cons pe_int pa_nil))) (fun _ _ => rfl))))
        (pss_cons (ps_setLc (i := 7) (own := [("_law_other", 10)]) (g := gName 10) rfl nd rfl rfl (sw_true rfl rfl rfl (by decide +kernel)) (pi_list (pv 7)) (blkOk_by (N := smN) (sc := defScope tSome) (by decide +kernel))
          (fun _ _ _ _ _ => pg_name (i := 10) nd rfl (Or.inl rfl)) (fun _ _ _ _ _ => pts_one (pt_cmpR op_ne (pv 10) (pv 9) (nomark _))) (fun _ _ _ _ _ => pv 10))
        (pss_one (ps_expr (pe_bm PySem.F.plainAttrs_list PySem.F.slot_list_insert PySem.F.type_list_insert mt_insert (pv 7) (pa_cons (pe_call G1 hr rfl g1 k1 b1 .nil pass0 (pa_cons (pv 0) (pa_cons (pe_op op_add (pe_callB call_len_seq (by rfl) B.len PySem.boot_len (pa_cons (pv 7) pa_nil)) pe_int) pa_nil))) (pa_cons (pv 9) pa_nil))))))))
      (pss_one (ps_ret (pe_tup (pa_cons (pv 2) (pa_cons (pe_stepL (pv 3) (pe_ix ix_list (pe_lst (pa_cons pe_int (pa_cons (pe_un un_neg pe_int) pa_nil))) (pe_call G1 hr rfl g1 k1 b1 .nil pass0 (pa_cons (pv 0) (pa_cons pe_int pa_nil))) (fun _ _ => rfl))) (pa_cons (pv 7) pa_nil))))))))), ?_⟩
    have d12 : (1 : Nat) ≤ 12 ∧ 12 ≤ 10 ^ 14 := by decide
    refine ⟨_, rfl, p, b, 12, rfl, hp, by omega, by decide, by decide, fun v1 H1 hv1 s1 hp1 => ⟨_, _, rfl, rfl, ?_⟩⟩
    refine ⟨_, rfl, p, b + 1, 12, rfl, hp1, by omega, by decide, by decide, fun v2 H2 hv2 s2 hp2 => ⟨_, _, rfl, rfl, ?_⟩⟩
    refine ⟨_, rfl, p, b + 2, 720, rfl, hp2, by omega, by decide, by decide, fun v3 H3 hv3 s3 hp3 => ⟨_, _, rfl, rfl, by show 5 ≤ sizeLine; decide, fun l hl => ?_⟩⟩
    refine ⟨_, rfl, p, b + 3, 5, rfl, hp3.lay hl, by omega, by decide, by decide, fun v4 H4 hv4 s4 hp4 => ?_⟩
    obtain ⟨m, hm, m1, m7⟩ := five hv1 hv2 hv3 hv4
    refine ⟨l, _, _, iv m, rfl, rfl, SqL.of (s4 l _ (hp3.ne' hl) upd_same), atI_nat hm, ?_⟩
    have S4 : Pk p H H4 := ((s1.trans s2).trans s3).trans ((Same.pk ((Same.refl H3).lay hl)).trans s4)
    clear hm
    dsimp only
    refine tSeq_by (fun σ H' => ∃ (a : Addr) (cs : List Nat) (z5 z6 : Option V), σ = [some (.ref p), some (iv far), some (iv m), some (.ref a), none, z5, z6, none, none, none, none] ∧ H' a = some (.lst (ivs cs)) ∧ cs.length ≤ 720 ∧ a ≠ p ∧ Pk p H H' ∧ PotAt H' p (b + 800)) (fun D' hrt hD' => ?_) ?_
    · refine tIfS_any (fun H' => Pk p H H' ∧ PotAt H' p (b + 5)) (fun Qt hQ => ?_) (fun H5 ⟨s5, hp5⟩ => ?_) (fun H5 ⟨s5, hp5⟩ => ?_)
      · refine ⟨_, rfl, _, _, rfl, rfl, _, rfl, ite3 (c := m < 61) (decide_eq_decide.mpr (by omega)) (fun c1 => ?_) (fun c1 => hQ _ _ ⟨S4, hp4.mono (by omega)⟩)⟩
        exact ⟨_, rfl, p, b + 4, 2, rfl, hp4, by omega, by decide, by decide, fun v5 H5 hv5 s5 hp5 => ⟨rfl, _, rfl, hQ _ _ ⟨S4.trans s5, hp5⟩⟩⟩
      · refine ⟨_, rfl, (m : Int), rfl, ⟨by omega, by omega, fun D hD => ?_⟩⟩
        have npD : p ≠ D := hp5.ne hD
        refine lc_range (lo := 0) (n := m) (fun j H' => Pk p H5 H' ∧ PotAt H' p (b + 5 + j) ∧ ∃ acc : List Nat, H' D = some (.lst (ivs acc)) ∧ acc.length ≤ j) ⟨Pk.refl.put hD, hp5.lay hD, [], upd_same, Nat.le_refl _⟩ ?_ ?_
        · rintro j H' hj ⟨s6, hp6, acc, h6, hal⟩
          refine ⟨rfl, _, rfl, p, b + 5 + j, 3, rfl, hp6, by omega, by decide, by decide, fun v7 H7 hv7 s7 hp7 => ⟨rfl, _, rfl, ?_⟩⟩
          refine ite3 (c := v7 = 0) (dec_iv (b := 0)) (fun _ => ?_) (fun _ => ⟨s6.trans s7, hp7, acc, s7 _ _ npD.symm h6, by omega⟩)
          refine ⟨_, rfl, _, s7 _ _ npD.symm h6, line_ok (by rw [List.length_map]; omega), (s6.trans s7).put hD, hp7.upd npD, acc ++ [j], ?_, by rw [List.length_append, List.length_singleton]; omega⟩
          rw [show (0 : Int) + (j : Int) = (j : Int) by omega, upd_same, ivs_snoc]
        · rintro H6 ⟨s6, hp6, acc, h6, hal⟩
          exact hD' _ _ ⟨D, acc, none, none, rfl, h6, by omega, npD.symm, s5.trans s6, hp6.mono (by omega)⟩
      · refine ⟨_, rfl, p, b + 5, 10, rfl, hp5, by omega, by decide, by decide, fun v6 H6 hv6 s6 hp6 => ⟨_, _, rfl, rfl, ?_⟩⟩
        refine ⟨_, rfl, p, b + 6, 12, rfl, hp6, by omega, by decide, by decide, fun v7 H7 hv7 s7 hp7 => ⟨by show 2 ≤ sizeLine; decide, fun t ht => ?_⟩⟩
        refine ⟨t, _, rfl, SqT.of upd_same, rfl, _, _, rfl, _, _, rfl, rfl, ?_⟩
        have s8 : Pk p H (upd H7 t (.tup [V.int (3 + (v6 : Int)), iv v7])) := ((s5.trans s6).trans s7).lay ht
        have hp8 := hp7.lay (o := .tup [V.int (3 + (v6 : Int)), iv v7]) ht
        refine ⟨_, rfl, (m : Int), rfl, ⟨by omega, by omega, fun D hD => ?_⟩⟩
        have npD : p ≠ D := hp8.ne hD
        generalize upd H7 t (.tup [V.int (3 + (v6 : Int)), iv v7]) = H8 at *
        refine lc_range (lo := 0) (n := m) (fun j H' => Pk p H8 H' ∧ PotAt H' p (b + 7) ∧ ∃ acc : List Nat, H' D = some (.lst (ivs acc)) ∧ acc.length ≤ j) ⟨Pk.refl.put hD, hp8.lay hD, [], upd_same, Nat.le_refl _⟩ ?_ ?_
        · rintro j H' hj ⟨s9, hp9, acc, h9, hal⟩
          refine ⟨rfl, _, rfl, _, rfl, _, _, rfl, rfl, (by show (0 : Int) < 3 + (v6 : Int); omega), _, rfl, rfl, _, rfl, ?_⟩
          refine ite_any ?_ ⟨s9, hp9, acc, h9, by omega⟩
          refine ⟨_, rfl, _, h9, line_ok (by rw [List.length_map]; omega), s9.put hD, hp9.upd npD, acc ++ [j], ?_, by rw [List.length_append, List.length_singleton]; omega⟩
          rw [show (0 : Int) + (j : Int) = (j : Int) by omega, upd_same, ivs_snoc]
        · rintro H9 ⟨s9, hp9, acc, h9, hal⟩
          exact hD' _ _ ⟨D, acc, _, _, rfl, h9, by omega, npD.symm, s8.trans s9, hp9.mono (by omega)⟩
    rintro σ H5 ⟨a, cs, z5, z6, rfl, ha, hcl, hap, S5, hp5⟩
    refine ⟨Nat.zero_le _, fun c hc0 => ?_⟩
    refine ⟨_, rfl, p, b + 800, 6, rfl, hp5.lay hc0, by omega, by decide, by decide, fun laps H6 hlaps s6 hp6 => ?_⟩
    refine ⟨(laps : Int), rfl, by omega, by omega, ?_⟩
    have npc : p ≠ c := hp5.ne hc0
    have S6 : Pk p H5 H6 := ((Pk.refl (H := H5)).lay hc0).trans s6
    refine for_range (lo := 0) (n := laps) (fun i σ H' => ∃ (z8 z9 : Option V) (c : Addr) (chs : List Nat), σ = [some (.ref p), some (iv far), some (iv m), some (.ref a), none, z5, z6, some (.ref c), z8, z9, none] ∧ Pk p H5 H' ∧ PotAt H' p (b + 801 + 10 * i) ∧
        H5 c = none ∧ H' c = some (.lst (ivs chs)) ∧ chs.length ≤ i ∧ chs.Nodup ∧ ∀ x ∈ chs, 1 ≤ x ∧ x ≤ 10 ^ 14)
      ⟨none, none, c, [], rfl, S6, hp6, hc0, s6 _ _ npc.symm upd_same, Nat.le_refl _, List.nodup_nil, fun x hx => by cases hx⟩ ?_ ?_
    · rintro i σ H7 hi ⟨z8, z9, c, chs, rfl, S7, hp7, hc5, hc7, hlc, hnc, hxc⟩
      have h109 : (10 : Int) ^ (Int.toNat 9) = ((1000000000 : Nat) : Int) := by decide +kernel
      refine ⟨_, rfl, p, b + 801 + 10 * i, 8, rfl, hp7, by omega, by decide, by decide, fun v1 H8 hv1 s8 hp8 => ?_⟩
      refine ⟨_, rfl, p, b + 801 + 10 * i + 1, 30, rfl, hp8, by omega, by decide, by decide, fun v2 H9 hv2 s9 hp9 => ?_⟩
      refine ⟨_, rfl, _, _, rfl, rfl, ⟨by decide, by decide, by decide⟩, p, b + 801 + 10 * i + 1 + 1, 1000000000, (by show [V.ref p, V.int ((10 : Int) ^ (Int.toNat 9))] = [V.ref p, V.int ((1000000000 : Nat) : Int)]; rw [h109]), hp9, by omega, by decide, by decide, fun v3 H10 hv3 s10 hp10 => ?_⟩
      refine ⟨_, rfl, _, rfl, p, b + 801 + 10 * i + 1 + 1 + 1, far, rfl, hp10, by omega, f1', f2', fun v4 H11 hv4 s11 hp11 => ⟨by show 4 ≤ sizeLine; decide, fun l hl => ?_⟩⟩
      refine ⟨_, rfl, p, b + 801 + 10 * i + 1 + 1 + 1 + 1, 4, rfl, hp11.lay hl, by omega, by decide, by decide, fun v5 H12 hv5 s12 hp12 => ?_⟩
      have e14 : (10 : Nat) ^ 14 = 100000000000000 := by decide +kernel
      obtain ⟨v, hv, hv14⟩ := four (M := 10 ^ 14) (v1 := v1) (v2 := v2) (v3 := v3) (v4 := v4) (by omega) (by omega) (by omega) (by omega) hv5
      refine ⟨l, _, _, iv v, rfl, rfl, SqL.of (s12 l _ (hp11.ne' hl) upd_same), atI_nat hv, _, _, rfl, rfl, ?_⟩
      clear hv
      have S12 : Pk p H5 H12 := S7.trans ((((s8.trans s9).trans s10).trans s11).trans ((Same.pk ((Same.refl H11).lay hl)).trans s12))
      have hcp : c ≠ p := fun e => by
        obtain ⟨p0, p1, p2, q1, _⟩ := hp5
        rw [e, q1] at hc5
        cases hc5
      have hc12 := ((((s8.trans s9).trans s10).trans s11).trans ((Same.pk ((Same.refl H11).lay hl)).trans s12)) _ _ hcp hc7
      have eo : V.int (1 + (v : Int)) = iv (1 + v) := by show V.int (1 + (v : Int)) = V.int ((1 + v : Nat) : Int); rw [Int.natCast_add]; rfl
      dsimp only
      rw [eo]
      generalize ho : 1 + v = one
      have ho1 : 1 ≤ one ∧ one ≤ 10 ^ 14 := by omega
      refine ⟨_, rfl, c, rfl, ⟨_, SqL.of hc12⟩, fun D hD => ?_⟩
      have npD : p ≠ D := hp12.ne hD
      refine lc_list (K := K) (a := c) (xs := ivs chs) (fun j H' => Same H12 H' ∧ H' D = some (.lst (ivs ((chs.take j).filter fun x => decide (x ≠ one))))) ⟨(Same.refl _).lay hD, upd_same⟩ (fun j H' _ ⟨q1, _⟩ => SqL.of (q1 _ _ hc12)) ?_ ?_
      · rintro j x H13 hj ⟨s13, h13⟩
        obtain ⟨u, hu', rfl⟩ := get_map hj
        have st := filter_take_snoc (fun x => decide (x ≠ one)) chs j u hu'
        refine ⟨rfl, _, rfl, _, rfl, rfl, _, rfl, ite3 (c := u ≠ one) (by rw [decide_not]; exact congrArg Bool.not dec_iv) (fun c1 => ?_) (fun c1 => ?_)⟩
        · rw [decide_eq_true c1, if_pos rfl] at st
          refine ⟨_, rfl, _, h13, line_ok ?_, s13.put hD, by rw [upd_same, ivs_snoc, st]⟩
          rw [List.length_map]
          refine Nat.le_trans (List.length_filter_le _ _) ?_
          rw [List.length_take]
          omega
        · rw [decide_eq_false c1, if_neg Bool.false_ne_true, List.append_nil] at st
          exact ⟨s13, by rw [st]; exact h13⟩
      · rintro H13 ⟨s13, h13⟩
        rw [List.length_map, List.take_length] at h13
        have hD5 : H5 D = none := by
          cases q : H5 D with
          | none => rfl
          | some o => rw [S12 D o npD.symm q] at hD; cases hD
        generalize hk : (chs.filter fun x => decide (x ≠ one)) = kept at *
        have hkl : kept.length ≤ i := by rw [← hk]; exact Nat.le_trans (List.length_filter_le _ _) hlc
        have hkn : kept.Nodup := by rw [← hk]; exact hnc.filter _
        have hkx : ∀ x ∈ kept, 1 ≤ x ∧ x ≤ 10 ^ 14 := fun x hx => by rw [← hk] at hx; exact hxc x (List.mem_filter.mp hx).1
        have hko : one ∉ kept := fun hx => by rw [← hk] at hx; exact absurd rfl (of_decide_eq_true (List.mem_filter.mp hx).2)
        have hp13 : PotAt H13 p (b + 801 + 10 * i + 1 + 1 + 1 + 1 + 1) := hp12.same s13
        refine ⟨_, rfl, .inl ⟨rfl, _, SqL.of h13⟩, _, rfl, _, rfl, _, _, rfl, .inl (SqL.of h13), _, _, rfl, rfl, ?_⟩
        refine ⟨p, b + 801 + 10 * i + 1 + 1 + 1 + 1 + 1, (ivs kept).length + 1, rfl, hp13, by omega, by omega, by rw [List.length_map]; omega, fun v6 H14 hv6 s14 hp14 => ?_⟩
        have h14 := s14 _ _ npD.symm h13
        refine ⟨_, rfl, D, ivs kept, _, _, rfl, rfl, h14, line_ok (by rw [List.length_map]; omega), by omega, by rw [List.length_map] at hv6; omega, ?_⟩
        have hperm : (kept.take v6 ++ [one] ++ kept.drop v6).Perm (one :: kept) := by
          have := List.perm_middle (a := one) (l₁ := kept.take v6) (l₂ := kept.drop v6)
          rw [List.take_append_drop] at this
          rw [List.append_assoc]
          exact this
        refine ⟨_, _, D, kept.take v6 ++ [one] ++ kept.drop v6, rfl, ?_, (hp14.upd npD).mono (by omega), hD5, ?_, ?_, ?_, ?_⟩
        · exact ((S12.trans (Same.pk s13)).trans s14).put hD5
        · rw [upd_same]
          show some (HO.lst ((ivs kept).take ((v6 : Int)).toNat ++ [iv one] ++ (ivs kept).drop ((v6 : Int)).toNat)) = _
          rw [show ((v6 : Int)).toNat = v6 from rfl]
          simp
        · rw [hperm.length_eq, List.length_cons]; omega
        · exact hperm.nodup_iff.mpr (List.nodup_cons.mpr ⟨hko, hkn⟩)
        · intro x hx
          rcases List.mem_cons.mp (hperm.mem_iff.mp hx) with e | hx
          · rw [e]; exact ho1
          · exact hkx x hx
    · rintro σ H7 ⟨z8, z9, c, chs, rfl, S7, hp7, hc5, hc7, hlc, hnc, hxc⟩
      have hc7' : c ≠ p := fun e => by
        obtain ⟨p0, p1, p2, q1, _⟩ := hp5
        rw [e, q1] at hc5
        cases hc5
      refine ⟨_, rfl, _, rfl, _, rfl, by show 2 ≤ sizeLine; decide, fun l hl => ?_⟩
      refine ⟨_, rfl, p, b + 801 + 10 * laps, 2, rfl, hp7.lay hl, by omega, by decide, by decide, fun v H8 hv s8 hp8 => ?_⟩
      obtain ⟨i, hi, hi2⟩ := two_of hv
      have S8 : Pk p H7 H8 := (Pk.refl.lay hl).trans s8
      refine ⟨l, _, _, V.int i, rfl, rfl, SqL.of (s8 l _ (hp7.ne' hl) upd_same), atI_nat hi, a, ivs cs, i, rfl, rfl, hi2, SqL.of ((S7.trans S8) _ _ hap ha), fun q hq => ?_⟩
      refine ⟨_, rfl, by show 3 ≤ sizeLine; decide, fun t ht => ?_⟩
      have nqp : q ≠ p := hp8.ne' hq
      have ht8 : H8 t = none := ((Same.refl H8).lay hq).free ht
      have ntp : t ≠ p := hp8.ne' ht8
      obtain ⟨es, pe, pw⟩ := ex_sorted hnc
      have hc8 := S8 _ _ hc7' hc7
      have e14 : (10 : Nat) ^ 14 = 100000000000000 := by decide +kernel
      have e15 : (10 : Nat) ^ 15 = 1000000000000000 := by decide +kernel
      have eq : (if i = 1 then ivs cs else (ivs cs).reverse) = ivs (if i = 1 then cs else cs.reverse) := by
        split
        · rfl
        · rw [← List.map_reverse]
      refine kQ t m (if i = 1 then cs else cs.reverse) chs es q c _ { ht := upd_same, ha := ?_, hc := ?_, tp := ntp, ap := nqp, cp := hc7', m1 := m1, m7 := m7, cl := ?_, pe := pe, pw := pw, e1 := fun e he => (hxc e (pe.mem_iff.mp he)).1, e2 := fun e he => by have := (hxc e (pe.mem_iff.mp he)).2; omega, el := by rw [pe.length_eq]; omega } ?_ ?_
      · rw [upd_ne (fun e => by rw [← e, upd_same] at ht; cases ht), upd_same, eq]
      · rw [upd_ne (ne_of_none hc8 ht8), upd_ne (ne_of_none hc8 hq)]
        exact hc8
      · split
        · exact hcl
        · rw [List.length_reverse]; exact hcl
      · exact ((S5.trans (S7.trans S8)).lay hq).lay ht
      · exact ((hp8.upd nqp.symm).upd ntp.symm).mono (by omega)
end
end Rl
end

section
set_option maxRecDepth 100000
set_option maxHeartbeats 4000000
namespace Rl
open PySem L2 SX
def sgA : Str := " !\"#$&'()*+,-./0123456789:;<=>?@ABCDEFGHIJKLMNOPQRSTUVWXYZ[\\]^_`"
def sgB : Str := "abcdefghijklmnopqrstuvwxyz{|}~\n\t"
theorem sg_ok {v : Nat} (h : v < 96) : ∃ c, (sgA ++ sgB).cps.toList[v]? = some c ∧ c < 128 := by
  have e1 : (sgA ++ sgB).cps.toList.length = 96 := by decide +kernel
  have e2 : ((sgA ++ sgB).cps.toList.all fun c => decide (c < 128)) = true := by decide +kernel
  refine ⟨(sgA ++ sgB).cps.toList[v]'(by omega), List.getElem?_eq_getElem _, ?_⟩
  exact of_decide_eq_true (List.all_eq_true.mp e2 _ (List.getElem_mem _))
theorem sg_len : sgA.length + sgB.length ≤ 200 ∧ (sgA ++ sgB).length ≤ 200 := by decide +kernel
def wdA : List String := ["peg", "hang", "take", "look", "fetch", "pull", "walk", "when", "near", "far", "sock", "a", "no", "."]
def wdB : List String := [".:", "a:", "", ":", "1", "-1", "0", "-0", "07", "40", "41", "-40", "-41", "6", "7", "-6", "-7"]
def wdC : List String := ["+3", "3.", "--2", "12345678901234567890", "mid", "Near", "abcdefghi", "None", "of", "but", "d"]
def wdD : List String := ["/", "(", ")"]
def wdAll : List String := ((wdA ++ wdB) ++ wdC) ++ wdD
abbrev stV (x : String) : V := V.str (Str.ofString x)
def cod (x : String) : List Nat := x.toList.map Char.toNat
theorem wd_ok : (wdAll.all fun x => decide ((cod x).length ≤ 20) && (cod x).all fun c => decide (c < 128)) = true := by decide +kernel
section
variable {P : Program} {w : World} {K : PySem.W.Frag} {mg : Str → Option Value} {base : Heap}
/-! _law_sign -/
def spSign : Sp := fun vs H Q _ => ∃ (p : Addr) (b : Nat), vs = [.ref p] ∧ PotAt H p b ∧ b ≤ 200000 ∧ ∀ c H', c < 128 → Pk p H H' → PotAt H' p (b + 1) → Q (sV [c]) H'
theorem scSign : FnScope ["_law_pot_here", "_law_signs"] ["_law_pot_here"] (defScope tSign) := ⟨rfl, rfl, rfl, by decide +kernel, rfl, by decide +kernel, by decide +kernel⟩
theorem ok_sign {f f1 : Addr} {fd fd1 : FuncData} (F : Fun K "_law_sign" "_law_sign" tSign f fd)
    (G1 : FnOk P w K mg base CX0 1 f1 fd1 ["_law_pot_here", "_law_many"] spDip) (g1 : mg "_law_dip" = some (.ref f1)) (k1 : PySem.W.keepIn K (.ref f1) = true) (b1 : Binds K fd1 ["_law_pot_here", "_law_many"] []) :
    FnOk P w K mg base CX0 2 f fd ["_law_pot_here"] spSign := by
  refine F.ok scSign (fun vs H Q E h => ?_) (fun cdv A outer s H vs Q E hr h => ?_)
  · obtain ⟨p, b, rfl, _⟩ := h
    rfl
  · obtain ⟨p, b, rfl, hp, hb, kQ⟩ := h
    have nd := scSign.nd
    refine ⟨_, pss_cons (ps_set (i := 1) nd rfl (Or.inl rfl) pe_str)
      (pss_cons (ps_set (i := 1) nd rfl (Or.inl rfl) (pe_op op_add_str (pv 1) pe_str))
      (pss_one (ps_ret (pe_ix ix_str (pv 1) (pe_call G1 hr rfl g1 k1 b1 .nil pass0 (pa_cons (pv 0) (pa_cons pe_int pa_nil))) (fun _ _ => rfl))))), ?_⟩
    refine ⟨_, rfl, sgA, sgB, rfl, rfl, Nat.le_of_lt (line_ok (by have := sg_len; omega)), _, rfl, _, rfl, p, b, 96, rfl, hp, by omega, by decide, by decide, fun v H1 hv s1 hp1 => ?_⟩
    obtain ⟨c, hc, hc2⟩ := sg_ok hv
    exact ⟨sgA ++ sgB, _, c, rfl, rfl, Nat.le_of_lt (line_ok (by have := sg_len; omega)), atI_nat hc, kQ c H1 hc2 s1 hp1⟩
/-! _law_word -/
def spWord : Sp := fun vs H Q _ => ∃ (p : Addr) (b : Nat), vs = [.ref p] ∧ PotAt H p b ∧ b ≤ 200000 ∧ ∀ u H', (∀ c ∈ u, c < 128) → u.length ≤ 20 → Pk p H H' → PotAt H' p (b + 1) → Q (sV u) H'
theorem scWord : FnScope ["_law_pot_here", "_law_some_here"] ["_law_pot_here"] (defScope tWord) := ⟨rfl, rfl, rfl, by decide +kernel, rfl, by decide +kernel, by decide +kernel⟩
theorem ok_word {f f1 : Addr} {fd fd1 : FuncData} (F : Fun K "_law_word" "_law_word" tWord f fd) (B : Bi mg)
    (G1 : FnOk P w K mg base CX0 1 f1 fd1 ["_law_pot_here", "_law_many"] spDip) (g1 : mg "_law_dip" = some (.ref f1)) (k1 : PySem.W.keepIn K (.ref f1) = true) (b1 : Binds K fd1 ["_law_pot_here", "_law_many"] []) :
    FnOk P w K mg base CX0 2 f fd ["_law_pot_here"] spWord := by
  refine F.ok scWord (fun vs H Q E h => ?_) (fun cdv A outer s H vs Q E hr h => ?_)
  · obtain ⟨p, b, rfl, _⟩ := h
    rfl
  · obtain ⟨p, b, rfl, hp, hb, kQ⟩ := h
    have nd := scWord.nd
    refine ⟨_, pss_cons (ps_set (i := 1) nd rfl (Or.inl rfl) (pe_lst (pa_cons pe_str (pa_cons pe_str (pa_cons pe_str (pa_cons pe_str (pa_cons pe_str (pa_cons pe_str (pa_cons pe_str (pa_cons pe_str (pa_cons pe_str (pa_cons pe_str (pa_cons pe_str (pa_cons pe_str (pa_cons pe_str (pa_cons pe_str pa_nil))))))))))))))))
      (pss_cons (ps_set (i := 1) nd rfl (Or.inl rfl) (pe_op L2.op_cat (pv 1) (pe_lst (pa_cons pe_str (pa_cons pe_str (pa_cons pe_str (pa_cons pe_str (pa_cons pe_str (pa_cons pe_str (pa_cons pe_str (pa_cons pe_str (pa_cons pe_str (pa_cons pe_str (pa_cons pe_str (pa_cons pe_str (pa_cons pe_str (pa_cons pe_str (pa_cons pe_str (pa_cons pe_str (pa_cons pe_str pa_nil))))))))))))))))))))
      (pss_cons (ps_set (i := 1) nd rfl (Or.inl rfl) (pe_op L2.op_cat (pv 1) (pe_lst (pa_cons pe_str (pa_cons pe_str (pa_cons pe_str (pa_cons pe_str (pa_cons pe_str (pa_cons pe_str (pa_cons pe_str (pa_cons pe_str (pa_cons pe_str (pa_cons pe_str (pa_cons pe_str pa_nil))))))))))))))
      (pss_cons (ps_set (i := 1) nd rfl (Or.inl rfl) (pe_op L2.op_cat (pv 1) (pe_lst (pa_cons pe_str (pa_cons pe_str (pa_cons pe_str pa_nil))))))
      (pss_one (ps_ret (pe_ix ix_list (pv 1) (pe_call G1 hr rfl g1 k1 b1 .nil pass0 (pa_cons (pv 0) (pa_cons (pe_callB call_len_seq (by rfl) B.len PySem.boot_len (pa_cons (pv 1) pa_nil)) pa_nil))) (fun _ _ => rfl))))))), ?_⟩
    have hs : ∀ n : Nat, n ≤ 100 → n ≤ sizeLine := fun n h => Nat.le_of_lt (line_ok (by omega))
    refine ⟨hs _ (by decide), fun l1 h1 => ?_⟩
    have a1 : upd H l1 (.lst (wdA.map stV)) l1 = some (.lst (wdA.map stV)) := upd_same
    have q1 : PotAt (upd H l1 (.lst (wdA.map stV))) p b := hp.lay h1
    have k1' : Pk p H (upd H l1 (.lst (wdA.map stV))) := Pk.refl.lay h1
    refine ⟨_, rfl, hs _ (by decide), fun l2 h2 => ?_⟩
    have c1 : ∀ {H : Hp} {l1 l2 : Addr} {xs ys : List V}, H l1 = some (.lst xs) → H l2 = none → upd H l2 (.lst ys) l1 = some (.lst xs) := fun e n => by rw [upd_ne (ne_of_none e n)]; exact e
    refine ⟨l1, l2, wdA.map stV, wdB.map stV, rfl, rfl, c1 a1 h2, upd_same, hs _ (by decide), fun l3 h3 => ?_⟩
    refine ⟨_, rfl, hs _ (by decide), fun l4 h4 => ?_⟩
    refine ⟨l3, l4, wdA.map stV ++ wdB.map stV, wdC.map stV, rfl, rfl, c1 upd_same h4, upd_same, hs _ (by decide), fun l5 h5 => ?_⟩
    refine ⟨_, rfl, hs _ (by decide), fun l6 h6 => ?_⟩
    refine ⟨l5, l6, (wdA.map stV ++ wdB.map stV) ++ wdC.map stV, wdD.map stV, rfl, rfl, c1 upd_same h6, upd_same, hs _ (by decide), fun l7 h7 => ?_⟩
    have hx : ((wdA.map stV ++ wdB.map stV) ++ wdC.map stV) ++ wdD.map stV = wdAll.map stV := by
      unfold wdAll
      simp only [List.map_append]
    have K7 := (((((k1'.lay (o := .lst (wdB.map stV)) h2).lay (o := .lst (wdA.map stV ++ wdB.map stV)) h3).lay (o := .lst (wdC.map stV)) h4).lay (o := .lst (wdA.map stV ++ wdB.map stV ++ wdC.map stV)) h5).lay (o := .lst (wdD.map stV)) h6).lay (o := .lst (wdA.map stV ++ wdB.map stV ++ wdC.map stV ++ wdD.map stV)) h7
    have Q7 := (((((q1.lay (o := .lst (wdB.map stV)) h2).lay (o := .lst (wdA.map stV ++ wdB.map stV)) h3).lay (o := .lst (wdC.map stV)) h4).lay (o := .lst (wdA.map stV ++ wdB.map stV ++ wdC.map stV)) h5).lay (o := .lst (wdD.map stV)) h6).lay (o := .lst (wdA.map stV ++ wdB.map stV ++ wdC.map stV ++ wdD.map stV)) h7
    have n7 : l7 ≠ p := by
      have := hp.ne (((((((Same.refl H).lay (o := .lst (wdA.map stV)) h1).lay (o := .lst (wdB.map stV)) h2).lay (o := .lst (wdA.map stV ++ wdB.map stV)) h3).lay (o := .lst (wdC.map stV)) h4).lay (o := .lst (wdA.map stV ++ wdB.map stV ++ wdC.map stV)) h5).lay (o := .lst (wdD.map stV)) h6 |>.free h7)
      exact this.symm
    refine ⟨_, rfl, _, rfl, _, rfl, l7, _, rfl, .inl (SqL.of upd_same), p, b, wdAll.length, ?_, Q7, by omega, by decide, by decide, fun v H8 hv s8 hp8 => ?_⟩
    · rw [hx, List.length_map]; rfl
    · have hl := s8 l7 _ n7 upd_same
      rw [hx] at hl
      obtain ⟨x, hxv⟩ : ∃ x, wdAll[v]? = some x := ⟨_, List.getElem?_eq_getElem hv⟩
      have hok := List.all_eq_true.mp wd_ok x (List.mem_of_getElem? hxv)
      rw [Bool.and_eq_true, decide_eq_true_eq] at hok
      refine ⟨l7, _, _, sV (cod x), rfl, rfl, SqL.of hl, atI_nat ?_, kQ (cod x) H8 (fun c hc => of_decide_eq_true (List.all_eq_true.mp hok.2 c hc)) hok.1 (K7.trans s8) hp8⟩
      rw [List.getElem?_map, hxv]
      show some (V.str (Str.ofString x)) = _
      rw [Str_eq]
      rfl
end
end Rl
end

section
set_option maxRecDepth 100000
set_option maxHeartbeats 4000000
namespace Rl
open PySem L2 SX
/-- all the lines' lengths -/
def sl (ws : List (List Nat)) : Nat := (ws.map (·.length)).sum
theorem sl_app (a b : List (List Nat)) : sl (a ++ b) = sl a + sl b := by unfold sl; rw [List.map_append, List.sum_append]
theorem sl_take_le (a : List (List Nat)) (n : Nat) : sl (a.take n) ≤ sl a := by
  have := sl_app (a.take n) (a.drop n)
  rw [List.take_append_drop] at this
  omega
theorem sl_drop_le (a : List (List Nat)) (n : Nat) : sl (a.drop n) ≤ sl a := by
  have := sl_app (a.take n) (a.drop n)
  rw [List.take_append_drop] at this
  omega
theorem sl_mem : ∀ {a : List (List Nat)} {u : List Nat}, u ∈ a → u.length ≤ sl a
  | x :: a, u, h => by
    unfold sl
    rw [List.map_cons, List.sum_cons]
    rcases List.mem_cons.mp h with e | h
    · rw [e]; omega
    · have := sl_mem h
      unfold sl at this
      omega
theorem sl_set : ∀ (a : List (List Nat)) (i : Nat) (u : List Nat), sl (a.set i u) ≤ sl a + u.length
  | [], i, u => by simp [sl]
  | x :: a, 0, u => by
    unfold sl
    rw [List.set_cons_zero, List.map_cons, List.map_cons, List.sum_cons, List.sum_cons]
    omega
  | x :: a, i + 1, u => by
    have := sl_set a i u
    unfold sl at this ⊢
    rw [List.set_cons_succ, List.map_cons, List.map_cons, List.sum_cons, List.sum_cons]
    omega
/-- lines made of those lines -/
structure LnOk (ws ws' : List (List Nat)) : Prop where
  mem : ∀ u ∈ ws', u ∈ ws ∨ u = []
  sum : sl ws' ≤ 3 * sl ws
  len : ws'.length ≤ 2 * ws.length + 1
theorem cut_none {xs : List V} {p : Nat} : cutV xs (some (p : Int)) none = xs.drop p := by
  unfold cutV
  rw [HT.sIx_nat, HT.sIx_none]
  by_cases h : p ≤ xs.length
  · rw [Nat.min_eq_left h]
    exact List.take_of_length_le (by rw [List.length_drop]; exact Nat.le_refl _)
  · rw [Nat.min_eq_right (by omega), List.drop_of_length_le (by omega), List.drop_of_length_le (by omega), List.take_nil]
theorem cut_to {xs : List V} {p : Nat} : cutV xs none (some (p : Int)) = xs.take p := by
  unfold cutV
  rw [HT.sIx_nat, HT.sIx_none, List.drop_zero, Nat.sub_zero]
  by_cases h : p ≤ xs.length
  · rw [Nat.min_eq_left h]
  · rw [Nat.min_eq_right (by omega), List.take_of_length_le (by omega), List.take_of_length_le (by omega)]
theorem ixN_ok {n j : Nat} (h : j < n) : L2.ixN n (j : Int) = some j := by
  unfold L2.ixN
  rw [if_pos (by omega), if_pos (by omega)]
  rfl
section
variable {P : Program} {w : World} {K : PySem.W.Frag} {mg : Str → Option Value} {base : Heap}
def spLines : Sp := fun vs H Q _ => ∃ (p a : Addr) (b : Nat) (ws : List (List Nat)), vs = [.ref p, .ref a] ∧ PotAt H p b ∧ b ≤ 200000 ∧ H a = some (.lst (sVs ws)) ∧ a ≠ p ∧ ws ≠ [] ∧ ws.length ≤ 200000 ∧
  ∀ q ws' H', LnOk ws ws' → H' q = some (.lst (sVs ws')) → Pk p H H' → PotAt H' p (b + 10) → Q (.ref q) H'
abbrev lnN : List Str := ["_law_pot_here", "_law_lines", "_law_way", "_law_spot", "_law_found", "_law_other"]
theorem scLines : FnScope lnN ["_law_pot_here", "_law_lines"] (defScope tLines) := ⟨rfl, rfl, rfl, by decide +kernel, rfl, by decide +kernel, by decide +kernel⟩
theorem ok_lines {f f1 : Addr} {fd fd1 : FuncData} (F : Fun K "_law_lines_changed" "_law_lines_changed" tLines f fd) (B : Bi mg)
    (G1 : FnOk P w K mg base CX0 1 f1 fd1 ["_law_pot_here", "_law_many"] spDip) (g1 : mg "_law_dip" = some (.ref f1)) (k1 : PySem.W.keepIn K (.ref f1) = true) (b1 : Binds K fd1 ["_law_pot_here", "_law_many"] []) :
    FnOk P w K mg base CX0 2 f fd ["_law_pot_here", "_law_lines"] spLines := by
  refine F.ok scLines (fun vs H Q E h => ?_) (fun cdv A outer s H vs Q E hr h => ?_)
  · obtain ⟨p, a, b, ws, rfl, _⟩ := h
    rfl
  · obtain ⟨p, a, b, ws, rfl, hp, hb, ha, hap, hne, hlw, kQ⟩ := h
    have nd := scLines.nd
    refine ⟨_, pss_cons (ps_par (i := 2) (j := 3) rfl nd rfl rfl (by decide) rfl rfl (pa_cons (pe_call G1 hr rfl g1 k1 b1 .nil pass0 (pa_cons (pv 0) (pa_cons pe_int pa_nil))) (pa_cons (pe_call G1 hr rfl g1 k1 b1 .nil pass0 (pa_cons (pv 0) (pa_cons (pe_callB call_len_seq (by rfl) B.len PySem.boot_len (pa_cons (pv 1) pa_nil)) pa_nil))) pa_nil)) rfl)
      (pss_cons (ps_if (PW.pt (pw_and (pt_cmpR op_eq (pv 2) pe_int (nomark _)) (pw_and1 (pt_cmpR op_gt (pe_callB call_len_seq (by rfl) B.len PySem.boot_len (pa_cons (pv 1) pa_nil)) pe_int (nomark _)))))
        (pss_one (ps_ret (pe_op L2.op_cat (pe_slice sl_list (pv 1) po_none (po_some (pv 3))) (pe_slice sl_list (pv 1) (po_some (pe_op op_add (pv 3) pe_int)) po_none)))) pss_nil)
      (pss_cons (ps_if (pt_cmpR op_eq (pv 2) pe_int (nomark _))
        (pss_one (ps_ret (pe_op L2.op_cat (pe_slice sl_list (pv 1) po_none (po_some (pe_op op_add (pv 3) pe_int))) (pe_slice sl_list (pv 1) (po_some (pv 3)) po_none)))) pss_nil)
      (pss_cons (ps_if (pt_cmpR op_eq (pv 2) pe_int (nomark _))
        (pss_cons (ps_par (i := 4) (j := 5) rfl nd rfl rfl (by decide) rfl rfl (pa_cons (pe_callTy call_list_of (by rfl) B.list (by decide +kernel) (pa_cons (pv 1) pa_nil)) (pa_cons (pe_call G1 hr rfl g1 k1 b1 .nil pass0 (pa_cons (pv 0) (pa_cons (pe_callB call_len_seq (by rfl) B.len PySem.boot_len (pa_cons (pv 1) pa_nil)) pa_nil))) pa_nil)) rfl)
        (pss_cons (ps_asg (pe_tup (pa_cons (pe_ix ix_list (pv 1) (pv 5) (fun _ _ => rfl)) (pa_cons (pe_ix ix_list (pv 1) (pv 3) (fun _ _ => rfl)) pa_nil))) (pg_tup rfl (pgs_cons (pg_sub (pv 4) (pv 3) set_list) (pgs_cons (pg_sub (pv 4) (pv 5) set_list) pgs_nil))))
        (pss_one (ps_ret (pv 4))))) pss_nil)
      (pss_cons (ps_set (i := 3) nd rfl (Or.inl rfl) (pe_call G1 hr rfl g1 k1 b1 .nil pass0 (pa_cons (pv 0) (pa_cons (pe_op op_add (pe_callB call_len_seq (by rfl) B.len PySem.boot_len (pa_cons (pv 1) pa_nil)) pe_int) pa_nil))))
      (pss_one (ps_ret (pe_op L2.op_cat (pe_op L2.op_cat (pe_slice sl_list (pv 1) po_none (po_some (pv 3))) (pe_lst (pa_cons pe_str pa_nil))) (pe_slice sl_list (pv 1) (po_some (pv 3)) po_none)))))))), ?_⟩
    have hln : (sVs ws).length = ws.length := List.length_map ..
    have hz : ∀ n : Nat, n ≤ 1000000 → n ≤ sizeLine := fun n h => Nat.le_of_lt (line_ok (by omega))
    have hw1 : 1 ≤ ws.length := List.length_pos_iff.mpr hne
    refine ⟨_, rfl, p, b, 4, rfl, hp, by omega, by decide, by decide, fun way H1 hway s1 hp1 => ?_⟩
    have ha1 := s1 _ _ hap ha
    refine ⟨_, rfl, _, rfl, _, _, rfl, .inl (SqL.of ha1), p, b + 1, (sVs ws).length, rfl, hp1, by omega, by omega, by omega, fun spot H2 hspot s2 hp2 => ⟨_, _, rfl, ?_⟩⟩
    have ha2 := s2 _ _ hap ha1
    rw [hln] at hspot
    have S2 := s1.trans s2
    have tk : ∀ n, (sVs ws).take n = sVs (ws.take n) := fun n => (List.map_take (f := sV)).symm
    have dr : ∀ n, (sVs ws).drop n = sVs (ws.drop n) := fun n => (List.map_drop (f := sV)).symm
    have tl : ∀ n, (ws.take n).length ≤ ws.length := fun n => by rw [List.length_take]; omega
    have dl : ∀ n, (ws.drop n).length ≤ ws.length := fun n => by rw [List.length_drop]; omega
    dsimp only
    -- a piece from the left, then a piece to the end
    have two : ∀ (i j : Nat) (H3 : Hp), Same H2 H3 → H3 a = some (.lst (sVs ws)) → True := fun _ _ _ _ _ => trivial
    have lk : ∀ i j, LnOk ws (ws.take i ++ ws.drop j) := fun i j =>
      ⟨fun u hu => .inl ((List.mem_append.mp hu).elim List.mem_of_mem_take List.mem_of_mem_drop), by have := sl_take_le ws i; have := sl_drop_le ws j; rw [sl_app]; omega, by have := tl i; have := dl j; rw [List.length_append]; omega⟩
    have fin : ∀ (q : Addr) (ws' : List (List Nat)) (H' : Hp), LnOk ws ws' → H2 q = none → Same H2 H' → H' q = none → Q (.ref q) (upd H' q (.lst (sVs ws'))) := fun q ws' H' l1 n1 s3 n2 =>
      kQ q ws' _ l1 upd_same (S2.trans (Same.pk (s3.lay n2))) ((hp2.same (s3.lay n2)).mono (by omega))
    refine tIfS_any (fun H' => H' = H2) (fun Qt hQ => ?_) (fun H' e => ?_) (fun H' e => ?_)
    · exact ⟨_, rfl, rfl, _, rfl, ite_any ⟨_, rfl, _, _, rfl, .inl (SqL.of ha2), _, _, rfl, rfl, _, rfl, hQ _ _ rfl⟩ (hQ _ _ rfl)⟩
    · subst e
      refine ⟨_, rfl, _, rfl, _, rfl, a, _, rfl, SqL.of ha2, fun q1 n1 => ?_⟩
      have sA := (Same.refl H').lay (o := .lst (cutV (sVs ws) none (some (spot : Int)))) n1
      refine ⟨_, rfl, _, rfl, _, _, rfl, rfl, _, rfl, a, _, rfl, SqL.of (sA _ _ ha2), fun q2 n2 => ?_⟩
      refine ⟨q1, q2, sVs (ws.take spot), sVs (ws.drop (spot + 1)), rfl, rfl, ?_, ?_, ?_, fun q3 n3 => ?_⟩
      · rw [upd_ne (fun e => by rw [← e, upd_same] at n2; cases n2), upd_same, cut_to, tk]
      · rw [upd_same]
        show some (HO.lst (cutV (sVs ws) (some ((spot + 1 : Nat) : Int)) none)) = _
        rw [cut_none, dr]
      · rw [List.length_map, List.length_map]; have := tl spot; have := dl (spot + 1); exact hz _ (by omega)
      · rw [← List.map_append]
        have sB := (sA.lay (o := .lst (cutV (sVs ws) (some ((spot : Int) + 1)) none)) n2)
        exact fin q3 _ _ (lk _ _) (sB.free n3) sB n3
    · subst e
      dsimp only [tNext, tSeq]
      refine tIfS_any (fun H3 => H3 = H') (fun Qt hQ => ⟨_, rfl, rfl, _, rfl, hQ _ _ rfl⟩) (fun H3 e => ?_) (fun H3 e => ?_)
      · subst e
        refine ⟨_, rfl, _, rfl, _, _, rfl, rfl, _, rfl, a, _, rfl, SqL.of ha2, fun q1 n1 => ?_⟩
        have sA := (Same.refl H3).lay (o := .lst (cutV (sVs ws) none (some ((spot : Int) + 1)))) n1
        refine ⟨_, rfl, _, rfl, _, rfl, a, _, rfl, SqL.of (sA _ _ ha2), fun q2 n2 => ?_⟩
        refine ⟨q1, q2, sVs (ws.take (spot + 1)), sVs (ws.drop spot), rfl, rfl, ?_, ?_, ?_, fun q3 n3 => ?_⟩
        · rw [upd_ne (fun e => by rw [← e, upd_same] at n2; cases n2), upd_same]
          show some (HO.lst (cutV (sVs ws) none (some ((spot + 1 : Nat) : Int)))) = _
          rw [cut_to, tk]
        · rw [upd_same, cut_none, dr]
        · rw [List.length_map, List.length_map]; have := tl (spot + 1); have := dl spot; exact hz _ (by omega)
        · rw [← List.map_append]
          have sB := (sA.lay (o := .lst (cutV (sVs ws) (some (spot : Int)) none)) n2)
          exact fin q3 _ _ (lk _ _) (sB.free n3) sB n3
      · subst e
        dsimp only [tNext, tSeq]
        refine tIfS_any (fun H4 => H4 = H3) (fun Qt hQ => ⟨_, rfl, rfl, _, rfl, hQ _ _ rfl⟩) (fun H4 e => ?_) (fun H4 e => ?_)
        · subst e
          refine ⟨_, rfl, a, _, rfl, .inl (SqL.of ha2), fun l nl => ?_⟩
          have npl : p ≠ l := hp2.ne nl
          have sl1 := (Same.refl H4).lay (o := .lst (sVs ws)) nl
          refine ⟨_, rfl, _, rfl, _, _, rfl, .inl (SqL.of (sl1 _ _ ha2)), p, b + 2, (sVs ws).length, rfl, hp2.lay nl, by omega, by omega, by omega, fun oth H5 hoth s5 hp5 => ⟨_, _, rfl, ?_⟩⟩
          rw [hln] at hoth
          have ha5 := s5 _ _ hap (sl1 _ _ ha2)
          have hl5 := s5 l _ npl.symm upd_same
          have go : ∀ {i : Nat}, i < ws.length → ∃ u, (sVs ws)[i]? = some (sV u) ∧ u ∈ ws := fun {i} hi => ⟨ws[i], by rw [List.getElem?_map, List.getElem?_eq_getElem hi]; rfl, List.getElem_mem hi⟩
          obtain ⟨u, hu, hum⟩ := go hoth
          obtain ⟨v, hv, hvm⟩ := go hspot
          refine ⟨_, rfl, _, rfl, a, _, _, sV u, rfl, rfl, SqL.of ha5, atI_nat hu, _, rfl, _, rfl, a, _, _, sV v, rfl, rfl, SqL.of ha5, atI_nat hv, by show 2 ≤ sizeLine; decide, fun t ht => ?_⟩
          refine ⟨t, _, rfl, SqT.of upd_same, rfl, ?_⟩
          have hl6 : upd H5 t (.tup [sV u, sV v]) l = some (.lst (sVs ws)) := by rw [upd_ne (ne_of_none hl5 ht)]; exact hl5
          have hi1 : L2.ixN (sVs ws).length (spot : Int) = some spot := ixN_ok (by rw [hln]; exact hspot)
          have hi2 : L2.ixN ((sVs ws).set spot (sV u)).length (oth : Int) = some oth := ixN_ok (by rw [List.length_set, hln]; exact hoth)
          refine ⟨_, _, rfl, _, rfl, _, rfl, l, sVs ws, _, spot, rfl, rfl, hl6, hi1, _, _, rfl, _, rfl, _, rfl, l, (sVs ws).set spot (sV u), _, oth, rfl, rfl, upd_same, hi2, rfl, ?_⟩
          have hset : ((sVs ws).set spot (sV u)).set oth (sV v) = sVs ((ws.set spot u).set oth v) := by
            rw [← List.map_set, ← List.map_set]
          refine ⟨_, rfl, kQ l ((ws.set spot u).set oth v) _ ⟨fun x hx => ?_, ?_, ?_⟩ (by rw [upd_same, hset]) ?_ ?_⟩
          · rcases List.mem_or_eq_of_mem_set hx with hx | e
            · rcases List.mem_or_eq_of_mem_set hx with hx | e
              · exact .inl hx
              · rw [e]; exact .inl hum
            · rw [e]; exact .inl hvm
          · have := sl_set (ws.set spot u) oth v
            have := sl_set ws spot u
            have := sl_mem hum
            have := sl_mem hvm
            omega
          · rw [List.length_set, List.length_set]; omega
          · have hl0 : H l = none := by
              cases q : H l with
              | none => rfl
              | some o => rw [S2 l o npl.symm q] at nl; cases nl
            exact (((S2.trans (Same.pk sl1)).trans s5).lay ht).put hl0 |>.put hl0
          · exact (((hp5.lay ht).upd npl).upd npl).mono (by omega)
        · subst e
          dsimp only [tNext, tSeq]
          refine ⟨_, rfl, _, rfl, _, _, rfl, .inl (SqL.of ha2), _, _, rfl, rfl, p, b + 2, (sVs ws).length + 1, rfl, hp2, by omega, by omega, by omega, fun sp2 H5 hsp2 s5 hp5 => ?_⟩
          have ha5 := s5 _ _ hap ha2
          refine ⟨_, rfl, _, rfl, _, rfl, a, _, rfl, SqL.of ha5, fun q1 n1 => ?_⟩
          have sA := (Same.refl H5).lay (o := .lst (cutV (sVs ws) none (some (sp2 : Int)))) n1
          refine ⟨by show 1 ≤ sizeLine; decide, fun q2 n2 => ?_⟩
          have sB := sA.lay (o := .lst [V.str ""]) n2
          refine ⟨q1, q2, sVs (ws.take sp2), sVs [[]], rfl, rfl, ?_, upd_same, ?_, fun q3 n3 => ?_⟩
          · rw [upd_ne (fun e => by rw [← e, upd_same] at n2; cases n2), upd_same, cut_to, tk]
          · rw [List.length_map, List.length_map]; have := tl sp2; exact hz _ (by simp; omega)
          · rw [← List.map_append]
            have sC := sB.lay (o := .lst ((ws.take sp2 ++ [[]]).map sV)) n3
            refine ⟨_, rfl, _, rfl, _, rfl, a, _, rfl, SqL.of (sC _ _ ha5), fun q4 n4 => ?_⟩
            have sD := sC.lay (o := .lst (cutV (sVs ws) (some (sp2 : Int)) none)) n4
            refine ⟨q3, q4, sVs (ws.take sp2 ++ [[]]), sVs (ws.drop sp2), rfl, rfl, ?_, ?_, ?_, fun q5 n5 => ?_⟩
            · rw [upd_ne (fun e => by rw [← e, upd_same] at n4; cases n4), upd_same]
            · rw [upd_same, cut_none, dr]
            · rw [List.length_map, List.length_map, List.length_append]; have := tl sp2; have := dl sp2; exact hz _ (by simp; omega)
            · rw [← List.map_append]
              refine kQ q5 (ws.take sp2 ++ [[]] ++ ws.drop sp2) _ ⟨fun x hx => ?_, ?_, ?_⟩ upd_same ((S2.trans s5).trans (Same.pk (sD.lay n5))) ((hp5.same (sD.lay n5)).mono (by omega))
              · rcases List.mem_append.mp hx with hx | hx
                · rcases List.mem_append.mp hx with hx | hx
                  · exact .inl (List.mem_of_mem_take hx)
                  · exact .inr (List.mem_singleton.mp hx)
                · exact .inl (List.mem_of_mem_drop hx)
              · rw [sl_app, sl_app]
                have e0 : sl [[]] = 0 := rfl
                have := sl_take_le ws sp2
                have := sl_drop_le ws sp2
                omega
              · simp only [List.length_append, List.length_take, List.length_drop, List.length_cons, List.length_nil]
                omega
end
end Rl
end

section
set_option maxRecDepth 100000
set_option maxHeartbeats 4000000
namespace Rl
open PySem L2 SX
theorem joinL_len {s : Nat} : ∀ {ws : List (List Nat)}, ws ≠ [] → (TL.joinL [s] ws).length + 1 = sl ws + ws.length
  | [], h => absurd rfl h
  | [w], _ => by simp [TL.joinL, sl]
  | w :: v :: ws, _ => by
    have ih := joinL_len (s := s) (ws := v :: ws) (by simp)
    rw [joinL_cons (by simp), List.length_append, List.length_append, List.length_singleton]
    have e : sl (w :: v :: ws) = w.length + sl (v :: ws) := by unfold sl; rw [List.map_cons, List.sum_cons]
    rw [e, List.length_cons (a := w)]
    omega
theorem joinL_le {s : Nat} {ws : List (List Nat)} : (TL.joinL [s] ws).length ≤ sl ws + ws.length := by
  by_cases h : ws = []
  · subst h; simp [TL.joinL]
  · have := joinL_len (s := s) h
    omega
theorem wd_len (s : Nat) (p : List Nat) : sl (wd s p) + (wd s p).length = p.length + 1 := by
  rw [← joinL_len (s := s) (wd_ne s p), wd_join]
theorem cutS_mid2 {p : List Nat} {j k : Nat} (h : j ≤ k) : cutS (S p) (some (j : Int)) (some (k : Int)) = S ((p.drop j).take (k - j)) := cutS_mid h
section
variable {P : Program} {w : World} {K : PySem.W.Frag} {mg : Str → Option Value} {base : Heap}
def spChangd : Sp := fun vs H Q _ => ∃ (p : Addr) (b B : Nat) (pg : List Nat), vs = [.ref p, sV pg] ∧ PotAt H p b ∧ b ≤ 190000 ∧ Pg B pg ∧ pg.length ≤ 60000 ∧
  ∀ pg' H', Pg (2 * B + 24) pg' → pg'.length ≤ 3 * pg.length + 60 → Pk p H H' → PotAt H' p (b + 50) → Q (sV pg') H'
abbrev chN : List Str := ["_law_pot_here", "_law_page", "_law_way", "_law_spot", "_law_two", "_law_lines", "_law_at", "_law_words_here"]
theorem scChangd : FnScope chN ["_law_pot_here", "_law_page"] (defScope tChangd) := ⟨rfl, rfl, rfl, by decide +kernel, rfl, by decide +kernel, by decide +kernel⟩
theorem ok_changd {f f1 f2 f3 f4 : Addr} {fd fd1 fd2 fd3 fd4 : FuncData} (F : Fun K "_law_changed" "_law_changed" tChangd f fd) (B : Bi mg)
    (G1 : FnOk P w K mg base CX0 1 f1 fd1 ["_law_pot_here", "_law_many"] spDip) (g1 : mg "_law_dip" = some (.ref f1)) (k1 : PySem.W.keepIn K (.ref f1) = true) (b1 : Binds K fd1 ["_law_pot_here", "_law_many"] [])
    (G2 : FnOk P w K mg base CX0 2 f2 fd2 ["_law_pot_here"] spSign) (g2 : mg "_law_sign" = some (.ref f2)) (k2 : PySem.W.keepIn K (.ref f2) = true) (b2 : Binds K fd2 ["_law_pot_here"] [])
    (G3 : FnOk P w K mg base CX0 2 f3 fd3 ["_law_pot_here"] spWord) (g3 : mg "_law_word" = some (.ref f3)) (k3 : PySem.W.keepIn K (.ref f3) = true) (b3 : Binds K fd3 ["_law_pot_here"] [])
    (G4 : FnOk P w K mg base CX0 2 f4 fd4 ["_law_pot_here", "_law_lines"] spLines) (g4 : mg "_law_lines_changed" = some (.ref f4)) (k4 : PySem.W.keepIn K (.ref f4) = true) (b4 : Binds K fd4 ["_law_pot_here", "_law_lines"] []) :
    FnOk P w K mg base CX0 3 f fd ["_law_pot_here", "_law_page"] spChangd := by
  refine F.ok scChangd (fun vs H Q E h => ?_) (fun cdv A outer s H vs Q E hr h => ?_)
  · obtain ⟨p, b, B, pg, rfl, _⟩ := h
    rfl
  · obtain ⟨p, b, Bd, pg, rfl, hp, hb, hpg, hl, kQ⟩ := h
    have nd := scChangd.nd
    have hr1 : Room 1 _ := hr.mono (by decide)
    refine ⟨_, pss_cons (ps_par (i := 2) (j := 3) rfl nd rfl rfl (by decide) rfl rfl (pa_cons (pe_call G1 hr1 rfl g1 k1 b1 .nil pass0 (pa_cons (pv 0) (pa_cons pe_int pa_nil))) (pa_cons (pe_call G1 hr1 rfl g1 k1 b1 .nil pass0 (pa_cons (pv 0) (pa_cons (pe_op op_add (pe_callB call_len_str (by rfl) B.len PySem.boot_len (pa_cons (pv 1) pa_nil)) pe_int) pa_nil))) pa_nil)) rfl)
      (pss_cons (ps_if (pt_cmpR op_eq (pv 2) pe_int (nomark _)) (pss_one (ps_ret (pe_op op_cat (pe_slice sl_str (pv 1) po_none (po_some (pv 3))) (pe_slice sl_str (pv 1) (po_some (pe_op op_add (pv 3) pe_int)) po_none)))) pss_nil)
      (pss_cons (ps_if (pt_cmpR op_eq (pv 2) pe_int (nomark _)) (pss_one (ps_ret (pe_op op_cat (pe_op op_cat (pe_slice sl_str (pv 1) po_none (po_some (pv 3))) (pe_call G2 hr rfl g2 k2 b2 .nil pass0 (pa_cons (pv 0) pa_nil))) (pe_slice sl_str (pv 1) (po_some (pv 3)) po_none)))) pss_nil)
      (pss_cons (ps_if (pt_cmpR op_eq (pv 2) pe_int (nomark _)) (pss_one (ps_ret (pe_op op_cat (pe_op op_cat (pe_slice sl_str (pv 1) po_none (po_some (pv 3))) (pe_call G2 hr rfl g2 k2 b2 .nil pass0 (pa_cons (pv 0) pa_nil))) (pe_slice sl_str (pv 1) (po_some (pe_op op_add (pv 3) pe_int)) po_none)))) pss_nil)
      (pss_cons (ps_if (pt_cmpR op_eq (pv 2) pe_int (nomark _))
        (pss_cons (ps_set (i := 4) nd rfl (Or.inl rfl) (pe_slice sl_str (pv 1) (po_some (pv 3)) (po_some (pe_op op_add (pv 3) pe_int))))
        (pss_one (ps_ret (pe_op op_cat (pe_op op_cat (pe_op op_cat (pe_slice sl_str (pv 1) po_none (po_some (pv 3))) (pe_slice sl_str (pv 4) (po_some pe_int) po_none)) (pe_slice sl_str (pv 4) po_none (po_some pe_int))) (pe_slice sl_str (pv 1) (po_some (pe_op op_add (pv 3) pe_int)) po_none))))) pss_nil)
      (pss_cons (ps_if (pt_cmpR op_eq (pv 2) pe_int (nomark _)) (pss_one (ps_ret (pe_op op_cat (pe_op op_cat (pe_slice sl_str (pv 1) po_none (po_some (pv 3))) pe_str) (pe_slice sl_str (pv 1) (po_some (pv 3)) po_none)))) pss_nil)
      (pss_cons (ps_set (i := 5) nd rfl (Or.inl rfl) (pe_split (pv 1) pe_str))
      (pss_cons (ps_if (pt_cmpR op_eq (pv 2) pe_int (nomark _)) (pss_one (ps_ret (pe_join pe_str (pe_call G4 hr rfl g4 k4 b4 .nil pass0 (pa_cons (pv 0) (pa_cons (pv 5) pa_nil)))))) pss_nil)
      (pss_cons (ps_set (i := 6) nd rfl (Or.inl rfl) (pe_call G1 hr1 rfl g1 k1 b1 .nil pass0 (pa_cons (pv 0) (pa_cons (pe_callB call_len_seq (by rfl) B.len PySem.boot_len (pa_cons (pv 5) pa_nil)) pa_nil))))
      (pss_cons (ps_set (i := 7) nd rfl (Or.inl rfl) (pe_split (pe_ix ix_list (pv 5) (pv 6) (fun _ _ => rfl)) pe_str))
      (pss_cons (ps_set (i := 3) nd rfl (Or.inl rfl) (pe_call G1 hr1 rfl g1 k1 b1 .nil pass0 (pa_cons (pv 0) (pa_cons (pe_callB call_len_seq (by rfl) B.len PySem.boot_len (pa_cons (pv 7) pa_nil)) pa_nil))))
      (pss_cons (ps_asg (pe_call G3 hr rfl g3 k3 b3 .nil pass0 (pa_cons (pv 0) pa_nil)) (pg_sub (pv 7) (pv 3) set_list))
      (pss_cons (ps_asg (pe_join pe_str (pv 7)) (pg_sub (pv 5) (pv 6) set_list))
      (pss_one (ps_ret (pe_join pe_str (pv 5)))))))))))))))), ?_⟩
    have hzS : (S pg).length ≤ sizeLine := Nat.le_of_lt (line_ok (by rw [S_len]; omega))
    refine ⟨_, rfl, p, b, 8, rfl, hp, by omega, by decide, by decide, fun way H1 _ s1 hp1 => ?_⟩
    refine ⟨_, rfl, _, rfl, _, rfl, hzS, _, _, rfl, rfl, p, b + 1, (S pg).length + 1, rfl, hp1, by omega, by omega, by rw [S_len]; omega, fun spot H2 hspot s2 hp2 => ⟨_, _, rfl, ?_⟩⟩
    rw [S_len] at hspot
    have S2 := s1.trans s2
    have tl : (pg.take spot).length ≤ pg.length := by rw [List.length_take]; omega
    have dl : ∀ n, (pg.drop n).length ≤ pg.length := fun n => by rw [List.length_drop]; omega
    have eT : V.str (cutS (S pg) none (some (spot : Int))) = sV (pg.take spot) := congrArg V.str cutS_to
    have eD : ∀ n : Nat, V.str (cutS (S pg) (some (n : Int)) none) = sV (pg.drop n) := fun n => congrArg V.str cutS_from
    have fin : ∀ pg' H', Pk p H2 H' → PotAt H' p (b + 50) → Pg (2 * Bd + 24) pg' → pg'.length ≤ 3 * pg.length + 60 → Q (sV pg') H' := fun pg' H' a1 a2 a3 a4 => kQ pg' H' a3 a4 (S2.trans a1) a2
    dsimp only
    refine tIfS_any (fun H' => H' = H2) (fun Qt hQ => ⟨_, rfl, rfl, _, rfl, hQ _ _ rfl⟩) (fun H' e => ?_) (fun H' e => ?_)
    · subst e
      refine ⟨_, rfl, _, rfl, _, rfl, _, rfl, hzS, _, rfl, _, rfl, _, _, rfl, rfl, _, rfl, _, rfl, hzS, pg.take spot, pg.drop (spot + 1), eT, eD (spot + 1), by have := dl (spot + 1); omega, ?_⟩
      exact fin _ _ Pk.refl (hp2.mono (by omega)) (((hpg.take spot).app (hpg.drop (spot + 1))).mono (by omega)) (by have := dl (spot + 1); rw [List.length_append]; omega)
    subst e
    dsimp only [tNext, tSeq]
    have one : ∀ {c : Nat}, c < 128 → Pg 1 [c] := fun hc => Pg.len (x := [_]) fun x hx => by rw [List.mem_singleton.mp hx]; exact hc
    refine tIfS_any (fun H3 => H3 = H') (fun Qt hQ => ⟨_, rfl, rfl, _, rfl, hQ _ _ rfl⟩) (fun H3 e => ?_) (fun H3 e => ?_)
    · subst e
      refine ⟨_, rfl, _, rfl, _, rfl, _, rfl, hzS, _, rfl, p, b + 2, rfl, hp2, by omega, fun c H4 hc s4 hp4 => ?_⟩
      refine ⟨pg.take spot, [c], eT, rfl, by simp; omega, _, rfl, _, rfl, _, rfl, _, rfl, hzS, pg.take spot ++ [c], pg.drop spot, rfl, eD spot, by have := dl spot; rw [List.length_append]; simp; omega, ?_⟩
      exact fin _ _ s4 (hp4.mono (by omega)) ((((hpg.take spot).app (one hc)).app (hpg.drop spot)).mono (by omega)) (by have := dl spot; simp only [List.length_append, List.length_singleton]; omega)
    subst e
    dsimp only [tNext, tSeq]
    refine tIfS_any (fun H4 => H4 = H3) (fun Qt hQ => ⟨_, rfl, rfl, _, rfl, hQ _ _ rfl⟩) (fun H4 e => ?_) (fun H4 e => ?_)
    · subst e
      refine ⟨_, rfl, _, rfl, _, rfl, _, rfl, hzS, _, rfl, p, b + 2, rfl, hp2, by omega, fun c H5 hc s4 hp4 => ?_⟩
      refine ⟨pg.take spot, [c], eT, rfl, by simp; omega, _, rfl, _, rfl, _, _, rfl, rfl, _, rfl, _, rfl, hzS, pg.take spot ++ [c], pg.drop (spot + 1), rfl, eD (spot + 1), by have := dl (spot + 1); rw [List.length_append]; simp; omega, ?_⟩
      exact fin _ _ s4 (hp4.mono (by omega)) ((((hpg.take spot).app (one hc)).app (hpg.drop (spot + 1))).mono (by omega)) (by have := dl (spot + 1); simp only [List.length_append, List.length_singleton]; omega)
    subst e
    dsimp only [tNext, tSeq]
    refine tIfS_any (fun H5 => H5 = H4) (fun Qt hQ => ⟨_, rfl, rfl, _, rfl, hQ _ _ rfl⟩) (fun H5 e => ?_) (fun H5 e => ?_)
    · subst e
      have e2 : V.str (cutS (S pg) (some (spot : Int)) (some ((spot : Int) + 2))) = sV ((pg.drop spot).take 2) := by
        have := cutS_mid (p := pg) (j := spot) (k := spot + 2) (by omega)
        rw [show spot + 2 - spot = 2 by omega] at this
        exact congrArg V.str this
      refine ⟨_, rfl, _, rfl, _, rfl, _, rfl, _, _, rfl, rfl, _, rfl, _, rfl, hzS, ?_⟩
      dsimp only
      rw [e2]
      have htw : ((pg.drop spot).take 2).length ≤ 2 := by rw [List.length_take]; omega
      have pgt : Pg Bd ((pg.drop spot).take 2) := (hpg.drop spot).take 2
      generalize (pg.drop spot).take 2 = tw at *
      have hzt : (S tw).length ≤ sizeLine := Nat.le_of_lt (line_ok (by rw [S_len]; omega))
      have l1 : (tw.drop 1).length ≤ 1 := by rw [List.length_drop]; omega
      have l2 : (tw.take 1).length ≤ 1 := by rw [List.length_take]; omega
      refine ⟨_, rfl, _, rfl, _, rfl, _, rfl, hzS, _, rfl, _, rfl, _, rfl, hzt, pg.take spot, tw.drop 1, eT, congrArg V.str (cutS_from (k := 1)), by omega, ?_⟩
      refine ⟨_, rfl, _, rfl, _, rfl, hzt, pg.take spot ++ tw.drop 1, tw.take 1, rfl, congrArg V.str (cutS_to (k := 1)), by rw [List.length_append]; omega, ?_⟩
      refine ⟨_, rfl, _, rfl, _, _, rfl, rfl, _, rfl, _, rfl, hzS, pg.take spot ++ tw.drop 1 ++ tw.take 1, pg.drop (spot + 2), rfl, eD (spot + 2), by have := dl (spot + 2); simp only [List.length_append]; omega, ?_⟩
      have q1 : Pg 1 (tw.drop 1) := (Pg.len (pgt.drop 1).asc).mono l1
      have q2 : Pg 1 (tw.take 1) := (Pg.len (pgt.take 1).asc).mono l2
      exact fin _ _ Pk.refl (hp2.mono (by omega)) (((((hpg.take spot).app q1).app q2).app (hpg.drop (spot + 2))).mono (by omega)) (by have := dl (spot + 2); simp only [List.length_append]; omega)
    subst e
    dsimp only [tNext, tSeq]
    refine tIfS_any (fun H6 => H6 = H5) (fun Qt hQ => ⟨_, rfl, rfl, _, rfl, hQ _ _ rfl⟩) (fun H6 e => ?_) (fun H6 e => ?_)
    · subst e
      refine ⟨_, rfl, _, rfl, _, rfl, _, rfl, hzS, pg.take spot, [32], eT, rfl, by simp; omega, _, rfl, _, rfl, _, rfl, _, rfl, hzS, pg.take spot ++ [32], pg.drop spot, rfl, eD spot, by have := dl spot; rw [List.length_append]; simp; omega, ?_⟩
      exact fin _ _ Pk.refl (hp2.mono (by omega)) ((((hpg.take spot).app (one (by decide))).app (hpg.drop spot)).mono (by omega)) (by have := dl spot; simp only [List.length_append, List.length_singleton]; omega)
    subst e
    dsimp only [tNext, tSeq]
    have hz2 : (S pg).length + 2 ≤ sizeLine := Nat.le_of_lt (line_ok (by rw [S_len]; omega))
    refine ⟨_, rfl, ⟨_, rfl⟩, S pg, S [10], rfl, rfl, rfl, hz2, fun q hq => ?_⟩
    rw [split_wd (by decide)]
    have hwl := wd_len 10 pg
    have hwp := hpg.words 10
    have hwn : wd 10 pg ≠ [] := wd_ne 10 pg
    have npq : p ≠ q := hp2.ne hq
    generalize wd 10 pg = ls at *
    have hq7 : upd H6 q (.lst (sVs ls)) q = some (.lst (sVs ls)) := upd_same
    have s7 : Pk p H6 (upd H6 q (.lst (sVs ls))) := Pk.refl.lay hq
    have hp7 := hp2.lay (o := .lst (sVs ls)) hq
    have nq6 : H6 q = none := hq
    generalize upd H6 q (.lst (sVs ls)) = H7 at *
    have big : (2 * Bd + 24) = (2 * Bd + 24) := rfl
    -- joined again
    have fits : ∀ ws : List (List Nat), ∀ c : Nat, sl ws + ws.length ≤ 1000000 → ((ws.map S).map (·.length)).sum + (ws.map S).length * (S [c]).length ≤ 16777216 := fun ws c h => by
      rw [lens, List.length_map, S_len]
      unfold sl at h
      simp only [List.length_singleton]
      omega
    have asStr : ∀ ws : List (List Nat), sVs ws = (ws.map S).map V.str := fun ws => by rw [List.map_map]; rfl
    dsimp only
    refine tIfS_any (fun H8 => H8 = H7) (fun Qt hQ => ⟨_, rfl, rfl, _, rfl, hQ _ _ rfl⟩) (fun H8 e => ?_) (fun H8 e => ?_)
    · subst e
      refine ⟨⟨_, rfl⟩, _, rfl, _, rfl, p, q, b + 2, ls, rfl, hp7, by omega, hq7, npq.symm, hwn, by omega, fun r ls' H9 lk hr9 s9 hp9 => ?_⟩
      have hs1 := lk.sum
      have hs2 := lk.len
      refine ⟨S [10], r, ls'.map S, rfl, rfl, .inl (SqL.of (by rw [← asStr]; exact hr9)), fits ls' 10 (by omega), ?_⟩
      rw [join_S]
      refine fin _ _ (s7.trans s9) (hp9.mono (by omega)) (Pg.joined (by decide) (by decide) fun u hu => ?_) ?_
      · rcases lk.mem u hu with h | h
        · exact (hwp u h).mono (by omega)
        · rw [h]; exact Pg.nil
      · have := joinL_le (s := 10) (ws := ls')
        omega
    subst e
    dsimp only [tNext, tSeq]
    have hls : (sVs ls).length = ls.length := List.length_map ..
    have hl1 : 1 ≤ ls.length := List.length_pos_iff.mpr hwn
    refine ⟨_, rfl, _, rfl, _, _, rfl, .inl (SqL.of hq7), p, b + 2, (sVs ls).length, rfl, hp7, by omega, by omega, by omega, fun at' H9 hat s9 hp9 => ?_⟩
    rw [hls] at hat
    have hq9 := s9 _ _ npq.symm hq7
    obtain ⟨u, hu⟩ : ∃ u, ls[at']? = some u := ⟨_, List.getElem?_eq_getElem hat⟩
    have hum := List.mem_of_getElem? hu
    have hul := sl_mem hum
    have hxu : (sVs ls)[at']? = some (sV u) := by rw [List.getElem?_map, hu]; rfl
    have hzu : (S u).length + 2 ≤ sizeLine := Nat.le_of_lt (line_ok (by rw [S_len]; omega))
    refine ⟨_, rfl, _, rfl, q, _, _, sV u, rfl, rfl, SqL.of hq9, atI_nat hxu, ⟨_, rfl⟩, S u, S [32], rfl, rfl, rfl, hzu, fun r hr9 => ?_⟩
    rw [split_wd (by decide)]
    have hvl := wd_len 32 u
    have hvp := (hwp u hum).words 32
    have hvn : wd 32 u ≠ [] := wd_ne 32 u
    have npr : p ≠ r := hp9.ne hr9
    have nqr : q ≠ r := ne_of_none hq9 hr9
    generalize wd 32 u = vs at *
    have hvs : (sVs vs).length = vs.length := List.length_map ..
    have hv1 : 1 ≤ vs.length := List.length_pos_iff.mpr hvn
    have sA : Pk p H8 (upd H9 r (.lst (sVs vs))) := s9.lay hr9
    refine ⟨_, rfl, _, rfl, _, _, rfl, .inl (SqL.of upd_same), p, b + 3, (sVs vs).length, rfl, hp9.lay hr9, by omega, by omega, by omega, fun sp H10 hsp s10 hp10 => ?_⟩
    rw [hvs] at hsp
    have hr10 := s10 _ _ npr.symm upd_same
    have hq10 := s10 q _ npq.symm (by rw [upd_ne nqr]; exact hq9)
    refine ⟨_, rfl, p, b + 4, rfl, hp10, by omega, fun nw H11 hnw hnl s11 hp11 => ?_⟩
    have hr11 := s11 _ _ npr.symm hr10
    have hq11 := s11 _ _ npq.symm hq10
    refine ⟨_, rfl, _, rfl, r, sVs vs, _, sp, rfl, rfl, hr11, ixN_ok (by rw [hvs]; exact hsp), ?_⟩
    have eset : (sVs vs).set sp (sV nw) = sVs (vs.set sp nw) := (List.map_set (f := sV)).symm
    rw [eset]
    have hsv := sl_set vs sp nw
    have hlv : (vs.set sp nw).length = vs.length := List.length_set
    refine ⟨⟨_, rfl⟩, _, rfl, S [32], r, (vs.set sp nw).map S, rfl, rfl, .inl (SqL.of (by rw [← asStr]; exact upd_same)), fits _ 32 (by omega), ?_⟩
    rw [join_S]
    have pgv : ∀ x ∈ vs.set sp nw, Pg (2 * Bd + 24) x := fun x hx => by
      rcases List.mem_or_eq_of_mem_set hx with hx | e
      · exact (hvp x hx).mono (by omega)
      · rw [e]; exact (Pg.len hnw).mono (by omega)
    have pgl : Pg (2 * Bd + 24) (TL.joinL [32] (vs.set sp nw)) := Pg.joined (by decide) (by decide) pgv
    have lnl := joinL_le (s := 32) (ws := vs.set sp nw)
    generalize TL.joinL [32] (vs.set sp nw) = line at *
    refine ⟨_, rfl, _, rfl, q, sVs ls, _, at', rfl, rfl, by rw [upd_ne nqr]; exact hq11, ixN_ok (by rw [hls]; exact hat), ?_⟩
    have eset2 : (sVs ls).set at' (sV line) = sVs (ls.set at' line) := (List.map_set (f := sV)).symm
    have hsl := sl_set ls at' line
    have hll : (ls.set at' line).length = ls.length := List.length_set
    refine ⟨⟨_, rfl⟩, _, rfl, S [10], q, (ls.set at' line).map S, rfl, rfl, .inl (SqL.of (by rw [← asStr, ← eset2]; exact upd_same)), fits _ 10 (by omega), ?_⟩
    rw [join_S]
    have hlj := joinL_le (s := 10) (ws := ls.set at' line)
    have nr7 : H8 r = none := by
      cases z : H8 r with
      | none => rfl
      | some o => rw [s9 r o npr.symm z] at hr9; cases hr9
    have nr6 : H6 r = none := by
      cases z : H6 r with
      | none => rfl
      | some o => rw [s7 r o npr.symm z] at nr7; cases nr7
    refine fin _ _ ((((s7.trans sA).trans s10).trans s11).put nr6 |>.put nq6) (((hp11.upd npr).upd npq).mono (by omega)) (Pg.joined (by decide) (by decide) fun x hx => ?_) (by omega)
    rcases List.mem_or_eq_of_mem_set hx with hx | e
    · exact (hwp x hx).mono (by omega)
    · rw [e]; exact pgl
end
end Rl
end

section
set_option maxRecDepth 100000
set_option maxHeartbeats 4000000
namespace Rl
open PySem L2 SX
open PySem.W (Datum) in
instance : Datum (Option (List Nat)) where
  toD o := match o with
    | none => .none
    | some l => Datum.toD l
  plain o := by
    cases o with
    | none => rfl
    | some l => exact Datum.plain l
  eqv a b := by
    cases a with
    | none =>
      cases b with
      | none => rfl
      | some l => rfl
    | some k =>
      cases b with
      | none => rfl
      | some l =>
        show PyData.eqv (Datum.toD k) (Datum.toD l) = _
        rw [Datum.eqv]
        refine decide_eq_decide.mpr ?_
        simp
  depth := Datum.depth (List Nat)
  depth_le o := by
    cases o with
    | none => exact Nat.zero_le _
    | some l => exact Datum.depth_le l
theorem dp_OL {K : PySem.W.Frag} {H : Hp} {v : V} {o : Option (List Nat)} (h : OL H v o) : Dp K H v (PySem.W.Datum.toD o) := by
  cases o with
  | none =>
    cases h
    exact .non
  | some ns =>
    obtain ⟨q, rfl, hq⟩ := h
    exact dp_ivs (SqL.of hq)
theorem map_S_inj : ∀ {a b : List (List Nat)}, a.map S = b.map S → a = b
  | [], [], _ => rfl
  | [], _ :: _, h => by cases h
  | _ :: _, [], h => by cases h
  | x :: a, y :: b, h => by
    rw [List.map_cons, List.map_cons] at h
    injection h with h1 h2
    rw [S_inj h1, map_S_inj h2]
theorem fin_none {m : Nat} {c1 ch : Option (List Nat)} {rest : List (List Nat)} (h : ¬ (1 ≤ m ∧ m ≤ 720) ∨ c1 = none ∨ ch = none) : fin m c1 ch rest = none := by
  unfold fin
  cases c1 with
  | none => rfl
  | some c =>
    cases ch with
    | none => rfl
    | some e =>
      dsimp only
      rw [if_pos]
      rcases h with h | h | h
      · exact h
      · cases h
      · cases h
/-- the triple of a set, at t -/
def Tri (H : Hp) (t : Addr) (m : Nat) (cs chs : List Nat) : Prop := ∃ a c, H t = some (.tup [iv m, .ref a, .ref c]) ∧ H a = some (.tup (ivs cs)) ∧ H c = some (.tup (ivs chs))
theorem Tri.same {H H' : Hp} {t : Addr} {m : Nat} {cs chs : List Nat} (h : Tri H t m cs chs) (s : Same H H') : Tri H' t m cs chs := by
  obtain ⟨a, c, h1, h2, h3⟩ := h
  exact ⟨a, c, s _ _ h1, s _ _ h2, s _ _ h3⟩
def Ans (H : Hp) (v : V) (o : Option T3) : Prop := match o with
  | none => v = .non
  | some t3 => ∃ t, v = .ref t ∧ Tri H t t3.1 t3.2.1 t3.2.2
theorem Ans.same {H H' : Hp} {v : V} {o : Option T3} (h : Ans H v o) (s : Same H H') : Ans H' v o := by
  cases o with
  | none => exact h
  | some t3 =>
    obtain ⟨t, h1, h2⟩ := h
    exact ⟨t, h1, h2.same s⟩
theorem count_S (z : List Nat) : ∀ ps : List (List Nat), (ps.map S).count (S z) = ps.count z
  | [] => rfl
  | x :: ps => by
    rw [List.map_cons, List.count_cons, List.count_cons, count_S z ps, S_beq]
theorem idx_S (z : List Nat) : ∀ ps : List (List Nat), (ps.map S).idxOf (S z) = ps.idxOf z
  | [] => rfl
  | x :: ps => by
    rw [List.map_cons, List.idxOf_cons, List.idxOf_cons, idx_S z ps, S_beq]
theorem sorted_len {m : Nat} {cs : List Nat} (h : cs.Pairwise (· < ·)) (hl : ∀ c ∈ cs, c < m) : cs.length ≤ m := by
  have e : cls cs m = cs := sorted_ext (cls_sorted _ _) h fun x => by
    rw [mem_cls]
    exact ⟨fun h => h.2, fun h => ⟨hl x h, h⟩⟩
  rw [← e]
  exact cls_len _ _
section
variable {P : Program} {w : World} {K : PySem.W.Frag} {mg : Str → Option Value} {base : Heap}
def spLawRead : Sp := fun vs H Q _ => ∃ (pg : List Nat) (b : Nat), vs = [sV pg] ∧ Pg b pg ∧ b ≤ 500 ∧ pg.length ≤ 90000 ∧
  ∀ v H', Same H H' → Ans H' v (lawRead pg) → Q v H'
abbrev lrN : List Str := ["_law_page", "_law_parts", "_law_at", "_law_modulus", "_law_rest", "_law_classes", "_law_changed_here", "_law_one"]
theorem scLawRead : FnScope lrN ["_law_page"] (defScope tLawRead) := ⟨rfl, rfl, rfl, by decide +kernel, rfl, by decide +kernel, by decide +kernel⟩
theorem ok_lawRead {f f1 f2 f3 : Addr} {fd fd1 fd2 fd3 : FuncData} (F : Fun K "_law_read" "_law_read" tLawRead f fd) (B : Bi mg)
    (G1 : FnOk P w K mg base CX0 1 f1 fd1 ["_law_word_here"] spCount) (g1 : mg "_law_count" = some (.ref f1)) (k1 : PySem.W.keepIn K (.ref f1) = true) (b1 : Binds K fd1 ["_law_word_here"] [])
    (G2 : FnOk P w K mg base CX0 2 f2 fd2 ["_law_parts", "_law_least"] spNumbers) (g2 : mg "_law_numbers" = some (.ref f2)) (k2 : PySem.W.keepIn K (.ref f2) = true) (b2 : Binds K fd2 ["_law_parts", "_law_least"] [])
    (G3 : FnOk P w K mg base CX0 1 f3 fd3 ["_law_modulus", "_law_classes"] (spPlain K)) (g3 : mg "_law_plainest" = some (.ref f3)) (k3 : PySem.W.keepIn K (.ref f3) = true) (b3 : Binds K fd3 ["_law_modulus", "_law_classes"] []) :
    FnOk P w K mg base CX0 3 f fd ["_law_page"] spLawRead := by
  refine F.ok scLawRead (fun vs H Q E h => ?_) (fun cdv A outer s H vs Q E hr h => ?_)
  · obtain ⟨pg, b, rfl, _⟩ := h
    rfl
  · obtain ⟨pg, b, rfl, hpg, hb, hl, kQ⟩ := h
    have kN : lawRead pg = none → ∀ H', Same H H' → Q .non H' := fun e H' s => kQ _ H' s (by rw [e]; rfl)
    have kS : ∀ m cs chs, lawRead pg = some (m, cs, chs) → ∀ t H', Same H H' → Tri H' t m cs chs → Q (.ref t) H' := fun m cs chs e t H' s h => kQ _ H' s (by rw [e]; exact ⟨t, rfl, h⟩)
    clear kQ
    have nd := scLawRead.nd
    have hr1 : Room 1 _ := hr.mono (by decide)
    refine ⟨_, pss_cons (ps_set (i := 1) nd rfl (Or.inl rfl) (pe_split (pv 0) pe_str))
      (pss_cons (ps_if (PW.pt (pw_or (pt_cmpR op_ne (pe_bm PySem.F.plainAttrs_list PySem.F.slot_list_count PySem.F.type_list_count (mt_lcountS hr.units) (pv 1) (pa_cons pe_str pa_nil)) pe_int (nomark _)) (pw_or1 (pt_cmpR op_eq (pe_ix ix_list (pv 1) (pe_un un_neg pe_int) (fun _ _ => rfl)) pe_str (nomark _)))))
        (pss_one (ps_ret pe_non)) pss_nil)
      (pss_cons (ps_set (i := 2) nd rfl (Or.inl rfl) (pe_bm PySem.F.plainAttrs_list PySem.F.slot_list_index PySem.F.type_list_index (mt_indexS hr.units) (pv 1) (pa_cons pe_str pa_nil)))
      (pss_cons (ps_asg (pe_tup (pa_cons (pe_call G1 hr1 rfl g1 k1 b1 .nil pass0 (pa_cons (pe_ix ix_list (pv 1) (pe_op op_add (pv 2) pe_int) (fun _ _ => rfl)) pa_nil)) (pa_cons (pe_slice sl_list (pv 1) (po_some (pe_op op_add (pv 2) pe_int)) po_none) pa_nil))) (pg_tup rfl (pgs_cons (pg_name (i := 3) nd rfl (Or.inr rfl)) (pgs_cons (pg_name (i := 4) nd rfl (Or.inl rfl)) pgs_nil))))
      (pss_cons (ps_par (i := 5) (j := 6) rfl nd rfl rfl (by decide) rfl rfl (pa_cons (pe_call G2 hr rfl g2 k2 b2 .nil pass0 (pa_cons (pe_slice sl_list (pv 1) po_none (po_some (pv 2))) (pa_cons pe_int pa_nil))) (pa_cons (pe_call G2 hr rfl g2 k2 b2 .nil pass0 (pa_cons (pe_slice sl_list (pv 4) (po_some pe_int) po_none) (pa_cons pe_int pa_nil))) pa_nil)) rfl)
      (pss_cons (ps_if (pt_cmpR (op_eqT (List Str) hr.units (by decide)) (pe_slice sl_list (pv 1) po_none (po_some (pv 2))) (pe_lst (pa_cons pe_str pa_nil)) (nomark _))
        (pss_one (ps_set (i := 5) nd rfl (Or.inl rfl) (pe_lst pa_nil)))
        (pss_one (ps_if (pt_cmpR (op_eqT (Option (List Nat)) hr.units (by decide)) (pv 5) (pe_lst pa_nil) (nomark _)) (pss_one (ps_set (i := 5) nd rfl (Or.inl rfl) pe_non)) pss_nil)))
      (pss_cons (ps_if (PW.pt (pw_or (pt_not (pt_chain op_le op_le pe_int (pv 3) pe_int)) (pw_or (pt_cmpR op_isN (pv 5) pe_non (nomark _)) (pw_or1 (pt_cmpR op_isN (pv 6) pe_non (nomark _)))))) (pss_one (ps_ret pe_non)) pss_nil)
      (pss_cons (ps_if (pt_cmpR (op_neT (List Nat) hr.units (by decide)) (pe_lc (own := [("_law_one", 7)]) (g := gName 7) rfl nd (pi_list (pv 5)) (blkOk_by (N := lrN) (sc := defScope tLawRead) (by decide +kernel))
          (fun _ _ _ _ _ => pg_name (i := 7) nd rfl (Or.inl rfl)) (fun _ _ _ _ _ => pts_one (pt_cmpR op_ge (pv 7) (pv 3) (nomark _))) (fun _ _ _ _ _ => pv 7)) (pe_lst pa_nil) (nomark _)) (pss_one (ps_ret pe_non)) pss_nil)
      (pss_cons (ps_if (PW.pt (pw_and (pt_cmpR (op_neT (List Str) hr.units (by decide)) (pv 4) (pe_lst pa_nil) (nomark _)) (pw_and1 (PW.pt (pw_or (pt_cmpR op_ne (pe_ix ix_list (pv 4) pe_int (fun _ _ => rfl)) pe_str (nomark _)) (pw_or1 (pt_cmpR (op_eqT (List Nat) hr.units (by decide)) (pv 6) (pe_lst pa_nil) (nomark _)))))))) (pss_one (ps_ret pe_non)) pss_nil)
      (pss_cons (ps_if (pt_cmpR (op_neT (Nat × List Nat) hr.units (by decide)) (pe_call G3 hr1 rfl g3 k3 b3 .nil pass0 (pa_cons (pv 3) (pa_cons (pv 5) pa_nil))) (pe_tup (pa_cons (pv 3) (pa_cons (pv 5) pa_nil))) (nomark _)) (pss_one (ps_ret pe_non)) pss_nil)
      (pss_one (ps_ret (pe_tup (pa_cons (pv 3) (pa_cons (pe_callTy call_tuple_of (by rfl) B.tuple (by decide +kernel) (pa_cons (pv 5) pa_nil)) (pa_cons (pe_callTy call_tuple_of (by rfl) B.tuple (by decide +kernel) (pa_cons (pv 6) pa_nil)) pa_nil))))))))))))))), ?_⟩
    have hz2 : (S pg).length + 2 ≤ sizeLine := Nat.le_of_lt (line_ok (by rw [S_len]; omega))
    refine ⟨_, rfl, ⟨_, rfl⟩, S pg, S [32], rfl, rfl, rfl, hz2, fun q hq => ?_⟩
    rw [split_wd (by decide)]
    have hwl := wd_len 32 pg
    have hwp := hpg.words 32
    have hwn : wd 32 pg ≠ [] := wd_ne 32 pg
    have eR : lawRead pg = if (wd 32 pg).count OFW ≠ 1 ∨ (wd 32 pg).getLast? = some OFW then none
      else fin (cnt ((wd 32 pg).getD ((wd 32 pg).idxOf OFW + 1) [])) (cl1 ((wd 32 pg).take ((wd 32 pg).idxOf OFW))) (lawNums 1 [] (((wd 32 pg).drop ((wd 32 pg).idxOf OFW + 2)).drop 1)) ((wd 32 pg).drop ((wd 32 pg).idxOf OFW + 2)) := rfl
    rw [eR] at kN kS
    clear eR
    generalize wd 32 pg = ps at *
    have hps : (sVs ps).length = ps.length := List.length_map ..
    have asStr : ∀ ws : List (List Nat), sVs ws = (ws.map S).map V.str := fun ws => by rw [List.map_map]; rfl
    have tk : ∀ (ws : List (List Nat)) n, (sVs ws).take n = sVs (ws.take n) := fun ws n => (List.map_take (f := sV)).symm
    have dr : ∀ (ws : List (List Nat)) n, (sVs ws).drop n = sVs (ws.drop n) := fun ws n => (List.map_drop (f := sV)).symm
    have s1 : Same H (upd H q (.lst (sVs ps))) := (Same.refl H).lay hq
    have hq1 : upd H q (.lst (sVs ps)) q = some (.lst (sVs ps)) := upd_same
    generalize upd H q (.lst (sVs ps)) = H1 at *
    have hwlen : ∀ w ∈ ps, w.length ≤ 100000 := fun w hw => by have := sl_mem hw; omega
    dsimp only
    refine tIfS_by (ps.count OFW ≠ 1 ∨ ps.getLast? = some OFW) (fun Qt hQ => ?_) (fun hc H2 s2 => ?_) (fun hc H2 s2 => ?_)
    · obtain ⟨ls, lw, hlw⟩ : ∃ ls lw, ps = ls ++ [lw] := ⟨ps.dropLast, ps.getLast hwn, (List.dropLast_concat_getLast hwn).symm⟩
      refine ⟨_, rfl, .inl ⟨rfl, _, SqL.of hq1⟩, q, ps.map S, S OFW, rfl, rfl, SqL.of (by rw [← asStr]; exact hq1), rfl, _, rfl, ?_⟩
      rw [count_S]
      refine ite3 (c := ps.count OFW ≠ 1) (by rw [decide_not]; exact congrArg Bool.not (dec_iv (b := 1))) (fun c1 => qt_of (hQ _ (Same.refl _)) ⟨fun _ => .inl c1, fun _ => rfl⟩) (fun c1 => ?_)
      refine ⟨_, rfl, _, rfl, q, _, _, sV lw, rfl, rfl, SqL.of hq1, by rw [hlw, show sVs (ls ++ [lw]) = sVs ls ++ [sV lw] by simp]; exact atI_last _ _, rfl, _, rfl, ?_⟩
      refine qt_of (hQ _ (Same.refl _)) ?_
      rw [show (V.str "of") = V.str (S OFW) from rfl, dec_S, decide_eq_true_eq]
      have eg : ps.getLast? = some lw := by rw [hlw]; simp
      rw [eg]
      constructor
      · intro e; exact .inr (by rw [e])
      · rintro (e | e)
        · exact absurd e c1
        · exact Option.some.inj e
    · rw [if_pos hc] at kN
      exact kN rfl _ (s1.trans s2)
    rw [if_neg hc] at kN kS
    have hc1 : ps.count OFW = 1 := Classical.byContradiction fun z => hc (.inl z)
    have hc2 : ps.getLast? ≠ some OFW := fun z => hc (.inr z)
    have hm : OFW ∈ ps := List.count_pos_iff.mp (by omega)
    obtain ⟨i1, i2⟩ := idx_split hm
    have hq2 := s2 _ _ hq1
    have hi2 : ps.idxOf OFW + 1 < ps.length := by
      by_cases z : ps.idxOf OFW + 1 < ps.length
      · exact z
      · exfalso
        have e : ps.idxOf OFW + 1 = ps.length := by omega
        rw [List.drop_of_length_le (by omega)] at i2
        rw [i2] at hc2
        simp at hc2
    dsimp only [tNext, tSeq]
    refine ⟨_, rfl, .inl ⟨rfl, _, SqL.of hq2⟩, q, ps.map S, S OFW, rfl, rfl, SqL.of (by rw [← asStr]; exact hq2), List.mem_map.mpr ⟨_, hm, rfl⟩, ?_⟩
    rw [idx_S]
    generalize ps.idxOf OFW = i at *
    have hxm : (sVs ps)[i + 1]? = some (sV (ps.getD (i + 1) [])) := by
      rw [List.getElem?_map, List.getElem?_eq_getElem hi2, List.getD_eq_getElem?_getD, List.getElem?_eq_getElem hi2]; rfl
    have hmw : ps.getD (i + 1) [] ∈ ps := by
      rw [List.getD_eq_getElem?_getD, List.getElem?_eq_getElem hi2]; exact List.getElem_mem hi2
    generalize ps.getD (i + 1) [] = mw at *
    refine ⟨_, rfl, _, rfl, _, _, rfl, rfl, q, _, _, sV mw, rfl, rfl, SqL.of hq2, atI_nat (j := i + 1) hxm, mw, b, rfl, hwp mw hmw, hb, hwlen mw hmw, fun H3 s3 => ?_⟩
    have hq3 := s3 _ _ hq2
    refine ⟨_, rfl, _, rfl, _, _, rfl, rfl, _, rfl, q, _, rfl, SqL.of hq3, fun r hr3 => ?_⟩
    have e2 : cutV (sVs ps) (some ((i : Int) + 2)) none = sVs (ps.drop (i + 2)) := by
      rw [← dr]; exact cut_none (p := i + 2)
    dsimp only
    rw [e2]
    refine ⟨by show 2 ≤ sizeLine; decide, fun t ht => ?_⟩
    have sA := (((s1.trans s2).trans s3).lay (o := .lst (sVs (ps.drop (i + 2)))) hr3).lay (o := .tup [iv (cnt mw), .ref r]) ht
    refine ⟨t, _, rfl, SqT.of upd_same, rfl, _, _, rfl, _, _, rfl, rfl, ?_⟩
    have hr4 : upd (upd H3 r (.lst (sVs (ps.drop (i + 2))))) t (.tup [iv (cnt mw), .ref r]) r = some (.lst (sVs (ps.drop (i + 2)))) := by
      rw [upd_ne (fun e => by rw [← e, upd_same] at ht; cases ht), upd_same]
    have hq4 : upd (upd H3 r (.lst (sVs (ps.drop (i + 2))))) t (.tup [iv (cnt mw), .ref r]) q = some (.lst (sVs ps)) := (((Same.refl H3).lay hr3).lay ht) _ _ hq3
    generalize upd (upd H3 r (.lst (sVs (ps.drop (i + 2))))) t (.tup [iv (cnt mw), .ref r]) = H4 at *
    have hmo : ∀ {ws : List (List Nat)}, (∀ w ∈ ws, w ∈ ps) → ∀ w ∈ ws, Pg b w ∧ w.length ≤ 100000 := fun h w hw => ⟨hwp w (h w hw), hwlen w (h w hw)⟩
    refine ⟨_, rfl, _, rfl, _, rfl, q, _, rfl, SqL.of hq4, fun l1 n1 => ?_⟩
    rw [cut_to, tk]
    refine ⟨l1, ps.take i, b, 0, rfl, upd_same, hmo fun w hw => List.mem_of_mem_take hw, hb, by rw [List.length_take]; omega, fun v5 H5 s5 ol5 => ?_⟩
    have s5' : Same H4 H5 := ((Same.refl H4).lay n1).trans s5
    have hr5 := s5' _ _ hr4
    refine ⟨_, rfl, _, rfl, r, _, rfl, SqL.of hr5, fun l2 n2 => ?_⟩
    have e3 : cutV (sVs (ps.drop (i + 2))) (some 1) none = sVs ((ps.drop (i + 2)).drop 1) := (cut_none (p := 1)).trans (dr _ 1)
    rw [e3]
    refine ⟨l2, (ps.drop (i + 2)).drop 1, b, 1, rfl, upd_same, hmo fun w hw => List.mem_of_mem_drop (List.mem_of_mem_drop hw), hb, by rw [List.length_drop, List.length_drop]; omega, fun v6 H6 s6 ol6 => ⟨_, _, rfl, ?_⟩⟩
    have s6' : Same H5 H6 := ((Same.refl H5).lay n2).trans s6
    have ol5' := ol5.same s6'
    have hq6 := s6' _ _ (s5' _ _ hq4)
    have hr6 := s6' _ _ hr5
    have sB : Same H H6 := (sA.trans s5').trans s6'
    have hcr : ∀ w ∈ ps.drop (i + 2), w ∈ ps := fun w hw => List.mem_of_mem_drop hw
    have hdl : (ps.drop (i + 2)).length ≤ ps.length := by rw [List.length_drop]; omega
    generalize ps.drop (i + 2) = rest at *
    dsimp only
    refine tSeq_by (fun σ H' => ∃ v : V, σ = [some (sV pg), some (.ref q), some (iv i), some (iv (cnt mw)), some (.ref r), some v, some v6, none] ∧ Same H6 H' ∧ OL H' v (cl1 (ps.take i))) (fun D' hrt hD' => ?_) ?_
    · refine tIfS_by (ps.take i = [[46]]) (fun Qt hQ => ?_) (fun hc3 H7 s7 => ?_) (fun hc3 H7 s7 => ?_)
      · refine ⟨_, rfl, _, rfl, _, rfl, q, _, rfl, SqL.of hq6, fun l3 n3 => ?_⟩
        rw [cut_to, tk]
        have sC := (Same.refl H6).lay (o := .lst (sVs (ps.take i))) n3
        refine ⟨by show 1 ≤ sizeLine; decide, fun l4 n4 => ⟨(ps.take i).map S, [S [46]], dp_strs (.inl (.inl ?_)), dp_strs (bs := [S [46]]) (.inl (.inl upd_same)), _, rfl, ?_⟩⟩
        · rw [upd_ne (fun e => by rw [← e, upd_same] at n4; cases n4), upd_same, asStr]
        · refine qt_of (hQ _ (sC.lay n4)) ?_
          rw [decide_eq_true_eq]
          constructor
          · intro h
            exact map_S_inj (b := [[46]]) h
          · intro h; rw [h]; rfl
      · refine ⟨Nat.zero_le _, fun l n => hD' _ _ ⟨.ref l, rfl, s7.lay n, ?_⟩⟩
        unfold cl1
        rw [if_pos hc3]
        exact ⟨l, rfl, upd_same⟩
      · refine tIfS_by (lawNums 0 [] (ps.take i) = some []) (fun Qt hQ => ?_) (fun hc4 H8 s8 => ?_) (fun hc4 H8 s8 => ?_)
        · refine ⟨_, rfl, Nat.zero_le _, fun l4 n4 => ⟨lawNums 0 [] (ps.take i), some [], dp_OL ((ol5'.same s7).same ((Same.refl H7).lay n4)), dp_ivs (ns := []) (SqL.of upd_same), _, rfl, qt_of (hQ _ ((Same.refl H7).lay n4)) (by rw [decide_eq_true_eq])⟩⟩
        · refine hD' _ _ ⟨.non, rfl, s7.trans s8, ?_⟩
          unfold cl1
          rw [if_neg hc3, if_pos hc4]
          rfl
        · refine hD' _ _ ⟨v5, rfl, s7.trans s8, ?_⟩
          unfold cl1
          rw [if_neg hc3, if_neg hc4]
          exact (ol5'.same s7).same s8
    rintro σ H7 ⟨v7, rfl, s7, ol7⟩
    have hfin : ∀ o, fin (cnt mw) (cl1 (ps.take i)) (lawNums 1 [] (rest.drop 1)) rest = o → True := fun _ _ => trivial
    have ol6' := ol6.same s7
    generalize hc1' : cl1 (ps.take i) = c1 at *
    generalize hch : lawNums 1 [] (rest.drop 1) = ch at *
    generalize hm' : cnt mw = m at *
    have isN : ∀ {H : Hp} {v : V} {o : Option (List Nat)}, OL H v o → decide (v = V.non) = decide (o = none) := fun {H v o} h => by
      cases o with
      | none => cases h; rfl
      | some ns => obtain ⟨q, rfl, _⟩ := h; rfl
    refine tIfS_by (¬ (1 ≤ m ∧ m ≤ 720) ∨ c1 = none ∨ ch = none) (fun Qt hQ => ?_) (fun hc4 H8 s8 => ?_) (fun hc4 H8 s8 => ?_)
    · have t2 : 1 ≤ m ∧ m ≤ 720 → Qt (decide (c1 = none ∨ ch = none)) H7 := fun h => qt_of (hQ H7 (Same.refl _)) (by
        rw [decide_eq_true_eq]
        exact ⟨fun z => .inr z, fun z => z.elim (fun z => absurd h z) id⟩)
      have t3 : 1 ≤ m ∧ m ≤ 720 → tOr (tTest (tOp (fun x y H Q => y = V.non ∧ Q (.bl (decide (x = .non))) H) (tVar 5) (tC .non))) (tTest (tOp (fun x y H Q => y = V.non ∧ Q (.bl (decide (x = .non))) H) (tVar 6) (tC .non))) [some (sV pg), some (.ref q), some (iv i), some (iv m), some (.ref r), some v7, some v6, none] H7 Qt := fun h => by
        have h2 := t2 h
        refine ⟨_, rfl, rfl, _, rfl, ite3 (c := c1 = none) (isN ol7) (fun z1 => ?_) (fun z1 => ?_)⟩
        · rw [decide_eq_true (.inl z1)] at h2; exact h2
        · refine ⟨_, rfl, rfl, _, rfl, ?_⟩
          rw [isN ol6']
          have e : decide (c1 = none ∨ ch = none) = decide (ch = none) := decide_eq_decide.mpr ⟨fun z => z.elim (fun z => absurd z z1) id, .inr⟩
          rw [e] at h2
          exact h2
      refine ⟨_, rfl, _, _, rfl, rfl, _, rfl, ite3 (c := 1 ≤ m) (decide_eq_decide.mpr (by omega)) (fun a1 => ?_) (fun a1 => ?_)⟩
      · refine ⟨_, _, rfl, rfl, _, rfl, ?_⟩
        refine ite3 (c := ¬ m ≤ 720) ?_ (fun a2 => qt_of (hQ H7 (Same.refl _)) ⟨fun _ => .inl (fun z => a2 z.2), fun _ => rfl⟩) (fun a2 => t3 ⟨a1, by omega⟩)
        rw [← decide_not]
        exact decide_eq_decide.mpr (by omega)
      · exact ⟨_, rfl, qt_of (hQ H7 (Same.refl _)) ⟨fun _ => .inl (fun z => a1 z.1), fun _ => rfl⟩⟩
    · exact kN (fin_none hc4) _ ((sB.trans s7).trans s8)
    dsimp only [tNext, tSeq]
    have hmm : 1 ≤ m ∧ m ≤ 720 := Classical.byContradiction fun z => hc4 (.inl z)
    obtain ⟨c, rfl⟩ : ∃ c, c1 = some c := by
      cases c1 with
      | none => exact absurd (.inr (.inl rfl)) hc4
      | some c => exact ⟨c, rfl⟩
    obtain ⟨h, rfl⟩ : ∃ h, ch = some h := by
      cases ch with
      | none => exact absurd (.inr (.inr rfl)) hc4
      | some h => exact ⟨h, rfl⟩
    have eF : fin m (some c) (some h) rest = if ¬ (1 ≤ m ∧ m ≤ 720) then none else if (c.filter fun x => decide (m ≤ x)) ≠ [] then none else if rest ≠ [] ∧ (rest.head? ≠ some BUTW ∨ h = []) then none
      else if ¬ (lp m (mk c) = m ∧ cls c (lp m (mk c)) = c) then none else some (m, c, h) := rfl
    rw [eF, if_neg (fun z => z hmm)] at kN kS
    have hcs : c.Pairwise (· < ·) := by
      unfold cl1 at hc1'
      split at hc1'
      · cases hc1'; exact .nil
      · split at hc1'
        · cases hc1'
        · obtain ⟨ns, n1, n2, n3, _⟩ := lawNums_some .nil hc1'
          rw [List.nil_append] at n1
          subst n1; simpa using n3
    have hcl : c.length ≤ ps.length := by
      unfold cl1 at hc1'
      split at hc1'
      · cases hc1'; exact Nat.zero_le _
      · split at hc1'
        · cases hc1'
        · obtain ⟨ns, n1, n2, n3, _⟩ := lawNums_some .nil hc1'
          rw [List.nil_append] at n1
          have := congrArg List.length n2
          rw [List.length_map, List.length_take] at this
          rw [n1]; omega
    have hhl : h.length ≤ ps.length := by
      obtain ⟨ns, n1, n2, n3, _⟩ := lawNums_some .nil hch
      rw [List.nil_append] at n1
      have := congrArg List.length n2
      rw [List.length_map, List.length_drop] at this
      rw [n1]; omega
    obtain ⟨a5, rfl, ha5⟩ := ol7
    obtain ⟨a6, rfl, ha6⟩ := ol6'
    have s08 := (sB.trans s7).trans s8
    have ha5' := s8 _ _ ha5
    have ha6' := s8 _ _ ha6
    have hr8 := s8 _ _ (s7 _ _ hr6)
    refine tIfS_by ((c.filter fun x => decide (m ≤ x)) ≠ []) (fun Qt hQ => ?_) (fun hc5 H9 s9 => ?_) (fun hc5 H9 s9 => ?_)
    · refine ⟨_, rfl, a5, rfl, ⟨_, SqL.of ha5'⟩, fun D hD => lc_list (K := K) (a := a5) (xs := ivs c) (fun j H' => Same H8 H' ∧ H' D = some (.lst (ivs ((c.take j).filter fun x => decide (m ≤ x))))) ⟨(Same.refl _).lay hD, upd_same⟩ (fun j H' _ ⟨q1, _⟩ => SqL.of (q1 _ _ ha5')) ?_ ?_⟩
      · rintro j x H10 hj ⟨s10, h10⟩
        obtain ⟨u, hu', rfl⟩ := get_map hj
        have st := filter_take_snoc (fun x => decide (m ≤ x)) c j u hu'
        refine ⟨rfl, _, rfl, _, rfl, _, _, rfl, rfl, _, rfl, ite3 (c := m ≤ u) (decide_eq_decide.mpr (by omega)) (fun c1 => ?_) (fun c1 => ?_)⟩
        · rw [decide_eq_true c1, if_pos rfl] at st
          refine ⟨_, rfl, _, h10, line_ok ?_, s10.put hD, by rw [upd_same, ivs_snoc, st]⟩
          rw [List.length_map]
          refine Nat.le_trans (List.length_filter_le _ _) ?_
          rw [List.length_take]
          omega
        · rw [decide_eq_false c1, if_neg Bool.false_ne_true, List.append_nil] at st
          exact ⟨s10, by rw [st]; exact h10⟩
      · rintro H10 ⟨s10, h10⟩
        rw [List.length_map, List.take_length] at h10
        refine ⟨Nat.zero_le _, fun D2 hD2 => ⟨_, [], dp_ivs (SqL.of (by rw [upd_ne (ne_of_none h10 hD2)]; exact h10)), dp_ivs (ns := []) (SqL.of upd_same), _, rfl, qt_of (hQ _ (s10.lay hD2)) (by rw [decide_eq_true_eq])⟩⟩
    · rw [if_pos hc5] at kN
      exact kN rfl _ (s08.trans s9)
    rw [if_neg hc5] at kN kS
    dsimp only [tNext, tSeq]
    have ha5'' := s9 _ _ ha5'
    have ha6'' := s9 _ _ ha6'
    have hr9 := s9 _ _ hr8
    have s09 := s08.trans s9
    refine tIfS_by (rest ≠ [] ∧ (rest.head? ≠ some BUTW ∨ h = [])) (fun Qt hQ => ?_) (fun hc6 H10 s10 => ?_) (fun hc6 H10 s10 => ?_)
    · have sC : ∀ {l : Addr} {o : HO}, H9 l = none → Same H9 (upd H9 l o) := fun n => (Same.refl _).lay n
      refine ⟨_, rfl, Nat.zero_le _, fun D2 hD2 => ⟨rest.map S, [], dp_strs (.inl (.inl ?_)), dp_strs (bs := []) (.inl (.inl upd_same)), _, rfl, ?_⟩⟩
      · rw [upd_ne (ne_of_none hr9 hD2), hr9, asStr]
      have sD := sC (o := .lst []) hD2
      refine ite3 (c := rest ≠ []) (decide_eq_decide.mpr (by simp)) (fun d1 => ?_) (fun d1 => qt_of (hQ _ sD) ⟨fun z => absurd z Bool.false_ne_true, fun z => absurd z.1 d1⟩)
      obtain ⟨w0, ws, rfl⟩ : ∃ w0 ws, rest = w0 :: ws := by
        cases rest with
        | nil => exact absurd rfl d1
        | cons w0 ws => exact ⟨w0, ws, rfl⟩
      refine ⟨_, rfl, r, _, _, sV w0, rfl, rfl, SqL.of (sD _ _ hr9), atI_nat (j := 0) rfl, rfl, _, rfl, ?_⟩
      refine ite3 (c := w0 ≠ BUTW) (by rw [show (V.str "but") = V.str (S BUTW) from rfl, dec_S]; exact decide_not.symm) (fun d2 => qt_of (hQ _ sD) ⟨fun _ => ⟨d1, .inl fun z => d2 (Option.some.inj z)⟩, fun _ => rfl⟩) (fun d2 => ?_)
      refine ⟨_, rfl, Nat.zero_le _, fun D3 hD3 => ⟨h, [], dp_ivs (SqL.of (((Same.refl _).lay hD3) _ _ (sD _ _ ha6''))), dp_ivs (ns := []) (SqL.of upd_same), _, rfl, qt_of (hQ _ (sD.lay hD3)) ?_⟩⟩
      rw [decide_eq_true_eq]
      constructor
      · intro z; exact ⟨d1, .inr z⟩
      · rintro ⟨_, z | z⟩
        · exact absurd (by rw [Classical.not_not.mp d2]; rfl) z
        · exact z
    · rw [if_pos hc6] at kN
      exact kN rfl _ (s09.trans s10)
    rw [if_neg hc6] at kN kS
    dsimp only [tNext, tSeq]
    have ha5x := s10 _ _ ha5''
    have ha6x := s10 _ _ ha6''
    have s010 := s09.trans s10
    have hlt : ∀ x ∈ c, x < m := fun x hx => by
      by_cases z : x < m
      · exact z
      · have : x ∈ c.filter fun x => decide (m ≤ x) := List.mem_filter.mpr ⟨hx, decide_eq_true (by omega)⟩
        rw [Classical.not_not.mp hc5] at this
        cases this
    have hcl7 := sorted_len hcs hlt
    refine tIfS_by (¬ (lp m (mk c) = m ∧ cls c (lp m (mk c)) = c)) (fun Qt hQ => ?_) (fun hc7 H11 s11 => ?_) (fun hc7 H11 s11 => ?_)
    · refine ⟨_, rfl, _, rfl, m, a5, c, rfl, ha5x, hmm.1, hmm.2, by omega, fun t' q' H12 s12 nt nq ht' hq' => ?_⟩
      refine ⟨_, rfl, _, rfl, by show 2 ≤ sizeLine; decide, fun t2 ht2 => ?_⟩
      have s13 := (Same.refl H12).lay (o := .tup [iv m, .ref a5]) ht2
      refine ⟨(lp m (mk c), cls c (lp m (mk c))), (m, c), dp_pair (SqT.of (s13 _ _ ht')) (dp_nat _) (dp_ivs (SqL.of (s13 _ _ hq'))), dp_pair (SqT.of upd_same) (dp_nat _) (dp_ivs (SqL.of (s13 _ _ (s12 _ _ ha5x)))), _, rfl, qt_of (hQ _ (s12.trans s13)) ?_⟩
      rw [decide_eq_true_eq]
      exact ⟨fun z z2 => z (Prod.ext z2.1 z2.2), fun z z2 => z ⟨congrArg Prod.fst z2, congrArg Prod.snd z2⟩⟩
    · rw [if_pos hc7] at kN
      exact kN rfl _ (s010.trans s11)
    rw [if_neg hc7] at kN kS
    have ha5y := s11 _ _ ha5x
    have ha6y := s11 _ _ ha6x
    refine ⟨_, rfl, _, rfl, a5, _, rfl, .inl ⟨SqL.of ha5y, fun u5 hu5 => ?_⟩⟩
    have sX := (Same.refl H11).lay (o := .tup (ivs c)) hu5
    refine ⟨_, rfl, a6, _, rfl, .inl ⟨SqL.of (sX _ _ ha6y), fun u6 hu6 => ?_⟩⟩
    have sY := (Same.refl _).lay (o := .tup (ivs h)) hu6
    refine ⟨by show 3 ≤ sizeLine; decide, fun t9 ht9 => ?_⟩
    have sZ := (Same.refl _).lay (o := .tup [iv m, .ref u5, .ref u6]) ht9
    exact kS m c h rfl t9 _ ((((s010.trans s11).trans sX).trans sY).trans sZ) ⟨u5, u6, upd_same, sZ _ _ (sY _ _ upd_same), sZ _ _ upd_same⟩
end
end Rl
end

section
set_option maxRecDepth 100000
set_option maxHeartbeats 6000000
namespace Rl
open PySem L2 SX
theorem stE (x : String) : V.str (Str.ofString x) = sV (cod x) := congrArg V.str (Str_eq x)
theorem stL (xs : List String) : xs.map stV = sVs (xs.map cod) := by
  induction xs with
  | nil => rfl
  | cons x xs ih =>
    show stV x :: xs.map stV = sV (cod x) :: sVs (xs.map cod)
    rw [ih]
    exact congrArg (· :: _) (stE x)
/-- a page of the odd ones -/
structure OkP (u : List Nat) : Prop where
  pg : Pg 200 u
  len : u.length ≤ 60000
theorem okp_lit {x : String} (h : ((cod x).all fun c => decide (c < 128)) = true ∧ (cod x).length ≤ 100) : OkP (cod x) :=
  ⟨(Pg.len fun c hc => of_decide_eq_true (List.all_eq_true.mp h.1 c hc)).mono (by omega), by omega⟩
theorem nt_pg {k : Nat} {ns : List Nat} (h : ∀ n ∈ ns, (TL.numL n).length ≤ k) : Pg k (nt ns) := Pg.joined (by decide) (by decide) fun w hw => by
  obtain ⟨n, hn, rfl⟩ := List.mem_map.mp hw
  exact (Pg.len fun c hc => by have := TL.numL_digits n c hc; omega).mono (h n hn)
theorem num_pg {n k : Nat} (h : (TL.numL n).length ≤ k) : Pg k (TL.numL n) := (Pg.len fun c hc => by have := TL.numL_digits n c hc; omega).mono h
/-- bounds of a text -/
structure PL (B L : Nat) (u : List Nat) : Prop where
  pg : Pg B u
  len : u.length ≤ L
theorem PL.app {B L B' L' : Nat} {x y : List Nat} (h : PL B L x) (g : PL B' L' y) : PL (B + B') (L + L') (x ++ y) := ⟨h.pg.app g.pg, by rw [List.length_append]; exact Nat.add_le_add h.len g.len⟩
theorem PL.ok {B L : Nat} {u : List Nat} (h : PL B L u) (h1 : B ≤ 200) (h2 : L ≤ 60000) : OkP u := ⟨h.pg.mono h1, Nat.le_trans h.len h2⟩
theorem PL.lit {x : List Nat} (n : Nat) (h : (x.all fun c => decide (c < 128)) = true ∧ x.length ≤ n) : PL n n x := ⟨(Pg.len fun c hc => of_decide_eq_true (List.all_eq_true.mp h.1 c hc)).mono h.2, h.2⟩
theorem PL.nt {ns : List Nat} (h : ∀ n ∈ ns, n < 10 ^ 15) (hl : ns.length ≤ 1450) : PL 15 23200 (nt ns) :=
  ⟨nt_pg fun n hn => TL.numL_len (by decide) (h n hn), Nat.le_trans (nt_le (k := 15) (by decide) h) (by omega)⟩
theorem PL.num {n : Nat} (h : n < 10 ^ 15) : PL 15 15 (TL.numL n) := ⟨num_pg (TL.numL_len (by decide) h), TL.numL_len (by decide) h⟩
theorem PL.rep {c n : Nat} (hc : c < 128) (hn : n ≤ 100) : PL 100 100 (List.replicate n c) := ⟨(Pg.len fun x hx => by rw [(List.mem_replicate.mp hx).2]; exact hc).mono (by rw [List.length_replicate]; exact hn), by rw [List.length_replicate]; exact hn⟩
theorem lt500 {n : Nat} (h : n < 10 ^ 15) : n < 10 ^ 500 := Nat.lt_of_lt_of_le h (Nat.pow_le_pow_right (by decide) (by decide))
/-- what stands while the odd pages are made -/
structure Od (H0 Hk : Hp) (p q l4 l6 : Addr) (bb : Nat) (cl es wi : List Nat) : Prop where
  k : Pk p H0 Hk
  pot : PotAt Hk p bb
  hq : Hk q = some (.lst (ivs cl))
  h4 : Hk l4 = some (.lst (ivs es))
  h6 : Hk l6 = some (.lst (ivs wi))
  nq : q ≠ p
  n4 : l4 ≠ p
  n6 : l6 ≠ p
theorem Od.same {H0 Hk H' : Hp} {p q l4 l6 : Addr} {bb : Nat} {cl es wi : List Nat} (o : Od H0 Hk p q l4 l6 bb cl es wi) (s : Same Hk H') : Od H0 H' p q l4 l6 bb cl es wi :=
  ⟨o.k.trans (Same.pk s), o.pot.same s, s _ _ o.hq, s _ _ o.h4, s _ _ o.h6, o.nq, o.n4, o.n6⟩
theorem Od.lay {H0 Hk : Hp} {p q l4 l6 : Addr} {bb : Nat} {cl es wi : List Nat} (o : Od H0 Hk p q l4 l6 bb cl es wi) {l : Addr} (x : HO) (n : Hk l = none) : Od H0 (upd Hk l x) p q l4 l6 bb cl es wi := o.same ((Same.refl Hk).lay n)
theorem Od.dip {H0 Hk H' : Hp} {p q l4 l6 : Addr} {bb bb' : Nat} {cl es wi : List Nat} (o : Od H0 Hk p q l4 l6 bb cl es wi) (s : Pk p Hk H') (h : PotAt H' p bb') : Od H0 H' p q l4 l6 bb' cl es wi :=
  ⟨o.k.trans s, h, s _ _ o.nq o.hq, s _ _ o.n4 o.h4, s _ _ o.n6 o.h6, o.nq, o.n4, o.n6⟩
structure Row (Hk : Hp) (p r : Addr) (us : List (List Nat)) : Prop where
  hr : Hk r = some (.lst (sVs us))
  nr : r ≠ p
  ok : ∀ u ∈ us, OkP u
  len : us.length ≤ 50
theorem Row.same {Hk H' : Hp} {p r : Addr} {us : List (List Nat)} (o : Row Hk p r us) (s : Same Hk H') : Row H' p r us := ⟨s _ _ o.hr, o.nr, o.ok, o.len⟩
theorem Row.lay {Hk : Hp} {p r : Addr} {us : List (List Nat)} (o : Row Hk p r us) {l : Addr} (x : HO) (n : Hk l = none) : Row (upd Hk l x) p r us := o.same ((Same.refl Hk).lay n)
theorem Row.dip {Hk H' : Hp} {p r : Addr} {us : List (List Nat)} (o : Row Hk p r us) (s : Pk p Hk H') : Row H' p r us := ⟨s _ _ o.nr o.hr, o.nr, o.ok, o.len⟩
theorem Row.next {Hk : Hp} {p r : Addr} {us xs : List (List Nat)} {b : Nat} {l r' : Addr} (R : Row Hk p r us) (pot : PotAt Hk p b) (hl : Hk l = none) (hr' : upd Hk l (.lst (sVs xs)) r' = none) (hx : ∀ u ∈ xs, OkP u) (hlen : us.length + xs.length ≤ 50) :
    Row (upd (upd Hk l (.lst (sVs xs))) r' (.lst (sVs us ++ sVs xs))) p r' (us ++ xs) :=
  ⟨by rw [upd_same]; exact congrArg (fun l => some (HO.lst l)) (List.map_append (f := sV)).symm, (pot.lay hl).ne' hr', fun u hu => (List.mem_append.mp hu).elim (R.ok u) (hx u), by rw [List.length_append]; exact hlen⟩
theorem cut_ex (cl : List Nat) (lo hi : Option Int) : ∃ a n, cutV (ivs cl) lo hi = ivs ((cl.drop a).take n) := by
  unfold cutV
  exact ⟨_, _, by rw [← List.map_drop, ← List.map_take]⟩
theorem row_end {H0 Hk : Hp} {p q l4 l6 w : Addr} {bb n : Nat} {cl es wi : List Nat} {us : List (List Nat)} {Q : VK} (vs : List V) (xs : List (List Nat)) (hv : vs = sVs xs) (o : Od H0 Hk p q l4 l6 bb cl es wi) (R : Row Hk p w us) (hn : us.length = n) (hk : n + xs.length ≤ 50) (hx : ∀ u ∈ xs, OkP u)
    (h : ∀ w' us' H', Od H0 H' p q l4 l6 bb cl es wi → Row H' p w' us' → us'.length = n + xs.length → Q (.ref w') H') :
    vs.length ≤ sizeLine ∧ ∀ l, Hk l = none → ∃ (l1 l2 : Addr) (ys zs : List V), V.ref w = V.ref l1 ∧ V.ref l = V.ref l2 ∧ upd Hk l (.lst vs) l1 = some (.lst ys) ∧ upd Hk l (.lst vs) l2 = some (.lst zs) ∧ ys.length + zs.length ≤ sizeLine ∧
      ∀ r, upd Hk l (.lst vs) r = none → Q (.ref r) (upd (upd Hk l (.lst vs)) r (.lst (ys ++ zs))) := by
  subst hv
  have hz : ∀ n : Nat, n ≤ 1000000 → n ≤ sizeLine := fun n h => Nat.le_of_lt (line_ok (by omega))
  refine ⟨hz _ (by rw [List.length_map]; omega), fun l hl => ⟨w, l, sVs us, sVs xs, rfl, rfl, (R.lay _ hl).hr, upd_same, hz _ (by rw [List.length_map, List.length_map]; omega), fun r hr => ?_⟩⟩
  exact h r (us ++ xs) _ ((o.lay _ hl).lay _ hr) (R.next o.pot hl hr hx (by omega)) (by rw [List.length_append, hn])
def OdST (H : Hp) (p t q l4 D : Addr) (sz more : Nat) (cl es wi : List Nat) (n bb : Nat) (z : Option V) : L2.St → Hp → Prop := fun σ H' => ∃ w us, σ = [some (.ref p), some (.ref t), some (iv sz), some (.ref q), some (.ref l4), some (iv more), some (.ref D), none, some (.ref w), z] ∧ Od H H' p q l4 D bb cl es wi ∧ Row H' p w us ∧ us.length = n
theorem one_ok {x : List Nat} (h : OkP x) : ∀ u ∈ [x], OkP u := fun u hu => by rw [List.mem_singleton.mp hu]; exact h
section
variable {P : Program} {w : World} {K : PySem.W.Frag} {mg : Str → Option Value} {base : Heap}
def spOdd : Sp := fun vs H Q _ => ∃ (p t : Addr) (b : Nat) (m : Nat) (cs chs es : List Nat) (a c : Addr), vs = [.ref p, .ref t] ∧ PotAt H p b ∧ b ≤ 150000 ∧ SomeAt H t p m cs chs es a c ∧
  ∀ u H', OkP u → Pk p H H' → PotAt H' p (b + 20) → Q (sV u) H'
abbrev odN : List Str := ["_law_pot_here", "_law_some_here", "_law_size", "_law_classes", "_law_changed_here", "_law_more", "_law_wider", "_law_k", "_law_row", "_law_plain"]
theorem scOdd : FnScope odN ["_law_pot_here", "_law_some_here"] (defScope tOdd) := ⟨rfl, rfl, rfl, by decide +kernel, rfl, by decide +kernel, by decide +kernel⟩
theorem ok_odd {f f1 f2 f3 : Addr} {fd fd1 fd2 fd3 : FuncData} (F : Fun K "_law_odd" "_law_odd" tOdd f fd) (B : Bi mg)
    (G1 : FnOk P w K mg base CX0 1 f1 fd1 ["_law_pot_here", "_law_many"] spDip) (g1 : mg "_law_dip" = some (.ref f1)) (k1 : PySem.W.keepIn K (.ref f1) = true) (b1 : Binds K fd1 ["_law_pot_here", "_law_many"] [])
    (G2 : FnOk P w K mg base CX0 1 f2 fd2 ["_law_modulus", "_law_classes"] (spPlain K)) (g2 : mg "_law_plainest" = some (.ref f2)) (k2 : PySem.W.keepIn K (.ref f2) = true) (b2 : Binds K fd2 ["_law_modulus", "_law_classes"] [])
    (G3 : FnOk P w K mg base CX0 1 f3 fd3 ["_law_numbers_here"] spWords) (g3 : mg "_law_words" = some (.ref f3)) (k3 : PySem.W.keepIn K (.ref f3) = true) (b3 : Binds K fd3 ["_law_numbers_here"] []) :
    FnOk P w K mg base CX0 2 f fd ["_law_pot_here", "_law_some_here"] spOdd := by
  refine F.ok scOdd (fun vs H Q E h => ?_) (fun cdv A outer s H vs Q E hr h => ?_)
  · obtain ⟨p, t, b, m, cs, chs, es, a, c, rfl, _⟩ := h
    rfl
  · obtain ⟨p, t, b, m, cs, chs, es, a, c, rfl, hp, hb, so, kQ⟩ := h
    have nd := scOdd.nd
    have hr1 : Room 1 _ := hr
    refine ⟨_, (pss_cons (ps_asg (pe_call G2 hr1 rfl g2 k2 b2 .nil pass0 (pa_cons (pe_ix ix_tup (pv 1) pe_int (fun _ _ => rfl)) (pa_cons (pe_ix ix_tup (pv 1) pe_int (fun _ _ => rfl)) pa_nil))) (pg_tup rfl (pgs_cons (pg_name (i := 2) nd rfl (Or.inr rfl)) (pgs_cons (pg_name (i := 3) nd rfl (Or.inr rfl)) pgs_nil))))
      (pss_cons (ps_par (i := 4) (j := 5) rfl nd rfl rfl (by decide) rfl rfl (pa_cons (pe_callB cr_sortedT (by rfl) B.sorted (by decide +kernel) (pa_cons (pe_ix ix_tup (pv 1) pe_int (fun _ _ => rfl)) pa_nil)) (pa_cons (pe_op op_add pe_int (pe_call G1 hr1 rfl g1 k1 b1 .nil pass0 (pa_cons (pv 0) (pa_cons pe_int pa_nil)))) pa_nil)) rfl)
      (pss_cons (ps_setLc (i := 6) (own := [("_law_k", 7)]) (g := gName 7) rfl nd rfl rfl (sw_true rfl rfl rfl (by decide +kernel)) (pi_range1 (by rfl) B.range (pa_cons (pe_callB (call_min2 rfl) (by rfl) B.min (by decide +kernel) (pa_cons pe_int (pa_cons (pe_op op_mul (pv 2) (pv 5)) pa_nil))) pa_nil)) (blkOk_by (N := odN) (sc := defScope tOdd) (by decide +kernel))
          (fun _ _ _ _ _ => pg_name (i := 7) nd rfl (Or.inl rfl)) (fun _ _ _ _ _ => pts_one (pt_cmpR (r := rIn K false) op_in_seq (pe_op op_mod (pv 7) (pv 2)) (pv 3) rfl)) (fun _ _ _ _ _ => pv 7))
      (pss_cons (ps_set (i := 8) nd rfl (Or.inl rfl) (pe_lst (pa_cons (pe_op op_cat (pe_op op_cat (pe_call G3 hr1 rfl g3 k3 b3 .nil pass0 (pa_cons (pv 6) pa_nil)) pe_str) (pe_callTy call_strN (by rfl) B.str (by decide +kernel) (pa_cons (pe_op op_mul (pv 2) (pv 5)) pa_nil))) (pa_cons (pe_op op_cat (pe_op op_cat (pe_call G3 hr1 rfl g3 k3 b3 .nil pass0 (pa_cons (pe_revL (pv 3)) pa_nil)) pe_str) (pe_callTy call_strN (by rfl) B.str (by decide +kernel) (pa_cons (pv 2) pa_nil))) pa_nil))))
      (pss_cons (ps_set (i := 8) nd rfl (Or.inl rfl) (pe_op L2.op_cat (pv 8) (pe_lst (pa_cons (pe_op op_cat (pe_op op_cat (pe_call G3 hr1 rfl g3 k3 b3 .nil pass0 (pa_cons (pe_op L2.op_cat (pv 3) (pe_slice sl_list (pv 3) (po_some (pe_un un_neg pe_int)) po_none)) pa_nil)) pe_str) (pe_callTy call_strN (by rfl) B.str (by decide +kernel) (pa_cons (pv 2) pa_nil))) pa_nil))))
      (pss_cons (ps_set (i := 8) nd rfl (Or.inl rfl) (pe_op L2.op_cat (pv 8) (pe_lst (pa_cons (pe_op op_cat (pe_op op_cat (pe_call G3 hr1 rfl g3 k3 b3 .nil pass0 (pa_cons (pe_op L2.op_cat (pv 3) (pe_lst (pa_cons (pv 2) pa_nil))) pa_nil)) pe_str) (pe_callTy call_strN (by rfl) B.str (by decide +kernel) (pa_cons (pv 2) pa_nil))) pa_nil))))
      (pss_cons (ps_set (i := 9) nd rfl (Or.inl rfl) (pe_op op_cat (pe_op op_cat (pe_call G3 hr1 rfl g3 k3 b3 .nil pass0 (pa_cons (pv 3) pa_nil)) pe_str) (pe_callTy call_strN (by rfl) B.str (by decide +kernel) (pa_cons (pv 2) pa_nil))))
      (pss_cons (ps_set (i := 8) nd rfl (Or.inl rfl) (pe_op L2.op_cat (pv 8) (pe_lst (pa_cons (pe_op op_cat (pe_op op_cat (pv 9) pe_str) (pe_call G3 hr1 rfl g3 k3 b3 .nil pass0 (pa_cons (pe_revL (pv 4)) pa_nil))) (pa_cons (pe_op op_cat (pv 9) pe_str) (pa_cons (pe_op op_cat (pe_op op_cat pe_str (pe_callTy call_strN (by rfl) B.str (by decide +kernel) (pa_cons (pv 2) pa_nil))) pe_str) pa_nil))))))
      (pss_cons (ps_set (i := 8) nd rfl (Or.inl rfl) (pe_op L2.op_cat (pv 8) (pe_lst (pa_cons pe_str (pa_cons pe_str (pa_cons pe_str pa_nil))))))
      (pss_cons (ps_set (i := 8) nd rfl (Or.inl rfl) (pe_op L2.op_cat (pv 8) (pe_lst (pa_cons pe_str (pa_cons pe_str (pa_cons pe_str (pa_cons pe_str (pa_cons pe_str (pa_cons pe_str (pa_cons pe_str pa_nil))))))))))
      (pss_cons (ps_set (i := 8) nd rfl (Or.inl rfl) (pe_op L2.op_cat (pv 8) (pe_lst (pa_cons pe_str (pa_cons (pe_op op_cat pe_str (pe_op op_mulS pe_str (pe_call G1 hr1 rfl g1 k1 b1 .nil pass0 (pa_cons (pv 0) (pa_cons pe_int pa_nil))))) (pa_cons (pe_op op_cat (pe_op op_mulS pe_str (pe_call G1 hr1 rfl g1 k1 b1 .nil pass0 (pa_cons (pv 0) (pa_cons pe_int pa_nil)))) pe_str) pa_nil))))))
      (pss_cons (ps_set (i := 8) nd rfl (Or.inl rfl) (pe_op L2.op_cat (pv 8) (pe_lst (pa_cons (pe_op op_cat pe_str (pe_op op_mulS pe_str (pe_call G1 hr1 rfl g1 k1 b1 .nil pass0 (pa_cons (pv 0) (pa_cons pe_int pa_nil))))) pa_nil))))
      (pss_one (ps_ret (pe_ix ix_list (pv 8) (pe_call G1 hr1 rfl g1 k1 b1 .nil pass0 (pa_cons (pv 0) (pa_cons (pe_callB call_len_seq (by rfl) B.len PySem.boot_len (pa_cons (pv 8) pa_nil)) pa_nil))) (fun _ _ => rfl)))))))))))))))), ?_⟩
    have hlp := lp_ok (n := m) (mk := mk cs) so.m1
    refine ⟨_, rfl, t, _, 0, _, rfl, rfl, SqT.of so.ht, rfl, _, rfl, t, _, 1, _, rfl, rfl, SqT.of so.ht, rfl, m, a, cs, rfl, so.ha, so.m1, so.m7, by have := so.cl; omega, fun t1 q H1 s1 n1 nq h1 hq => ?_⟩
    generalize hsz : lp m (mk cs) = sz at *
    have hsz7 : sz ≤ 720 := Nat.le_trans hlp.le so.m7
    have hsz1 : 1 ≤ sz := hlp.pos
    generalize hcle : cls cs sz = cl at *
    have hcl : cl.length ≤ 720 := by rw [← hcle]; exact Nat.le_trans (cls_len _ _) hsz7
    have e15 : (10 : Nat) ^ 15 = 1000000000000000 := by decide +kernel
    have hclt : ∀ x ∈ cl, x < 10 ^ 15 := fun x hx => by rw [← hcle] at hx; have := cls_lt x hx; omega
    refine ⟨t1, _, rfl, SqT.of h1, rfl, _, _, rfl, _, _, rfl, rfl, ?_⟩
    have so1 := so.same s1
    have hp1 := hp.same s1
    have nqp : q ≠ p := hp.ne' nq
    refine ⟨_, rfl, t, _, 2, _, rfl, rfl, SqT.of so1.ht, rfl, c, zs chs, rfl, .inl (SqL.of (by rw [← ivs_ints]; exact so1.hc)), fun ns' l4 hpm hs hn => ?_⟩
    rw [chs_eq hpm hs so.pe so.pw]
    refine ⟨_, rfl, p, b, 4, rfl, hp1.lay hn, by omega, by decide, by decide, fun v H3 hv s3 hp3 => ⟨_, _, rfl, rfl, _, _, rfl, ?_⟩⟩
    dsimp only
    rw [show V.int (2 + (v : Int)) = iv (2 + v) by show V.int (2 + (v : Int)) = V.int ((2 + v : Nat) : Int); rw [Int.natCast_add]; rfl]
    generalize hmore : 2 + v = more
    have n4 : l4 ≠ p := hp1.ne' hn
    have h4 := s3 l4 _ n4 (upd_same (H := H1) (o := .lst (ivs es)))
    have hq3 := s3 q _ nqp (((Same.refl H1).lay hn) _ _ hq)
    have K3 : Pk p H H3 := (Same.pk s1).trans (((Pk.refl (H := H1)).lay hn).trans s3)
    have hmul : ((sz : Int) * (more : Int)) = ((sz * more : Nat) : Int) := (Int.natCast_mul sz more).symm
    have hprod : sz * more ≤ 3600 := Nat.le_trans (Nat.mul_le_mul hsz7 (show more ≤ 5 by omega)) (by decide)
    have hmulok : CMul (sz : Int) (more : Int) := .inl ⟨by omega, by omega⟩
    obtain ⟨N, hN, hN7⟩ : ∃ N : Nat, (if (sz : Int) * (more : Int) < 720 then (sz : Int) * (more : Int) else 720) = (N : Int) ∧ N ≤ 720 := by
      rw [hmul]
      by_cases z : ((sz * more : Nat) : Int) < 720
      · rw [if_pos z]; exact ⟨sz * more, rfl, by omega⟩
      · rw [if_neg z]; exact ⟨720, rfl, by omega⟩
    refine ⟨_, rfl, _, rfl, _, _, rfl, rfl, hmulok, _, _, rfl, ?_⟩
    rw [hN]
    refine ⟨(N : Int), rfl, by omega, by omega, fun D hD => ?_⟩
    have npD : p ≠ D := hp3.ne hD
    refine lc_range (lo := 0) (n := N) (fun j H' => Same H3 H' ∧ ∃ acc : List Nat, H' D = some (.lst (ivs acc)) ∧ acc.length ≤ j ∧ ∀ x ∈ acc, x < N) ⟨(Same.refl H3).lay hD, [], upd_same, Nat.le_refl _, fun x hx => by cases hx⟩ ?_ ?_
    · rintro j H4 hj ⟨s4, acc, h5, hal, hax⟩
      rw [show (0 : Int) + (j : Int) = (j : Int) by omega]
      refine ⟨rfl, _, rfl, _, rfl, _, _, rfl, rfl, (by show (0 : Int) < (sz : Int); omega), _, rfl, q, _, rfl, .inl (SqL.of (s4 _ _ hq3)), rfl, flat_ivs cl, _, rfl, ite_any ?_ ⟨s4, acc, h5, by omega, hax⟩⟩
      refine ⟨_, rfl, _, h5, line_ok (by rw [List.length_map]; omega), s4.put hD, acc ++ [j], by rw [upd_same, ivs_snoc], by rw [List.length_append, List.length_singleton]; omega, fun x hx => ?_⟩
      rcases List.mem_append.mp hx with hx | hx
      · exact hax x hx
      · rw [List.mem_singleton.mp hx]; exact hj
    rintro H4 ⟨s4, wi, h6, hwl, hwx⟩
    have hwx' : ∀ x ∈ wi, x < 10 ^ 15 := fun x hx => by have := hwx x hx; omega
    have o : Od H H4 p q l4 D (b + 1) cl es wi := ⟨K3.trans (Same.pk s4), hp3.same s4, s4 _ _ hq3, s4 _ _ h4, h6, nqp, n4, npD.symm⟩
    clear h6 h4 hq3 hp3 K3 s4 s3 hn hD npD hN hp1 so1 s1 hq h1
    have hz : ∀ n : Nat, n ≤ 1000000 → n ≤ sizeLine := fun n h => Nat.le_of_lt (line_ok (by omega))
    have pW : PL 15 23200 (nt wi) := PL.nt hwx' (by omega)
    have pC : PL 15 23200 (nt cl) := PL.nt hclt (by omega)
    have pO : PL 4 4 (cod " of ") := PL.lit 4 (by decide +kernel)
    have pS : PL 15 15 (TL.numL sz) := PL.num (by omega)
    have pSM : PL 15 15 (TL.numL (sz * more)) := PL.num (by omega)
    have rev : ∀ {ns : List Nat}, (ivs ns).reverse = ivs ns.reverse := fun {ns} => List.map_reverse.symm
    -- row 1
    dsimp only [tAsg, gName]
    refine tSeq_by (OdST H p t q l4 D sz more cl es wi 2 (b + 1) none) (fun D' _ hD' => ?_) ?_
    · refine ⟨_, rfl, D, wi, rfl, o.h6, fun n hn => lt500 (hwx' n hn), by omega, fun H5 s5 => ?_⟩
      have o5 := o.same s5
      refine ⟨nt wi, cod " of ", rfl, stE _, by have := pW.len; have := pO.len; omega, ?_⟩
      refine ⟨_, rfl, _, rfl, _, _, rfl, rfl, hmulok, sz * more, (by show [V.int ((sz : Int) * (more : Int))] = _; rw [hmul]), lt500 (by omega), nt wi ++ cod " of ", TL.numL (sz * more), rfl, rfl, by have := (pW.app pO).len; have := pSM.len; omega, ?_⟩
      refine ⟨_, rfl, q, _, rfl, SqL.of o5.hq, fun r1 hr1 => ?_⟩
      rw [rev]
      have o6 := o5.lay (.lst (ivs cl.reverse)) hr1
      refine ⟨r1, cl.reverse, rfl, upd_same, fun n hn => lt500 (hclt n (List.mem_reverse.mp hn)), by rw [List.length_reverse]; omega, fun H7 s7 => ?_⟩
      have pR : PL 15 23200 (nt cl.reverse) := PL.nt (fun n hn => hclt n (List.mem_reverse.mp hn)) (by rw [List.length_reverse]; omega)
      refine ⟨nt cl.reverse, cod " of ", rfl, stE _, by have := pR.len; have := pO.len; omega, _, rfl, sz, rfl, lt500 (by omega), nt cl.reverse ++ cod " of ", TL.numL sz, rfl, rfl, by have := (pR.app pO).len; have := pS.len; omega, hz 2 (by decide), fun w1 hw1 => ?_⟩
      refine hD' _ _ ⟨w1, [nt wi ++ cod " of " ++ TL.numL (sz * more), nt cl.reverse ++ cod " of " ++ TL.numL sz], rfl, (o6.same s7).lay _ hw1, ⟨upd_same, (o6.same s7).pot.ne' hw1, fun u hu => ?_, by show 2 ≤ 50; decide⟩, rfl⟩
      rcases List.mem_cons.mp hu with e | hu
      · rw [e]; exact ((pW.app pO).app pSM).ok (by decide) (by decide)
      · rw [List.mem_singleton.mp hu]; exact ((pR.app pO).app pS).ok (by decide) (by decide)
    clear o
    rintro σ H5 ⟨w, us, rfl, o, R, hn⟩
    -- row 2
    refine tSeq_by (OdST H p t q l4 D sz more cl es wi 3 (b + 1) none) (fun D' _ hD' => ?_) ?_
    · refine ⟨_, rfl, ?_⟩
      refine ⟨_, rfl, _, rfl, _, rfl, _, rfl, q, _, rfl, SqL.of o.hq, fun x1 hx1 => ?_⟩
      obtain ⟨a', n', ecut⟩ := cut_ex cl (some (-1)) none
      rw [ecut]
      have hcut : ∀ x ∈ (cl.drop a').take n', x ∈ cl := fun x hx => List.mem_of_mem_drop (List.mem_of_mem_take hx)
      have hcutl : ((cl.drop a').take n').length ≤ cl.length := by rw [List.length_take, List.length_drop]; omega
      clear ecut
      revert hcut hcutl
      generalize (cl.drop a').take n' = last
      intro hcut hcutl
      refine ⟨q, x1, ivs cl, ivs last, rfl, rfl, (o.lay _ hx1).hq, upd_same, hz _ (by rw [List.length_map, List.length_map]; omega), fun x2 hx2 => ?_⟩
      rw [← List.map_append]
      have o9 := (o.lay (.lst (ivs last)) hx1).lay (.lst (ivs (cl ++ last))) hx2
      have R9 := (R.lay (.lst (ivs last)) hx1).lay (.lst (ivs (cl ++ last))) hx2
      have hcl9 : ∀ n ∈ cl ++ last, n < 10 ^ 15 := fun n hn => (List.mem_append.mp hn).elim (hclt n) fun h => hclt n (hcut n h)
      have pCL : PL 15 23200 (nt (cl ++ last)) := PL.nt hcl9 (by rw [List.length_append]; omega)
      refine ⟨x2, cl ++ last, rfl, upd_same, fun n hn => lt500 (hcl9 n hn), by rw [List.length_append]; omega, fun H10 s10 => ?_⟩
      refine ⟨nt (cl ++ last), cod " of ", rfl, stE _, by have := pCL.len; have := pO.len; omega, _, rfl, sz, rfl, lt500 (by omega), nt (cl ++ last) ++ cod " of ", TL.numL sz, rfl, rfl, by have := (pCL.app pO).len; have := pS.len; omega, ?_⟩
      exact row_end (Q := fun v H' => D'.nx [some (.ref p), some (.ref t), some (iv sz), some (.ref q), some (.ref l4), some (iv more), some (.ref D), none, some v, none] H') _ [nt (cl ++ last) ++ cod " of " ++ TL.numL sz] rfl (o9.same s10) (R9.same s10) hn (by first | (show 2 + 1 ≤ 50; decide) | (show 3 + 1 ≤ 50; decide)) (one_ok (((pCL.app pO).app pS).ok (by decide) (by decide)))
        fun w' us' H' o' R' hn' => hD' _ _ ⟨w', us', rfl, o', R', hn'⟩
    clear o R hn
    rintro σ H6 ⟨w, us, rfl, o, R, hn⟩
    -- row 3
    refine tSeq_by (OdST H p t q l4 D sz more cl es wi 4 (b + 1) none) (fun D' _ hD' => ?_) ?_
    · refine ⟨_, rfl, ?_⟩
      refine ⟨_, rfl, _, rfl, hz 1 (by decide), fun x3 hx3 => ?_⟩
      refine ⟨q, x3, ivs cl, ivs [sz], rfl, rfl, (o.lay _ hx3).hq, upd_same, hz _ (by rw [List.length_map]; simp; omega), fun x4 hx4 => ?_⟩
      rw [← List.map_append]
      have hcs9 : ∀ n ∈ cl ++ [sz], n < 10 ^ 15 := fun n hn => (List.mem_append.mp hn).elim (hclt n) fun h => by rw [List.mem_singleton.mp h]; omega
      have pCS : PL 15 23200 (nt (cl ++ [sz])) := PL.nt hcs9 (by rw [List.length_append]; simp; omega)
      have o9 := (o.lay (.lst (ivs [sz])) hx3).lay (.lst (ivs (cl ++ [sz]))) hx4
      have R9 := (R.lay (.lst (ivs [sz])) hx3).lay (.lst (ivs (cl ++ [sz]))) hx4
      refine ⟨x4, cl ++ [sz], rfl, upd_same, fun n hn => lt500 (hcs9 n hn), by rw [List.length_append]; simp; omega, fun H10 s10 => ?_⟩
      refine ⟨nt (cl ++ [sz]), cod " of ", rfl, stE _, by have := pCS.len; have := pO.len; omega, _, rfl, sz, rfl, lt500 (by omega), nt (cl ++ [sz]) ++ cod " of ", TL.numL sz, rfl, rfl, by have := (pCS.app pO).len; have := pS.len; omega, ?_⟩
      exact row_end (Q := fun v H' => D'.nx [some (.ref p), some (.ref t), some (iv sz), some (.ref q), some (.ref l4), some (iv more), some (.ref D), none, some v, none] H') _ [nt (cl ++ [sz]) ++ cod " of " ++ TL.numL sz] rfl (o9.same s10) (R9.same s10) hn (by first | (show 2 + 1 ≤ 50; decide) | (show 3 + 1 ≤ 50; decide)) (one_ok (((pCS.app pO).app pS).ok (by decide) (by decide)))
        fun w' us' H' o' R' hn' => hD' _ _ ⟨w', us', rfl, o', R', hn'⟩
    clear o R hn
    rintro σ H7 ⟨w, us, rfl, o, R, hn⟩
    -- the plain one
    obtain ⟨pl, hpl, pPl⟩ : ∃ pl, pl = nt cl ++ cod " of " ++ TL.numL sz ∧ PL 34 23219 pl := ⟨_, rfl, (pC.app pO).app pS⟩
    refine tSeq_by (OdST H p t q l4 D sz more cl es wi 4 (b + 1) (some (sV pl))) (fun D' _ hD' => ?_) ?_
    · refine ⟨_, rfl, q, cl, rfl, o.hq, fun n hn => lt500 (hclt n hn), by omega, fun H8 s8 => ?_⟩
      refine ⟨nt cl, cod " of ", rfl, stE _, by have := pC.len; have := pO.len; omega, _, rfl, sz, rfl, lt500 (by omega), nt cl ++ cod " of ", TL.numL sz, rfl, rfl, by have := (pC.app pO).len; have := pS.len; omega, ?_⟩
      rw [← hpl]
      exact hD' _ _ ⟨w, us, rfl, o.same s8, R.same s8, hn⟩
    clear o R hn hpl
    rintro σ H8 ⟨w, us, rfl, o, R, hn⟩
    -- row 4
    refine tSeq_by (OdST H p t q l4 D sz more cl es wi 7 (b + 1) (some (sV pl))) (fun D' _ hD' => ?_) ?_
    · refine ⟨_, rfl, ?_⟩
      have pE : PL 15 23200 (nt es.reverse) := PL.nt (fun n hn => so.e2 n (List.mem_reverse.mp hn)) (by rw [List.length_reverse]; have := so.el; omega)
      have pB : PL 5 5 (cod " but ") := PL.lit 5 (by decide +kernel)
      have pB2 : PL 4 4 (cod " but") := PL.lit 4 (by decide +kernel)
      have pD : PL 5 5 (cod ". of ") := PL.lit 5 (by decide +kernel)
      have pB3 : PL 6 6 (cod " but 0") := PL.lit 6 (by decide +kernel)
      refine ⟨_, rfl, pl, cod " but ", rfl, stE _, by have := pPl.len; have := pB.len; omega, _, rfl, l4, _, rfl, SqL.of o.h4, fun x hx => ?_⟩
      rw [rev]
      refine ⟨x, es.reverse, rfl, upd_same, fun n hn => lt500 (so.e2 n (List.mem_reverse.mp hn)), by rw [List.length_reverse]; have := so.el; omega, fun H9 s9 => ?_⟩
      refine ⟨pl ++ cod " but ", nt es.reverse, rfl, rfl, by have := (pPl.app pB).len; have := pE.len; omega, ?_⟩
      refine ⟨_, rfl, pl, cod " but", rfl, stE _, by have := pPl.len; have := pB2.len; omega, ?_⟩
      refine ⟨_, rfl, sz, rfl, lt500 (by omega), cod ". of ", TL.numL sz, stE _, rfl, by have := pD.len; have := pS.len; omega, ?_⟩
      refine ⟨cod ". of " ++ TL.numL sz, cod " but 0", rfl, stE _, by have := (pD.app pS).len; have := pB3.len; omega, ?_⟩
      refine row_end (Q := fun v H' => D'.nx [some (.ref p), some (.ref t), some (iv sz), some (.ref q), some (.ref l4), some (iv more), some (.ref D), none, some v, (some (sV pl))] H') _ [pl ++ cod " but " ++ nt es.reverse, pl ++ cod " but", cod ". of " ++ TL.numL sz ++ cod " but 0"] rfl ((o.lay _ hx).same s9) ((R.lay _ hx).same s9) hn (by show 4 + 3 ≤ 50; decide) (fun u hu => ?_)
        fun w' us' H' o' R' hn' => hD' _ _ ⟨w', us', rfl, o', R', hn'⟩
      rcases List.mem_cons.mp hu with e | hu
      · rw [e]; exact ((pPl.app pB).app pE).ok (by decide) (by decide)
      rcases List.mem_cons.mp hu with e | hu
      · rw [e]; exact (pPl.app pB2).ok (by decide) (by decide)
      · rw [List.mem_singleton.mp hu]; exact ((pD.app pS).app pB3).ok (by decide) (by decide)
    clear o R hn
    rintro σ H9 ⟨w, us, rfl, o, R, hn⟩
    -- rows 5, 6
    have lits : ∀ L : List String, (L.all fun x => (cod x).all (fun c => decide (c < 128)) && decide ((cod x).length ≤ 100)) = true → ∀ u ∈ L.map cod, OkP u := fun L h u hu => by
      obtain ⟨x, hx, rfl⟩ := List.mem_map.mp hu
      have := List.all_eq_true.mp h x hx
      rw [Bool.and_eq_true, decide_eq_true_eq] at this
      exact okp_lit this
    refine tSeq_by (OdST H p t q l4 D sz more cl es wi 10 (b + 1) (some (sV pl))) (fun D' _ hD' => ?_) ?_
    · refine ⟨_, rfl, ?_⟩
      exact row_end (Q := fun v H' => D'.nx [some (.ref p), some (.ref t), some (iv sz), some (.ref q), some (.ref l4), some (iv more), some (.ref D), none, some v, (some (sV pl))] H') ([". of 0", ". of 2", "0 of 1 but 3 3"].map stV) ([". of 0", ". of 2", "0 of 1 but 3 3"].map cod) (stL _) o R hn (by show 7 + 3 ≤ 50; decide) (lits _ (by decide +kernel))
        fun w' us' H' o' R' hn' => hD' _ _ ⟨w', us', rfl, o', R', hn'⟩
    clear o R hn
    rintro σ H10 ⟨w, us, rfl, o, R, hn⟩
    refine tSeq_by (OdST H p t q l4 D sz more cl es wi 17 (b + 1) (some (sV pl))) (fun D' _ hD' => ?_) ?_
    · refine ⟨_, rfl, ?_⟩
      exact row_end (Q := fun v H' => D'.nx [some (.ref p), some (.ref t), some (iv sz), some (.ref q), some (.ref l4), some (iv more), some (.ref D), none, some v, (some (sV pl))] H') (["0 1 of 2", "1 of 2 but 2 but 4", "0 of 720", "0 of 721", "of 1", " of 1", ". of"].map stV) (["0 1 of 2", "1 of 2 but 2 but 4", "0 of 720", "0 of 721", "of 1", " of 1", ". of"].map cod) (stL _) o R hn (by show 10 + 7 ≤ 50; decide) (lits _ (by decide +kernel))
        fun w' us' H' o' R' hn' => hD' _ _ ⟨w', us', rfl, o', R', hn'⟩
    clear o R hn
    rintro σ H11 ⟨w, us, rfl, o, R, hn⟩
    -- row 7
    refine tSeq_by (OdST H p t q l4 D sz more cl es wi 20 (b + 3) (some (sV pl))) (fun D' _ hD' => ?_) ?_
    · refine ⟨_, rfl, ?_⟩
      have pA : PL 11 11 (cod "1 of 3 but ") := PL.lit 11 (by decide +kernel)
      have pB : PL 5 5 (cod " of 3") := PL.lit 5 (by decide +kernel)
      refine ⟨_, rfl, p, b + 1, 61, rfl, o.pot, by omega, by decide, by decide, fun v1 H12 hv1 s1 hp1 => ?_⟩
      have pR1 : PL 100 100 (List.replicate v1 52) := PL.rep (by decide) (by omega)
      refine ⟨52, v1, rfl, rfl, by omega, cod "1 of 3 but ", List.replicate v1 52, stE _, rfl, by have := pA.len; have := pR1.len; omega, ?_⟩
      refine ⟨_, rfl, p, b + 2, 61, rfl, hp1, by omega, by decide, by decide, fun v2 H13 hv2 s2 hp2 => ?_⟩
      have pR2 : PL 100 100 (List.replicate v2 50) := PL.rep (by decide) (by omega)
      refine ⟨50, v2, rfl, rfl, by omega, List.replicate v2 50, cod " of 3", rfl, stE _, by have := pB.len; have := pR2.len; omega, ?_⟩
      refine row_end (Q := fun v H' => D'.nx [some (.ref p), some (.ref t), some (iv sz), some (.ref q), some (.ref l4), some (iv more), some (.ref D), none, some v, (some (sV pl))] H') [V.str (Str.ofString ". 0 of 1"), sV (cod "1 of 3 but " ++ List.replicate v1 52), sV (List.replicate v2 50 ++ cod " of 3")] [cod ". 0 of 1", cod "1 of 3 but " ++ List.replicate v1 52, List.replicate v2 50 ++ cod " of 3"] (congrArg (· :: _) (stE _)) ((o.dip s1 hp1).dip s2 hp2) ((R.dip s1).dip s2) hn (by show 17 + 3 ≤ 50; decide) (fun u hu => ?_)
        fun w' us' H' o' R' hn' => hD' _ _ ⟨w', us', rfl, o', R', hn'⟩
      rcases List.mem_cons.mp hu with e | hu
      · rw [e]; exact okp_lit (by decide +kernel)
      rcases List.mem_cons.mp hu with e | hu
      · rw [e]; exact (pA.app pR1).ok (by decide) (by decide)
      · rw [List.mem_singleton.mp hu]; exact (pR2.app pB).ok (by decide) (by decide)
    clear o R hn
    rintro σ H12 ⟨w, us, rfl, o, R, hn⟩
    -- row 8
    refine tSeq_by (OdST H p t q l4 D sz more cl es wi 21 (b + 4) (some (sV pl))) (fun D' _ hD' => ?_) ?_
    · refine ⟨_, rfl, ?_⟩
      have pA : PL 6 6 (cod ". of 1") := PL.lit 6 (by decide +kernel)
      refine ⟨_, rfl, p, b + 3, 60, rfl, o.pot, by omega, by decide, by decide, fun v1 H13 hv1 s1 hp1 => ?_⟩
      have pR1 : PL 100 100 (List.replicate v1 48) := PL.rep (by decide) (by omega)
      refine ⟨48, v1, rfl, rfl, by omega, cod ". of 1", List.replicate v1 48, stE _, rfl, by have := pA.len; have := pR1.len; omega, ?_⟩
      exact row_end (Q := fun v H' => D'.nx [some (.ref p), some (.ref t), some (iv sz), some (.ref q), some (.ref l4), some (iv more), some (.ref D), none, some v, (some (sV pl))] H') _ [cod ". of 1" ++ List.replicate v1 48] rfl (o.dip s1 hp1) (R.dip s1) hn (by show 20 + 1 ≤ 50; decide) (one_ok ((pA.app pR1).ok (by decide) (by decide)))
        fun w' us' H' o' R' hn' => hD' _ _ ⟨w', us', rfl, o', R', hn'⟩
    clear o R hn
    rintro σ H13 ⟨w, us, rfl, o, R, hn⟩
    have hus : (sVs us).length = us.length := List.length_map ..
    refine ⟨_, rfl, _, rfl, _, rfl, _, _, rfl, .inl (SqL.of R.hr), p, b + 4, (sVs us).length, rfl, o.pot, by omega, by omega, by rw [hus, hn]; decide, fun v H14 hv s14 hp14 => ?_⟩
    rw [hus] at hv
    have hu : us[v]? = some us[v] := List.getElem?_eq_getElem hv
    refine ⟨w, _, _, sV us[v], rfl, rfl, SqL.of (s14 _ _ R.nr R.hr), atI_nat (by rw [List.getElem?_map, hu]; rfl), kQ _ H14 (R.ok _ (List.getElem_mem hv)) (o.k.trans s14) (hp14.mono (by omega))⟩
end
end Rl
end

section
set_option maxRecDepth 100000
set_option maxHeartbeats 4000000
namespace Rl
open PySem L2 SX
section
variable {P : Program} {w : World} {K : PySem.W.Frag} {mg : Str → Option Value} {base : Heap}
def spTold (K : PySem.W.Frag) : Sp := fun vs H Q _ => (∃ (pg : List Nat) (b : Nat), vs = [sV pg] ∧ Pg b pg ∧ b ≤ 500 ∧ pg.length < 4000 + 1 ∧ ∀ v H', Same H H' → Ans H' v (lawRead pg) → Q v H') ∨
  ∃ (x : V) (t : Value), vs = [x] ∧ (∀ H', Same H H' → TyX K H' x t) ∧ PySem.W.kitOne K t (.type "str") = some false ∧ ∀ H', Same H H' → Q .non H'
abbrev tdN : List Str := ["_law_thing", "_law_made", "_law_found", "e"]
theorem scTold : FnScope tdN ["_law_thing"] (defScope tTold) := ⟨rfl, rfl, rfl, by decide +kernel, rfl, by decide +kernel, by decide +kernel⟩
theorem ok_told {f f1 f2 f3 f4 CD CP CT fT : Addr} {fd fd1 fd2 fd3 fd4 fdT : FuncData} (F : Fun K "_law_told" "_law_told" tTold f fd) (B : Bi mg) (T : TxT K mg CT fT fdT) (X : XfC K CT) (hx1 : PySem.W.exmOne K (.ref CT) (.ref CT) = some true)
    (TD : TxD K CD) (nC : ∀ p : Addr, (putF "plain" (V.ref p) []).lookup ("classes" : Str) = none ∧ (putF "plain" (V.ref p) []).lookup ("modulus" : Str) = none ∧ (putF "plain" (V.ref p) []).lookup ("changed" : Str) = none)
    (G1 : FnOk P w K mg base (L2.CX P w) 9 f1 fd1 ["text"] (spRead CD CP CT K)) (g1 : mg "read_set" = some (.ref f1)) (k1 : PySem.W.keepIn K (.ref f1) = true) (b1 : Binds K fd1 ["text"] [])
    (G2 : FnOk P w K mg base CX0 1 f2 fd2 ["self"] (spDCls CD CP)) (m2 : Meth K CD "classes" f2) (b2 : Binds K fd2 ["self"] [])
    (G3 : FnOk P w K mg base CX0 1 f3 fd3 ["self"] (spDMod CD CP)) (m3 : Meth K CD "modulus" f3) (b3 : Binds K fd3 ["self"] [])
    (G4 : FnOk P w K mg base CX0 1 f4 fd4 ["self"] (spDChg CD CP)) (m4 : Meth K CD "changed" f4) (b4 : Binds K fd4 ["self"] []) :
    FnOk P w K mg base CX0 10 f fd ["_law_thing"] (spTold K) := by
  refine F.ok scTold (fun vs H Q E h => ?_) (fun cdv A outer s H vs Q E hr h => ?_)
  · rcases h with ⟨p, b, rfl, _⟩ | ⟨x, t, rfl, _⟩
    · rfl
    · rfl
  · have hr1 : Room 1 _ := hr.mono (by decide)
    have nd := scTold.nd
    refine ⟨_, pss_cons (ps_asg (pe_tup (pa_cons pe_non (pa_cons (pe_un un_neg pe_int) pa_nil))) (pg_tup rfl (pgs_cons (pg_name (i := 1) nd rfl (Or.inl rfl)) (pgs_cons (pg_name (i := 2) nd rfl (Or.inl rfl)) pgs_nil))))
      (pss_cons (L2.ps_try_as (i := 3) rfl rfl nd rfl rfl ⟨rfl, by decide, .inl T.g⟩ takes0
          (fun W pn xe tk _ => pss_one (ps_set (i := 1) nd rfl (Or.inl rfl) (pe_callS G1 hr rfl g1 k1 b1 (fun σ => L2.passAt tk σ) (pa_cons (pv 0) pa_nil))))
          (fun a oe cls d pn hz hf => pss_one (ps_set (i := 2) nd rfl (Or.inl rfl) (pe_ifExp (PW.pt (pw_and (pt_cmpR op_eq (pe_xf X T.nL hz hf (pv 3)) pe_int (nomark _)) (pw_and1 (pt_not (pt_val (pe_callB (id := "isinstance") (r := rIsi K) call_isi (by rfl) B.isinstance (by decide +kernel) (pa_cons (pe_xf X T.nL hz hf (pv 3)) (pa_cons (pe_bltn (v := .ty "bool") (by rfl) B.bool (by decide +kernel) rfl) pa_nil)))))))) pe_non (pe_un un_neg pe_int)))))
      (pss_cons (ps_if (pt_cmpR op_notN (pv 1) pe_non (nomark _))
        (pss_one (ps_set (i := 2) nd rfl (Or.inl rfl) (pe_tup (pa_cons (pe_meth0 (pv 1) TD.cl m3 G3 hr1 b3 .nil pass0) (pa_cons (pe_meth0 (pv 1) TD.cl m2 G2 hr1 b2 .nil pass0) (pa_cons (pe_meth0 (pv 1) TD.cl m4 G4 hr1 b4 .nil pass0) pa_nil)))))) pss_nil)
      (pss_one (ps_ret (pv 2))))), ?_⟩
    refine ⟨_, rfl, by show 2 ≤ sizeLine; decide, fun t0 ht0 => ⟨t0, _, rfl, SqT.of upd_same, rfl, _, _, rfl, _, _, rfl, rfl, ?_⟩⟩
    have s0 : Same H (upd H t0 (.tup [.non, .int (-1)])) := (Same.refl H).lay ht0
    have notBool : PySem.W.kitOne K (.type "int") (.type "bool") = some false := kit_ty (by decide +kernel)
    -- the suite's reading
    have suite : ∀ (x : V) (d : Addr) (H' : Hp), LineAt H' d → (∀ H', Same H H' → Q .non H') → Same H H' → True := fun _ _ _ _ _ _ => trivial
    rcases h with ⟨pg, b, rfl, hpg, hb, hl, kQ⟩ | ⟨x, t, rfl, hty, hk, kQ⟩
    · dsimp only [tSeq]
      refine ⟨_, rfl, .inl ⟨pg, b, rfl, hpg, hb, hl, fun m cs chs g e H' d n ds s1 hd n1 n2 e1 e2 => ?_, fun hno d H' s1 hd => ?_⟩⟩
      · obtain ⟨dx, pp, hd1, _⟩ := id hd
        refine ⟨_, rfl, rfl, _, rfl, ?_⟩
        refine ⟨_, rfl, d, dx, _, rfl, hd1, (nC pp).2.1, d, n, ds, chs, rfl, hd, n1, ?_⟩
        refine ⟨_, rfl, d, dx, _, rfl, hd1, (nC pp).1, d, n, ds, chs, rfl, hd, n1, by omega, fun H2 q s2 nq hq => ?_⟩
        refine ⟨_, rfl, d, dx, _, rfl, s2 _ _ hd1, (nC pp).2.2, d, n, ds, chs, rfl, hd.same s2, n1, fun t ht => ?_⟩
        refine ⟨by show 3 ≤ sizeLine; decide, fun tt htt => ?_⟩
        have s3 := (Same.refl H2).lay (o := .tup [iv (lp n (mk ds)), .ref q, .ref t]) htt
        refine ⟨_, rfl, kQ _ _ (((s0.trans s1).trans s2).trans s3) ?_⟩
        rw [e, lawRead_Wr g]
        rw [e1] at hq
        rw [e2] at hq
        exact ⟨tt, rfl, q, t, by rw [upd_same, e1], s3 _ _ hq, s3 _ _ ht⟩
      · have hnone : lawRead pg = none := by
          cases q : lawRead pg with
          | none => rfl
          | some t3 => exact absurd (lawRead_some q).2 (hno _ _ _ (lawRead_some q).1)
        rw [hnone] at kQ
        refine ⟨true, hx1, fun _ a ha => ?_, fun q => nomatch q⟩
        have hd2 : H' d = some (.xd [(("line" : Str), V.int 0)]) := hd
        refine ⟨_, rfl, rfl, rfl, d, _, V.int 0, rfl, hd2, rfl, rfl, _, rfl, ?_⟩
        refine ⟨_, rfl, rfl, rfl, d, _, V.int 0, rfl, hd2, rfl, _, _, _, _, false, rfl, .ty _, .base (.int 0), notBool, _, rfl, ?_⟩
        refine ⟨_, rfl, rfl, _, rfl, ?_⟩
        exact ⟨_, rfl, kQ _ _ (s0.trans s1) rfl ⟩
    · dsimp only [tSeq]
      refine ⟨_, rfl, .inr ⟨x, t, rfl, hty _ s0, hk, fun d H' s1 hd => ?_⟩⟩
      refine ⟨true, hx1, fun _ a ha => ?_, fun q => nomatch q⟩
      have hd2 : H' d = some (.xd [(("line" : Str), V.int 0)]) := hd
      refine ⟨_, rfl, rfl, rfl, d, _, V.int 0, rfl, hd2, rfl, rfl, _, rfl, ?_⟩
      refine ⟨_, rfl, rfl, rfl, d, _, V.int 0, rfl, hd2, rfl, _, _, _, _, false, rfl, .ty _, .base (.int 0), notBool, _, rfl, ?_⟩
      refine ⟨_, rfl, rfl, _, rfl, ?_⟩
      exact ⟨_, rfl, kQ _ (s0.trans s1) ⟩
end
end Rl
end

section
set_option maxRecDepth 100000
set_option maxHeartbeats 4000000
namespace Rl
open PySem L2 SX
/-- the same None or number -/
def Alk0 (v u : V) : Prop := (v = .non ∧ u = .non) ∨ ∃ n : Nat, v = iv n ∧ u = iv n
/-- alike, by depth -/
def Alk (H : Hp) : Nat → V → V → Prop
  | 0, _, _ => False
  | n + 1, v, u => Alk0 v u ∨ ∃ (a c : Addr) (xs ys : List V), v = .ref a ∧ u = .ref c ∧ H a = some (.tup xs) ∧ H c = some (.tup ys) ∧ xs.length = ys.length ∧ xs.length ≤ 5000 ∧ ∀ (i : Nat) (x y : V), xs[i]? = some x → ys[i]? = some y → Alk H n x y
theorem Alk.same {H H' : Hp} (s : Same H H') : ∀ {n : Nat} {v u : V}, Alk H n v u → Alk H' n v u
  | 0, _, _, h => h.elim
  | n + 1, v, u, h => by
    rcases h with h | ⟨a, c, xs, ys, h1, h2, h3, h4, h5, h6, h7⟩
    · exact .inl h
    · exact .inr ⟨a, c, xs, ys, h1, h2, s _ _ h3, s _ _ h4, h5, h6, fun i x y hx hy => (h7 i x y hx hy).same s⟩
theorem bl_nn {b : Bool} : (!decide (V.bl b = V.bl b)) = false := by simp
section
variable {P : Program} {w : World} {K : PySem.W.Frag} {mg : Str → Option Value} {base : Heap}
def spAlike (n : Nat) : Sp := fun vs H Q _ => ∃ v u : V, vs = [v, u] ∧ Alk H n v u ∧ ∀ H', Same H H' → Q (.bl true) H'
abbrev alN : List Str := ["_law_found", "_law_due", "_law_k"]
theorem scAlike : FnScope alN ["_law_found", "_law_due"] (defScope tAlike) := ⟨rfl, rfl, rfl, by decide +kernel, rfl, by decide +kernel, by decide +kernel⟩
theorem ok_alike {f : Addr} {fd : FuncData} (F : Fun K "_law_alike" "_law_alike" tAlike f fd) (B : Bi mg) (g : mg "_law_alike" = some (.ref f)) (k : PySem.W.keepIn K (.ref f) = true) (b : Binds K fd ["_law_found", "_law_due"] []) :
    ∀ n, FnOk P w K mg base CX0 (n + 1) f fd ["_law_found", "_law_due"] (spAlike n)
  | 0 => F.ok scAlike (fun vs H Q E h => by obtain ⟨v, u, rfl, h, _⟩ := h; rfl) (fun cdv A outer s H vs Q E hr h => by obtain ⟨v, u, rfl, h, _⟩ := h; exact h.elim)
  | n + 1 => by
    have G := ok_alike F B g k b n
    refine F.ok scAlike (fun vs H Q E h => by obtain ⟨v, u, rfl, h, _⟩ := h; rfl) (fun cdv A outer s H vs Q E hr h => ?_)
    obtain ⟨v, u, rfl, hA, kQ⟩ := h
    have nd := scAlike.nd
    refine ⟨_, pss_cons (ps_if (PW.pt (pw_or (pt_cmpR op_ne (pe_callB call_isi (by rfl) B.isinstance (by decide +kernel) (pa_cons (pv 0) (pa_cons (pe_bltn (v := .ty "tuple") (by rfl) B.tuple (by decide +kernel) rfl) pa_nil))) (pe_callB call_isi (by rfl) B.isinstance (by decide +kernel) (pa_cons (pv 1) (pa_cons (pe_bltn (v := .ty "tuple") (by rfl) B.tuple (by decide +kernel) rfl) pa_nil))) (nomark _))
        (pw_or1 (pt_cmpR op_ne (pe_callB call_isi (by rfl) B.isinstance (by decide +kernel) (pa_cons (pv 0) (pa_cons (pe_bltn (v := .ty "list") (by rfl) B.list (by decide +kernel) rfl) pa_nil))) (pe_callB call_isi (by rfl) B.isinstance (by decide +kernel) (pa_cons (pv 1) (pa_cons (pe_bltn (v := .ty "list") (by rfl) B.list (by decide +kernel) rfl) pa_nil))) (nomark _))))) (pss_one (ps_ret pe_bl)) pss_nil)
      (pss_cons (ps_if (pt_val (pe_callB call_isiT (by rfl) B.isinstance (by decide +kernel) (pa_cons (pv 1) (pa_cons (pe_tup (pa_cons (pe_bltn (v := .ty "tuple") (by rfl) B.tuple (by decide +kernel) rfl) (pa_cons (pe_bltn (v := .ty "list") (by rfl) B.list (by decide +kernel) rfl) pa_nil))) pa_nil))))
        (pss_cons (ps_if (pt_cmpR op_ne (pe_callB call_len_seq (by rfl) B.len PySem.boot_len (pa_cons (pv 0) pa_nil)) (pe_callB call_len_seq (by rfl) B.len PySem.boot_len (pa_cons (pv 1) pa_nil)) (nomark _)) (pss_one (ps_ret pe_bl)) pss_nil)
        (pss_one (ps_ret (pe_cmpR (op_eqT (List Nat) hr.units (by decide)) (pe_lc (own := [("_law_k", 2)]) (g := gName 2) rfl nd (pi_range1 (by rfl) B.range (pa_cons (pe_callB call_len_seq (by rfl) B.len PySem.boot_len (pa_cons (pv 1) pa_nil)) pa_nil)) (blkOk_by (N := alN) (sc := defScope tAlike) (by decide +kernel))
          (fun _ _ _ _ _ => pg_name (i := 2) nd rfl (Or.inl rfl)) (fun _ _ _ _ _ => pts_one (pt_not (pt_val (pe_call G hr rfl g k b .nil pass0 (pa_cons (pe_ix (r := rIxT K) ix_tup (pv 0) (pv 2) (fun _ _ => rfl)) (pa_cons (pe_ix (r := rIxT K) ix_tup (pv 1) (pv 2) (fun _ _ => rfl)) pa_nil)))))) (fun _ _ _ _ _ => pv 2)) (pe_lst pa_nil) (nomark _))))) pss_nil)
      (pss_cons (ps_if (PW.pt (pw_or (pt_cmpR op_ne (pe_callB call_isi (by rfl) B.isinstance (by decide +kernel) (pa_cons (pv 0) (pa_cons (pe_bltn (v := .ty "bool") (by rfl) B.bool (by decide +kernel) rfl) pa_nil))) (pe_callB call_isi (by rfl) B.isinstance (by decide +kernel) (pa_cons (pv 1) (pa_cons (pe_bltn (v := .ty "bool") (by rfl) B.bool (by decide +kernel) rfl) pa_nil))) (nomark _))
        (pw_or1 (pt_cmpR op_ne (pe_callB call_isi (by rfl) B.isinstance (by decide +kernel) (pa_cons (pv 0) (pa_cons (pe_bltn (v := .ty "str") (by rfl) B.str (by decide +kernel) rfl) pa_nil))) (pe_callB call_isi (by rfl) B.isinstance (by decide +kernel) (pa_cons (pv 1) (pa_cons (pe_bltn (v := .ty "str") (by rfl) B.str (by decide +kernel) rfl) pa_nil))) (nomark _))))) (pss_one (ps_ret pe_bl)) pss_nil)
      (pss_one (ps_ret (pe_cmpR (op_eqD hr.units) (pv 0) (pv 1) (nomark _)))))), ?_⟩
    rcases hA with hA | ⟨a, c, xs, ys, rfl, rfl, h3, h4, h5, h6, h7⟩
    · -- scalars: the same type
      have hv : ∃ T : String, TyOf K H v (.type T) ∧ u = v ∧ kitB T "tuple" = some false ∧ kitB T "list" = some false ∧ kitB T "bool" = some false ∧ kitB T "str" = some false ∧ ∃ d : PyData, Dp K H v d ∧ SeqAt.shaped d = true ∧ PyData.eqv d d = true := by
        rcases hA with ⟨rfl, rfl⟩ | ⟨m, rfl, rfl⟩
        · exact ⟨"NoneType", .non, rfl, by decide +kernel, by decide +kernel, by decide +kernel, by decide +kernel, .none, .non, rfl, rfl⟩
        · exact ⟨"int", .int _, rfl, by decide +kernel, by decide +kernel, by decide +kernel, by decide +kernel, .int m, .int _, rfl, by show ((m : Int) == (m : Int)) = true; simp⟩
      obtain ⟨T, hT, rfl, q1, q2, q3, q4, d, hd, hsh, heq⟩ := hv
      refine ⟨_, rfl, _, _, _, _, false, rfl, .ty _, .base hT, kit_ty q1, _, rfl, _, _, _, _, false, rfl, .ty _, .base hT, kit_ty q1, rfl, _, rfl, ?_⟩
      refine ⟨_, rfl, _, _, _, _, false, rfl, .ty _, .base hT, kit_ty q2, _, rfl, _, _, _, _, false, rfl, .ty _, .base hT, kit_ty q2, rfl, _, rfl, ?_⟩
      refine ⟨_, rfl, by show 2 ≤ sizeLine; decide, fun t ht => ?_⟩
      have st : Same H (upd H t (.tup [.ty "tuple", .ty "list"])) := (Same.refl H).lay ht
      have hT' : TyOf K (upd H t (.tup [.ty "tuple", .ty "list"])) u (.type T) := by
        rcases hA with ⟨rfl, _⟩ | ⟨m, rfl, _⟩
        · cases hT; exact .non
        · cases hT; exact .int _
      have hd' : Dp K (upd H t (.tup [.ty "tuple", .ty "list"])) u d := by
        rcases hA with ⟨rfl, _⟩ | ⟨m, rfl, _⟩
        · cases hd; exact .non
        · cases hd; exact .int _
      refine ⟨_, t, _, _, [.type "tuple", .type "list"], false, rfl, upd_same, .cons (.ty _) (.cons (.ty _) .nil), .base hT', kitAny_cons (b := false) (kit_ty q1) (fun _ => kitAny_cons (b := false) (kit_ty q2) (fun _ => kitAny_nil) (fun z => nomatch z)) (fun z => nomatch z), _, rfl, ?_⟩
      refine ⟨_, rfl, _, _, _, _, false, rfl, .ty _, .base hT', kit_ty q3, _, rfl, _, _, _, _, false, rfl, .ty _, .base hT', kit_ty q3, rfl, _, rfl, ?_⟩
      refine ⟨_, rfl, _, _, _, _, false, rfl, .ty _, .base hT', kit_ty q4, _, rfl, _, _, _, _, false, rfl, .ty _, .base hT', kit_ty q4, rfl, _, rfl, ?_⟩
      refine ⟨_, rfl, _, rfl, d, d, hd', hd', hsh, hsh, ?_⟩
      rw [heq]
      exact kQ _ st
    · have tA : ∀ {C : String} {r : Bool}, kitB "tuple" C = some r → True := fun _ => trivial
      refine ⟨_, rfl, _, _, _, _, true, rfl, .ty _, .base (.tup h3), kit_ty (by decide +kernel), _, rfl, _, _, _, _, true, rfl, .ty _, .base (.tup h4), kit_ty (by decide +kernel), rfl, _, rfl, ?_⟩
      refine ⟨_, rfl, _, _, _, _, false, rfl, .ty _, .base (.tup h3), kit_ty (by decide +kernel), _, rfl, _, _, _, _, false, rfl, .ty _, .base (.tup h4), kit_ty (by decide +kernel), rfl, _, rfl, ?_⟩
      refine ⟨_, rfl, by show 2 ≤ sizeLine; decide, fun t ht => ?_⟩
      have st : Same H (upd H t (.tup [.ty "tuple", .ty "list"])) := (Same.refl H).lay ht
      refine ⟨_, t, _, _, [.type "tuple", .type "list"], true, rfl, upd_same, .cons (.ty _) (.cons (.ty _) .nil), .base (.tup (st _ _ h4)), kitAny_cons (b := true) (kit_ty (by decide +kernel)) (fun z => nomatch z) (fun _ => rfl), _, rfl, ?_⟩
      have h7' : ∀ (i : Nat) (x y : V), xs[i]? = some x → ys[i]? = some y → Alk (upd H t (.tup [.ty "tuple", .ty "list"])) n x y := fun i x y hx hy => (h7 i x y hx hy).same st
      have h3' := st _ _ h3
      have h4' := st _ _ h4
      generalize upd H t (.tup [.ty "tuple", .ty "list"]) = H1 at *
      refine ⟨_, rfl, _, _, rfl, .inr (SqT.of h3'), _, rfl, _, _, rfl, .inr (SqT.of h4'), rfl, _, rfl, ?_⟩
      refine ite3 (c := ¬ xs.length = ys.length) (by rw [← decide_not]; exact decide_eq_decide.mpr (by simp; omega)) (fun z => absurd h5 z) (fun _ => ?_)
      refine ⟨_, rfl, _, _, rfl, .inr (SqT.of h4'), (ys.length : Int), rfl, by omega, by omega, fun D hD => ?_⟩
      refine lc_range (lo := 0) (n := ys.length) (fun j H' => Same H1 H' ∧ H' D = some (.lst [])) ⟨(Same.refl H1).lay hD, upd_same⟩ ?_ ?_
      · rintro j H' hj ⟨s1, hDl⟩
        have hx : xs[j]? = some xs[j] := List.getElem?_eq_getElem (by omega)
        have hy : ys[j]? = some ys[j] := List.getElem?_eq_getElem hj
        refine ⟨rfl, _, rfl, _, rfl, a, _, _, xs[j], rfl, rfl, SqT.of (s1 _ _ h3'), L2.at_of (j := j) (by omega) hx, _, rfl, _, rfl, c, _, _, ys[j], rfl, rfl, SqT.of (s1 _ _ h4'), L2.at_of (j := j) (by omega) hy, xs[j], ys[j], rfl, (h7' j _ _ hx hy).same s1, fun H2 s2 => ⟨_, rfl, ?_⟩⟩
        exact ⟨s1.trans s2, s2 _ _ hDl⟩
      · rintro H2 ⟨s1, hDl⟩
        refine ⟨Nat.zero_le _, fun D2 hD2 => ⟨[], [], dp_ivs (ns := []) (SqL.of (by rw [upd_ne (ne_of_none hDl hD2)]; exact hDl)), dp_ivs (ns := []) (SqL.of upd_same), ?_⟩⟩
        exact kQ _ (st.trans (s1.lay hD2))
end
end Rl
end

section
set_option maxRecDepth 100000
set_option maxHeartbeats 4000000
namespace Rl
open PySem L2 SX
def bnd : Nat → Nat
  | 0 => 15
  | n + 1 => 2 * bnd n + 24
def lnd : Nat → Nat
  | 0 => 3100
  | n + 1 => 3 * lnd n + 60
theorem bl_nd {i : Nat} (h : i ≤ 3) : bnd i ≤ 500 ∧ lnd i ≤ 90000 := by
  match i, h with
  | 0, _ => decide
  | 1, _ => decide
  | 2, _ => decide
  | 3, _ => decide
theorem lnd2 {i : Nat} (h : i ≤ 2) : lnd i ≤ 60000 := by
  match i, h with
  | 0, _ => decide
  | 1, _ => decide
  | 2, _ => decide
structure GP (u : List Nat) : Prop where
  pg : Pg 500 u
  len : u.length ≤ 90000
theorem numPg {n : Nat} (h : n < 10 ^ 15) : Pg 15 (TL.numL n) := num_pg (TL.numL_len (by decide) h)
theorem Wr_pg {m : Nat} {cs chs : List Nat} (hm : m < 10 ^ 15) (h1 : ∀ c ∈ cs, c < 10 ^ 15) (h3 : ∀ c ∈ chs, c < 10 ^ 15) : Pg 15 (Wr m cs chs) := by
  rw [Wr_join]
  refine Pg.joined (by decide) (by decide) fun w hw' => ?_
  have lit : ∀ {x : List Nat}, (x.all fun c => decide (c < 128)) = true → x.length ≤ 15 → Pg 15 x := fun h hl => (Pg.len fun c hc => of_decide_eq_true (List.all_eq_true.mp h c hc)).mono hl
  unfold wrds cw hw at hw'
  rcases List.mem_append.mp hw' with h | h
  · split at h
    · rw [List.mem_singleton.mp h]; exact lit (by decide) (by decide)
    · obtain ⟨n, hn, e⟩ := List.mem_map.mp h
      rw [← e]; exact numPg (h1 n hn)
  · rcases List.mem_cons.mp h with e | h
    · rw [e]; exact lit (by decide) (by decide)
    · rcases List.mem_cons.mp h with e | h
      · rw [e]; exact numPg hm
      · split at h
        · cases h
        · rcases List.mem_cons.mp h with e | h
          · rw [e]; exact lit (by decide) (by decide)
          · obtain ⟨n, hn, e⟩ := List.mem_map.mp h
            rw [← e]; exact numPg (h3 n hn)
theorem chs_len (m : Nat) (cs chs : List Nat) : chs.length ≤ (Wr m cs chs).length + 1 := by
  have h := words_len 32 (Wr m cs chs)
  rw [wd_Wr] at h
  have h2 : chs.length ≤ (wrds m cs chs).length := by
    unfold wrds hw
    rw [List.length_append, List.length_cons, List.length_cons]
    split
    · rename_i z; rw [z]; simp
    · rw [List.length_cons, List.length_map]; omega
  omega
theorem tri_alk {H : Hp} {t t' m : Nat} {cs chs : List Nat} (h : Tri H t m cs chs) (h' : Tri H t' m cs chs) (l1 : cs.length ≤ 5000) (l2 : chs.length ≤ 5000) : Alk H 3 (.ref t) (.ref t') := by
  obtain ⟨a, c, h1, h2, h3⟩ := h
  obtain ⟨a', c', h1', h2', h3'⟩ := h'
  have tints : ∀ {a a' : Addr} {ns : List Nat}, H a = some (.tup (ivs ns)) → H a' = some (.tup (ivs ns)) → ns.length ≤ 5000 → Alk H 2 (.ref a) (.ref a') := fun {a a' ns} e e' l =>
    .inr ⟨a, a', _, _, rfl, rfl, e, e', rfl, by rw [List.length_map]; exact l, fun i x y hx hy => by
      obtain ⟨n, _, rfl⟩ := get_map hx
      rw [hx] at hy
      cases hy
      exact .inl (.inr ⟨n, rfl, rfl⟩)⟩
  refine .inr ⟨t, t', _, _, rfl, rfl, h1, h1', rfl, by show 3 ≤ 5000; decide, fun i x y hx hy => ?_⟩
  match i with
  | 0 => cases hx; cases hy; exact .inl (.inr ⟨m, rfl, rfl⟩)
  | 1 => cases hx; cases hy; exact tints h2 h2' l1
  | 2 => cases hx; cases hy; exact tints h3 h3' l2
  | i + 3 => cases hx
theorem ans_alk {H : Hp} {v u : V} {pg : List Nat} (h : Ans H v (lawRead pg)) (h' : Ans H u (lawRead pg)) (hl : pg.length ≤ 4900) : Alk H 3 v u := by
  cases q : lawRead pg with
  | none =>
    rw [q] at h h'
    exact .inl (.inl ⟨h, h'⟩)
  | some t3 =>
    rw [q] at h h'
    obtain ⟨g, e⟩ := lawRead_some q
    obtain ⟨t, rfl, h1⟩ := h
    obtain ⟨t', rfl, h1'⟩ := h'
    have l1 := sorted_len g.cs_s g.cs_lt
    have l2 := chs_len t3.1 t3.2.1 t3.2.2
    rw [← e] at l2
    have := g.m720
    exact tri_alk h1 h1' (by omega) (by omega)
section
variable {P : Program} {w : World} {K : PySem.W.Frag} {mg : Str → Option Value} {base : Heap}
def spRight : Sp := fun vs H Q _ => ∃ (p : Addr), vs = [.ref p] ∧ PotAt H p 0 ∧ ∀ H', Pk p H H' → Q (.bl true) H'
abbrev rtN : List Str := ["_law_pot_here", "_law_some_here", "_law_good", "_law_pages", "_law_page", "_law_lap", "_law_one", "_law_thing", "_law_size", "_law_classes", "_law_made", "_law_due"]
theorem scRight : FnScope rtN ["_law_pot_here"] (defScope tRight) := ⟨rfl, rfl, rfl, by decide +kernel, rfl, by decide +kernel, by decide +kernel⟩
theorem ok_right {f f1 f2 f3 f4 f5 f6 f7 f8 f9 f10 f11 f12 f13 CD CP CT : Addr} {fd fd1 fd2 fd3 fd4 fd5 fd6 fd7 fd8 fd9 fd10 fd11 fd12 fd13 : FuncData} (F : Fun K "_law_right" "_law_right" tRight f fd) (B : Bi mg)
    (TD : TxD K CD) (nC : ∀ p : Addr, (putF "plain" (V.ref p) []).lookup ("classes" : Str) = none ∧ (putF "plain" (V.ref p) []).lookup ("modulus" : Str) = none ∧ (putF "plain" (V.ref p) []).lookup ("changed" : Str) = none)
    (G1 : FnOk P w K mg base CX0 1 f1 fd1 ["_law_pot_here", "_law_many"] spDip) (g1 : mg "_law_dip" = some (.ref f1)) (k1 : PySem.W.keepIn K (.ref f1) = true) (b1 : Binds K fd1 ["_law_pot_here", "_law_many"] [])
    (G2 : FnOk P w K mg base CX0 2 f2 fd2 ["_law_pot_here", "_law_far"] spSome) (g2 : mg "_law_some" = some (.ref f2)) (k2 : PySem.W.keepIn K (.ref f2) = true) (b2 : Binds K fd2 ["_law_pot_here", "_law_far"] [])
    (G3 : FnOk P w K mg base CX0 2 f3 fd3 ["_law_some_here"] spLine) (g3 : mg "_law_set_line" = some (.ref f3)) (k3 : PySem.W.keepIn K (.ref f3) = true) (b3 : Binds K fd3 ["_law_some_here"] [])
    (G4 : FnOk P w K mg base CX0 2 f4 fd4 ["_law_pot_here", "_law_some_here"] spOdd) (g4 : mg "_law_odd" = some (.ref f4)) (k4 : PySem.W.keepIn K (.ref f4) = true) (b4 : Binds K fd4 ["_law_pot_here", "_law_some_here"] [])
    (G5 : FnOk P w K mg base CX0 3 f5 fd5 ["_law_pot_here", "_law_page"] spChangd) (g5 : mg "_law_changed" = some (.ref f5)) (k5 : PySem.W.keepIn K (.ref f5) = true) (b5 : Binds K fd5 ["_law_pot_here", "_law_page"] [])
    (G6 : FnOk P w K mg base CX0 3 f6 fd6 ["_law_page"] spLawRead) (g6 : mg "_law_read" = some (.ref f6)) (k6 : PySem.W.keepIn K (.ref f6) = true) (b6 : Binds K fd6 ["_law_page"] [])
    (G7 : FnOk P w K mg base CX0 10 f7 fd7 ["_law_thing"] (spTold K)) (g7 : mg "_law_told" = some (.ref f7)) (k7 : PySem.W.keepIn K (.ref f7) = true) (b7 : Binds K fd7 ["_law_thing"] [])
    (G8 : FnOk P w K mg base CX0 4 f8 fd8 ["_law_found", "_law_due"] (spAlike 3)) (g8 : mg "_law_alike" = some (.ref f8)) (k8 : PySem.W.keepIn K (.ref f8) = true) (b8 : Binds K fd8 ["_law_found", "_law_due"] [])
    (G9 : FnOk P w K mg base CX0 1 f9 fd9 ["_law_modulus", "_law_classes"] (spPlain K)) (g9 : mg "_law_plainest" = some (.ref f9)) (k9 : PySem.W.keepIn K (.ref f9) = true) (b9 : Binds K fd9 ["_law_modulus", "_law_classes"] [])
    (G10 : FnOk P w K mg base (L2.CX P w) 9 f10 fd10 ["text"] (spRead CD CP CT K)) (g10 : mg "read_set" = some (.ref f10)) (k10 : PySem.W.keepIn K (.ref f10) = true) (b10 : KBinds K fd10 ["text"] ["text"] (fun us ws => us ++ ws) (fun vs zs => vs ++ zs))
    (G11 : FnOk P w K mg base CX0 1 f11 fd11 ["self"] (spDCls CD CP)) (m11 : Meth K CD "classes" f11) (b11 : Binds K fd11 ["self"] [])
    (G12 : FnOk P w K mg base CX0 1 f12 fd12 ["self"] (spDMod CD CP)) (m12 : Meth K CD "modulus" f12) (b12 : Binds K fd12 ["self"] [])
    (G13 : FnOk P w K mg base CX0 1 f13 fd13 ["self"] (spDChg CD CP)) (m13 : Meth K CD "changed" f13) (b13 : Binds K fd13 ["self"] []) :
    FnOk P w K mg base CX0 11 f fd ["_law_pot_here"] spRight := by
  refine F.ok scRight (fun vs H Q E h => ?_) (fun cdv A outer s H vs Q E hr h => ?_)
  · obtain ⟨p, rfl, _⟩ := h
    rfl
  · obtain ⟨p, rfl, hp, kQ⟩ := h
    have nd := scRight.nd
    have hr1 : Room 1 _ := hr.mono (by decide)
    have hr2 : Room 2 _ := hr.mono (by decide)
    have hr3 : Room 3 _ := hr.mono (by decide)
    have hr4 : Room 4 _ := hr.mono (by decide)
    have hr9 : Room 9 _ := hr.mono (by decide)
    refine ⟨_, pss_cons (ps_set (i := 1) nd rfl (Or.inl rfl) (pe_call G2 hr2 rfl g2 k2 b2 .nil pass0 (pa_cons (pv 0) (pa_cons (pe_op op_pow pe_int pe_int) pa_nil))))
      (pss_cons (ps_set (i := 2) nd rfl (Or.inl rfl) (pe_call G3 hr2 rfl g3 k3 b3 .nil pass0 (pa_cons (pv 1) pa_nil)))
      (pss_cons (ps_par (i := 3) (j := 4) rfl nd rfl rfl (by decide) rfl rfl (pa_cons (pe_lst (pa_cons (pv 2) (pa_cons (pe_call G4 hr2 rfl g4 k4 b4 .nil pass0 (pa_cons (pv 0) (pa_cons (pv 1) pa_nil))) (pa_cons (pe_call G4 hr2 rfl g4 k4 b4 .nil pass0 (pa_cons (pv 0) (pa_cons (pv 1) pa_nil))) pa_nil)))) (pa_cons (pv 2) pa_nil)) rfl)
      (pss_cons (ps_for PassesOwn.never rfl (pi_range1 (by rfl) B.range (pa_cons (pe_call G1 hr1 rfl g1 k1 b1 .nil pass0 (pa_cons (pv 0) (pa_cons pe_int pa_nil))) pa_nil)) (pg_name (i := 5) nd rfl (Or.inl rfl))
        (pss_cons (ps_set (i := 4) nd rfl (Or.inl rfl) (pe_call G5 hr3 rfl g5 k5 b5 .nil pass0 (pa_cons (pv 0) (pa_cons (pv 4) pa_nil))))
        (pss_one (ps_expr (pe_bm PySem.F.plainAttrs_list PySem.F.slot_list_append PySem.F.type_list_append mt_append (pv 3) (pa_cons (pv 4) pa_nil))))))
      (pss_cons (ps_for PassesOwn.never rfl (pi_list (pe_lc (own := [("_law_one", 6)]) (g := gName 6) rfl nd (pi_list (pe_op L2.op_cat (pe_revL (pv 3)) (pe_lst (pa_cons (pv 2) pa_nil)))) (blkOk_by (N := rtN) (sc := defScope tRight) (by decide +kernel))
          (fun _ _ _ _ _ => pg_name (i := 6) nd rfl (Or.inl rfl)) (fun _ _ _ _ _ => pts_one (pt_cmpR op_lt (pe_callB call_len_str (by rfl) B.len PySem.boot_len (pa_cons (pv 6) pa_nil)) pe_int (nomark _))) (fun _ _ _ _ _ => pv 6))) (pg_name (i := 4) nd rfl (Or.inl rfl))
        (pss_one (ps_if (pt_not (pt_val (pe_call G8 hr4 rfl g8 k8 b8 .nil pass0 (pa_cons (pe_call G7 hr rfl g7 k7 b7 .nil pass0 (pa_cons (pv 4) pa_nil)) (pa_cons (pe_call G6 hr3 rfl g6 k6 b6 .nil pass0 (pa_cons (pv 4) pa_nil)) pa_nil))))) (pss_one (ps_ret pe_bl)) pss_nil)))
      (pss_cons (ps_set (i := 7) nd rfl (Or.inl rfl) (pe_ix ix_list (pe_lst (pa_cons pe_non (pa_cons pe_int (pa_cons pe_bl (pa_cons (pe_lst (pa_cons (pv 2) pa_nil)) (pa_cons (pe_tup (pa_cons (pv 2) pa_nil)) (pa_cons pe_dnewK (pa_cons (pe_lst pa_nil) (pa_cons pe_int (pa_cons pe_int pa_nil)))))))))) (pe_call G1 hr1 rfl g1 k1 b1 .nil pass0 (pa_cons (pv 0) (pa_cons pe_int pa_nil))) (fun _ _ => rfl)))
      (pss_cons (ps_if (pt_cmpR op_notN (pe_call G7 hr rfl g7 k7 b7 .nil pass0 (pa_cons (pv 7) pa_nil)) pe_non (nomark _)) (pss_one (ps_ret pe_bl)) pss_nil)
      (pss_cons (ps_asg (pe_call G9 hr1 rfl g9 k9 b9 .nil pass0 (pa_cons (pe_ix ix_tup (pv 1) pe_int (fun _ _ => rfl)) (pa_cons (pe_ix ix_tup (pv 1) pe_int (fun _ _ => rfl)) pa_nil))) (pg_tup rfl (pgs_cons (pg_name (i := 8) nd rfl (Or.inl rfl)) (pgs_cons (pg_name (i := 9) nd rfl (Or.inl rfl)) pgs_nil))))
      (pss_cons (ps_set (i := 10) nd rfl (Or.inl rfl) (pe_callK0 G10 hr9 rfl g10 k10 b10 (L2.passes_call (W := fun _ _ _ _ => False) L2.takes0 fun _ _ _ _ h => h) (pk_cons (pv 2) pk_nil)))
      (pss_cons (ps_set (i := 11) nd rfl (Or.inl rfl) (pe_tup (pa_cons (pv 8) (pa_cons (pe_callTy call_tuple_of (by rfl) B.tuple (by decide +kernel) (pa_cons (pv 9) pa_nil)) (pa_cons (pe_callTy call_tuple_of (by rfl) B.tuple (by decide +kernel) (pa_cons (pe_callB cr_sortedT (by rfl) B.sorted (by decide +kernel) (pa_cons (pe_ix ix_tup (pv 1) pe_int (fun _ _ => rfl)) pa_nil)) pa_nil)) pa_nil)))))
      (pss_one (ps_ret (pe_and (pe_call G8 hr4 rfl g8 k8 b8 .nil pass0 (pa_cons (pe_call G6 hr3 rfl g6 k6 b6 .nil pass0 (pa_cons (pv 2) pa_nil)) (pa_cons (pv 11) pa_nil))) (pe_one (pe_call G8 hr4 rfl g8 k8 b8 .nil pass0 (pa_cons (pe_tup (pa_cons (pe_meth0 (pv 10) TD.cl m12 G12 hr1 b12 .nil pass0) (pa_cons (pe_meth0 (pv 10) TD.cl m11 G11 hr1 b11 .nil pass0) (pa_cons (pe_meth0 (pv 10) TD.cl m13 G13 hr1 b13 .nil pass0) pa_nil)))) (pa_cons (pv 11) pa_nil)))))))))))))))), ?_⟩
    have h1014 : (10 : Int) ^ (Int.toNat 14) = ((100000000000000 : Nat) : Int) := by decide +kernel
    have hz : ∀ n : Nat, n ≤ 1000000 → n ≤ sizeLine := fun n h => Nat.le_of_lt (line_ok (by omega))
    refine ⟨_, rfl, _, _, rfl, rfl, ⟨by decide, by decide, by decide⟩, p, 0, 100000000000000, (by show [V.ref p, V.int ((10 : Int) ^ (Int.toNat 14))] = [V.ref p, V.int ((100000000000000 : Nat) : Int)]; rw [h1014]), hp, by decide, by decide, by decide, fun t m cs chs es a c H1 so s1 hp1 => ?_⟩
    refine ⟨_, rfl, t, p, m, cs, chs, es, a, c, rfl, so, fun H2 s2 => ?_⟩
    have hlp := lp_ok (n := m) (mk := mk cs) so.m1
    have g : Good (lp m (mk cs)) (cls cs (lp m (mk cs))) es := good_of so.m1 so.m7 so.pw so.e1
    have so2 := so.same s2
    have hp2 := hp1.same s2
    have S2 : Pk p H H2 := s1.trans (Same.pk s2)
    clear so hp1 s1 s2
    obtain ⟨sz, hsz⟩ : ∃ sz, sz = lp m (mk cs) := ⟨_, rfl⟩
    rw [← hsz] at g hlp ⊢
    obtain ⟨cl, hcl⟩ : ∃ cl, cl = cls cs sz := ⟨_, rfl⟩
    rw [← hcl] at g ⊢
    have hsz7 : sz ≤ 720 := g.m720
    have e15 : (10 : Nat) ^ 15 = 1000000000000000 := by decide +kernel
    have hcl7 : cl.length ≤ 720 := Nat.le_trans (sorted_len g.cs_s g.cs_lt) hsz7
    obtain ⟨gd, hgd⟩ : ∃ gd, gd = Wr sz cl es := ⟨_, rfl⟩
    rw [← hgd]
    have hgr : lawRead gd = some (sz, cl, es) := by rw [hgd]; exact lawRead_Wr g
    have hgl : gd.length ≤ 3100 := by rw [hgd]; exact Wr_len hsz7 g.cs_lt hcl7 so2.e2 so2.el
    have hgp : Pg 15 gd := by rw [hgd]; exact Wr_pg (by omega) (fun c hc => by have := g.cs_lt c hc; omega) so2.e2
    have gp0 : GP gd := ⟨hgp.mono (by decide), by omega⟩
    refine ⟨_, rfl, _, rfl, _, rfl, p, t, 1000, m, cs, chs, es, a, c, rfl, hp2, by decide, so2, fun u1 H3 ok1 s3 hp3 => ?_⟩
    refine ⟨_, rfl, _, rfl, p, t, 1020, m, cs, chs, es, a, c, rfl, hp3, by decide, so2.pk s3, fun u2 H4 ok2 s4 hp4 => ⟨hz 3 (by decide), fun l hl => ?_⟩⟩
    refine ⟨_, rfl, _, _, rfl, ?_⟩
    have so4 := (so2.pk s3).pk s4
    have S4 := (S2.trans s3).trans s4
    have npl : p ≠ l := hp4.ne hl
    clear so2 hp2 hp3 S2 s3
    have gpO : ∀ {u : List Nat}, OkP u → GP u := fun h => ⟨h.pg.mono (by decide), Nat.le_trans h.len (by decide)⟩
    dsimp only
    refine ⟨_, rfl, p, 1040, 4, rfl, hp4.lay hl, by decide, by decide, by decide, fun laps H5 hlaps s5 hp5 => ?_⟩
    have hl5 := s5 l _ npl.symm (upd_same (H := H4) (o := .lst (sVs [gd, u1, u2])))
    have S5 : Pk p H4 H5 := ((Pk.refl (H := H4)).lay hl).trans s5
    refine ⟨(laps : Int), rfl, by omega, by omega, ?_⟩
    refine for_range (lo := 0) (n := laps) (fun i σ H' => ∃ (pg : List Nat) (us : List (List Nat)) (z5 : Option V), σ = [some (.ref p), some (.ref t), some (sV gd), some (.ref l), some (sV pg), z5, none, none, none, none, none, none] ∧ Pk p H4 H' ∧ PotAt H' p (1041 + 60 * i) ∧
        Pg (bnd i) pg ∧ pg.length ≤ lnd i ∧ H' l = some (.lst (sVs us)) ∧ us.length = 3 + i ∧ ∀ u ∈ us, GP u)
      ⟨gd, [gd, u1, u2], none, rfl, S5, hp5, hgp, hgl, hl5, rfl, fun u hu => ?_⟩ ?_ ?_
    · rcases List.mem_cons.mp hu with e | hu
      · rw [e]; exact gp0
      rcases List.mem_cons.mp hu with e | hu
      · rw [e]; exact gpO ok1
      · rw [List.mem_singleton.mp hu]; exact gpO ok2
    · rintro i σ H6 hi ⟨pg, us, z5, rfl, S6, hp6, pg6, ln6, hl6, hu6, gp6⟩
      refine ⟨_, rfl, _, rfl, p, 1041 + 60 * i, bnd i, pg, rfl, hp6, by omega, pg6, Nat.le_trans ln6 (lnd2 (by omega)), fun pg' H7 pgn lnn s7 hp7 => ?_⟩
      have hl7 := s7 _ _ npl.symm hl6
      refine ⟨_, rfl, .inl ⟨rfl, _, SqL.of hl7⟩, _, rfl, l, _, _, rfl, rfl, hl7, line_ok (by rw [List.length_map]; omega), ?_⟩
      have hln : pg'.length ≤ lnd (i + 1) := by show pg'.length ≤ 3 * lnd i + 60; omega
      have hb := bl_nd (i := i + 1) (by omega)
      refine ⟨pg', us ++ [pg'], _, rfl, (S6.trans s7).put hl, (hp7.upd npl).mono (by omega), pgn, hln, by rw [upd_same]; simp, by rw [List.length_append, hu6]; rfl, fun u hu => ?_⟩
      rcases List.mem_append.mp hu with hu | hu
      · exact gp6 u hu
      · rw [List.mem_singleton.mp hu]; exact ⟨pgn.mono hb.1, Nat.le_trans hln hb.2⟩
    rintro σ H6 ⟨pg, us, z5, rfl, S6, hp6, pg6, ln6, hl6, hu6, gp6⟩
    have so6 := so4.pk S6
    have SS6 := S4.trans S6
    clear so4 S4 S5 S6 hp4 hp5 s5 hl5 s4
    -- the pages, asked one by one
    have rev : (sVs us).reverse = sVs us.reverse := List.map_reverse.symm
    refine ⟨_, rfl, l, _, rfl, SqL.of hl6, fun q1 n1 => ?_⟩
    rw [rev]
    have sA := (Same.refl H6).lay (o := .lst (sVs us.reverse)) n1
    refine ⟨_, rfl, hz 1 (by decide), fun q2 n2 => ?_⟩
    have sB := sA.lay (o := .lst [sV gd]) n2
    refine ⟨q1, q2, sVs us.reverse, sVs [gd], rfl, rfl, (by rw [upd_ne (fun e => by rw [← e, upd_same] at n2; cases n2), upd_same]), upd_same, hz _ (by rw [List.length_map, List.length_map, List.length_reverse]; simp; omega), fun q3 n3 => ?_⟩
    rw [← List.map_append]
    have sC := sB.lay (o := .lst (sVs (us.reverse ++ [gd]))) n3
    have hq3 : upd (upd (upd H6 q1 (.lst (sVs us.reverse))) q2 (.lst [sV gd])) q3 (.lst (sVs (us.reverse ++ [gd]))) q3 = some (.lst (sVs (us.reverse ++ [gd]))) := upd_same
    have gpP : ∀ u ∈ us.reverse ++ [gd], GP u := fun u hu => by
      rcases List.mem_append.mp hu with hu | hu
      · exact gp6 u (List.mem_reverse.mp hu)
      · rw [List.mem_singleton.mp hu]; exact gp0
    have lnP : (us.reverse ++ [gd]).length ≤ 10 := by rw [List.length_append, List.length_reverse]; simp; omega
    refine ⟨q3, rfl, ⟨_, SqL.of hq3⟩, fun D hD => ?_⟩
    have hp7 := hp6.same sC
    have so7 := so6.same sC
    have SS7 := SS6.trans (Same.pk sC)
    clear hp6 so6 SS6 sA sB sC n1 n2 n3 hl6 gp6 hu6
    revert hq3 hD hp7 so7 SS7
    generalize upd (upd (upd H6 q1 (.lst (sVs us.reverse))) q2 (.lst [sV gd])) q3 (.lst (sVs (us.reverse ++ [gd]))) = H7
    intro hq3 hD hp7 so7 SS7
    revert hq3 gpP lnP
    generalize us.reverse ++ [gd] = ps
    intro gpP lnP hq3
    refine lc_list (K := K) (a := q3) (xs := sVs ps) (fun j H' => Same H7 H' ∧ ∃ ks : List (List Nat), H' D = some (.lst (sVs ks)) ∧ ks.length ≤ j ∧ ∀ u ∈ ks, GP u ∧ u.length < 4000 + 1) ⟨(Same.refl H7).lay hD, [], upd_same, Nat.le_refl _, fun u hu => by cases hu⟩ (fun j H' _ ⟨s, _⟩ => SqL.of (s _ _ hq3)) ?_ ?_
    · rintro j x H8 hj ⟨s8, ks, hk8, hkl, hku⟩
      obtain ⟨u, hu, rfl⟩ := get_map hj
      have gu := gpP u (List.mem_of_getElem? hu)
      have hjl : j < ps.length := (List.getElem?_eq_some_iff.mp hu).1
      refine ⟨rfl, _, rfl, _, rfl, hz _ (by rw [S_len]; have := gu.len; omega), _, _, rfl, rfl, _, rfl, ite3 (c := u.length < 4000 + 1) (decide_eq_decide.mpr (by rw [S_len]; omega)) (fun c1 => ?_) (fun c1 => ⟨s8, ks, hk8, by omega, hku⟩)⟩
      refine ⟨_, rfl, _, hk8, line_ok (by rw [List.length_map]; omega), s8.put hD, ks ++ [u], by rw [upd_same]; simp, by rw [List.length_append, List.length_singleton]; omega, fun v hv => ?_⟩
      rcases List.mem_append.mp hv with hv | hv
      · exact hku v hv
      · rw [List.mem_singleton.mp hv]; exact ⟨gu, c1⟩
    rintro H8 ⟨s8, ks, hk8, hkl, hku⟩
    have hp8 := hp7.same s8
    have so8 := so7.same s8
    have SS8 := SS7.trans (Same.pk s8)
    clear hp7 so7 SS7 hq3
    refine ⟨D, rfl, ⟨_, SqL.of hk8⟩, for_list (K := K) (a := D) (xs := sVs ks) (fun i σ H' => ∃ z4 z5 : Option V, σ = [some (.ref p), some (.ref t), some (sV gd), some (.ref l), z4, z5, none, none, none, none, none, none] ∧ Same H8 H') ⟨_, _, rfl, Same.refl _⟩ (fun i σ H' _ ⟨_, _, _, s⟩ => SqL.of (s _ _ hk8)) ?_ ?_⟩
    · rintro i x σ H9 hi ⟨z4, z5', rfl, s9⟩
      obtain ⟨u, hu, rfl⟩ := get_map hi
      obtain ⟨gu, lu⟩ := hku u (List.mem_of_getElem? hu)
      refine ⟨_, rfl, .inl ⟨u, 500, rfl, gu.pg, Nat.le_refl _, lu, fun v1 H10 s10 a1 => ?_⟩⟩
      refine ⟨_, rfl, u, 500, rfl, gu.pg, Nat.le_refl _, gu.len, fun v2 H11 s11 a2 => ?_⟩
      refine ⟨v1, v2, rfl, ans_alk (a1.same s11) a2 (by omega), fun H12 s12 => ⟨_, rfl, ?_⟩⟩
      exact ⟨_, _, rfl, ((s9.trans s10).trans s11).trans s12⟩
    rintro σ H9 ⟨z4, z5', rfl, s9⟩
    have hp9 := hp8.same s9
    have so9 := so8.same s9
    have SS9 := SS8.trans (Same.pk s9)
    clear hp8 so8 SS8 hk8 s8 s9
    -- other values
    refine ⟨_, rfl, hz 1 (by decide), fun l1 n1 => ?_⟩
    refine ⟨_, rfl, hz 1 (by decide), fun t1 n2 => ?_⟩
    refine fun d1 n3 => ?_
    refine ⟨hz 0 (by decide), fun l2 n4 => ?_⟩
    refine ⟨hz 9 (by decide), fun l3 n5 => ?_⟩
    have s1 := (Same.refl H9).lay (o := .lst [sV gd]) n1
    have s2 := (Same.refl _).lay (o := .tup [sV gd]) n2
    have s3 := (Same.refl _).lay (o := .dK []) n3
    have s4 := (Same.refl _).lay (o := .lst []) n4
    have s5 := (Same.refl _).lay (o := .lst [.non, .int 3, .bl true, .ref l1, .ref t1, .ref d1, .ref l2, .int 0, .int 1]) n5
    have sZ := (((s1.trans s2).trans s3).trans s4).trans s5
    have e1 := s5 _ _ (s4 _ _ (s3 _ _ (s2 _ _ (upd_same (H := H9) (a := l1) (o := .lst [sV gd])))))
    have hp10 := hp9.same sZ
    have np1 : l1 ≠ p := hp9.ne' n1
    have np2 : t1 ≠ p := (hp9.same s1).ne' n2
    have np3 : d1 ≠ p := (hp9.same (s1.trans s2)).ne' n3
    have np4 : l2 ≠ p := (hp9.same ((s1.trans s2).trans s3)).ne' n4
    have np5 : l3 ≠ p := (hp9.same (((s1.trans s2).trans s3).trans s4)).ne' n5
    refine ⟨_, rfl, p, 1041 + 60 * laps, 9, rfl, hp10, by omega, by decide, by decide, fun v H10 hv s10 hp11 => ?_⟩
    have a1 := s10 _ _ np1 e1
    have a2 := s10 _ _ np2 (s5 _ _ (s4 _ _ (s3 _ _ (upd_same (H := upd H9 l1 (.lst [sV gd])) (a := t1) (o := .tup [sV gd])))))
    have a3 := s10 _ _ np3 (s5 _ _ (s4 _ _ (upd_same (H := upd (upd H9 l1 (.lst [sV gd])) t1 (.tup [sV gd])) (a := d1) (o := .dK []))))
    have a4 := s10 _ _ np4 (s5 _ _ (upd_same (H := upd (upd (upd H9 l1 (.lst [sV gd])) t1 (.tup [sV gd])) d1 (.dK [])) (a := l2) (o := .lst [])))
    have a5 := s10 _ _ np5 (upd_same (H := upd (upd (upd (upd H9 l1 (.lst [sV gd])) t1 (.tup [sV gd])) d1 (.dK [])) l2 (.lst [])) (a := l3) (o := .lst [.non, .int 3, .bl true, .ref l1, .ref t1, .ref d1, .ref l2, .int 0, .int 1]))
    have pick : ∃ (x : V) (ty : Value), [V.non, .int 3, .bl true, .ref l1, .ref t1, .ref d1, .ref l2, .int 0, .int 1][v]? = some x ∧ (∀ H', Same H10 H' → TyX K H' x ty) ∧ PySem.W.kitOne K ty (.type "str") = some false := by
      match v, hv with
      | 0, _ => exact ⟨_, _, rfl, fun H' s => .base .non, kit_ty (by decide +kernel)⟩
      | 1, _ => exact ⟨_, _, rfl, fun H' s => .base (.int 3), kit_ty (by decide +kernel)⟩
      | 2, _ => exact ⟨_, _, rfl, fun H' s => .base (.bl true), kit_ty (by decide +kernel)⟩
      | 3, _ => exact ⟨_, _, rfl, fun H' s => .base (.lst (s _ _ a1)), kit_ty (by decide +kernel)⟩
      | 4, _ => exact ⟨_, _, rfl, fun H' s => .base (.tup (s _ _ a2)), kit_ty (by decide +kernel)⟩
      | 5, _ => exact ⟨_, _, rfl, fun H' s => .base (.dK (s _ _ a3)), kit_ty (by decide +kernel)⟩
      | 6, _ => exact ⟨_, _, rfl, fun H' s => .base (.lst (s _ _ a4)), kit_ty (by decide +kernel)⟩
      | 7, _ => exact ⟨_, _, rfl, fun H' s => .base (.int 0), kit_ty (by decide +kernel)⟩
      | 8, _ => exact ⟨_, _, rfl, fun H' s => .base (.int 1), kit_ty (by decide +kernel)⟩
    obtain ⟨x, ty, hx, hty, hkt⟩ := pick
    refine ⟨l3, _, _, x, rfl, rfl, SqL.of a5, atI_nat hx, ?_⟩
    have so10 := (so9.same sZ).pk s10
    have SS10 := (SS9.trans (Same.pk sZ)).trans s10
    clear so9 hp9 SS9 sZ s1 s2 s3 s4 s5 e1 a1 a2 a3 a4 a5 hx n1 n2 n3 n4 n5 hp10
    refine ⟨_, rfl, .inr ⟨x, ty, rfl, hty, hkt, fun H11 s11 => ?_⟩⟩
    refine ⟨rfl, _, rfl, ?_⟩
    have so11 := so10.same s11
    have SS11 := SS10.trans (Same.pk s11)
    show _
    -- the unchanged one again
    refine ⟨_, rfl, t, _, 0, _, rfl, rfl, SqT.of so11.ht, rfl, _, rfl, t, _, 1, _, rfl, rfl, SqT.of so11.ht, rfl, m, a, cs, rfl, so11.ha, so11.m1, so11.m7, by have := so11.cl; omega, fun tt q H12 s12 ntt nq htt hq => ?_⟩
    rw [← hsz] at htt hq
    rw [← hcl] at hq
    refine ⟨tt, _, rfl, SqT.of htt, rfl, _, _, rfl, _, _, rfl, rfl, ?_⟩
    have so12 := so11.same s12
    refine ⟨_, rfl, .inl ⟨gd, 500, rfl, gp0.pg, Nat.le_refl _, by omega, fun m' cs' chs' g' e' H13 d n ds s13 hd n1 n2 e1 e2 => ?_, fun hno => absurd hgd (hno sz cl es g)⟩⟩
    have heq : (sz, cl, es) = (m', cs', chs') := by
      have := lawRead_Wr g'
      rw [← e', hgr] at this
      exact Option.some.inj this
    cases heq
    have so13 := so12.same s13
    have hq13 := s13 _ _ hq
    -- what is due
    refine ⟨_, rfl, _, rfl, q, _, rfl, .inl ⟨SqL.of hq13, fun u1' hu1 => ?_⟩⟩
    have sA := (Same.refl H13).lay (o := .tup (ivs cl)) hu1
    have soA := so13.same sA
    refine ⟨_, rfl, t, _, 2, _, rfl, rfl, SqT.of soA.ht, rfl, c, zs chs, rfl, .inl (SqL.of (by rw [← ivs_ints]; exact soA.hc)), fun ns' l4 hpm hs hn4 => ?_⟩
    rw [chs_eq hpm hs soA.pe soA.pw]
    have sB := (Same.refl _).lay (o := .lst (ivs es)) hn4
    refine ⟨l4, _, rfl, .inl ⟨SqL.of upd_same, fun u2' hu2 => ?_⟩⟩
    have sC := (Same.refl _).lay (o := .tup (ivs es)) hu2
    refine ⟨hz 3 (by decide), fun t9 ht9 => ?_⟩
    have sD := (Same.refl _).lay (o := .tup [iv sz, .ref u1', .ref u2']) ht9
    have tri : Tri _ t9 sz cl es := ⟨u1', u2', upd_same, sD _ _ (sC _ _ (sB _ _ (upd_same (H := H13) (a := u1') (o := .tup (ivs cl))))), sD _ _ (upd_same (a := u2') (o := .tup (ivs es)))⟩
    have sF := ((sA.trans sB).trans sC).trans sD
    have hdF := hd.same sF
    have SSF := ((SS11.trans (Same.pk s12)).trans (Same.pk s13)).trans (Same.pk sF)
    have hel : es.length ≤ 5000 := by have := so13.el; omega
    have hcl5 : cl.length ≤ 5000 := by omega
    refine ⟨_, rfl, gd, 500, rfl, gp0.pg, Nat.le_refl _, by omega, fun v1 H14 s14 an => ?_⟩
    rw [hgr] at an
    obtain ⟨ta, rfl, tri1⟩ := an
    have triA := tri.same s14
    refine ⟨_, rfl, .ref ta, .ref t9, rfl, tri_alk tri1 triA hcl5 hel, fun H15 s15 => ⟨_, rfl, ?_⟩⟩
    have hdG := (hdF.same s14).same s15
    have triB := triA.same s15
    obtain ⟨dx, pp, hd1, _⟩ := id hdG
    refine ⟨_, rfl, d, dx, _, rfl, hd1, (nC pp).2.1, d, n, ds, es, rfl, hdG, n1, ?_⟩
    refine ⟨_, rfl, d, dx, _, rfl, hd1, (nC pp).1, d, n, ds, es, rfl, hdG, n1, by omega, fun H16 q5 s16 nq5 hq5 => ?_⟩
    refine ⟨_, rfl, d, dx, _, rfl, s16 _ _ hd1, (nC pp).2.2, d, n, ds, es, rfl, hdG.same s16, n1, fun t5 ht5 => ?_⟩
    refine ⟨hz 3 (by decide), fun t6 ht6 => ?_⟩
    rw [e1] at hq5 ⊢
    rw [e2] at hq5
    have s17 := (Same.refl H16).lay (o := .tup [iv sz, .ref q5, .ref t5]) ht6
    refine ⟨_, rfl, .ref t6, .ref t9, rfl, tri_alk ⟨q5, t5, upd_same, s17 _ _ hq5, s17 _ _ ht5⟩ ((triB.same s16).same s17) hcl5 hel, fun H18 s18 => ?_⟩
    exact kQ _ (((((SSF.trans (Same.pk s14)).trans (Same.pk s15)).trans (Same.pk s16)).trans (Same.pk s17)).trans (Same.pk s18))
end
end Rl
end

section
set_option maxRecDepth 100000
set_option maxHeartbeats 4000000
namespace Rl
open PySem L2 SX
section
variable {P : Program} {w : World} {K : PySem.W.Frag} {mg : Str → Option Value} {base : Heap}
def spLaw (K : PySem.W.Frag) : Sp := fun vs H Q _ => ∃ (a : Addr) (ns : List Int), vs = [.ref a] ∧ SqL K H a (ns.map V.int) ∧ ns.length ≤ 63 ∧ ∀ H', Q (.bl true) H'
theorem scLaw : FnScope ["_law_script", "_law_k"] ["_law_script"] (defScope tLaw) := ⟨rfl, rfl, rfl, by decide +kernel, rfl, by decide +kernel, by decide +kernel⟩
theorem ok_law {f f1 f2 : Addr} {fd fd1 fd2 : FuncData} (F : Fun K "law" "law" tLaw f fd) (B : Bi mg)
    (G1 : FnOk P w K mg base CX0 1 f1 fd1 ["_law_script", "_law_k"] (spPot K)) (g1 : mg "_law_pot" = some (.ref f1)) (k1 : PySem.W.keepIn K (.ref f1) = true) (b1 : Binds K fd1 ["_law_script", "_law_k"] [])
    (G2 : FnOk P w K mg base CX0 11 f2 fd2 ["_law_pot_here"] spRight) (g2 : mg "_law_right" = some (.ref f2)) (k2 : PySem.W.keepIn K (.ref f2) = true) (b2 : Binds K fd2 ["_law_pot_here"] []) :
    FnOk P w K mg base CX0 12 f fd ["_law_script"] (spLaw K) := by
  refine F.ok scLaw (fun vs H Q E h => ?_) (fun cdv A outer s H vs Q E hr h => ?_)
  · obtain ⟨a, ns, rfl, _⟩ := h
    rfl
  · obtain ⟨a, ns, rfl, hs, hl, kQ⟩ := h
    have nd := scLaw.nd
    have hr1 : Room 1 _ := hr.mono (by decide)
    refine ⟨_, pss_cons (ps_for PassesOwn.never rfl (pi_range1 (by rfl) B.range (pa_cons (pe_callB (call_max2 rfl) (by rfl) B.max (by decide +kernel) (pa_cons pe_int (pa_cons (pe_callB (call_min2 rfl) (by rfl) B.min (by decide +kernel) (pa_cons pe_int (pa_cons (pe_callB call_len_seq (by rfl) B.len PySem.boot_len (pa_cons (pv 0) pa_nil)) pa_nil))) pa_nil))) pa_nil)) (pg_name (i := 1) nd rfl (Or.inl rfl))
        (pss_one (ps_if (pt_not (pt_val (pe_call G2 hr rfl g2 k2 b2 .nil pass0 (pa_cons (pe_call G1 hr1 rfl g1 k1 b1 .nil pass0 (pa_cons (pv 0) (pa_cons (pv 1) pa_nil))) pa_nil)))) (pss_one (ps_ret pe_bl)) pss_nil)))
      (pss_one (ps_ret pe_bl)), ?_⟩
    refine ⟨_, rfl, _, _, rfl, .inl hs, _, _, rfl, _, _, rfl, ?_⟩
    obtain ⟨N, hN, hN4⟩ : ∃ N : Nat, (if (if (((ns.map V.int).length : Nat) : Int) < 4 then (((ns.map V.int).length : Nat) : Int) else 4) > 1 then (if (((ns.map V.int).length : Nat) : Int) < 4 then (((ns.map V.int).length : Nat) : Int) else 4) else 1) = (N : Int) ∧ N ≤ 4 := by
      generalize (ns.map V.int).length = n
      by_cases z : (n : Int) < 4
      · rw [if_pos z]
        by_cases z2 : (n : Int) > 1
        · rw [if_pos z2]; exact ⟨n, rfl, by omega⟩
        · rw [if_neg z2]; exact ⟨1, rfl, by omega⟩
      · rw [if_neg z, if_pos (by decide)]; exact ⟨4, rfl, by omega⟩
    rw [hN]
    refine ⟨(N : Int), rfl, by omega, by omega, ?_⟩
    refine for_range (lo := 0) (n := N) (fun i σ H' => ∃ z, σ = [some (.ref a), z] ∧ Same H H') ⟨none, rfl, Same.refl _⟩ ?_ ?_
    · rintro i σ H1 hi ⟨z, rfl, s1⟩
      refine ⟨_, rfl, _, rfl, a, ns, i, (by rw [show (0 : Int) + (i : Int) = (i : Int) by omega]; rfl), s1.seq hs, by omega, fun p H2 np s2 hp => ?_⟩
      refine ⟨p, rfl, hp, fun H3 k3 => ⟨_, rfl, ?_⟩⟩
      refine ⟨_, rfl, fun x o e => ?_⟩
      have hx := s1 _ _ e
      exact k3 x o (ne_of_none hx np) (s2 _ _ hx)
    · rintro σ H1 ⟨z, rfl, s1⟩
      exact kQ _
end
end Rl
end

section
set_option maxRecDepth 100000
set_option maxHeartbeats 4000000
namespace Rl
open PySem L2 SX
theorem _root_.L2.Fun.kb1 {K : PySem.W.Frag} {x qual p : Str} {st : Stmt} {f : Addr} {fd : FuncData} (F : Fun K x qual st f fd)
    (h1 : ∀ (kV doc pm : Value) (an : Option Addr) (cdv ct u : Value), bindArgs (PySem.W.fnOf x qual (defArgs st) (defBody st) (defScope st) .none kV doc pm an cdv ct) ⟨[u], []⟩ = pure [(p, u)])
    (h2 : ∀ (kV doc pm : Value) (an : Option Addr) (cdv ct u : Value), bindArgs (PySem.W.fnOf x qual (defArgs st) (defBody st) (defScope st) .none kV doc pm an cdv ct) ⟨[], [(p, u)]⟩ = pure [(p, u)]) :
    KBinds K fd [p] [p] (fun us ws => us ++ ws) (fun vs zs => vs ++ zs) := by
  obtain ⟨oc, od, kV, doc, pm, an, cdv, ct, osl, rfl, lk, hcd⟩ := F.ex
  refine ⟨fun s us ws _ hl => ?_, fun r1 r2 => r1.append r2⟩
  match us, ws, hl with
  | [u], [], _ => exact .of_eq (h1 kV doc pm an cdv ct u)
  | [], [u], _ => exact .of_eq (h2 kV doc pm an cdv ct u)
  | u :: v :: us, ws, hl => simp at hl
  | [u], v :: ws, hl => simp at hl
  | [], u :: v :: ws, hl => simp at hl
  | [], [], hl => simp at hl
theorem sub_int {K : PySem.W.Frag} {C : Addr} : PySem.W.subIn K (.type "int") (.ref C) = some false := by
  unfold PySem.W.subIn
  rfl
theorem sub_none {K : PySem.W.Frag} {C : Addr} : PySem.W.subIn K (.type "NoneType") (.ref C) = some false := by
  unfold PySem.W.subIn
  rfl
theorem kit_mk {K : PySem.W.Frag} {T : String} {C : Addr} {r : Bool} (iC : PySem.W.isClsIn K C = true) (tC : PySem.W.typeIn K (.ref C) = some (.type "type")) (s : PySem.W.subIn K (.type T) (.ref C) = some r) : PySem.W.kitOne K (.type T) (.ref C) = some r := by
  unfold PySem.W.kitOne
  rw [if_neg (by intro h; cases beq_iff_eq.mp h)]
  unfold PySem.W.kitCls
  unfold PySem.W.isClsIn at iC
  dsimp only
  rw [if_pos (by rw [iC, tC]; rfl)]
  exact s
theorem exm_mk {K : PySem.W.Frag} {c : Value} {C : Addr} {r : Bool} (eB : PySem.W.subIn K (.ref C) (.type "BaseException") = some true) (iC : PySem.W.isClsIn K C = true) (tC : PySem.W.typeIn K (.ref C) = some (.type "type")) (s : PySem.W.subIn K c (.ref C) = some r) : PySem.W.exmOne K c (.ref C) = some r := by
  unfold PySem.W.exmOne
  rw [eB, if_pos (by rfl)]
  unfold PySem.W.kitCls
  unfold PySem.W.isClsIn at iC
  dsimp only
  rw [if_pos (by rw [iC, tC]; rfl)]
  exact s
theorem exm3 {K : PySem.W.Frag} {c a1 a2 a3 : Value} {b1 b2 b3 : Bool} (h1 : PySem.W.exmOne K c a1 = some b1) (h2 : PySem.W.exmOne K c a2 = some b2) (h3 : PySem.W.exmOne K c a3 = some b3) (h : (b1 || (b2 || b3)) = true) : PySem.W.exmAny K c [a1, a2, a3] = some true := by
  unfold PySem.W.exmAny PySem.W.exmAny PySem.W.exmAny PySem.W.exmAny
  rw [h1, h2, h3]
  simp [h]
theorem nC0 (p : Addr) : (putF "plain" (V.ref p) []).lookup ("classes" : Str) = none ∧ (putF "plain" (V.ref p) []).lookup ("modulus" : Str) = none ∧ (putF "plain" (V.ref p) []).lookup ("changed" : Str) = none := by
  refine ⟨?_, ?_, ?_⟩ <;> (rw [lookup_putF, if_neg (by decide +kernel)]; rfl)
theorem all_mk {l : PySem.W.OpenLaw} {w : World} {K : PySem.W.Frag} {h : Heap} {mg : Str → Option Value} {fa : Addr} (X : K.In h) (G : h.Ns mainGlobals mg) (hfa : mg "law" = some (.ref fa))
    {CP : Addr}
    {CD : Addr}
    {C1 : Addr}
    {C2 : Addr}
    {C3 : Addr}
    {CT : Addr}
    {nmT qT : Str} {NT : Addr} {bsT : List Value} {snT : List Str} {subT : List Value} {abT : Bool} {colT : Option Bool} {ddT : Option Addr} {m0 m1 m2 m3 m5 : Option Value}
    {bmT : List Value}
    {kN : Tok}
    {fPI : Addr} {odPI anPI : Option Addr} {slPI : Array (Option Value)} {ocPI kVPI dcPI pmPI cdPI ctPI : Value}
    {fdm : Addr} {oddm andm : Option Addr} {sldm : Array (Option Value)} {ocdm kVdm dcdm pmdm cddm ctdm : Value}
    {fdc : Addr} {oddc andc : Option Addr} {sldc : Array (Option Value)} {ocdc kVdc dcdc pmdc cddc ctdc : Value}
    {fdh : Addr} {oddh andh : Option Addr} {sldh : Array (Option Value)} {ocdh kVdh dcdh pmdh cddh ctdh : Value}
    {fNT : Addr} {odNT anNT : Option Addr} {slNT : Array (Option Value)} {ocNT kVNT dcNT pmNT cdNT ctNT : Value}
    {fDI TD : Addr} {odDI anDI odTD : Option Addr} {slDI slTD : Array (Option Value)} {ocDI dcDI pmDI cdDI ctDI ocTD u1 u2 u3 : Value} {nTD : Nat}
    {fwh : Addr} {odwh anwh : Option Addr} {slwh : Array (Option Value)} {ocwh kVwh dcwh pmwh cdwh ctwh : Value}
    {fpr : Addr} {odpr anpr : Option Addr} {slpr : Array (Option Value)} {ocpr kVpr dcpr pmpr cdpr ctpr : Value}
    {fpe : Addr} {odpe anpe : Option Addr} {slpe : Array (Option Value)} {ocpe kVpe dcpe pmpe cdpe ctpe : Value}
    {fle : Addr} {odle anle : Option Addr} {slle : Array (Option Value)} {ocle kVle dcle pmle cdle ctle : Value}
    {fsu : Addr} {odsu ansu : Option Addr} {slsu : Array (Option Value)} {ocsu kVsu dcsu pmsu cdsu ctsu : Value}
    {fch : Addr} {odch anch : Option Addr} {slch : Array (Option Value)} {occh kVch dcch pmch cdch ctch : Value}
    {frn : Addr} {odrn anrn : Option Addr} {slrn : Array (Option Value)} {ocrn kVrn dcrn pmrn cdrn ctrn : Value}
    {frs : Addr} {odrs anrs : Option Addr} {slrs : Array (Option Value)} {ocrs kVrs dcrs pmrs cdrs ctrs : Value}
    {fnt : Addr} {odnt annt : Option Addr} {slnt : Array (Option Value)} {ocnt kVnt dcnt pmnt cdnt ctnt : Value}
    {fst : Addr} {odst anst : Option Addr} {slst : Array (Option Value)} {ocst kVst dcst pmst cdst ctst : Value}
    {fso : Addr} {odso anso : Option Addr} {slso : Array (Option Value)} {ocso kVso dcso pmso cdso ctso : Value}
    {frd : Addr} {odrd anrd : Option Addr} {slrd : Array (Option Value)} {ocrd kVrd dcrd pmrd cdrd ctrd : Value}
    {fLp : Addr} {odLp anLp : Option Addr} {slLp : Array (Option Value)} {ocLp kVLp dcLp pmLp cdLp ctLp : Value}
    {fLd : Addr} {odLd anLd : Option Addr} {slLd : Array (Option Value)} {ocLd kVLd dcLd pmLd cdLd ctLd : Value}
    {fLa : Addr} {odLa anLa : Option Addr} {slLa : Array (Option Value)} {ocLa kVLa dcLa pmLa cdLa ctLa : Value}
    {fLi : Addr} {odLi anLi : Option Addr} {slLi : Array (Option Value)} {ocLi kVLi dcLi pmLi cdLi ctLi : Value}
    {fLs : Addr} {odLs anLs : Option Addr} {slLs : Array (Option Value)} {ocLs kVLs dcLs pmLs cdLs ctLs : Value}
    {fLw : Addr} {odLw anLw : Option Addr} {slLw : Array (Option Value)} {ocLw kVLw dcLw pmLw cdLw ctLw : Value}
    {fLl : Addr} {odLl anLl : Option Addr} {slLl : Array (Option Value)} {ocLl kVLl dcLl pmLl cdLl ctLl : Value}
    {fLc : Addr} {odLc anLc : Option Addr} {slLc : Array (Option Value)} {ocLc kVLc dcLc pmLc cdLc ctLc : Value}
    {fLg : Addr} {odLg anLg : Option Addr} {slLg : Array (Option Value)} {ocLg kVLg dcLg pmLg cdLg ctLg : Value}
    {fLo : Addr} {odLo anLo : Option Addr} {slLo : Array (Option Value)} {ocLo kVLo dcLo pmLo cdLo ctLo : Value}
    {fLn : Addr} {odLn anLn : Option Addr} {slLn : Array (Option Value)} {ocLn kVLn dcLn pmLn cdLn ctLn : Value}
    {fLh : Addr} {odLh anLh : Option Addr} {slLh : Array (Option Value)} {ocLh kVLh dcLh pmLh cdLh ctLh : Value}
    {fLm : Addr} {odLm anLm : Option Addr} {slLm : Array (Option Value)} {ocLm kVLm dcLm pmLm cdLm ctLm : Value}
    {fLr : Addr} {odLr anLr : Option Addr} {slLr : Array (Option Value)} {ocLr kVLr dcLr pmLr cdLr ctLr : Value}
    {fLt : Addr} {odLt anLt : Option Addr} {slLt : Array (Option Value)} {ocLt kVLt dcLt pmLt cdLt ctLt : Value}
    {fLx : Addr} {odLx anLx : Option Addr} {slLx : Array (Option Value)} {ocLx kVLx dcLx pmLx cdLx ctLx : Value}
    {fLy : Addr} {odLy anLy : Option Addr} {slLy : Array (Option Value)} {ocLy kVLy dcLy pmLy cdLy ctLy : Value}
    {fLz : Addr} {odLz anLz : Option Addr} {slLz : Array (Option Value)} {ocLz kVLz dcLz pmLz cdLz ctLz : Value}
    (nCP : PySem.W.nsIn K mainGlobals "Plainest" = some (some (.ref CP)))
    (nCD : PySem.W.nsIn K mainGlobals "Distances" = some (some (.ref CD)))
    (nC1 : PySem.W.nsIn K mainGlobals "NoModulus" = some (some (.ref C1)))
    (nC2 : PySem.W.nsIn K mainGlobals "NoClasses" = some (some (.ref C2)))
    (nC3 : PySem.W.nsIn K mainGlobals "NoChanged" = some (some (.ref C3)))
    (nCT : PySem.W.nsIn K mainGlobals "NoText" = some (some (.ref CT)))
    (pgCP : PySem.W.plainGet K CP Str.empty = true)
    (hdCP : PySem.W.hasDictIn K CP = true)
    (poCP : PySem.W.plainOver K CP = true)
    (saCP : PySem.W.findIn K (.ref CP) "__setattr__" = some (some (.builtin "object.__setattr__")))
    (mkCP : PySem.W.makesIn K CP = true)
    (kcCP : PySem.W.keepIn K (.ref CP) = true)
    (pgCD : PySem.W.plainGet K CD Str.empty = true)
    (hdCD : PySem.W.hasDictIn K CD = true)
    (poCD : PySem.W.plainOver K CD = true)
    (saCD : PySem.W.findIn K (.ref CD) "__setattr__" = some (some (.builtin "object.__setattr__")))
    (mkCD : PySem.W.makesIn K CD = true)
    (kcCD : PySem.W.keepIn K (.ref CD) = true)
    (naperiod : PySem.W.findIn K (.ref CP) "period" = some none)
    (naflags : PySem.W.findIn K (.ref CP) "flags" = some none)
    (naflipped : PySem.W.findIn K (.ref CP) "flipped" = some none)
    (nabelow : PySem.W.findIn K (.ref CP) "below" = some none)
    (naplain : PySem.W.findIn K (.ref CD) "plain" = some none)
    (ex1 : PySem.W.excIn K C1 [.type "ValueError", .type "Exception", .type "BaseException", .type "object"] "ValueError.__new__" = true)
    (ke1 : PySem.W.keepIn K (.ref C1) = true)
    (se1 : PySem.W.subIn K (.ref C1) (.type "BaseException") = some true)
    (te1 : PySem.W.typeIn K (.ref C1) = some (.type "type"))
    (ex2 : PySem.W.excIn K C2 [.type "ValueError", .type "Exception", .type "BaseException", .type "object"] "ValueError.__new__" = true)
    (ke2 : PySem.W.keepIn K (.ref C2) = true)
    (se2 : PySem.W.subIn K (.ref C2) (.type "BaseException") = some true)
    (te2 : PySem.W.typeIn K (.ref C2) = some (.type "type"))
    (ex3 : PySem.W.excIn K C3 [.type "ValueError", .type "Exception", .type "BaseException", .type "object"] "ValueError.__new__" = true)
    (ke3 : PySem.W.keepIn K (.ref C3) = true)
    (se3 : PySem.W.subIn K (.ref C3) (.type "BaseException") = some true)
    (te3 : PySem.W.typeIn K (.ref C3) = some (.type "type"))
    (icC1 : PySem.W.isClsIn K C1 = true)
    (icC2 : PySem.W.isClsIn K C2 = true)
    (icC3 : PySem.W.isClsIn K C3 = true)
    (icCT : PySem.W.isClsIn K CT = true)
    (icCP : PySem.W.isClsIn K CP = true)
    (tyCP : PySem.W.typeIn K (.ref CP) = some (.type "type"))
    (xs11 : PySem.W.subIn K (.ref C1) (.ref C1) = some true)
    (xs12 : PySem.W.subIn K (.ref C1) (.ref C2) = some false)
    (xs13 : PySem.W.subIn K (.ref C1) (.ref C3) = some false)
    (xs21 : PySem.W.subIn K (.ref C2) (.ref C1) = some false)
    (xs22 : PySem.W.subIn K (.ref C2) (.ref C2) = some true)
    (xs23 : PySem.W.subIn K (.ref C2) (.ref C3) = some false)
    (xs31 : PySem.W.subIn K (.ref C3) (.ref C1) = some false)
    (xs32 : PySem.W.subIn K (.ref C3) (.ref C2) = some false)
    (xs33 : PySem.W.subIn K (.ref C3) (.ref C3) = some true)
    (xL : K.lookup CT = some (excClassObj nmT qT CT NT bsT bmT true snT subT abT colT ddT m0 m1 m2 m3 m5 "ValueError.__new__"))
    (xR : PySem.HandSPX.refsVE bmT = true)
    (saT : PySem.W.findIn K (.ref CT) "__setattr__" = some (some (.builtin "object.__setattr__")))
    (gaT : PySem.W.findIn K (.ref CT) "__getattribute__" = some (some (.builtin "BaseException.__getattribute__")))
    (ggT : PySem.W.findIn K (.ref CT) "__getattr__" = some none)
    (nlT : PySem.W.findIn K (.ref CT) "line" = some none)
    (kT : PySem.W.keepIn K (.ref CT) = true)
    (eT : PySem.W.subIn K (.ref CT) (.type "BaseException") = some true)
    (tT : PySem.W.typeIn K (.ref CT) = some (.type "type"))
    (hT : PySem.W.hasDictIn K CT = true)
    (xsT : PySem.W.subIn K (.ref CT) (.ref CT) = some true)
    (mm : PySem.W.nsIn K mainGlobals "MOST_MODULUS" = some (some (.int 720 kN)))
    (zisinstance : PySem.W.nsIn K mainGlobals "isinstance" = some none)
    (zint : PySem.W.nsIn K mainGlobals "int" = some none)
    (zbool : PySem.W.nsIn K mainGlobals "bool" = some none)
    (zstr : PySem.W.nsIn K mainGlobals "str" = some none)
    (ztuple : PySem.W.nsIn K mainGlobals "tuple" = some none)
    (zlist : PySem.W.nsIn K mainGlobals "list" = some none)
    (zlen : PySem.W.nsIn K mainGlobals "len" = some none)
    (zset : PySem.W.nsIn K mainGlobals "set" = some none)
    (zall : PySem.W.nsIn K mainGlobals "all" = some none)
    (zrange : PySem.W.nsIn K mainGlobals "range" = some none)
    (zsorted : PySem.W.nsIn K mainGlobals "sorted" = some none)
    (zenumerate : PySem.W.nsIn K mainGlobals "enumerate" = some none)
    (zabs : PySem.W.nsIn K mainGlobals "abs" = some none)
    (zmax : PySem.W.nsIn K mainGlobals "max" = some none)
    (zmin : PySem.W.nsIn K mainGlobals "min" = some none)
    (aPI : PySem.W.findIn K (.ref CP) "__init__" = some (some (.ref fPI)))
    (iPI : PySem.W.isFn K (.ref fPI) = true)
    (lPI : K.lookup fPI = some ⟨ocPI, odPI, .func (PySem.W.fnOf "__init__" "Plainest.__init__" (defArgs tPInit) (defBody tPInit) (defScope tPInit) .none kVPI dcPI pmPI anPI cdPI ctPI), slPI⟩)
    (cPI : PySem.W.codeIn K cdPI "Plainest.__init__" = true)
    (kPI : PySem.W.keepIn K (.ref fPI) = true)
    (adm : PySem.W.findIn K (.ref CD) "modulus" = some (some (.ref fdm)))
    (idm : PySem.W.isFn K (.ref fdm) = true)
    (ldm : K.lookup fdm = some ⟨ocdm, oddm, .func (PySem.W.fnOf "modulus" "Distances.modulus" (defArgs tDMod) (defBody tDMod) (defScope tDMod) .none kVdm dcdm pmdm andm cddm ctdm), sldm⟩)
    (cdm : PySem.W.codeIn K cddm "Distances.modulus" = true)
    (kdm : PySem.W.keepIn K (.ref fdm) = true)
    (adc : PySem.W.findIn K (.ref CD) "classes" = some (some (.ref fdc)))
    (idc : PySem.W.isFn K (.ref fdc) = true)
    (ldc : K.lookup fdc = some ⟨ocdc, oddc, .func (PySem.W.fnOf "classes" "Distances.classes" (defArgs tDCls) (defBody tDCls) (defScope tDCls) .none kVdc dcdc pmdc andc cddc ctdc), sldc⟩)
    (cdc : PySem.W.codeIn K cddc "Distances.classes" = true)
    (kdc : PySem.W.keepIn K (.ref fdc) = true)
    (adh : PySem.W.findIn K (.ref CD) "changed" = some (some (.ref fdh)))
    (idh : PySem.W.isFn K (.ref fdh) = true)
    (ldh : K.lookup fdh = some ⟨ocdh, oddh, .func (PySem.W.fnOf "changed" "Distances.changed" (defArgs tDChg) (defBody tDChg) (defScope tDChg) .none kVdh dcdh pmdh andh cddh ctdh), sldh⟩)
    (cdh : PySem.W.codeIn K cddh "Distances.changed" = true)
    (kdh : PySem.W.keepIn K (.ref fdh) = true)
    (aNT : PySem.W.findIn K (.ref CT) "__init__" = some (some (.ref fNT)))
    (tfNT : PySem.W.typeIn K (.ref fNT) = some (.type "function"))
    (lNT : K.lookup fNT = some ⟨ocNT, odNT, .func (PySem.W.fnOf "__init__" "NoText.__init__" (defArgs tNTInit) (defBody tNTInit) (defScope tNTInit) .none kVNT dcNT pmNT anNT cdNT ctNT), slNT⟩)
    (cNT : PySem.W.codeIn K cdNT "NoText.__init__" = true)
    (kNT : PySem.W.keepIn K (.ref fNT) = true)
    (aDI : PySem.W.findIn K (.ref CD) "__init__" = some (some (.ref fDI)))
    (iDI : PySem.W.isFn K (.ref fDI) = true)
    (lDI : K.lookup fDI = some ⟨ocDI, odDI, .func (PySem.W.fnOf "__init__" "Distances.__init__" (defArgs tDInit) (defBody tDInit) (defScope tDInit) (.ref TD) .none dcDI pmDI anDI cdDI ctDI), slDI⟩)
    (cDI : PySem.W.codeIn K cdDI "Distances.__init__" = true)
    (lTD : K.lookup TD = some ⟨ocTD, odTD, .seq #[u1, u2, u3] nTD, slTD⟩)
    (awh : PySem.W.nsIn K mainGlobals "is_whole" = some (some (.ref fwh)))
    (lwh : K.lookup fwh = some ⟨ocwh, odwh, .func (PySem.W.fnOf "is_whole" "is_whole" (defArgs tWhole) (defBody tWhole) (defScope tWhole) .none kVwh dcwh pmwh anwh cdwh ctwh), slwh⟩)
    (cwh : PySem.W.codeIn K cdwh "is_whole" = true)
    (kwh : PySem.W.keepIn K (.ref fwh) = true)
    (apr : PySem.W.nsIn K mainGlobals "prime_divisors" = some (some (.ref fpr)))
    (lpr : K.lookup fpr = some ⟨ocpr, odpr, .func (PySem.W.fnOf "prime_divisors" "prime_divisors" (defArgs tPrimes) (defBody tPrimes) (defScope tPrimes) .none kVpr dcpr pmpr anpr cdpr ctpr), slpr⟩)
    (cpr : PySem.W.codeIn K cdpr "prime_divisors" = true)
    (kpr : PySem.W.keepIn K (.ref fpr) = true)
    (ape : PySem.W.nsIn K mainGlobals "is_periodic" = some (some (.ref fpe)))
    (lpe : K.lookup fpe = some ⟨ocpe, odpe, .func (PySem.W.fnOf "is_periodic" "is_periodic" (defArgs tPeriodic) (defBody tPeriodic) (defScope tPeriodic) .none kVpe dcpe pmpe anpe cdpe ctpe), slpe⟩)
    (cpe : PySem.W.codeIn K cdpe "is_periodic" = true)
    (kpe : PySem.W.keepIn K (.ref fpe) = true)
    (ale : PySem.W.nsIn K mainGlobals "least_period" = some (some (.ref fle)))
    (lle : K.lookup fle = some ⟨ocle, odle, .func (PySem.W.fnOf "least_period" "least_period" (defArgs tLeast) (defBody tLeast) (defScope tLeast) .none kVle dcle pmle anle cdle ctle), slle⟩)
    (cle : PySem.W.codeIn K cdle "least_period" = true)
    (kle : PySem.W.keepIn K (.ref fle) = true)
    (asu : PySem.W.nsIn K mainGlobals "sums_of" = some (some (.ref fsu)))
    (lsu : K.lookup fsu = some ⟨ocsu, odsu, .func (PySem.W.fnOf "sums_of" "sums_of" (defArgs tSums) (defBody tSums) (defScope tSums) .none kVsu dcsu pmsu ansu cdsu ctsu), slsu⟩)
    (csu : PySem.W.codeIn K cdsu "sums_of" = true)
    (ksu : PySem.W.keepIn K (.ref fsu) = true)
    (ach : PySem.W.nsIn K mainGlobals "checked" = some (some (.ref fch)))
    (lch : K.lookup fch = some ⟨occh, odch, .func (PySem.W.fnOf "checked" "checked" (defArgs tChecked) (defBody tChecked) (defScope tChecked) .none kVch dcch pmch anch cdch ctch), slch⟩)
    (cch : PySem.W.codeIn K cdch "checked" = true)
    (kch : PySem.W.keepIn K (.ref fch) = true)
    (arn : PySem.W.nsIn K mainGlobals "read_number" = some (some (.ref frn)))
    (lrn : K.lookup frn = some ⟨ocrn, odrn, .func (PySem.W.fnOf "read_number" "read_number" (defArgs tRdN) (defBody tRdN) (defScope tRdN) .none kVrn dcrn pmrn anrn cdrn ctrn), slrn⟩)
    (crn : PySem.W.codeIn K cdrn "read_number" = true)
    (krn : PySem.W.keepIn K (.ref frn) = true)
    (ars : PySem.W.nsIn K mainGlobals "read_numbers" = some (some (.ref frs)))
    (lrs : K.lookup frs = some ⟨ocrs, odrs, .func (PySem.W.fnOf "read_numbers" "read_numbers" (defArgs tRdNs) (defBody tRdNs) (defScope tRdNs) .none kVrs dcrs pmrs anrs cdrs ctrs), slrs⟩)
    (crs : PySem.W.codeIn K cdrs "read_numbers" = true)
    (krs : PySem.W.keepIn K (.ref frs) = true)
    (ant : PySem.W.nsIn K mainGlobals "numbers_text" = some (some (.ref fnt)))
    (lnt : K.lookup fnt = some ⟨ocnt, odnt, .func (PySem.W.fnOf "numbers_text" "numbers_text" (defArgs tNumT) (defBody tNumT) (defScope tNumT) .none kVnt dcnt pmnt annt cdnt ctnt), slnt⟩)
    (cnt : PySem.W.codeIn K cdnt "numbers_text" = true)
    (knt : PySem.W.keepIn K (.ref fnt) = true)
    (ast : PySem.W.nsIn K mainGlobals "set_text" = some (some (.ref fst)))
    (lst : K.lookup fst = some ⟨ocst, odst, .func (PySem.W.fnOf "set_text" "set_text" (defArgs tSetT) (defBody tSetT) (defScope tSetT) .none kVst dcst pmst anst cdst ctst), slst⟩)
    (cst : PySem.W.codeIn K cdst "set_text" = true)
    (kst : PySem.W.keepIn K (.ref fst) = true)
    (aso : PySem.W.nsIn K mainGlobals "set_of_text" = some (some (.ref fso)))
    (lso : K.lookup fso = some ⟨ocso, odso, .func (PySem.W.fnOf "set_of_text" "set_of_text" (defArgs tSetOf) (defBody tSetOf) (defScope tSetOf) .none kVso dcso pmso anso cdso ctso), slso⟩)
    (cso : PySem.W.codeIn K cdso "set_of_text" = true)
    (kso : PySem.W.keepIn K (.ref fso) = true)
    (ard : PySem.W.nsIn K mainGlobals "read_set" = some (some (.ref frd)))
    (lrd : K.lookup frd = some ⟨ocrd, odrd, .func (PySem.W.fnOf "read_set" "read_set" (defArgs tRead) (defBody tRead) (defScope tRead) .none kVrd dcrd pmrd anrd cdrd ctrd), slrd⟩)
    (crd : PySem.W.codeIn K cdrd "read_set" = true)
    (krd : PySem.W.keepIn K (.ref frd) = true)
    (aLp : PySem.W.nsIn K mainGlobals "_law_pot" = some (some (.ref fLp)))
    (lLp : K.lookup fLp = some ⟨ocLp, odLp, .func (PySem.W.fnOf "_law_pot" "_law_pot" (defArgs tPot) (defBody tPot) (defScope tPot) .none kVLp dcLp pmLp anLp cdLp ctLp), slLp⟩)
    (cLp : PySem.W.codeIn K cdLp "_law_pot" = true)
    (kLp : PySem.W.keepIn K (.ref fLp) = true)
    (aLd : PySem.W.nsIn K mainGlobals "_law_dip" = some (some (.ref fLd)))
    (lLd : K.lookup fLd = some ⟨ocLd, odLd, .func (PySem.W.fnOf "_law_dip" "_law_dip" (defArgs tDip) (defBody tDip) (defScope tDip) .none kVLd dcLd pmLd anLd cdLd ctLd), slLd⟩)
    (cLd : PySem.W.codeIn K cdLd "_law_dip" = true)
    (kLd : PySem.W.keepIn K (.ref fLd) = true)
    (aLa : PySem.W.nsIn K mainGlobals "_law_alike" = some (some (.ref fLa)))
    (lLa : K.lookup fLa = some ⟨ocLa, odLa, .func (PySem.W.fnOf "_law_alike" "_law_alike" (defArgs tAlike) (defBody tAlike) (defScope tAlike) .none kVLa dcLa pmLa anLa cdLa ctLa), slLa⟩)
    (cLa : PySem.W.codeIn K cdLa "_law_alike" = true)
    (kLa : PySem.W.keepIn K (.ref fLa) = true)
    (aLi : PySem.W.nsIn K mainGlobals "_law_plainest" = some (some (.ref fLi)))
    (lLi : K.lookup fLi = some ⟨ocLi, odLi, .func (PySem.W.fnOf "_law_plainest" "_law_plainest" (defArgs tPlain) (defBody tPlain) (defScope tPlain) .none kVLi dcLi pmLi anLi cdLi ctLi), slLi⟩)
    (cLi : PySem.W.codeIn K cdLi "_law_plainest" = true)
    (kLi : PySem.W.keepIn K (.ref fLi) = true)
    (aLs : PySem.W.nsIn K mainGlobals "_law_some" = some (some (.ref fLs)))
    (lLs : K.lookup fLs = some ⟨ocLs, odLs, .func (PySem.W.fnOf "_law_some" "_law_some" (defArgs tSome) (defBody tSome) (defScope tSome) .none kVLs dcLs pmLs anLs cdLs ctLs), slLs⟩)
    (cLs : PySem.W.codeIn K cdLs "_law_some" = true)
    (kLs : PySem.W.keepIn K (.ref fLs) = true)
    (aLw : PySem.W.nsIn K mainGlobals "_law_words" = some (some (.ref fLw)))
    (lLw : K.lookup fLw = some ⟨ocLw, odLw, .func (PySem.W.fnOf "_law_words" "_law_words" (defArgs tWords) (defBody tWords) (defScope tWords) .none kVLw dcLw pmLw anLw cdLw ctLw), slLw⟩)
    (cLw : PySem.W.codeIn K cdLw "_law_words" = true)
    (kLw : PySem.W.keepIn K (.ref fLw) = true)
    (aLl : PySem.W.nsIn K mainGlobals "_law_set_line" = some (some (.ref fLl)))
    (lLl : K.lookup fLl = some ⟨ocLl, odLl, .func (PySem.W.fnOf "_law_set_line" "_law_set_line" (defArgs tLine) (defBody tLine) (defScope tLine) .none kVLl dcLl pmLl anLl cdLl ctLl), slLl⟩)
    (cLl : PySem.W.codeIn K cdLl "_law_set_line" = true)
    (kLl : PySem.W.keepIn K (.ref fLl) = true)
    (aLc : PySem.W.nsIn K mainGlobals "_law_count" = some (some (.ref fLc)))
    (lLc : K.lookup fLc = some ⟨ocLc, odLc, .func (PySem.W.fnOf "_law_count" "_law_count" (defArgs tCount) (defBody tCount) (defScope tCount) .none kVLc dcLc pmLc anLc cdLc ctLc), slLc⟩)
    (cLc : PySem.W.codeIn K cdLc "_law_count" = true)
    (kLc : PySem.W.keepIn K (.ref fLc) = true)
    (aLg : PySem.W.nsIn K mainGlobals "_law_sign" = some (some (.ref fLg)))
    (lLg : K.lookup fLg = some ⟨ocLg, odLg, .func (PySem.W.fnOf "_law_sign" "_law_sign" (defArgs tSign) (defBody tSign) (defScope tSign) .none kVLg dcLg pmLg anLg cdLg ctLg), slLg⟩)
    (cLg : PySem.W.codeIn K cdLg "_law_sign" = true)
    (kLg : PySem.W.keepIn K (.ref fLg) = true)
    (aLo : PySem.W.nsIn K mainGlobals "_law_word" = some (some (.ref fLo)))
    (lLo : K.lookup fLo = some ⟨ocLo, odLo, .func (PySem.W.fnOf "_law_word" "_law_word" (defArgs tWord) (defBody tWord) (defScope tWord) .none kVLo dcLo pmLo anLo cdLo ctLo), slLo⟩)
    (cLo : PySem.W.codeIn K cdLo "_law_word" = true)
    (kLo : PySem.W.keepIn K (.ref fLo) = true)
    (aLn : PySem.W.nsIn K mainGlobals "_law_lines_changed" = some (some (.ref fLn)))
    (lLn : K.lookup fLn = some ⟨ocLn, odLn, .func (PySem.W.fnOf "_law_lines_changed" "_law_lines_changed" (defArgs tLines) (defBody tLines) (defScope tLines) .none kVLn dcLn pmLn anLn cdLn ctLn), slLn⟩)
    (cLn : PySem.W.codeIn K cdLn "_law_lines_changed" = true)
    (kLn : PySem.W.keepIn K (.ref fLn) = true)
    (aLh : PySem.W.nsIn K mainGlobals "_law_changed" = some (some (.ref fLh)))
    (lLh : K.lookup fLh = some ⟨ocLh, odLh, .func (PySem.W.fnOf "_law_changed" "_law_changed" (defArgs tChangd) (defBody tChangd) (defScope tChangd) .none kVLh dcLh pmLh anLh cdLh ctLh), slLh⟩)
    (cLh : PySem.W.codeIn K cdLh "_law_changed" = true)
    (kLh : PySem.W.keepIn K (.ref fLh) = true)
    (aLm : PySem.W.nsIn K mainGlobals "_law_numbers" = some (some (.ref fLm)))
    (lLm : K.lookup fLm = some ⟨ocLm, odLm, .func (PySem.W.fnOf "_law_numbers" "_law_numbers" (defArgs tNumbers) (defBody tNumbers) (defScope tNumbers) .none kVLm dcLm pmLm anLm cdLm ctLm), slLm⟩)
    (cLm : PySem.W.codeIn K cdLm "_law_numbers" = true)
    (kLm : PySem.W.keepIn K (.ref fLm) = true)
    (aLr : PySem.W.nsIn K mainGlobals "_law_read" = some (some (.ref fLr)))
    (lLr : K.lookup fLr = some ⟨ocLr, odLr, .func (PySem.W.fnOf "_law_read" "_law_read" (defArgs tLawRead) (defBody tLawRead) (defScope tLawRead) .none kVLr dcLr pmLr anLr cdLr ctLr), slLr⟩)
    (cLr : PySem.W.codeIn K cdLr "_law_read" = true)
    (kLr : PySem.W.keepIn K (.ref fLr) = true)
    (aLt : PySem.W.nsIn K mainGlobals "_law_told" = some (some (.ref fLt)))
    (lLt : K.lookup fLt = some ⟨ocLt, odLt, .func (PySem.W.fnOf "_law_told" "_law_told" (defArgs tTold) (defBody tTold) (defScope tTold) .none kVLt dcLt pmLt anLt cdLt ctLt), slLt⟩)
    (cLt : PySem.W.codeIn K cdLt "_law_told" = true)
    (kLt : PySem.W.keepIn K (.ref fLt) = true)
    (aLx : PySem.W.nsIn K mainGlobals "_law_odd" = some (some (.ref fLx)))
    (lLx : K.lookup fLx = some ⟨ocLx, odLx, .func (PySem.W.fnOf "_law_odd" "_law_odd" (defArgs tOdd) (defBody tOdd) (defScope tOdd) .none kVLx dcLx pmLx anLx cdLx ctLx), slLx⟩)
    (cLx : PySem.W.codeIn K cdLx "_law_odd" = true)
    (kLx : PySem.W.keepIn K (.ref fLx) = true)
    (aLy : PySem.W.nsIn K mainGlobals "_law_right" = some (some (.ref fLy)))
    (lLy : K.lookup fLy = some ⟨ocLy, odLy, .func (PySem.W.fnOf "_law_right" "_law_right" (defArgs tRight) (defBody tRight) (defScope tRight) .none kVLy dcLy pmLy anLy cdLy ctLy), slLy⟩)
    (cLy : PySem.W.codeIn K cdLy "_law_right" = true)
    (kLy : PySem.W.keepIn K (.ref fLy) = true)
    (aLz : PySem.W.nsIn K mainGlobals "law" = some (some (.ref fLz)))
    (lLz : K.lookup fLz = some ⟨ocLz, odLz, .func (PySem.W.fnOf "law" "law" (defArgs tLaw) (defBody tLaw) (defScope tLaw) .none kVLz dcLz pmLz anLz cdLz ctLz), slLz⟩)
    (cLz : PySem.W.codeIn K cdLz "law" = true)
    (kLz : PySem.W.keepIn K (.ref fLz) = true) :
    ∃ fd : FuncData, (∀ (s : Shared) (v : Value), BindsTo s fd ⟨[v], []⟩ [("_law_script", v)]) ∧ ∀ base : Heap, K.In base → base.Ns mainGlobals mg → FnOk l.prog w K mg base CX0 12 fa fd ["_law_script"] (spLaw K) := by
  have e := hfa.symm.trans (PySem.W.mg_of X G aLz)
  cases e
  have B : Bi mg := ⟨PySem.W.mg_none_of X G zisinstance, PySem.W.mg_none_of X G zint, PySem.W.mg_none_of X G zbool, PySem.W.mg_none_of X G zstr, PySem.W.mg_none_of X G ztuple, PySem.W.mg_none_of X G zlist, PySem.W.mg_none_of X G zlen, PySem.W.mg_none_of X G zset, PySem.W.mg_none_of X G zall, PySem.W.mg_none_of X G zrange, PySem.W.mg_none_of X G zsorted, PySem.W.mg_none_of X G zenumerate, PySem.W.mg_none_of X G zabs, PySem.W.mg_none_of X G zmax, PySem.W.mg_none_of X G zmin⟩
  have TP : TxP K CP := ⟨⟨pgCP, hdCP, poCP, saCP⟩, naperiod, naflags, naflipped, nabelow⟩
  have TD' : TxD K CD := ⟨⟨pgCD, hdCD, poCD, saCD⟩, naplain⟩
  have X1 : TxX K mg "NoModulus" C1 := ⟨PySem.W.mg_of X G nC1, ex1, ke1, se1, te1⟩
  have X2 : TxX K mg "NoClasses" C2 := ⟨PySem.W.mg_of X G nC2, ex2, ke2, se2, te2⟩
  have X3 : TxX K mg "NoChanged" C3 := ⟨PySem.W.mg_of X G nC3, ex3, ke3, se3, te3⟩
  have Fwh := fun_mk (st := tWhole) lwh cwh kwh
  have gwh := PySem.W.mg_of X G awh
  have bwh := Fwh.binds (ps := ["thing"]) fun _ _ _ _ _ _ us hl => match us, hl with | [_], _ => rfl
  have Fpr := fun_mk (st := tPrimes) lpr cpr kpr
  have gpr := PySem.W.mg_of X G apr
  have bpr := Fpr.binds (ps := ["number"]) fun _ _ _ _ _ _ us hl => match us, hl with | [_], _ => rfl
  have Fpe := fun_mk (st := tPeriodic) lpe cpe kpe
  have gpe := PySem.W.mg_of X G ape
  have bpe := Fpe.binds (ps := ["flags", "period"]) fun _ _ _ _ _ _ us hl => match us, hl with | [_, _], _ => rfl
  have Fle := fun_mk (st := tLeast) lle cle kle
  have gle := PySem.W.mg_of X G ale
  have ble := Fle.binds (ps := ["flags"]) fun _ _ _ _ _ _ us hl => match us, hl with | [_], _ => rfl
  have Fsu := fun_mk (st := tSums) lsu csu ksu
  have gsu := PySem.W.mg_of X G asu
  have bsu := Fsu.binds (ps := ["flags"]) fun _ _ _ _ _ _ us hl => match us, hl with | [_], _ => rfl
  have Fch := fun_mk (st := tChecked) lch cch kch
  have gch := PySem.W.mg_of X G ach
  have bch := Fch.binds (ps := ["modulus", "classes", "changed"]) fun _ _ _ _ _ _ us hl => match us, hl with | [_, _, _], _ => rfl
  have Frn := fun_mk (st := tRdN) lrn crn krn
  have grn := PySem.W.mg_of X G arn
  have brn := Frn.binds (ps := ["word"]) fun _ _ _ _ _ _ us hl => match us, hl with | [_], _ => rfl
  have Frs := fun_mk (st := tRdNs) lrs crs krs
  have grs := PySem.W.mg_of X G ars
  have brs := Frs.binds (ps := ["words"]) fun _ _ _ _ _ _ us hl => match us, hl with | [_], _ => rfl
  have Fnt := fun_mk (st := tNumT) lnt cnt knt
  have gnt := PySem.W.mg_of X G ant
  have bnt := Fnt.binds (ps := ["numbers"]) fun _ _ _ _ _ _ us hl => match us, hl with | [_], _ => rfl
  have Fst := fun_mk (st := tSetT) lst cst kst
  have gst := PySem.W.mg_of X G ast
  have bst := Fst.binds (ps := ["distances"]) fun _ _ _ _ _ _ us hl => match us, hl with | [_], _ => rfl
  have Fso := fun_mk (st := tSetOf) lso cso kso
  have gso := PySem.W.mg_of X G aso
  have bso := Fso.binds (ps := ["text"]) fun _ _ _ _ _ _ us hl => match us, hl with | [_], _ => rfl
  have Frd := fun_mk (st := tRead) lrd crd krd
  have grd := PySem.W.mg_of X G ard
  have brd := Frd.binds (ps := ["text"]) fun _ _ _ _ _ _ us hl => match us, hl with | [_], _ => rfl
  have FLp := fun_mk (st := tPot) lLp cLp kLp
  have gLp := PySem.W.mg_of X G aLp
  have bLp := FLp.binds (ps := ["_law_script", "_law_k"]) fun _ _ _ _ _ _ us hl => match us, hl with | [_, _], _ => rfl
  have FLd := fun_mk (st := tDip) lLd cLd kLd
  have gLd := PySem.W.mg_of X G aLd
  have bLd := FLd.binds (ps := ["_law_pot_here", "_law_many"]) fun _ _ _ _ _ _ us hl => match us, hl with | [_, _], _ => rfl
  have FLa := fun_mk (st := tAlike) lLa cLa kLa
  have gLa := PySem.W.mg_of X G aLa
  have bLa := FLa.binds (ps := ["_law_found", "_law_due"]) fun _ _ _ _ _ _ us hl => match us, hl with | [_, _], _ => rfl
  have FLi := fun_mk (st := tPlain) lLi cLi kLi
  have gLi := PySem.W.mg_of X G aLi
  have bLi := FLi.binds (ps := ["_law_modulus", "_law_classes"]) fun _ _ _ _ _ _ us hl => match us, hl with | [_, _], _ => rfl
  have FLs := fun_mk (st := tSome) lLs cLs kLs
  have gLs := PySem.W.mg_of X G aLs
  have bLs := FLs.binds (ps := ["_law_pot_here", "_law_far"]) fun _ _ _ _ _ _ us hl => match us, hl with | [_, _], _ => rfl
  have FLw := fun_mk (st := tWords) lLw cLw kLw
  have gLw := PySem.W.mg_of X G aLw
  have bLw := FLw.binds (ps := ["_law_numbers_here"]) fun _ _ _ _ _ _ us hl => match us, hl with | [_], _ => rfl
  have FLl := fun_mk (st := tLine) lLl cLl kLl
  have gLl := PySem.W.mg_of X G aLl
  have bLl := FLl.binds (ps := ["_law_some_here"]) fun _ _ _ _ _ _ us hl => match us, hl with | [_], _ => rfl
  have FLc := fun_mk (st := tCount) lLc cLc kLc
  have gLc := PySem.W.mg_of X G aLc
  have bLc := FLc.binds (ps := ["_law_word_here"]) fun _ _ _ _ _ _ us hl => match us, hl with | [_], _ => rfl
  have FLg := fun_mk (st := tSign) lLg cLg kLg
  have gLg := PySem.W.mg_of X G aLg
  have bLg := FLg.binds (ps := ["_law_pot_here"]) fun _ _ _ _ _ _ us hl => match us, hl with | [_], _ => rfl
  have FLo := fun_mk (st := tWord) lLo cLo kLo
  have gLo := PySem.W.mg_of X G aLo
  have bLo := FLo.binds (ps := ["_law_pot_here"]) fun _ _ _ _ _ _ us hl => match us, hl with | [_], _ => rfl
  have FLn := fun_mk (st := tLines) lLn cLn kLn
  have gLn := PySem.W.mg_of X G aLn
  have bLn := FLn.binds (ps := ["_law_pot_here", "_law_lines"]) fun _ _ _ _ _ _ us hl => match us, hl with | [_, _], _ => rfl
  have FLh := fun_mk (st := tChangd) lLh cLh kLh
  have gLh := PySem.W.mg_of X G aLh
  have bLh := FLh.binds (ps := ["_law_pot_here", "_law_page"]) fun _ _ _ _ _ _ us hl => match us, hl with | [_, _], _ => rfl
  have FLm := fun_mk (st := tNumbers) lLm cLm kLm
  have gLm := PySem.W.mg_of X G aLm
  have bLm := FLm.binds (ps := ["_law_parts", "_law_least"]) fun _ _ _ _ _ _ us hl => match us, hl with | [_, _], _ => rfl
  have FLr := fun_mk (st := tLawRead) lLr cLr kLr
  have gLr := PySem.W.mg_of X G aLr
  have bLr := FLr.binds (ps := ["_law_page"]) fun _ _ _ _ _ _ us hl => match us, hl with | [_], _ => rfl
  have FLt := fun_mk (st := tTold) lLt cLt kLt
  have gLt := PySem.W.mg_of X G aLt
  have bLt := FLt.binds (ps := ["_law_thing"]) fun _ _ _ _ _ _ us hl => match us, hl with | [_], _ => rfl
  have FLx := fun_mk (st := tOdd) lLx cLx kLx
  have gLx := PySem.W.mg_of X G aLx
  have bLx := FLx.binds (ps := ["_law_pot_here", "_law_some_here"]) fun _ _ _ _ _ _ us hl => match us, hl with | [_, _], _ => rfl
  have FLy := fun_mk (st := tRight) lLy cLy kLy
  have gLy := PySem.W.mg_of X G aLy
  have bLy := FLy.binds (ps := ["_law_pot_here"]) fun _ _ _ _ _ _ us hl => match us, hl with | [_], _ => rfl
  have FLz := fun_mk (st := tLaw) lLz cLz kLz
  have gLz := PySem.W.mg_of X G aLz
  have bLz := FLz.binds (ps := ["_law_script"]) fun _ _ _ _ _ _ us hl => match us, hl with | [_], _ => rfl
  have FPI := fun_mk (st := tPInit) lPI cPI kPI
  have bPI := FPI.binds (ps := ["self", "flags", "flipped"]) fun _ _ _ _ _ _ us hl => match us, hl with | [_, _, _], _ => rfl
  have Fdm := fun_mk (st := tDMod) ldm cdm kdm
  have bdm := Fdm.binds (ps := ["self"]) fun _ _ _ _ _ _ us hl => match us, hl with | [_], _ => rfl
  have Fdc := fun_mk (st := tDCls) ldc cdc kdc
  have bdc := Fdc.binds (ps := ["self"]) fun _ _ _ _ _ _ us hl => match us, hl with | [_], _ => rfl
  have Fdh := fun_mk (st := tDChg) ldh cdh kdh
  have bdh := Fdh.binds (ps := ["self"]) fun _ _ _ _ _ _ us hl => match us, hl with | [_], _ => rfl
  have FNT := fun_mk (st := tNTInit) lNT cNT kNT
  have bNT := FNT.binds (ps := ["self", "line"]) fun _ _ _ _ _ _ us hl => match us, hl with | [_, _], _ => rfl
  have T : TxT K mg CT fNT _ := { ox := ⟨⟨_, _, _, _, _, _, _, _, _, _, _, _, _, _, _, xL, xR⟩, saT, eT, tT, kT⟩, iC := aNT, tI := tfNT, nL := nlT, g := PySem.W.mg_of X G nCT, F := FNT, b := bNT }
  have XF : XfC K CT := ⟨gaT, ggT, eT, hT⟩
  have kbrd := Frd.kb1 (p := "text") (fun _ _ _ _ _ _ _ => rfl) (fun _ _ _ _ _ _ _ => rfl)
  have bDI : Binds K (PySem.W.fnOf "__init__" "Distances.__init__" (defArgs tDInit) (defBody tDInit) (defScope tDInit) (.ref TD) .none dcDI pmDI anDI cdDI ctDI) ["self", "modulus", "classes", "changed"] [] := fun s us KX hl => by
    rw [List.append_nil] at hl ⊢
    match us, hl with
    | [v1, v2, v3, v4], _ => exact PySem.W.binds_K KX rfl lTD rfl rfl rfl
  have hx : ∀ C, (C = C1 ∨ C = C2 ∨ C = C3) → PySem.W.exmAny K (.ref C) [.ref C1, .ref C2, .ref C3] = some true := fun C hC => by
    rcases hC with rfl | rfl | rfl
    · exact exm3 (exm_mk se1 icC1 te1 xs11) (exm_mk se2 icC2 te2 xs12) (exm_mk se3 icC3 te3 xs13) rfl
    · exact exm3 (exm_mk se1 icC1 te1 xs21) (exm_mk se2 icC2 te2 xs22) (exm_mk se3 icC3 te3 xs23) rfl
    · exact exm3 (exm_mk se1 icC1 te1 xs31) (exm_mk se2 icC2 te2 xs32) (exm_mk se3 icC3 te3 xs33) rfl
  refine ⟨PySem.W.fnOf "law" "law" (defArgs tLaw) (defBody tLaw) (defScope tLaw) .none kVLz dcLz pmLz anLz cdLz ctLz, fun s v => .of_eq rfl, fun base _ _ => ?_⟩
  have MD : Mk K CD fDI := ⟨mkCD, aDI, iDI, kcCD⟩
  have MP : Mk K CP fPI := ⟨mkCP, aPI, iPI, kcCP⟩
  have Gwh := ok_whole (P := l.prog) (mg := mg) (w := w) (base := base) Fwh B.isinstance B.int B.bool
  have Gsu := ok_sums (P := l.prog) (mg := mg) (w := w) (base := base) Fsu B.len B.range B.int
  have Gle := ok_least (P := l.prog) (mg := mg) (w := w) (base := base) Fle B.len Fpr gpr bpr Fpe gpe bpe
  have GPI := ok_pinit (P := l.prog) (mg := mg) (w := w) (base := base) (j1 := 0) FPI TP Gle kle gle ble Gsu ksu gsu bsu
  have Gch := ok_checked (P := l.prog) (mg := mg) (w := w) (base := base) Fch B X1 X2 X3 (PySem.W.mg_of X G mm) Gwh gwh kwh bwh MP GPI (PySem.W.mg_of X G nCP) bPI
  have GDI := ok_dinit (P := l.prog) (mg := mg) (w := w) (base := base) (CD := CD) (ds1 := []) ⟨_, _, _, _, _, _, _, _, _, _, rfl, lDI, cDI⟩ B TD' (PySem.W.mg_of X G nCP) (kit_mk icCP tyCP sub_int) (kit_mk icCP tyCP sub_none) Gch gch kch bch
  have Gdm := ok_dmod (P := l.prog) (mg := mg) (w := w) (base := base) Fdm TD' TP
  have Gdh := ok_dchg (P := l.prog) (mg := mg) (w := w) (base := base) Fdh TD' TP
  have Gdc := ok_dcls (P := l.prog) (mg := mg) (w := w) (base := base) Fdc B TD' TP
  have Mdm : Meth K CD "modulus" fdm := ⟨adm, idm, kdm⟩
  have Mdc : Meth K CD "classes" fdc := ⟨adc, idc, kdc⟩
  have Mdh : Meth K CD "changed" fdh := ⟨adh, idh, kdh⟩
  have Grn := ok_rdN (P := l.prog) (mg := mg) (w := w) (base := base) Frn B
  have Grs := ok_rdNs (P := l.prog) (mg := mg) (w := w) (base := base) Frs B Grn grn krn brn
  have Gnt := ok_numT (P := l.prog) (mg := mg) (w := w) (base := base) Fnt B
  have Gst := ok_setT (P := l.prog) (mg := mg) (w := w) (base := base) Fst TD' nC0 Gnt gnt knt bnt Gdc Mdc bdc Gdm Mdm bdm Gdh Mdh bdh
  have Gso := ok_setOf (P := l.prog) (mg := mg) (w := w) (base := base) Fso B T X1.g X2.g X3.g hx Grn grn krn brn Grs grs krs brs MD GDI (PySem.W.mg_of X G nCD) bDI
  have Grd := ok_read (P := l.prog) (mg := mg) (w := w) (base := base) Frd B T Gso gso kso bso Gst gst kst bst
  have GLd := ok_dip (P := l.prog) (mg := mg) (w := w) (base := base) FLd B
  have GLp := ok_pot (P := l.prog) (mg := mg) (w := w) (base := base) FLp B
  have GLw := ok_words (P := l.prog) (mg := mg) (w := w) (base := base) FLw B
  have GLc := ok_count (P := l.prog) (mg := mg) (w := w) (base := base) FLc B
  have GLm := ok_numbers (P := l.prog) (mg := mg) (w := w) (base := base) FLm B GLc gLc kLc bLc
  have GLi := ok_plain (P := l.prog) (mg := mg) (w := w) (base := base) FLi B
  have GLl := ok_line (P := l.prog) (mg := mg) (w := w) (base := base) FLl B GLi gLi kLi bLi GLw gLw kLw bLw
  have GLs := ok_some (P := l.prog) (mg := mg) (w := w) (base := base) FLs B GLd gLd kLd bLd
  have GLg := ok_sign (P := l.prog) (mg := mg) (w := w) (base := base) FLg GLd gLd kLd bLd
  have GLo := ok_word (P := l.prog) (mg := mg) (w := w) (base := base) FLo B GLd gLd kLd bLd
  have GLn := ok_lines (P := l.prog) (mg := mg) (w := w) (base := base) FLn B GLd gLd kLd bLd
  have GLh := ok_changd (P := l.prog) (mg := mg) (w := w) (base := base) FLh B GLd gLd kLd bLd GLg gLg kLg bLg GLo gLo kLo bLo GLn gLn kLn bLn
  have GLr := ok_lawRead (P := l.prog) (mg := mg) (w := w) (base := base) FLr B GLc gLc kLc bLc GLm gLm kLm bLm GLi gLi kLi bLi
  have GLx := ok_odd (P := l.prog) (mg := mg) (w := w) (base := base) FLx B GLd gLd kLd bLd GLi gLi kLi bLi GLw gLw kLw bLw
  have GLt := ok_told (P := l.prog) (mg := mg) (w := w) (base := base) FLt B T XF (exm_mk eT icCT tT xsT) TD' nC0 Grd grd krd brd Gdc Mdc bdc Gdm Mdm bdm Gdh Mdh bdh
  have GLa := ok_alike (P := l.prog) (mg := mg) (w := w) (base := base) FLa B gLa kLa bLa 3
  have GLy := ok_right (P := l.prog) (mg := mg) (w := w) (base := base) (CT := CT) FLy B TD' nC0 GLd gLd kLd bLd GLs gLs kLs bLs GLl gLl kLl bLl GLx gLx kLx bLx GLh gLh kLh bLh GLr gLr kLr bLr GLt gLt kLt bLt GLa gLa kLa bLa GLi gLi kLi bLi Grd grd krd kbrd Gdc Mdc bdc Gdm Mdm bdm Gdh Mdh bdh
  exact ok_law FLz B GLp gLp kLp bLp GLy gLy kLy bLy
theorem walk {l : PySem.W.OpenLaw} {q : Program} {loose : List Str} {XP : (Str → Option Value) → Heap → Prop} {YP : World → Heap → Prop} {d : DefRec} {K : Params → PySem.W.Frag} (hn : l.most = some 63) (hdf : d.params.defaults = [])
    (hY : ∀ (w : World) (h : Heap), YP w h → (K w.params).In h)
    (F : ∀ (w : World) (mg : Str → Option Value) (fa : Addr) (h : Heap), (K w.params).In h → h.Ns mainGlobals mg → mg d.name = some (.ref fa) →
      ∃ fd : FuncData, (∀ (s : Shared) (u : Value), BindsTo s fd ⟨[u], []⟩ [("_law_script", u)]) ∧ ∀ base : Heap, (K w.params).In base → base.Ns mainGlobals mg → FnOk l.prog w (K w.params) mg base CX0 12 fa fd ["_law_script"] (spLaw (K w.params))) :
    PySem.W.WalkO q loose XP YP l.row.toRowW d [] (fun f vs => PySem.call f vs) :=
  L2.walk_of (n := 63) (k := 12) (x := "_law_script") (CX := fun _ => CX0) (sp := fun w => spLaw (K w.params)) hn (by decide) hdf ⟨rfl, by decide, by decide⟩ hY F (fun _ _ a ns hl _ hS => ⟨a, ns, rfl, hS, hl, fun _ => rfl⟩) fun _ _ _ _ _ z => z
end Rl
end

open PySem PySem.W PyProof.Rows in
set_option maxRecDepth 100000 in
set_option maxHeartbeats 0 in
theorem PySem.Challenge.cw_roundline_k90_whole_near_set_texts_holds : PySem.Challenge.rw_roundline_k90_whole_near_set_texts.Holds := by
  w_on; o_law; k_head; (case hw => w_witness2)
  k_fill
  refine Rl.walk (l := PySem.Challenge.rw_roundline_k90_whole_near_set_texts) rfl rfl (fun w h Y => PySem.W.kIn_of Y) ?F
  case F =>
    intro w mg fa h KX G hmg
    refine' Rl.all_mk KX G hmg ?nCP ?nCD ?nC1 ?nC2 ?nC3 ?nCT ?pgCP ?hdCP ?poCP ?saCP ?mkCP ?kcCP ?pgCD ?hdCD ?poCD ?saCD ?mkCD ?kcCD ?naperiod ?naflags ?naflipped ?nabelow ?naplain ?ex1 ?ke1 ?se1 ?te1 ?ex2 ?ke2 ?se2 ?te2 ?ex3 ?ke3 ?se3 ?te3 ?icC1 ?icC2 ?icC3 ?icCT ?icCP ?tyCP ?xs11 ?xs12 ?xs13 ?xs21 ?xs22 ?xs23 ?xs31 ?xs32 ?xs33 ?xL ?xR ?saT ?gaT ?ggT ?nlT ?kT ?eT ?tT ?hT ?xsT ?mm ?zisinstance ?zint ?zbool ?zstr ?ztuple ?zlist ?zlen ?zset ?zall ?zrange ?zsorted ?zenumerate ?zabs ?zmax ?zmin ?aPI ?iPI ?lPI ?cPI ?kPI ?adm ?idm ?ldm ?cdm ?kdm ?adc ?idc ?ldc ?cdc ?kdc ?adh ?idh ?ldh ?cdh ?kdh ?aNT ?tfNT ?lNT ?cNT ?kNT ?aDI ?iDI ?lDI ?cDI ?lTD ?awh ?lwh ?cwh ?kwh ?apr ?lpr ?cpr ?kpr ?ape ?lpe ?cpe ?kpe ?ale ?lle ?cle ?kle ?asu ?lsu ?csu ?ksu ?ach ?lch ?cch ?kch ?arn ?lrn ?crn ?krn ?ars ?lrs ?crs ?krs ?ant ?lnt ?cnt ?knt ?ast ?lst ?cst ?kst ?aso ?lso ?cso ?kso ?ard ?lrd ?crd ?krd ?aLp ?lLp ?cLp ?kLp ?aLd ?lLd ?cLd ?kLd ?aLa ?lLa ?cLa ?kLa ?aLi ?lLi ?cLi ?kLi ?aLs ?lLs ?cLs ?kLs ?aLw ?lLw ?cLw ?kLw ?aLl ?lLl ?cLl ?kLl ?aLc ?lLc ?cLc ?kLc ?aLg ?lLg ?cLg ?kLg ?aLo ?lLo ?cLo ?kLo ?aLn ?lLn ?cLn ?kLn ?aLh ?lLh ?cLh ?kLh ?aLm ?lLm ?cLm ?kLm ?aLr ?lLr ?cLr ?kLr ?aLt ?lLt ?cLt ?kLt ?aLx ?lLx ?cLx ?kLx ?aLy ?lLy ?cLy ?kLy ?aLz ?lLz ?cLz ?kLz
    (case nCP => k_is)
    (case nCD => k_is)
    (case nC1 => k_is)
    (case nC2 => k_is)
    (case nC3 => k_is)
    (case nCT => k_is)
    (case pgCP => k_is)
    (case hdCP => k_is)
    (case poCP => k_is)
    (case saCP => k_is)
    (case mkCP => k_is)
    (case kcCP => k_is)
    (case pgCD => k_is)
    (case hdCD => k_is)
    (case poCD => k_is)
    (case saCD => k_is)
    (case mkCD => k_is)
    (case kcCD => k_is)
    (case naperiod => k_is)
    (case naflags => k_is)
    (case naflipped => k_is)
    (case nabelow => k_is)
    (case naplain => k_is)
    (case ex1 => k_exc)
    (case ke1 => k_is)
    (case se1 => k_is)
    (case te1 => k_is)
    (case ex2 => k_exc)
    (case ke2 => k_is)
    (case se2 => k_is)
    (case te2 => k_is)
    (case ex3 => k_exc)
    (case ke3 => k_is)
    (case se3 => k_is)
    (case te3 => k_is)
    (case icC1 => k_is)
    (case icC2 => k_is)
    (case icC3 => k_is)
    (case icCT => k_is)
    (case icCP => k_is)
    (case tyCP => k_is)
    (case xs11 => k_is)
    (case xs12 => k_is)
    (case xs13 => k_is)
    (case xs21 => k_is)
    (case xs22 => k_is)
    (case xs23 => k_is)
    (case xs31 => k_is)
    (case xs32 => k_is)
    (case xs33 => k_is)
    (case xL => k_is)
    (case xR => decide +kernel)
    (case saT => k_is)
    (case gaT => k_is)
    (case ggT => k_is)
    (case nlT => k_is)
    (case kT => k_is)
    (case eT => k_is)
    (case tT => k_is)
    (case hT => k_is)
    (case xsT => k_is)
    (case mm => k_is)
    (case zisinstance => k_is)
    (case zint => k_is)
    (case zbool => k_is)
    (case zstr => k_is)
    (case ztuple => k_is)
    (case zlist => k_is)
    (case zlen => k_is)
    (case zset => k_is)
    (case zall => k_is)
    (case zrange => k_is)
    (case zsorted => k_is)
    (case zenumerate => k_is)
    (case zabs => k_is)
    (case zmax => k_is)
    (case zmin => k_is)
    (case aPI => k_is)
    (case iPI => k_is)
    (case lPI => k_is)
    (case cPI => k_is)
    (case kPI => k_is)
    (case adm => k_is)
    (case idm => k_is)
    (case ldm => k_is)
    (case cdm => k_is)
    (case kdm => k_is)
    (case adc => k_is)
    (case idc => k_is)
    (case ldc => k_is)
    (case cdc => k_is)
    (case kdc => k_is)
    (case adh => k_is)
    (case idh => k_is)
    (case ldh => k_is)
    (case cdh => k_is)
    (case kdh => k_is)
    (case aNT => k_is)
    (case tfNT => k_is)
    (case lNT => k_is)
    (case cNT => k_is)
    (case kNT => k_is)
    (case aDI => k_is)
    (case iDI => k_is)
    (case lDI => k_is)
    (case cDI => k_is)
    (case lTD => k_is)
    (case awh => k_is)
    (case lwh => k_is)
    (case cwh => k_is)
    (case kwh => k_is)
    (case apr => k_is)
    (case lpr => k_is)
    (case cpr => k_is)
    (case kpr => k_is)
    (case ape => k_is)
    (case lpe => k_is)
    (case cpe => k_is)
    (case kpe => k_is)
    (case ale => k_is)
    (case lle => k_is)
    (case cle => k_is)
    (case kle => k_is)
    (case asu => k_is)
    (case lsu => k_is)
    (case csu => k_is)
    (case ksu => k_is)
    (case ach => k_is)
    (case lch => k_is)
    (case cch => k_is)
    (case kch => k_is)
    (case arn => k_is)
    (case lrn => k_is)
    (case crn => k_is)
    (case krn => k_is)
    (case ars => k_is)
    (case lrs => k_is)
    (case crs => k_is)
    (case krs => k_is)
    (case ant => k_is)
    (case lnt => k_is)
    (case cnt => k_is)
    (case knt => k_is)
    (case ast => k_is)
    (case lst => k_is)
    (case cst => k_is)
    (case kst => k_is)
    (case aso => k_is)
    (case lso => k_is)
    (case cso => k_is)
    (case kso => k_is)
    (case ard => k_is)
    (case lrd => k_is)
    (case crd => k_is)
    (case krd => k_is)
    (case aLp => k_is)
    (case lLp => k_is)
    (case cLp => k_is)
    (case kLp => k_is)
    (case aLd => k_is)
    (case lLd => k_is)
    (case cLd => k_is)
    (case kLd => k_is)
    (case aLa => k_is)
    (case lLa => k_is)
    (case cLa => k_is)
    (case kLa => k_is)
    (case aLi => k_is)
    (case lLi => k_is)
    (case cLi => k_is)
    (case kLi => k_is)
    (case aLs => k_is)
    (case lLs => k_is)
    (case cLs => k_is)
    (case kLs => k_is)
    (case aLw => k_is)
    (case lLw => k_is)
    (case cLw => k_is)
    (case kLw => k_is)
    (case aLl => k_is)
    (case lLl => k_is)
    (case cLl => k_is)
    (case kLl => k_is)
    (case aLc => k_is)
    (case lLc => k_is)
    (case cLc => k_is)
    (case kLc => k_is)
    (case aLg => k_is)
    (case lLg => k_is)
    (case cLg => k_is)
    (case kLg => k_is)
    (case aLo => k_is)
    (case lLo => k_is)
    (case cLo => k_is)
    (case kLo => k_is)
    (case aLn => k_is)
    (case lLn => k_is)
    (case cLn => k_is)
    (case kLn => k_is)
    (case aLh => k_is)
    (case lLh => k_is)
    (case cLh => k_is)
    (case kLh => k_is)
    (case aLm => k_is)
    (case lLm => k_is)
    (case cLm => k_is)
    (case kLm => k_is)
    (case aLr => k_is)
    (case lLr => k_is)
    (case cLr => k_is)
    (case kLr => k_is)
    (case aLt => k_is)
    (case lLt => k_is)
    (case cLt => k_is)
    (case kLt => k_is)
    (case aLx => k_is)
    (case lLx => k_is)
    (case cLx => k_is)
    (case kLx => k_is)
    (case aLy => k_is)
    (case lLy => k_is)
    (case cLy => k_is)
    (case kLy => k_is)
    (case aLz => k_is)
    (case lLz => k_is)
    (case cLz => k_is)
    (case kLz => k_is)

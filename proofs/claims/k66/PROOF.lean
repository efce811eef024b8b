import PyProof.Rows.All
import Wide.All
import OpenK.AllK
import Wide.FinOn
import KE.KStateDown
import Lean
import HandS.ForMost
import HandS.ForExc
import HandS.Defaults
import HandS.Lambda
import HandS.EndTab
import HandS.Head0
import HandS.Head1
import HandS.Head2
import HandS.HeadEnd
import HandS.HeadHook1
import HandS.HeadHook2
import HandS.HeadHook3
import HandS.HeadHook4
import HandS.HeadWalk
import KE.KUnpackStar
import HandS.Slots
import PyProof.MinMaxWalk
import KE.KMinKey
import KE.LtData
import HandS.SortKw
import KE.KDictList
import KE.KItemsList
import KE.KDictZip
import HandS.ListItems
import HandS.NoneIn
import HandS.MakeKwOnly
import KE.SortKeyHeap
import KE.SortData
import HandS.Strs
import HandS.DictComp
import HandS.Walk
import HandS.IsInst
import HandS.Conv
import HandS.Codes
import HandS.Deep
import PySem.Challenge.RW_playstead_k66_whole_pairings_led_over
set_option Elab.async false
set_option linter.all false
set_option maxRecDepth 100000
set_option maxHeartbeats 0
namespace K66
open PySem PySem.Spec PyProof.Rows L2
abbrev rwK : PySem.W.OpenLaw := PySem.Challenge.rw_playstead_k66_whole_pairings_led_over
def topS (i : Nat) : Stmt := PySem.Challenge.pw_playstead_k66_whole_pairings_led_over.main.body.getD i (.Pass ⟨0, 0, 0, 0⟩)
def mkD (x : Str) (i : Nat) (kwd : List (Str × He.Dv) := []) : He.DefD := ⟨(x, none), x, x, defArgs (topS i), defBody (topS i), defScope (topS i), [], kwd⟩
def fnK : List He.DefD := [mkD "is_name" 6, mkD "is_number" 7, mkD "is_row" 8, mkD "are_entrants" 13, mkD "is_one_of" 14, mkD "are_sums" 15, mkD "is_met" 16, mkD "need_pairable" 17,
  mkD "least_pairs" 18, mkD "barred_of" 19, mkD "paired" 20, mkD "in_order" 21, mkD "_law_begin" 23, mkD "_law_more" 24, mkD "_law_next" 25, mkD "_law_pick" 26, mkD "_law_word" 27,
  mkD "_law_crew" 28, mkD "_law_scores" 29, mkD "_law_done" 30, mkD "_law_some" 31, mkD "_law_task" 32, mkD "_law_asked" 33, mkD "_law_turned" 34, mkD "_law_led_over" 35, mkD "_law_cost" 36,
  mkD "_law_no_better" 37, mkD "law" 38]
def gloK : List Str := (["NoPairing", "is_name", "is_number", "is_row", "are_entrants", "is_one_of", "are_sums", "is_met", "need_pairable", "least_pairs", "barred_of", "paired", "in_order"] : List Str) ++ ([
  "_law_begin", "_law_more", "_law_next", "_law_pick", "_law_word", "_law_crew", "_law_scores", "_law_done", "_law_some", "_law_task", "_law_asked", "_law_turned", "_law_led_over", "_law_cost", "_law_no_better", "law"] : List Str)
def freeK : List Str := ["isinstance", "str", "len", "all", "int", "bool", "list", "tuple", "set", "dict", "min", "max", "sorted", "range", "sum", "zip"]
def faK : List He.Fa := gloK.map He.Fa.glo ++ freeK.map He.Fa.free ++ ([He.Fa.int "LONGEST" 8, He.Fa.int "LEAST_NAMES" 2, He.Fa.int "MOST_NAMES" 10, He.Fa.int "MOST_SUM" 100, He.Fa.str "LETTERS" "abcdefghijklmnopqrstuvwxyz", He.Fa.exc "NoPairing", He.Fa.exm "NoPairing" "NoPairing" true] : List He.Fa)
def looseK : List Str := (["SteadError", "NoPairing", "LETTERS", "LONGEST", "is_name", "is_number", "is_row", "LEAST_NAMES", "MOST_NAMES", "MOST_SUM", "are_entrants", "is_one_of", "are_sums", "is_met", "need_pairable"] : List Str) ++ ([
  "least_pairs", "barred_of", "paired", "in_order", "_law_begin", "_law_more", "_law_next", "_law_pick", "_law_word", "_law_crew", "_law_scores", "_law_done", "_law_some", "_law_task", "_law_asked", "_law_turned",
  "_law_led_over", "_law_cost", "_law_no_better"] : List Str)
def tfK : List He.Defn := [("paired", none)]
abbrev RK : PySem.W.OpenRow := PySem.W.OpenLaw.row rwK
abbrev hkK : PySem.W.Hook := He.hookX 4 faK fnK [] tfK (fun _ => true)
def obK (s : PySem.W.SharedT) : He.AlX := He.obsX 4 faK fnK [] tfK (fun _ => true) (HandSHeadRun.getT s)
theorem obK_eq (s : PySem.W.SharedT) : obK s = hkK.obs s.abs := He.obsX_eq (HandSHeadRun.getT_eq s)
theorem runK (w : World) : HandSHeadRun.RunEq RK (PySem.W.view RK.prog [38]) hkK obK 4000 looseK w := by
  intro os
  kernel_rfl
end K66
set_option Elab.async false
set_option linter.all false
namespace K66
abbrev Pr := Nat × Nat
abbrev Cand := Int × List Pr
def pairLt (a b : Pr) : Bool := if a.1 = b.1 then decide (a.2 < b.2) else decide (a.1 < b.1)
def listLt : List Pr → List Pr → Bool
  | [], [] => false
  | [], _ :: _ => true
  | _ :: _, [] => false
  | a :: as, b :: bs => if a = b then listLt as bs else pairLt a b
def candLt (x y : Cand) : Bool := if x.1 = y.1 then listLt x.2 y.2 else decide (x.1 < y.1)
def pick (b x : Cand) : Cand := if candLt x b = true then x else b
def least : List Cand → Option Cand
  | [] => none
  | c :: cs => some (cs.foldl pick c)
def sq (z : Int) : Int := z ^ 2
def lp (s : Nat → Int) (bar : Nat → Nat → Bool) : Nat → List Nat → Option Cand
  | _, [] => some (0, [])
  | 0, _ :: _ => none
  | k + 1, one :: others => least ((others.filter fun o => !bar one o).filterMap fun o => (lp s bar k (others.filter fun p => p != o)).map fun r => (r.1 + sq (s one - s o), (one, o) :: r.2))
/-! the order -/
theorem pairLt_irr (a : Pr) : pairLt a a = false := by simp [pairLt]
theorem pairLt_asym {a b : Pr} (h : pairLt a b = true) : pairLt b a = false := by
  unfold pairLt at *
  split at h
  · rename_i e; rw [if_pos e.symm]; simp at *; omega
  · rename_i e; rw [if_neg (Ne.symm e)]; simp at *; omega
theorem pairLt_tot {a b : Pr} (n : a ≠ b) (h : pairLt a b = false) : pairLt b a = true := by
  unfold pairLt at *
  obtain ⟨a1, a2⟩ := a
  obtain ⟨b1, b2⟩ := b
  have n' : ¬ (a1 = b1 ∧ a2 = b2) := fun z => n (by rw [z.1, z.2])
  by_cases e : a1 = b1
  · simp [e] at h ⊢; omega
  · simp [e, Ne.symm e] at h ⊢; omega
theorem pairLt_trans {a b c : Pr} (h : pairLt a b = true) (g : pairLt b c = true) : pairLt a c = true := by
  unfold pairLt at *
  obtain ⟨a1, a2⟩ := a
  obtain ⟨b1, b2⟩ := b
  obtain ⟨c1, c2⟩ := c
  by_cases e : a1 = b1
  · by_cases e2 : b1 = c1
    · subst e e2; simp at *; omega
    · subst e; simp [e2] at *; exact g
  · by_cases e2 : b1 = c1
    · subst e2; simp [e] at *; exact h
    · simp [e, e2] at h g
      have : a1 ≠ c1 := by omega
      simp [this]; omega
theorem listLt_irr : ∀ a : List Pr, listLt a a = false
  | [] => rfl
  | a :: as => by simp [listLt, listLt_irr as]
theorem listLt_tot : ∀ {a b : List Pr}, a ≠ b → listLt a b = false → listLt b a = true
  | [], [], n, _ => absurd rfl n
  | [], _ :: _, _, h => by simp [listLt] at h
  | _ :: _, [], _, _ => by simp [listLt]
  | a :: as, b :: bs, n, h => by
    by_cases e : a = b
    · subst e
      simp only [listLt, if_pos rfl] at h ⊢
      exact listLt_tot (fun z => n (by rw [z])) h
    · simp only [listLt, if_neg e] at h
      simp only [listLt, if_neg (Ne.symm e)]
      exact pairLt_tot e h
theorem listLt_asym : ∀ {a b : List Pr}, listLt a b = true → listLt b a = false
  | [], [], h => by simp [listLt] at h
  | [], _ :: _, _ => by simp [listLt]
  | _ :: _, [], h => by simp [listLt] at h
  | a :: as, b :: bs, h => by
    by_cases e : a = b
    · subst e
      simp only [listLt, if_pos rfl] at h ⊢
      exact listLt_asym h
    · simp only [listLt, if_neg e] at h
      simp only [listLt, if_neg (Ne.symm e)]
      exact pairLt_asym h
theorem listLt_trans : ∀ {a b c : List Pr}, listLt a b = true → listLt b c = true → listLt a c = true
  | [], [], _, h, _ => by simp [listLt] at h
  | [], _ :: _, [], _, g => by simp [listLt] at g
  | [], _ :: _, _ :: _, _, _ => by simp [listLt]
  | _ :: _, [], _, h, _ => by simp [listLt] at h
  | _ :: _, _ :: _, [], _, g => by simp [listLt] at g
  | a :: as, b :: bs, c :: cs, h, g => by
    by_cases e : a = b
    · subst e
      by_cases e2 : a = c
      · subst e2
        simp only [listLt, if_pos rfl] at h g ⊢
        exact listLt_trans h g
      · simp only [listLt, if_neg e2] at g ⊢
        exact g
    · by_cases e2 : b = c
      · subst e2
        simp only [listLt, if_neg e] at h ⊢
        exact h
      · simp only [listLt, if_neg e] at h
        simp only [listLt, if_neg e2] at g
        have t := pairLt_trans h g
        have e3 : a ≠ c := fun z => by
          subst z
          rw [pairLt_asym h] at g
          cases g
        simp only [listLt, if_neg e3]
        exact t
theorem candLt_irr (a : Cand) : candLt a a = false := by simp [candLt, listLt_irr]
theorem candLt_tot {a b : Cand} (n : a ≠ b) (h : candLt a b = false) : candLt b a = true := by
  obtain ⟨a1, a2⟩ := a
  obtain ⟨b1, b2⟩ := b
  unfold candLt at *
  by_cases e : a1 = b1
  · subst e
    simp only [if_pos rfl] at h ⊢
    exact listLt_tot (fun z => n (by rw [z])) h
  · simp only [if_neg e, decide_eq_false_iff_not] at h
    simp only [if_neg (Ne.symm e), decide_eq_true_eq]
    omega
theorem candLt_asym {a b : Cand} (h : candLt a b = true) : candLt b a = false := by
  obtain ⟨a1, a2⟩ := a
  obtain ⟨b1, b2⟩ := b
  unfold candLt at *
  by_cases e : a1 = b1
  · subst e
    simp only [if_pos rfl] at h ⊢
    exact listLt_asym h
  · simp only [if_neg e, decide_eq_true_eq] at h
    simp only [if_neg (Ne.symm e), decide_eq_false_iff_not]
    omega
theorem candLt_trans {a b c : Cand} (h : candLt a b = true) (g : candLt b c = true) : candLt a c = true := by
  obtain ⟨a1, a2⟩ := a
  obtain ⟨b1, b2⟩ := b
  obtain ⟨c1, c2⟩ := c
  unfold candLt at *
  by_cases e : a1 = b1
  · subst e
    by_cases e2 : a1 = c1
    · subst e2
      simp only [if_pos rfl] at h g ⊢
      exact listLt_trans h g
    · simp only [if_neg e2] at g ⊢
      exact g
  · by_cases e2 : b1 = c1
    · subst e2
      simp only [if_neg e] at h ⊢
      exact h
    · simp only [if_neg e, decide_eq_true_eq] at h
      simp only [if_neg e2, decide_eq_true_eq] at g
      have e3 : a1 ≠ c1 := by omega
      simp only [if_neg e3, decide_eq_true_eq]
      omega
/-- a is not more than b -/
def candLe (a b : Cand) : Prop := candLt b a = false
theorem candLe_refl (a : Cand) : candLe a a := candLt_irr a
theorem candLe_trans {a b c : Cand} (h : candLe a b) (g : candLe b c) : candLe a c := by
  unfold candLe at *
  cases q : candLt c a with
  | false => rfl
  | true =>
    by_cases e : a = b
    · subst e; rw [q] at g; cases g
    · have h1 := candLt_tot (Ne.symm e) h
      rw [candLt_trans q h1] at g
      cases g
theorem candLe_anti {a b : Cand} (h : candLe a b) (g : candLe b a) : a = b := by
  by_cases e : a = b
  · exact e
  · have h1 := candLt_tot e g
    unfold candLe at h
    rw [h1] at h
    cases h
theorem candLe_cost {a b : Cand} (h : candLe a b) : a.1 ≤ b.1 := by
  obtain ⟨a1, a2⟩ := a
  obtain ⟨b1, b2⟩ := b
  unfold candLe candLt at h
  by_cases e : b1 = a1
  · subst e; exact Int.le_refl _
  · simp only [if_neg e, decide_eq_false_iff_not] at h
    show a1 ≤ b1
    omega
theorem pick_le (b x : Cand) : candLe (pick b x) b ∧ candLe (pick b x) x := by
  unfold pick
  by_cases h : candLt x b = true
  · rw [if_pos h]; exact ⟨candLt_asym h, candLe_refl x⟩
  · rw [if_neg h]; exact ⟨candLe_refl b, by unfold candLe; simpa using h⟩
theorem pick_or (b x : Cand) : pick b x = b ∨ pick b x = x := by
  unfold pick
  by_cases h : candLt x b = true
  · rw [if_pos h]; exact .inr rfl
  · rw [if_neg h]; exact .inl rfl
theorem fold_pick : ∀ (cs : List Cand) (c : Cand), (cs.foldl pick c = c ∨ cs.foldl pick c ∈ cs) ∧ candLe (cs.foldl pick c) c ∧ ∀ x ∈ cs, candLe (cs.foldl pick c) x
  | [], c => ⟨.inl rfl, candLe_refl c, fun x hx => nomatch hx⟩
  | x :: cs, c => by
    obtain ⟨h1, h2, h3⟩ := fold_pick cs (pick c x)
    obtain ⟨p1, p2⟩ := pick_le c x
    refine ⟨?_, candLe_trans h2 p1, fun y hy => ?_⟩
    · show cs.foldl pick (pick c x) = c ∨ cs.foldl pick (pick c x) ∈ x :: cs
      rcases h1 with h1 | h1
      · rcases pick_or c x with e | e
        · exact .inl (h1.trans e)
        · right; rw [h1, e]; exact List.mem_cons_self
      · exact .inr (List.mem_cons_of_mem _ h1)
    · show candLe (cs.foldl pick (pick c x)) y
      rcases List.mem_cons.mp hy with rfl | hy
      · exact candLe_trans h2 p2
      · exact h3 y hy
theorem least_none {cs : List Cand} : least cs = none ↔ cs = [] := by
  cases cs <;> simp [least]
theorem least_some {cs : List Cand} {m : Cand} (h : least cs = some m) : m ∈ cs ∧ ∀ x ∈ cs, candLe m x := by
  cases cs with
  | nil => simp [least] at h
  | cons c cs =>
    have e : cs.foldl pick c = m := Option.some.inj h
    obtain ⟨h1, h2, h3⟩ := fold_pick cs c
    rw [e] at h1 h2 h3
    refine ⟨?_, fun x hx => ?_⟩
    · rcases h1 with h1 | h1
      · rw [h1]; exact List.mem_cons_self
      · exact List.mem_cons_of_mem _ h1
    · rcases List.mem_cons.mp hx with rfl | hx
      · exact h2
      · exact h3 x hx
/-! all pairings -/
def cost (s : Nat → Int) : List Pr → Int
  | [] => 0
  | p :: r => cost s r + sq (s p.1 - s p.2)
def ms (bar : Nat → Nat → Bool) : Nat → List Nat → List (List Pr)
  | _, [] => [[]]
  | 0, _ :: _ => []
  | k + 1, one :: others => (others.filter fun o => !bar one o).flatMap fun o => (ms bar k (others.filter fun p => p != o)).map fun r => (one, o) :: r
theorem cand_cons {a b : Cand} {c : Int} {p : Pr} (h : candLe a b) : candLe (a.1 + c, p :: a.2) (b.1 + c, p :: b.2) := by
  unfold candLe candLt at *
  by_cases e : b.1 = a.1
  · rw [if_pos e] at h
    rw [if_pos (show b.1 + c = a.1 + c by rw [e])]
    simp only [listLt, if_pos rfl]
    exact h
  · rw [if_neg e, decide_eq_false_iff_not] at h
    rw [if_neg (show ¬ (b.1 + c = a.1 + c) by omega)]
    simp only [decide_eq_false_iff_not]
    omega
theorem lp_ms (s : Nat → Int) (bar : Nat → Nat → Bool) : ∀ (k : Nat) (l : List Nat),
    (lp s bar k l = none → ms bar k l = []) ∧ ∀ m, lp s bar k l = some m → m.2 ∈ ms bar k l ∧ m.1 = cost s m.2 ∧ ∀ r ∈ ms bar k l, candLe m (cost s r, r)
  | k, [] => by
    cases k <;> refine ⟨fun h => by simp [lp] at h, fun m h => ?_⟩ <;> (
      have e : m = (0, []) := (Option.some.inj h).symm
      subst e
      refine ⟨by simp [ms], rfl, fun r hr => ?_⟩
      have er : r = [] := by simpa [ms] using hr
      subst er
      exact candLe_refl _)
  | 0, a :: r => ⟨fun _ => rfl, fun m h => by simp [lp] at h⟩
  | k + 1, one :: others => by
    have ih := fun o => lp_ms s bar k (others.filter fun p => p != o)
    refine ⟨fun h => ?_, fun m h => ?_⟩
    · have h0 := least_none.mp h
      rw [List.filterMap_eq_nil_iff] at h0
      unfold ms
      rw [List.flatMap_eq_nil_iff]
      intro o ho
      have q := h0 o ho
      rw [Option.map_eq_none_iff] at q
      rw [(ih o).1 q]
      rfl
    · obtain ⟨hm, hl⟩ := least_some h
      obtain ⟨o, ho, e⟩ := List.mem_filterMap.mp hm
      obtain ⟨r, er, em⟩ := Option.map_eq_some_iff.mp e
      obtain ⟨i1, i2, i3⟩ := (ih o).2 r er
      subst em
      refine ⟨?_, ?_, fun z hz => ?_⟩
      · unfold ms
        exact List.mem_flatMap.mpr ⟨o, ho, List.mem_map.mpr ⟨r.2, i1, rfl⟩⟩
      · show r.1 + sq (s one - s o) = cost s r.2 + sq (s one - s o)
        rw [i2]
      · unfold ms at hz
        obtain ⟨o2, ho2, hz2⟩ := List.mem_flatMap.mp hz
        obtain ⟨z2, hz3, ez⟩ := List.mem_map.mp hz2
        subst ez
        cases q : lp s bar k (others.filter fun p => p != o2) with
        | none =>
          rw [(ih o2).1 q] at hz3
          cases hz3
        | some r2 =>
          have j := ((ih o2).2 r2 q).2.2 z2 hz3
          have j2 := hl (r2.1 + sq (s one - s o2), (one, o2) :: r2.2) (List.mem_filterMap.mpr ⟨o2, ho2, by rw [q]; rfl⟩)
          exact candLe_trans j2 (cand_cons (c := sq (s one - s o2)) (p := (one, o2)) j)
/-- one pair more that is barred -/
def barE (bar : Nat → Nat → Bool) (e : Pr) (i j : Nat) : Bool := bar i j || decide ((i, j) = e)
theorem ms_barE (bar : Nat → Nat → Bool) (e : Pr) : ∀ (k : Nat) (l : List Nat) (r : List Pr), r ∈ ms (barE bar e) k l ↔ r ∈ ms bar k l ∧ e ∉ r
  | k, [], r => by
    cases k <;> (
      simp only [ms, List.mem_singleton]
      refine ⟨fun h => ⟨h, by rw [h]; simp⟩, fun h => h.1⟩)
  | 0, _ :: _, r => by simp [ms]
  | k + 1, one :: others, r => by
    simp only [ms, List.mem_flatMap, List.mem_map, List.mem_filter]
    refine ⟨fun ⟨o, ⟨ho, hb⟩, z, hz, er⟩ => ?_, fun ⟨⟨o, ⟨ho, hb⟩, z, hz, er⟩, ne⟩ => ?_⟩
    · have hz' := (ms_barE bar e k _ z).mp hz
      simp only [barE, Bool.not_or, Bool.and_eq_true, Bool.not_eq_true', decide_eq_false_iff_not] at hb
      refine ⟨⟨o, ⟨ho, by rw [hb.1]; rfl⟩, z, hz'.1, er⟩, ?_⟩
      rw [← er, List.mem_cons]
      exact fun q => q.elim (fun q => hb.2 q.symm) hz'.2
    · rw [← er, List.mem_cons] at ne
      refine ⟨o, ⟨ho, ?_⟩, z, (ms_barE bar e k _ z).mpr ⟨hz, fun q => ne (.inr q)⟩, er⟩
      simp only [barE, Bool.not_or, Bool.and_eq_true, Bool.not_eq_true', decide_eq_false_iff_not]
      exact ⟨by simpa using hb, fun q => ne (.inl q.symm)⟩
theorem lp_none (s : Nat → Int) (bar : Nat → Nat → Bool) (k : Nat) (l : List Nat) : lp s bar k l = none ↔ ms bar k l = [] := by
  refine ⟨(lp_ms s bar k l).1, fun h => ?_⟩
  cases q : lp s bar k l with
  | none => rfl
  | some m =>
    have := ((lp_ms s bar k l).2 m q).1
    rw [h] at this
    cases this
theorem lp_barE_none {s : Nat → Int} {bar : Nat → Nat → Bool} {e : Pr} {k : Nat} {l : List Nat} (h : lp s bar k l = none) : lp s (barE bar e) k l = none := by
  rw [lp_none] at h ⊢
  cases q : ms (barE bar e) k l with
  | nil => rfl
  | cons r t =>
    have := ((ms_barE bar e k l r).mp (by rw [q]; exact List.mem_cons_self)).1
    rw [h] at this
    cases this
theorem lp_barE_same {s : Nat → Int} {bar : Nat → Nat → Bool} {e : Pr} {k : Nat} {l : List Nat} {m : Cand} (h : lp s bar k l = some m) (n : e ∉ m.2) : lp s (barE bar e) k l = some m := by
  obtain ⟨h1, h2, h3⟩ := (lp_ms s bar k l).2 m h
  have g1 : m.2 ∈ ms (barE bar e) k l := (ms_barE bar e k l m.2).mpr ⟨h1, n⟩
  cases q : lp s (barE bar e) k l with
  | none =>
    rw [(lp_none s _ k l).mp q] at g1
    cases g1
  | some m2 =>
    obtain ⟨j1, j2, j3⟩ := (lp_ms s (barE bar e) k l).2 m2 q
    have a1 := j3 m.2 g1
    have a2 := h3 m2.2 ((ms_barE bar e k l m2.2).mp j1).1
    have e1 : (cost s m.2, m.2) = m := by rw [← h2]
    have e2 : (cost s m2.2, m2.2) = m2 := by rw [← j2]
    rw [e1] at a1
    rw [e2] at a2
    rw [candLe_anti a1 a2]
theorem lp_barE_le {s : Nat → Int} {bar : Nat → Nat → Bool} {e : Pr} {k : Nat} {l : List Nat} {m m2 : Cand} (h : lp s bar k l = some m) (g : lp s (barE bar e) k l = some m2) : m.1 ≤ m2.1 ∧ e ∉ m2.2 := by
  obtain ⟨h1, h2, h3⟩ := (lp_ms s bar k l).2 m h
  obtain ⟨j1, j2, j3⟩ := (lp_ms s (barE bar e) k l).2 m2 g
  obtain ⟨a, b⟩ := (ms_barE bar e k l m2.2).mp j1
  have c := candLe_cost (h3 m2.2 a)
  exact ⟨by rw [j2]; exact c, b⟩
theorem lp_cost {s : Nat → Int} {bar : Nat → Nat → Bool} {k : Nat} {l : List Nat} {m : Cand} (h : lp s bar k l = some m) : m.1 = cost s m.2 := ((lp_ms s bar k l).2 m h).2.1
theorem lp_shift (s : Nat → Int) (bar : Nat → Nat → Bool) (c : Int) : ∀ (k : Nat) (l : List Nat), lp (fun i => s i + c) bar k l = lp s bar k l
  | k, [] => by cases k <;> rfl
  | 0, _ :: _ => rfl
  | k + 1, one :: others => by
    unfold lp
    congr 1
    congr 1
    funext o
    rw [lp_shift s bar c k]
    congr 1
    funext r
    rw [show s one + c - (s o + c) = s one - s o by omega]
theorem fm_congr {α β : Type} {f g : α → Option β} : ∀ {l : List α}, (∀ x ∈ l, f x = g x) → l.filterMap f = l.filterMap g
  | [], _ => rfl
  | x :: l, h => by rw [List.filterMap_cons, List.filterMap_cons, h x List.mem_cons_self, fm_congr fun y hy => h y (List.mem_cons_of_mem _ hy)]
theorem lp_congr {s t : Nat → Int} {bar bar' : Nat → Nat → Bool} : ∀ (k : Nat) (l : List Nat), (∀ i ∈ l, s i = t i) → (∀ i ∈ l, ∀ j ∈ l, bar i j = bar' i j) → lp s bar k l = lp t bar' k l
  | k, [], _, _ => by cases k <;> rfl
  | 0, _ :: _, _, _ => rfl
  | k + 1, one :: others, hs, hb => by
    unfold lp
    have ef : (others.filter fun o => !bar one o) = others.filter fun o => !bar' one o := by
      apply List.filter_congr
      intro o ho
      rw [hb one List.mem_cons_self o (List.mem_cons_of_mem _ ho)]
    rw [ef]
    congr 1
    apply fm_congr
    intro o ho
    have ho' := (List.mem_filter.mp ho).1
    rw [lp_congr k (others.filter fun p => p != o) (fun i hi => hs i (List.mem_cons_of_mem _ (List.mem_filter.mp hi).1)) (fun i hi j hj => hb i (List.mem_cons_of_mem _ (List.mem_filter.mp hi).1) j (List.mem_cons_of_mem _ (List.mem_filter.mp hj).1)),
      hs one List.mem_cons_self, hs o (List.mem_cons_of_mem _ ho')]
/-- a pair's places are of the list, the first ahead -/
theorem ms_mem (bar : Nat → Nat → Bool) : ∀ (k : Nat) (l : List Nat) (r : List Pr), r ∈ ms bar k l → ∀ p ∈ r, p.1 ∈ l ∧ p.2 ∈ l ∧ (l.Pairwise (· < ·) → p.1 < p.2)
  | k, [], r, h, p, hp => by
    have e : r = [] := by cases k <;> simpa [ms] using h
    rw [e] at hp
    cases hp
  | 0, _ :: _, r, h, _, _ => by simp [ms] at h
  | k + 1, one :: others, r, h, p, hp => by
    simp only [ms, List.mem_flatMap, List.mem_map, List.mem_filter] at h
    obtain ⟨o, ⟨ho, hb⟩, z, hz, er⟩ := h
    rw [← er, List.mem_cons] at hp
    rcases hp with rfl | hp
    · exact ⟨List.mem_cons_self, List.mem_cons_of_mem _ ho, fun q => (List.pairwise_cons.mp q).1 o ho⟩
    · obtain ⟨a, b, c⟩ := ms_mem bar k _ z hz p hp
      exact ⟨List.mem_cons_of_mem _ (List.mem_filter.mp a).1, List.mem_cons_of_mem _ (List.mem_filter.mp b).1, fun q => c (List.Pairwise.filter _ (List.pairwise_cons.mp q).2)⟩
theorem lp_mem {s : Nat → Int} {bar : Nat → Nat → Bool} {k : Nat} {l : List Nat} {m : Cand} (h : lp s bar k l = some m) : ∀ p ∈ m.2, p.1 ∈ l ∧ p.2 ∈ l ∧ (l.Pairwise (· < ·) → p.1 < p.2) := ms_mem bar k l m.2 ((lp_ms s bar k l).2 m h).1
end K66
set_option Elab.async false
set_option linter.all false
namespace K66
/-! who may sit out, in the order in which it is asked -/
def bef (s : Nat → Int) (a b : Nat) : Bool := decide (s a < s b) || (decide (s a = s b) && decide (b ≤ a))
def spareOf (s : Nat → Int) (l : List Nat) : List Nat := l.mergeSort (bef s)
theorem bef_trans (s : Nat → Int) (a b c : Nat) (h : bef s a b = true) (g : bef s b c = true) : bef s a c = true := by
  simp only [bef, Bool.or_eq_true, Bool.and_eq_true, decide_eq_true_eq] at *
  omega
theorem bef_total (s : Nat → Int) (a b : Nat) : (bef s a b || bef s b a) = true := by
  simp only [bef, Bool.or_eq_true, Bool.and_eq_true, decide_eq_true_eq] at *
  omega
theorem bef_anti (s : Nat → Int) (a b : Nat) (h : bef s a b = true) (g : bef s b a = true) : a = b := by
  simp only [bef, Bool.or_eq_true, Bool.and_eq_true, decide_eq_true_eq] at *
  omega
theorem spareOf_perm (s : Nat → Int) (l : List Nat) : (spareOf s l).Perm l := List.mergeSort_perm l (bef s)
theorem spareOf_sorted (s : Nat → Int) (l : List Nat) : (spareOf s l).Pairwise fun a b => bef s a b = true := List.pairwise_mergeSort (bef_trans s) (bef_total s) l
theorem eq_of_sorted {α : Type} {le : α → α → Prop} (anti : ∀ a b, le a b → le b a → a = b) : ∀ {l1 l2 : List α}, l1.Perm l2 → l1.Pairwise le → l2.Pairwise le → l1 = l2
  | [], l2, p, _, _ => (List.nil_perm.mp p).symm
  | a :: l1, [], p, _, _ => by have := p.length_eq; simp at this
  | a :: l1, b :: l2, p, h1, h2 => by
    have ha : a ∈ b :: l2 := p.mem_iff.mp List.mem_cons_self
    have hb : b ∈ a :: l1 := p.mem_iff.mpr List.mem_cons_self
    have e : a = b := by
      rcases List.mem_cons.mp ha with e | ha
      · exact e
      · rcases List.mem_cons.mp hb with e | hb
        · exact e.symm
        · exact anti a b ((List.pairwise_cons.mp h1).1 b hb) ((List.pairwise_cons.mp h2).1 a ha)
    subst e
    rw [eq_of_sorted anti (List.Perm.cons_inv p) (List.pairwise_cons.mp h1).2 (List.pairwise_cons.mp h2).2]
theorem spareOf_unique {s : Nat → Int} {l m : List Nat} (p : m.Perm l) (h : m.Pairwise fun a b => bef s a b = true) : m = spareOf s l :=
  eq_of_sorted (fun a b => bef_anti s a b) (p.trans (spareOf_perm s l).symm) h (spareOf_sorted s l)
theorem spareOf_congr {s t : Nat → Int} {l : List Nat} (h : ∀ a ∈ l, ∀ b ∈ l, bef s a b = bef t a b) : spareOf s l = spareOf t l := by
  apply spareOf_unique (spareOf_perm s l)
  refine List.Pairwise.imp_of_mem (fun {a b} ha hb q => ?_) (spareOf_sorted s l)
  rw [← h a ((spareOf_perm s l).mem_iff.mp ha) b ((spareOf_perm s l).mem_iff.mp hb)]
  exact q
/-! the pairing by places -/
def outsOf (n : Nat) (s : Nat → Int) (satp : Nat → Bool) : List (Option Nat) := if n % 2 = 1 then (spareOf s ((List.range n).filter fun i => !satp i)).map some else [none]
def placesBut (n : Nat) (o : Option Nat) : List Nat := (List.range n).filter fun p => decide (some p ≠ o)
def tryOut (n : Nat) (s : Nat → Int) (bar : Nat → Nat → Bool) (o : Option Nat) : Option (List Pr × Option Nat) := (lp s bar n (placesBut n o)).map fun m => (m.2, o)
def pairedP (n : Nat) (s : Nat → Int) (bar : Nat → Nat → Bool) (satp : Nat → Bool) : Option (List Pr × Option Nat) := (outsOf n s satp).findSome? (tryOut n s bar)
theorem tryOut_none {n : Nat} {s : Nat → Int} {bar : Nat → Nat → Bool} {o : Option Nat} {e : Pr} (h : tryOut n s bar o = none) : tryOut n s (barE bar e) o = none := by
  unfold tryOut at *
  rw [Option.map_eq_none_iff] at *
  exact lp_barE_none h
theorem pairedP_none {n : Nat} {s : Nat → Int} {bar : Nat → Nat → Bool} {satp : Nat → Bool} {e : Pr} (h : pairedP n s bar satp = none) : pairedP n s (barE bar e) satp = none := by
  unfold pairedP at *
  rw [List.findSome?_eq_none_iff] at *
  exact fun o ho => tryOut_none (h o ho)
theorem pairedP_at {n : Nat} {s : Nat → Int} {bar : Nat → Nat → Bool} {satp : Nat → Bool} {r : List Pr × Option Nat} (h : pairedP n s bar satp = some r) :
    ∃ l1 l2, outsOf n s satp = l1 ++ r.2 :: l2 ∧ tryOut n s bar r.2 = some r ∧ ∀ o ∈ l1, tryOut n s bar o = none := by
  unfold pairedP at h
  obtain ⟨l1, a, l2, e1, e2, e3⟩ := List.findSome?_eq_some_iff.mp h
  have ea : a = r.2 := by
    unfold tryOut at e2
    obtain ⟨m, _, em⟩ := Option.map_eq_some_iff.mp e2
    rw [← em]
  subst ea
  exact ⟨l1, l2, e1, e2, e3⟩
theorem tryOut_lp {n : Nat} {s : Nat → Int} {bar : Nat → Nat → Bool} {o : Option Nat} {r : List Pr × Option Nat} (h : tryOut n s bar o = some r) : ∃ m : Cand, lp s bar n (placesBut n o) = some m ∧ m.2 = r.1 ∧ m.1 = cost s r.1 ∧ r.2 = o := by
  unfold tryOut at h
  obtain ⟨m, e1, e2⟩ := Option.map_eq_some_iff.mp h
  refine ⟨m, e1, by rw [← e2], ?_, by rw [← e2]⟩
  rw [lp_cost e1, ← e2]
theorem pairedP_same {n : Nat} {s : Nat → Int} {bar : Nat → Nat → Bool} {satp : Nat → Bool} {e : Pr} {r : List Pr × Option Nat} (h : pairedP n s bar satp = some r) (ne : e ∉ r.1) : pairedP n s (barE bar e) satp = some r := by
  obtain ⟨l1, l2, e1, e2, e3⟩ := pairedP_at h
  unfold pairedP
  rw [List.findSome?_eq_some_iff]
  refine ⟨l1, r.2, l2, e1, ?_, fun o ho => tryOut_none (e3 o ho)⟩
  obtain ⟨m, m1, m2, m3, m4⟩ := tryOut_lp e2
  unfold tryOut
  rw [lp_barE_same m1 (by rw [m2]; exact ne)]
  show some (m.2, r.2) = some r
  rw [m2]
theorem outsOf_le {n : Nat} {s : Nat → Int} {satp : Nat → Bool} {l1 l2 : List (Option Nat)} {o o2 : Option Nat} (h : outsOf n s satp = l1 ++ o :: l2) (m : o2 ∈ o :: l2) :
    (o = none → o2 = none) ∧ ∀ a, o = some a → ∃ b, o2 = some b ∧ s a ≤ s b := by
  unfold outsOf at h
  by_cases hn : n % 2 = 1
  · rw [if_pos hn] at h
    have hmem : ∀ z ∈ l1 ++ o :: l2, ∃ a, z = some a := fun z hz => by
      rw [← h] at hz
      obtain ⟨a, _, e⟩ := List.mem_map.mp hz
      exact ⟨a, e.symm⟩
    obtain ⟨a, ea⟩ := hmem o (by simp)
    obtain ⟨b, eb⟩ := hmem o2 (List.mem_append_right _ m)
    subst ea eb
    refine ⟨(fun z => nomatch z), fun a' e => ?_⟩
    cases e
    refine ⟨b, rfl, ?_⟩
    have pw : (l1 ++ some a :: l2).Pairwise fun x y => ∀ p q, x = some p → y = some q → bef s p q = true := by
      rw [← h, List.pairwise_map]
      exact (spareOf_sorted s _).imp fun {x y} q p r e1 e2 => by cases e1; cases e2; exact q
    have pw2 := (List.pairwise_cons.mp (List.pairwise_append.mp pw).2.1).1
    rcases List.mem_cons.mp m with z | z
    · cases z; exact Int.le_refl _
    · have q := pw2 (some b) z a b rfl rfl
      simp only [bef, Bool.or_eq_true, Bool.and_eq_true, decide_eq_true_eq] at q
      omega
  · rw [if_neg hn] at h
    have hl : l1 = [] ∧ o = none ∧ l2 = [] := by
      cases l1 with
      | nil =>
        rw [List.nil_append] at h
        injection h with h1 h2
        exact ⟨rfl, h1.symm, h2.symm⟩
      | cons x t =>
        rw [List.cons_append] at h
        injection h with h1 h2
        simp at h2
    obtain ⟨rfl, rfl, rfl⟩ := hl
    have e : o2 = none := by simpa using m
    subst e
    exact ⟨fun _ => rfl, fun a z => nomatch z⟩
theorem pairedP_less {n : Nat} {s : Nat → Int} {bar : Nat → Nat → Bool} {satp : Nat → Bool} {e : Pr} {r q : List Pr × Option Nat} (h : pairedP n s bar satp = some r) (g : pairedP n s (barE bar e) satp = some q) :
    e ∉ q.1 ∧ (r.2 = none → q.2 = none) ∧ (∀ a, r.2 = some a → ∃ b, q.2 = some b ∧ s a ≤ s b) ∧ (q.2 = r.2 → cost s r.1 ≤ cost s q.1) := by
  obtain ⟨l1, l2, e1, e2, e3⟩ := pairedP_at h
  obtain ⟨k1, k2, f1, f2, f3⟩ := pairedP_at g
  obtain ⟨m, m1, m2, m3, m4⟩ := tryOut_lp e2
  obtain ⟨u, u1, u2, u3, u4⟩ := tryOut_lp f2
  have hin : q.2 ∈ r.2 :: l2 := by
    have z : q.2 ∈ l1 ++ r.2 :: l2 := by rw [← e1, f1]; simp
    rcases List.mem_append.mp z with z | z
    · have := tryOut_none (e := e) (e3 _ z)
      rw [f2] at this
      cases this
    · exact z
  obtain ⟨c1, c2⟩ := outsOf_le e1 hin
  have ne : e ∉ q.1 := by
    cases w : lp s bar n (placesBut n q.2) with
    | none =>
      rw [lp_barE_none w] at u1
      cases u1
    | some m' =>
      have := (lp_barE_le w u1).2
      rw [u2] at this
      exact this
  refine ⟨ne, c1, c2, fun eo => ?_⟩
  rw [eo] at u1
  have := (lp_barE_le m1 u1).1
  rw [m3, u3] at this
  exact this
theorem pairedP_shift (n : Nat) (s : Nat → Int) (bar : Nat → Nat → Bool) (satp : Nat → Bool) (c : Int) : pairedP n (fun i => s i + c) bar satp = pairedP n s bar satp := by
  unfold pairedP
  have e1 : outsOf n (fun i => s i + c) satp = outsOf n s satp := by
    unfold outsOf
    rw [spareOf_congr (s := fun i => s i + c) (t := s)]
    intro a _ b _
    simp only [bef]
    have h1 : (s a + c < s b + c) = (s a < s b) := by apply propext; omega
    have h2 : (s a + c = s b + c) = (s a = s b) := by apply propext; omega
    simp only [h1, h2]
  have e2 : tryOut n (fun i => s i + c) bar = tryOut n s bar := by
    funext o
    unfold tryOut
    rw [lp_shift]
  rw [e1, e2]
theorem pairedP_congr {n : Nat} {s t : Nat → Int} {bar bar' : Nat → Nat → Bool} {satp satp' : Nat → Bool} (hs : ∀ i, i < n → s i = t i) (hb : ∀ i j, i < n → j < n → bar i j = bar' i j) (ht : ∀ i, i < n → satp i = satp' i) : pairedP n s bar satp = pairedP n t bar' satp' := by
  unfold pairedP
  have e0 : ((List.range n).filter fun i => !satp i) = (List.range n).filter fun i => !satp' i := by
    apply List.filter_congr
    intro i hi
    rw [ht i (List.mem_range.mp hi)]
  have e1 : outsOf n s satp = outsOf n t satp' := by
    unfold outsOf
    rw [e0, spareOf_congr (s := s) (t := t)]
    intro a ha b hb
    have ha' := List.mem_range.mp (List.mem_filter.mp ha).1
    have hb' := List.mem_range.mp (List.mem_filter.mp hb).1
    simp only [bef, hs a ha', hs b hb']
  have e2 : tryOut n s bar = tryOut n t bar' := by
    funext o
    unfold tryOut
    have lt : ∀ i ∈ placesBut n o, i < n := fun i hi => List.mem_range.mp (List.mem_filter.mp hi).1
    rw [lp_congr (s := s) (t := t) (bar := bar) (bar' := bar') n (placesBut n o) (fun i hi => hs i (lt i hi)) (fun i hi j hj => hb i j (lt i hi) (lt j hj))]
  rw [e1, e2]
theorem pairedP_mem {n : Nat} {s : Nat → Int} {bar : Nat → Nat → Bool} {satp : Nat → Bool} {r : List Pr × Option Nat} (h : pairedP n s bar satp = some r) : (∀ p ∈ r.1, p.1 < n ∧ p.2 < n ∧ p.1 < p.2) ∧ ∀ a, r.2 = some a → a < n := by
  obtain ⟨l1, l2, e1, e2, e3⟩ := pairedP_at h
  obtain ⟨m, m1, m2, m3, m4⟩ := tryOut_lp e2
  have lt : ∀ i ∈ placesBut n r.2, i < n := fun i hi => List.mem_range.mp (List.mem_filter.mp hi).1
  have pw : (placesBut n r.2).Pairwise (· < ·) := List.Pairwise.filter _ List.pairwise_lt_range
  refine ⟨fun p hp => ?_, fun a ea => ?_⟩
  · obtain ⟨a, b, c⟩ := lp_mem m1 p (by rw [m2]; exact hp)
    exact ⟨lt _ a, lt _ b, c pw⟩
  · have hm : some a ∈ outsOf n s satp := by rw [e1, ea]; simp
    unfold outsOf at hm
    by_cases hn : n % 2 = 1
    · rw [if_pos hn] at hm
      obtain ⟨b, hb, eb⟩ := List.mem_map.mp hm
      cases eb
      exact List.mem_range.mp (List.mem_filter.mp ((spareOf_perm s _).mem_iff.mp hb)).1
    · rw [if_neg hn] at hm
      simp at hm
theorem ms_len (bar : Nat → Nat → Bool) : ∀ (k : Nat) (l : List Nat) (r : List Pr), r ∈ ms bar k l → r.length ≤ l.length
  | k, [], r, h => by
    have e : r = [] := by cases k <;> simpa [ms] using h
    rw [e]
    exact Nat.le_refl _
  | 0, _ :: _, r, h => by simp [ms] at h
  | k + 1, one :: others, r, h => by
    simp only [ms, List.mem_flatMap, List.mem_map, List.mem_filter] at h
    obtain ⟨o, ho, z, hz, er⟩ := h
    have i := ms_len bar k _ z hz
    have j := List.length_filter_le (fun p => p != o) others
    rw [← er, List.length_cons, List.length_cons]
    omega
theorem lp_len {s : Nat → Int} {bar : Nat → Nat → Bool} {k : Nat} {l : List Nat} {m : Cand} (h : lp s bar k l = some m) : m.2.length ≤ l.length := ms_len bar k l m.2 ((lp_ms s bar k l).2 m h).1
end K66
set_option Elab.async false
set_option linter.all false
namespace K66
open PySem
/-! names and places -/
def keyOf (ns : List Str) (p : Str × Str) : Pr := if ns.idxOf p.1 ≤ ns.idxOf p.2 then (ns.idxOf p.1, ns.idxOf p.2) else (ns.idxOf p.2, ns.idxOf p.1)
def barOf (ns : List Str) (met : List (Str × Str)) (i j : Nat) : Bool := met.any fun p => decide (keyOf ns p = (i, j))
def fiOf (ls : List Str) (fi : Str → Int) (z : Str) : Int := if z ∈ ls then fi z else 0
def nm (ns : List Str) (i : Nat) : Str := ns.getD i Str.empty
def named (ns : List Str) (f : Str → Int) (p : Pr) : Str × Str := if f (nm ns p.2) < f (nm ns p.1) then (nm ns p.2, nm ns p.1) else (nm ns p.1, nm ns p.2)
/-- sorted of two -/
theorem sorted_two {a b : Int} {l : List Int} (p : l.Perm [a, b]) (h : l.Pairwise (· ≤ ·)) : l = if a ≤ b then [a, b] else [b, a] := by
  refine eq_of_sorted (le := fun x y : Int => x ≤ y) (fun x y h1 h2 => Int.le_antisymm h1 h2) (p.trans ?_) h ?_
  · split
    · exact List.Perm.refl _
    · exact List.Perm.swap _ _ _
  · split
    · simp [*]
    · simp; omega
theorem idx_at {ns : List Str} {z : Str} (h : z ∈ ns) : ns[ns.idxOf z]? = some z := by
  rw [List.getElem?_eq_getElem (List.idxOf_lt_length_of_mem h), List.getElem_idxOf]
theorem idx_first {ns : List Str} {z y : Str} {m : Nat} (h : m < ns.idxOf z) (e : ns[m]? = some y) : y ≠ z := by
  intro q
  subst q
  obtain ⟨l, e2⟩ := List.getElem?_eq_some_iff.mp e
  have := List.not_of_lt_findIdx (p := (· == y)) (xs := ns) (i := m) h
  simp [e2] at this
end K66
set_option Elab.async false
set_option linter.all false
namespace K66
open PySem
theorem nodup_le {α : Type} [DecidableEq α] : ∀ {l m : List α}, l.Nodup → (∀ x ∈ l, x ∈ m) → l.length ≤ m.length
  | [], m, _, _ => Nat.zero_le _
  | a :: l, m, h, s => by
    have ha : a ∈ m := s a List.mem_cons_self
    obtain ⟨h1, h2⟩ := List.nodup_cons.mp h
    have := nodup_le (l := l) (m := m.erase a) h2 fun x hx => (List.mem_erase_of_ne (fun e => h1 (by rw [← e]; exact hx))).mpr (s x (List.mem_cons_of_mem _ hx))
    rw [List.length_erase_of_mem ha] at this
    have := List.length_pos_of_mem ha
    rw [List.length_cons]
    omega
end K66
set_option Elab.async false
set_option linter.all false
set_option maxRecDepth 100000
set_option maxHeartbeats 4000000
namespace K66
open PySem PySem.Spec PyProof.Rows L2
section
variable {X : Cx} {pins : List (Addr × Obj)} {σ : L2.St} {H : Hp} {s : Shared} {h' : Heap} {D : Addr} {o : HO}
/-- all but the frame is kept, one object is new and tracked -/
theorem inv_new {tk : Nat} (I : Inv X pins σ H s) (k : ∀ b u, b ≠ X.env.locals → s.heap.get? b = some u → h'.get? b = some u) (ns : ∀ m, s.heap.Ns X.env.locals m → h'.Ns X.env.locals m)
    (hL : ∃ u, h'.get? X.env.locals = some u) (hD : s.heap.get? D = none) (new : ObjOk X.prog X.w (upd H D o) h' D o) : Inv X pins σ (upd H D o) { s with heap := h', toks := tk } := by
  have nD : H D = none := by
    cases q : H D with
    | none => rfl
    | some u =>
      have lt : ∃ v, s.heap.get? D = some v := objOk_get (I.hok D u q)
      obtain ⟨v, ev⟩ := lt
      rw [hD] at ev
      cases ev
  have old : ∀ b u, s.heap.get? b = some u → b ≠ D := fun b u e z => by
    rw [z, hD] at e
    cases e
  have ho : ∀ b u, H b = some u → b ≠ D := fun b u e => ne_of_none e nD
  refine I.step (g' := s.gens) (d' := s.drawn) (ch := []) (fun b hb => absurd hb (by simp)) (fun b u hb _ _ e _ => k b u hb e) (fun b u hb _ _ e _ => ⟨u.slots, k b u hb e⟩)
    (fun b u _ e n => by rw [upd_ne (old b u e)]; exact n) (fun b u _ e => ?_) (fun b xs e => by rw [upd_ne (ho b _ e)]; exact e) (fun b ob u e => by rw [upd_ne (ho b _ e)]; exact e) (fun b ps e => ⟨#[], by rw [upd_ne (ho b _ e), e]; simp⟩)
    ns (fun b u e => ?_) I.bare
  · by_cases hb : b = X.env.locals
    · rw [hb]; exact hL
    · exact ⟨u, k b u hb e⟩
  · by_cases hb : b = D
    · rw [hb, upd_same] at e
      cases e
      rw [hb]
      exact new
    · rw [upd_ne hb] at e
      refine (I.hok b u e).stay (fun c v hc q => k c v ?_ q) (fun c q => by rw [upd_ne (ho c _ q)]; exact q) fun c xs q => by rw [upd_ne (ho c _ q)]; exact q
      intro z
      rcases hc with hc | hc
      · rw [← hc, z, I.free] at e
        cases e
      · rw [z, I.free] at hc
        cases hc
end
section
variable {X : Cx} {pos p2 : Pos}
/-- one, *others = a list -/
def gStar (K : PySem.W.Frag) (t : TGs) : TG := fun v σ H Q => ∃ (a : Addr) (x : V) (xs : List V), v = .ref a ∧ SqL K H a (x :: xs) ∧ xs.length ≤ 16000 ∧ ∀ p, H p = none → t [x, .ref p] σ (upd H p (.lst xs)) Q
theorem pg_star {e1 e2 : Expr} {k : Nat} {t : TGs} (hc : X.calm = true) (h : PGs X [e1, e2] t)
    (hn : (assignEach [e1, .Starred e2 p2] X.env).length = 2 := by rfl) (hst : (assignEach [e1, .Starred e2 p2] X.env).findIdx? (·.1) = some 1 := by rfl)
    (hm : (assignEach [e1, .Starred e2 p2] X.env).map (·.2) = (assignEach [e1, e2] X.env).map (·.2) := by rfl) : PG X (.Tuple [e1, .Starred e2 p2] k pos) (gStar X.K t) := by
  refine ⟨fun pins s σ H v u Q I r hw => ?_⟩
  obtain ⟨a, x, xs, e, hq, hl, hw⟩ := hw
  subst e
  cases r
  obtain ⟨its, rv, p, hz⟩ := I.list hq
  obtain ⟨m, F⟩ := I.fr
  cases rv with
  | cons rx rxs =>
  rename_i ux us
  have lxs := rxs.length
  refine PySem.W.kun_assignL (n := 2) (i := 1) (first := [ux]) (mids := us) (lasts := []) F news_all p.isList (I.ok.hd hc) hn hst (by decide) (by simp) (by simp; omega) (by simp) (by simp) (by simp) fun D h' tk F' N' lt => ?_
  have ns' : ∀ m', s.heap.Ns X.env.locals m' → h'.Ns X.env.locals m' := fun m' hm' => by
    rw [SlX.ns_only hm' F.ns]
    exact F'.ns
  have nn : ∀ p ∈ allNews X.base s.heap X.env.locals, h'.get? p.1 = some p.2 := fun p hp => (N' p (List.mem_cons_of_mem _ hp)).1
  have kp : ∀ b ob, b ≠ X.env.locals → s.heap.get? b = some ob → h'.get? b = some ob := fun b ob hb e => by
    cases q : X.base.get? b with
    | none => exact nn (b, ob) (mem_allNews hb q e)
    | some o2 =>
      have z := I.bk b o2 q
      rw [e] at z
      cases z
      exact F'.keep b ob q
  have hD : s.heap.get? D = none := by
    cases q : s.heap.get? D with
    | none => rfl
    | some ob =>
      have h1 := N' (D, PySem.W.listOf us.toArray 0) List.mem_cons_self
      exact absurd (lt (D, ob) (mem_allNews h1.2.1 h1.2.2 q)) (Nat.lt_irrefl _)
  have gD : h'.get? D = some (PySem.W.listOf us.toArray 0) := (N' (D, PySem.W.listOf us.toArray 0) List.mem_cons_self).1
  have I2 : Inv X pins σ (upd H D (.lst xs)) { s with heap := h', toks := tk } := by
    refine inv_new I kp ns' (let ⟨ob, _, _, e, _⟩ := F'.ns; ⟨ob, e⟩) hD ⟨by simp at hz; omega, us, 0, rxs, ?_⟩
    exact gD
  rw [hm]
  have nD : H D = none := by
    cases q : H D with
    | none => rfl
    | some u =>
      obtain ⟨v, ev⟩ := objOk_get (I.hok D u q)
      rw [hD] at ev
      cases ev
  exact h.run pins _ σ _ [x, .ref D] _ Q I2 (.cons rx (.cons rfl .nil)) (hw D nD)
end
end K66
set_option Elab.async false
set_option linter.all false
set_option maxRecDepth 100000
set_option maxHeartbeats 4000000
namespace K66
open PySem PySem.Spec PyProof.Rows L2
/-! ### candidates as data -/
def prD (p : Pr) : PyData := .tuple [.int p.1, .int p.2]
def candD (c : Cand) : PyData := .tuple [.int c.1, .list (c.2.map prD)]
theorem prD_alike (a b : Pr) : PySem.W.alike (prD a) (prD b) = true := by simp [prD, PySem.W.alike, PySem.W.alikeAll]
theorem prDs_alike : ∀ a b : List Pr, PySem.W.alikeAll (a.map prD) (b.map prD) = true
  | [], _ => by simp [PySem.W.alikeAll]
  | _ :: _, [] => by simp [PySem.W.alikeAll]
  | a :: as, b :: bs => by
    rw [List.map_cons, List.map_cons, PySem.W.alikeAll, prD_alike, prDs_alike as bs]
    rfl
theorem candD_alike (a b : Cand) : PySem.W.alike (candD a) (candD b) = true := by
  simp only [candD, PySem.W.alike, PySem.W.alikeAll, prDs_alike, Bool.true_and, Bool.and_true]
theorem prD_eqv (a b : Pr) : PyData.eqv (prD a) (prD b) = decide (a = b) := by
  obtain ⟨a1, a2⟩ := a
  obtain ⟨b1, b2⟩ := b
  simp only [prD, PyData.eqv, PyData.eqvAll, Bool.and_true]
  by_cases e1 : a1 = b1 <;> by_cases e2 : a2 = b2 <;> simp [e1, e2] <;> omega
theorem prDs_eqv : ∀ a b : List Pr, PyData.eqvAll (a.map prD) (b.map prD) = decide (a = b)
  | [], [] => by simp [PyData.eqvAll]
  | [], _ :: _ => by simp [PyData.eqvAll]
  | _ :: _, [] => by simp [PyData.eqvAll]
  | a :: as, b :: bs => by
    rw [List.map_cons, List.map_cons, PyData.eqvAll, prD_eqv, prDs_eqv as bs]
    by_cases e1 : a = b <;> by_cases e2 : as = bs <;> simp [e1, e2]
theorem prD_lt (a b : Pr) : PySem.W.dataLt (prD a) (prD b) = pairLt a b := by
  obtain ⟨a1, a2⟩ := a
  obtain ⟨b1, b2⟩ := b
  rw [prD, prD, PySem.W.dataLt_tuple]
  have al : PySem.W.alike (.int a1) (.int b1) = true := by simp [PySem.W.alike]
  have al2 : PySem.W.alike (.int a2) (.int b2) = true := by simp [PySem.W.alike]
  unfold pairLt
  by_cases e : a1 = b1
  · rw [PySem.W.dataLt_all_yes al (by simp [PyData.eqv, e]), if_pos e]
    by_cases e2 : a2 = b2
    · rw [PySem.W.dataLt_all_yes al2 (by simp [PyData.eqv, e2])]
      subst e2
      simp only [decide_eq_false (Nat.lt_irrefl a2)]
      decide +kernel
    · rw [PySem.W.dataLt_all_no al2 (by simp [PyData.eqv]; omega), PySem.W.dataLt_int]
      simp
  · rw [PySem.W.dataLt_all_no al (by simp [PyData.eqv]; omega), if_neg e, PySem.W.dataLt_int]
    simp
theorem prDs_lt : ∀ a b : List Pr, PyProof.Rows.lexLt itemOrd (PySem.W.keyToksAll (a.map prD)) (PySem.W.keyToksAll (b.map prD)) = listLt a b
  | [], [] => by
    simp only [List.map_nil, listLt]
    decide +kernel
  | [], b :: bs => by
    simp only [List.map_nil, List.map_cons, listLt, PySem.W.keyToksAll]
    rw [PySem.W.lex_atom (by simp)]
    decide +kernel
  | a :: as, [] => by
    simp only [List.map_nil, List.map_cons, listLt, PySem.W.keyToksAll]
    rw [PySem.W.lex_atom (by simp)]
    decide +kernel
  | a :: as, b :: bs => by
    rw [List.map_cons, List.map_cons, listLt]
    by_cases e : a = b
    · rw [PySem.W.dataLt_all_yes (prD_alike a b) (by rw [prD_eqv]; simpa using e), if_pos e, prDs_lt as bs]
    · rw [PySem.W.dataLt_all_no (prD_alike a b) (by rw [prD_eqv]; simpa using e), if_neg e, prD_lt]
theorem candD_lt (a b : Cand) : PySem.W.dataLt (candD a) (candD b) = candLt a b := by
  obtain ⟨a1, a2⟩ := a
  obtain ⟨b1, b2⟩ := b
  rw [candD, candD, PySem.W.dataLt_tuple]
  have al : PySem.W.alike (.int a1) (.int b1) = true := by simp [PySem.W.alike]
  have al2 : PySem.W.alike (.list (a2.map prD)) (.list (b2.map prD)) = true := by simp only [PySem.W.alike, prDs_alike]
  have ev : PyData.eqv (.list (a2.map prD)) (.list (b2.map prD)) = decide (a2 = b2) := by simp only [PyData.eqv, prDs_eqv]
  unfold candLt
  by_cases e : a1 = b1
  · rw [PySem.W.dataLt_all_yes al (by simp [PyData.eqv, e]), if_pos e]
    by_cases e2 : a2 = b2
    · rw [PySem.W.dataLt_all_yes al2 (by rw [ev]; simpa using e2)]
      subst e2
      show _ = listLt a2 a2
      rw [listLt_irr]
      decide +kernel
    · rw [PySem.W.dataLt_all_no al2 (by rw [ev]; simpa using e2), PySem.W.dataLt_list, prDs_lt]
  · rw [PySem.W.dataLt_all_no al (by simp [PyData.eqv]; omega), if_neg e, PySem.W.dataLt_int]
theorem prDs_depth : ∀ a : List Pr, PyData.depthAll (a.map prD) ≤ 2
  | [] => by simp [PyData.depthAll]
  | a :: as => by
    have := prDs_depth as
    have h : (prD a).depth ≤ 2 := by simp [prD, PyData.depth, PyData.depthAll]
    simp only [List.map_cons, PyData.depthAll]
    omega
theorem candD_depth (a : Cand) : (candD a).depth ≤ 5 := by
  have := prDs_depth a.2
  simp only [candD, PyData.depth, PyData.depthAll]
  omega
/-! ### the least by place -/
theorem argBest_least {cs : List Cand} {bt : Nat → Nat → Bool} (hb : ∀ (i j : Nat) (x y : Cand), cs[i]? = some x → cs[j]? = some y → bt i j = candLt x y) : ∀ k, k < cs.length → ∃ c r, cs = c :: r ∧ argBest bt k ≤ k ∧ cs[argBest bt k]? = some ((r.take k).foldl pick c)
  | 0, h => by
    cases cs with
    | nil => exact absurd h (Nat.not_lt_zero _)
    | cons c r => exact ⟨c, r, rfl, Nat.le_refl _, by simp [argBest]⟩
  | k + 1, h => by
    obtain ⟨c, r, e, hle, hk⟩ := argBest_least hb k (by omega)
    have hlen : k < r.length := by rw [e] at h; simpa using h
    obtain ⟨x, ex⟩ : ∃ x, r[k]? = some x := ⟨_, List.getElem?_eq_getElem hlen⟩
    have e1 : cs[k + 1]? = some x := by rw [e, List.getElem?_cons_succ, ex]
    have ef : (r.take (k + 1)).foldl pick c = pick ((r.take k).foldl pick c) x := by
      rw [List.take_add_one, ex, List.foldl_append]
      rfl
    refine ⟨c, r, e, ?_, ?_⟩
    · simp only [argBest]
      split <;> omega
    · rw [ef]
      generalize (r.take k).foldl pick c = acc at hk ⊢
      simp only [argBest]
      rw [hb (k + 1) (argBest bt k) _ _ e1 hk]
      show cs[if candLt x acc = true then k + 1 else argBest bt k]? = some (if candLt x acc = true then x else acc)
      by_cases q : candLt x acc = true
      · rw [if_pos q, if_pos q, e1]
      · rw [if_neg q, if_neg q, hk]
theorem argBest_is {cs : List Cand} {bt : Nat → Nat → Bool} (hb : ∀ (i j : Nat) (x y : Cand), cs[i]? = some x → cs[j]? = some y → bt i j = candLt x y) (hn : 0 < cs.length) : cs[argBest bt (cs.length - 1)]? = least cs := by
  obtain ⟨c, r, e, _, h⟩ := argBest_least hb (cs.length - 1) (by omega)
  rw [h, e]
  simp [least]
/-! ### min's loop over data that stand -/
section
variable {prog : Program} {w : World} {A : Around} {R : Result → Shared → Prop} {h0 : Heap} {l I S : Addr} {items : Array Value} {bt : Nat → Nat → Bool} {kw : List (Str × Value)}
/-- richCompare of two items, wherever all of h0 stands -/
def CmpAt (prog : Program) (w : World) (A : Around) (h0 : Heap) (items : Array Value) (bt : Nat → Nat → Bool) : Prop :=
  ∀ (i j : Nat) (x y : Value) (s : Shared) (Q E : Value → Shared → Prop), (∀ b o, h0.get? b = some o → s.heap.get? b = some o) → items[i]? = some x → items[j]? = some y → Q (.bool (bt i j)) s → wpAny (model prog w) A (richCompare .Lt x y) Q E s
theorem kp_list {h : Heap} (kp : ∀ b o, h0.get? b = some o → h.get? b = some o) (hl : h0.IsList l items) : h.IsList l items := let ⟨o, e, r⟩ := hl; ⟨o, kp _ _ e, r⟩
theorem mn_name : (toString "min" ++ toString ".loop" : String) = "min.loop" := by decide
/-- what is left of a turn: the heap has all of h0, the iterator stands before turn i, the best so far at S -/
structure MnAt (h0 h : Heap) (I l S : Addr) (i : Nat) (vs : Array Value) : Prop where
  kp : ∀ b o, h0.get? b = some o → h.get? b = some o
  it : h.IsListIter I l i
  bs : ∃ c, h.get? S = some { cls := .type "list", dict := none, data := .seq vs c, slots := #[] }
theorem MnAt.drawn {h h' : Heap} {i : Nat} {vs : Array Value} (M : MnAt h0 h I l S i vs) (nI : h0.get? I = none) (hSI : S ≠ I) (it' : h'.IsListIter I l (i + 1)) (k : ∀ b o, b ∉ [I] → h.get? b = some o → h'.get? b = some o) : MnAt h0 h' I l S (i + 1) vs where
  kp := fun b o e => k b o (fun z => by
    have z2 : b = I := by simpa using z
    rw [z2, nI] at e
    cases e) (M.kp b o e)
  it := it'
  bs := let ⟨c, e⟩ := M.bs; ⟨c, k _ _ (by simpa using hSI) e⟩
theorem MnAt.put {h : Heap} {i : Nat} {vs vs' : Array Value} (M : MnAt h0 h I l S i vs) (nS : h0.get? S = none) (hSI : S ≠ I) : MnAt h0 (h.update S (Obj.mapSeq fun _ => vs')) I l S i vs' where
  kp := fun b o e => (Heap.get?_update_other _ _ (fun z : S = b => by rw [← z, nS] at e; cases e)).trans (M.kp b o e)
  it := by
    obtain ⟨o, e1, e2, e3⟩ := M.it
    exact ⟨o, (Heap.get?_update_other _ _ hSI).trans e1, e2, e3⟩
  bs := let ⟨c, e⟩ := M.bs; ⟨_, Heap.get?_update_self _ e rfl⟩
theorem mn_loop (hh : A.handled = none) (hl : h0.IsList l items) (hlI : l ≠ I) (nI : h0.get? I = none) (nS : h0.get? S = none) (hSI : S ≠ I) (hc : CmpAt prog w A.in1 h0 items bt) :
    ∀ (k j : Nat) (s : Shared) (vb : Value), items.size - (j + 1) = k → j + 1 ≤ items.size → MnAt h0 s.heap I l S (j + 1) #[vb, vb] → items[argBest bt j]? = some vb →
      (∀ (v : Value) (h' : Heap) (tk : Nat), items[argBest bt (items.size - 1)]? = some v → (∀ b o, h0.get? b = some o → h'.get? b = some o) → R (.ok (.ret v)) { s with heap := h', toks := tk }) →
      codeAny (model prog w) A (.builtin "min.loop" ⟨[.ref I, .none, .ref S], kw⟩) R s := by
  have W := Walks.list (prog := prog) (w := w) (A := A.in1) hh I l hlI items
  intro k
  induction k with
  | zero =>
    intro j s vb hk hj M hvb hR
    have last : j + 1 = items.size := by omega
    obtain ⟨c, hS⟩ := M.bs
    refine codeAny_builtin PySem.F.entry_min_loop ?_
    rw [Around.under_plainId PySem.F.plain_min_loop _]
    refine (show wpAny (model prog w) A.in1 (seqItems? (.ref S) >>= _) _ _ _ from wpAny_bind (wpAny_seqItems hS rfl ?_))
    refine (show wpAny (model prog w) A.in1 (tryCatch (pyNext (.ref I)) _ >>= _) _ _ _ from wpAny_bind (wpAny_tryCatch (W.done _ _ _ ⟨by rw [← last]; exact M.it, kp_list M.kp hl⟩ fun h' tk k' => ?_)))
    have hS' := k' _ _ (by simpa using hSI) hS
    refine (show wpAny (model prog w) A.in1 (updateSeq S (fun _ => #[]) >>= _) _ _ _ from wpAny_bind (wpAny_updateSeq hS' rfl (wpAny_bind (wpAny_letGo (wpAny_pure ?_)))))
    refine hR vb _ tk (by rw [← last]; exact hvb) fun b o e => ?_
    have nb : b ≠ I := fun z => by
      rw [z, nI] at e
      cases e
    exact (Heap.get?_update_other _ _ (fun z : S = b => by rw [← z, nS] at e; cases e)).trans (k' b o (by simpa using nb) (M.kp b o e))
  | succ k ih =>
    intro j s vb hk hj M hvb hR
    have more : j + 1 < items.size := by omega
    obtain ⟨c, hS⟩ := M.bs
    refine codeAny_builtin PySem.F.entry_min_loop ?_
    rw [Around.under_plainId PySem.F.plain_min_loop _]
    refine (show wpAny (model prog w) A.in1 (seqItems? (.ref S) >>= _) _ _ _ from wpAny_bind (wpAny_seqItems hS rfl ?_))
    refine (show wpAny (model prog w) A.in1 (tryCatch (pyNext (.ref I)) _ >>= _) _ _ _ from wpAny_bind (wpAny_tryCatch (W.item (j + 1) _ _ _ more ⟨M.it, kp_list M.kp hl⟩ fun v h' tk hv st' k' => ?_)))
    have M1 := M.drawn nI hSI st'.1 k'
    refine (show wpAny (model prog w) A.in1 (tryCatch (holding [v, v] (richCompare .Lt v vb >>= _)) _ >>= _) _ _ _ from wpAny_bind (wpAny_tryCatch (wpAny_holding (wpAny_bind (hc (j + 1) (argBest bt j) v vb _ _ _ M1.kp hv hvb ?_)))))
    refine wpAny_bind (wpAny_holding (wpAny_truthy_bool (wpAny_bind (wpAny_letGo (wpAny_pure ?_)))))
    cases hb : bt (j + 1) (argBest bt j) with
    | true =>
      obtain ⟨c1, hS1⟩ := M1.bs
      simp only [if_true]
      refine wpAny_bind (wpAny_updateSeq hS1 rfl (wpAny_bind (wpAny_letGo ?_)))
      rw [mn_name]
      exact wpAny_pure ⟨plainId_quiet PySem.F.plain_min_loop _, ih (j + 1) _ v (by omega) more (M1.put nS hSI) (by simp only [argBest, hb, if_true]; exact hv) hR⟩
    | false =>
      simp only [Bool.false_eq_true, if_false]
      refine wpAny_bind (wpAny_letGo ?_)
      rw [mn_name]
      exact wpAny_pure ⟨plainId_quiet PySem.F.plain_min_loop _, ih (j + 1) _ vb (by omega) more M1 (by simp only [argBest, hb, Bool.false_eq_true, if_false]; exact hvb) hR⟩
end
theorem mn_args (a v : Value) : argsOk "min" ⟨[a], [(Str.ofString "default", v)]⟩ := by
  unfold argsOk
  kernel_rfl
section
variable {prog : Program} {w : World} {A : Around} {E : Value → Shared → Prop} {s : Shared} {l : Addr} {items : Array Value} {bt : Nat → Nat → Bool}
/-- min(xs, default=None) over items whose < the standing heap tells -/
theorem mn_call {Q : Value → Shared → Prop} (hh : A.handled = none) (hl : s.heap.IsList l items) (hc : CmpAt prog w A.in1 s.heap items bt)
    (h0 : items.size = 0 → ∀ h' tk, (∀ b o, s.heap.get? b = some o → h'.get? b = some o) → Q .none { s with heap := h', toks := tk })
    (h1 : ∀ (v : Value) (h' : Heap) (tk : Nat), items[argBest bt (items.size - 1)]? = some v → 0 < items.size → (∀ b o, s.heap.get? b = some o → h'.get? b = some o) → Q v { s with heap := h', toks := tk }) :
    wpAny (model prog w) A (call (.builtin "min") [.ref l] [(Str.ofString "default", .none)]) Q E s := by
  obtain ⟨ol, hol, _⟩ := id hl
  have hll : l < s.heap.objs.size := Heap.lt_size hol
  refine PyProof.Rows.kmk_tree PySem.F.kind_min PySem.F.plain_min PySem.F.entry_min (mn_args _ _) ?_
  refine (show wpAny (model prog w) A.in1 (Builtin.Builtins.bindParams "min" ["key", "default"] 0 ⟨[], [(Str.ofString "default", .none)]⟩ >>= _) _ _ s from wpAny_bind (wpAny_of_eq (show Builtin.Builtins.bindParams "min" ["key", "default"] 0 ⟨[], [(Str.ofString "default", .none)]⟩ = pure [none, some .none] from rfl) ?_))
  refine wpAny_bind (wpAny_pure (wpAny_bind (wpAny_pyIter_list hl (wpAny_bind (wpAny_newList ?_ (Nat.zero_le _))))))
  rw [mn_name]
  generalize hH : (s.heap.push { cls := .type "list_iterator", data := .fields #[.ref l, .int 0 0] }) = hp1
  have hS : hp1.objs.size = s.heap.objs.size + 1 := by rw [← hH]; exact Heap.size_push ..
  have hSI : hp1.objs.size ≠ s.heap.objs.size := by rw [hS]; exact Nat.ne_of_gt (Nat.lt_succ_self _)
  have nI : s.heap.get? s.heap.objs.size = none := Heap.get?_none_of_le (Nat.le_refl _)
  have nS : s.heap.get? hp1.objs.size = none := Heap.get?_none_of_le (by rw [hS]; exact Nat.le_succ _)
  have M0 : MnAt s.heap (hp1.push { cls := .type "list", data := .seq #[] }) s.heap.objs.size l hp1.objs.size 0 #[] :=
    ⟨fun b o e => Heap.get?_push_of_some _ (by rw [← hH]; exact Heap.get?_push_of_some _ e), ⟨_, Heap.get?_push_of_some _ (by rw [← hH]; exact Heap.get?_push_size _ rfl), rfl, rfl⟩, ⟨_, Heap.get?_push_size _ rfl⟩⟩
  have W := Walks.list (prog := prog) (w := w) (A := A.in1) hh s.heap.objs.size l (Nat.ne_of_lt hll) items
  refine wpAny_pure ⟨plainId_quiet PySem.F.plain_min_loop _, ?_⟩
  refine codeAny_builtin PySem.F.entry_min_loop ?_
  rw [Around.under_plainId PySem.F.plain_min_loop _]
  obtain ⟨c, hSo⟩ := M0.bs
  refine (show wpAny (model prog w) A.in1 (seqItems? (.ref _) >>= _) _ _ _ from wpAny_bind (wpAny_seqItems hSo rfl ?_))
  by_cases hz : items.size = 0
  · refine (show wpAny (model prog w) A.in1 (tryCatch (pyNext (.ref s.heap.objs.size)) _ >>= _) _ _ _ from wpAny_bind (wpAny_tryCatch (W.done _ _ _ ⟨by rw [hz]; exact M0.it, kp_list M0.kp hl⟩ fun h' tk k' => ?_)))
    refine (show wpAny (model prog w) A.in1 (rule _ >>= _) _ _ _ from wpAny_bind (wpAny_rule (wpAny_pure ?_)))
    refine h0 hz h' tk fun b o e => k' b o (fun z => ?_) (M0.kp b o e)
    have z2 : b = s.heap.objs.size := by simpa using z
    rw [z2, nI] at e
    cases e
  · refine (show wpAny (model prog w) A.in1 (tryCatch (pyNext (.ref s.heap.objs.size)) _ >>= _) _ _ _ from wpAny_bind (wpAny_tryCatch (W.item 0 _ _ _ (by omega) ⟨M0.it, kp_list M0.kp hl⟩ fun v h' tk hv st' k' => ?_)))
    have M1 := M0.drawn nI hSI st'.1 k'
    obtain ⟨c1, hS1⟩ := M1.bs
    refine (show wpAny (model prog w) A.in1 (updateSeq hp1.objs.size (fun _ => #[v, v]) >>= _) _ _ _ from wpAny_bind (wpAny_updateSeq hS1 rfl ?_))
    rw [mn_name]
    exact wpAny_pure ⟨plainId_quiet PySem.F.plain_min_loop _, mn_loop hh hl (Nat.ne_of_lt hll) nI nS hSI hc _ 0 _ v rfl (by omega) (M1.put nS hSI) hv fun u h2 tk2 hu k2 => h1 u h2 tk2 hu (by omega) k2⟩
end
section
variable {X : Cx}
/-- min(xs, default=None), xs a list of (cost, pairs) -/
def rMinC (K : PySem.W.Frag) : List V → List V → Hp → VK → Prop := fun vs zs H Q => ∃ (a : Addr) (xs : List V) (cs : List Cand), vs = [V.ref a] ∧ zs = [.non] ∧ SqL K H a xs ∧ DpAll K H xs (cs.map candD) ∧
  (cs = [] → Q .non H) ∧ ∀ (i : Nat) (x : V) (c : Cand), xs[i]? = some x → cs[i]? = some c → least cs = some c → Q x H
theorem dpAll_length {K : PySem.W.Frag} {H : Hp} : ∀ {xs : List V} {ds : List PyData}, DpAll K H xs ds → xs.length = ds.length
  | _, _, .nil => rfl
  | _, _, .cons _ t => congrArg Nat.succ (dpAll_length t)
theorem dpAll_at {K : PySem.W.Frag} {H : Hp} : ∀ {xs : List V} {ds : List PyData} {i : Nat} {x : V}, DpAll K H xs ds → xs[i]? = some x → ∃ d, ds[i]? = some d ∧ Dp K H x d
  | _, _, _, _, .nil, e => by simp at e
  | _, _, 0, _, .cons r _, e => by
    have z : _ = _ := Option.some.inj e
    subst z
    exact ⟨_, rfl, r⟩
  | _, _, i + 1, x, .cons _ t, e => by
    obtain ⟨d, h1, h2⟩ := dpAll_at (i := i) (x := x) t (by simpa using e)
    exact ⟨d, by simpa using h1, h2⟩
theorem cr_minC (hc : X.calm = true) (hu : X.A.units + 64 < cLine) : CallRK X (.builtin "min") [Str.ofString "default"] (rMinC X.K) := by
  intro pins s σ H vs zs us ws Q I r rz h
  obtain ⟨a, xs, cs, rfl, rfl, hs, hd, q0, q1⟩ := h
  obtain rfl := Vals.ref1 r
  obtain ⟨w1, rfl, e1⟩ := vals1 rz
  obtain rfl : w1 = Value.none := e1
  obtain ⟨its, rv, hl, hz⟩ := I.list hs
  have lxs : xs.length = cs.length := by rw [dpAll_length hd, List.length_map]
  have lit : its.toArray.size = cs.length := by rw [List.size_toArray, ← rv.length, lxs]
  have at_ : ∀ (i : Nat) (u : Value), its.toArray[i]? = some u → ∃ x c, xs[i]? = some x ∧ cs[i]? = some c ∧ RelV x u ∧ ∃ as, Reads s.heap u (candD c) as := fun i u e => by
    have hi : i < cs.length := by rw [← lit]; exact (Array.getElem?_eq_some_iff.mp e).1
    obtain ⟨x, ex⟩ : ∃ x, xs[i]? = some x := ⟨_, List.getElem?_eq_getElem (by omega)⟩
    obtain ⟨d, ed, dd⟩ := dpAll_at hd ex
    rw [List.getElem?_map] at ed
    obtain ⟨c, ec, e2⟩ := Option.map_eq_some_iff.mp ed
    subst e2
    obtain ⟨u', eu, ru⟩ := rv.get ex
    have : u' = u := by simpa [eu] using e
    subst this
    exact ⟨x, c, ex, ec, ru, Dp.reads I _ _ _ dd ru⟩
  refine mn_call (bt := fun i j => match cs[i]?, cs[j]? with | some x, some y => candLt x y | _, _ => false) (I.ok.hd hc) hl.isList (fun i j x y s' Q' E' kp hx hy hq => ?_) (fun hz0 h' tk k => ?_) fun v h' tk hv hpos k => ?_
  · obtain ⟨_, cx, _, ex, _, as, rx⟩ := at_ i x hx
    obtain ⟨_, cy, _, ey, _, bs, ry⟩ := at_ j y hy
    have eb : (match cs[i]?, cs[j]? with | some x, some y => candLt x y | _, _ => false) = candLt cx cy := by rw [ex, ey]
    have hq : Q' (.bool (candLt cx cy)) s' := by
      rw [← eb]
      exact hq
    rw [← candD_lt] at hq
    refine PySem.W.rcLt_alike (candD cx) (candD cy) _ s' x y as bs (PyProof.Rows.Reads.keeps kp rx) (PyProof.Rows.Reads.keeps kp ry) (candD_alike _ _) (by simp [candD]) ?_ _ _ _ _ hq
    have h1 := candD_depth cx
    have h2 : X.A.in1.units = X.A.units + 1 := rfl
    rw [h2]
    omega
  · have : cs = [] := List.eq_nil_of_length_eq_zero (by rw [← lit]; exact hz0)
    exact ⟨.non, H, I.kept k, rfl, q0 this⟩
  · have hb := argBest_is (cs := cs) (bt := fun i j => match cs[i]?, cs[j]? with | some x, some y => candLt x y | _, _ => false) (fun i j x y e1 e2 => by rw [e1, e2]) (by rw [← lit]; exact hpos)
    rw [lit] at hv
    obtain ⟨x, c, ex, ec, ru, _⟩ := at_ _ v hv
    exact ⟨x, H, I.kept k, ru, q1 _ x c ex ec (by rw [← hb, ec])⟩
end
end K66
set_option Elab.async false
set_option linter.all false
set_option maxRecDepth 100000
set_option maxHeartbeats 4000000
namespace K66
open PySem PySem.Spec PyProof.Rows L2
section
variable {X : Cx} {e : Expr} {te : TE} {p apos cpos pos : Pos}
/-- list(e.values()) -/
def tListVals (te : TE) : TE := fun σ H Q => te σ H fun x H1 => ∃ (d : Addr) (kvs : List (Key × V)), x = .ref d ∧ H1 d = some (.dK kvs) ∧ ∀ q, H1 q = none → Q (.ref q) (upd H1 q (.lst (kvs.map (·.2))))
theorem kv_snd : ∀ {kvs : List (Key × V)} {vs : List (Key × Value)}, KV kvs vs → Vals (kvs.map (·.2)) (vs.map (·.2))
  | _, _, .nil => .nil
  | _, _, .cons r t => .cons r.2 (kv_snd t)
theorem pe_listVals (hc : X.calm = true) (he : PE X e te) (hg : Gl X "list") (hm : X.mg "list" = none) (hv : bootBuiltins "list" = some (.type "list")) (hbase : attributeBase e "values" X.env (eval e X.env) = eval e X.env := by rfl) (hline : (apos.endLine == cpos.line) = true := by rfl)
    (hs : starEach [.Call (.Attribute e "values" apos) [] [] cpos] X.env = (false, eval (.Call (.Attribute e "values" apos) [] [] cpos) X.env) :: starEach [] X.env := by rfl) :
    PE X (.Call (.Name "list" p) [.Call (.Attribute e "values" apos) [] [] cpos] [] pos) (tListVals te) := by
  refine ⟨fun pins s σ H Q I hq => ?_⟩
  refine wpAny_Call_Name_kw (ld_blt I hg hm hv (PyProof.Rows.callWith_type1 ?_ hs rfl))
  rw [hs]
  refine (show wpAny _ _ (spliced ((false, eval (.Call (.Attribute e "values" apos) [] [] cpos) X.env) :: backTo pos (starEach [] X.env))) _ _ s from Calls.spliced_cons ?_)
  refine wpAny_Call_method (T := "dict") (id := "dict.values") hbase rfl hline F.plainAttrs_dict F.slot_dict_values F.type_dict_values (thn (he.run pins s σ H _ I hq) fun u s1 ⟨x, H1, I1, rx, d, kvs, ex, hd, q⟩ => ?_)
  subst ex
  obtain rfl : u = Value.ref d := rx
  obtain ⟨hz, lo, vs, kv, hdo⟩ := I1.hok d _ hd
  obtain ⟨ep, hat⟩ := hdo.dictAt
  have lk : kvs.length = vs.length := Paired.length kv
  refine ⟨hdo.typeIs, hdo.mapOf.noDict, ?_⟩
  refine (show wpAny _ _ (callWith cpos (.builtin "dict.values") [.ref d] [] []) _ X.xe s1 from method_meetsIn F.slot_dict_values F.entry_dict_values rfl (PySem.evalArgs_none ⟨rfl, hdo.typeIs, F.args_dict_values_1 _, _, meets_dict_values (mixKind X.prog X.w) d lo, ⟨vs, hdo⟩, ?_⟩))
  refine Calls.spliced_nil ?_
  refine PySem.W.kdl_call (PySem.W.kdl_values (knd := mixKind X.prog X.w) (kvs := vs) (ep := ep)) (I1.ok.hd hc) ⟨⟨_, Heap.get?_push_size _ rfl, rfl, rfl⟩, hat.push _⟩ (by omega) fun h' tk acc c k hS hi => ?_
  have I2 : Inv X pins σ H1 { s1 with heap := s1.heap.push { cls := .type "dict_values", data := .fields #[.ref d] } } := I1.kept (t' := s1.toks) fun b ob q => Heap.get?_push_of_some _ q
  have ea : acc.toList = vs.map (·.2) := PySem.W.kdl_vals_eq _ (by rw [Array.length_toList]; exact hi.1) fun j v e => hi.2 j v (by rw [← Array.getElem?_toList]; exact e)
  refine ⟨.ref _, _, I2.laid (o := .lst (kvs.map (·.2))) (t' := tk) k (Nat.le_refl _) ⟨by rw [List.length_map]; exact hz, acc.toList, c, by rw [ea]; exact kv_snd kv, by rw [Array.toArray_toList]; exact hS⟩, rfl, q _ (I2.hok.fresh (Nat.le_refl _))⟩
end
end K66
set_option Elab.async false
set_option linter.all false
set_option maxRecDepth 100000
set_option maxHeartbeats 4000000
namespace K66
open PySem PySem.Spec PyProof.Rows L2
open PySem.W (KdxG)
/-! ### list(zip(xs, ys)) -/
/-- a zip over two lists ahead of its i-th turn; what it gave out last still stands -/
structure ZlAt (h : Heap) (z TI TO i1 i2 l1 l2 : Addr) (i : Nat) : Prop where
  ti : IsPair h TI (.ref i1) (.ref i2)
  h1 : h.IsListIter i1 l1 i
  h2 : h.IsListIter i2 l2 i
  st : (IsZip h z TI TO .none ∧ ∃ a b, IsPair h TO a b) ∨ ∃ T f oT, IsZipHeld h z TI TO T f ∧ h.get? T = some oT ∧ TO < T ∧ z < T
theorem ZlAt.at {h h' : Heap} {z TI TO i1 i2 l1 l2 : Addr} {i : Nat} {S : Addr} (Z : ZlAt h z TI TO i1 i2 l1 l2 i) (hS : S < TO) (hS2 : S < z) (hS3 : S < TI) (hS4 : S < i1) (hS5 : S < i2) (k : ∀ b o, b ≠ S → h.get? b = some o → h'.get? b = some o) : ZlAt h' z TI TO i1 i2 l1 l2 i := by
  have ne : ∀ {b : Addr}, S < b → b ≠ S := fun q e => by rw [e] at q; exact Nat.lt_irrefl _ q
  refine ⟨k _ _ (ne hS3) Z.ti, Z.h1.at fun o e => k _ o (ne hS4) e, Z.h2.at fun o e => k _ o (ne hS5) e, ?_⟩
  rcases Z.st with ⟨e, a, b, e2⟩ | ⟨T, f, oT, e, e2, e3, e4⟩
  · exact .inl ⟨k _ _ (ne hS2) e, a, b, k _ _ (ne hS) e2⟩
  · exact .inr ⟨T, f, oT, k _ _ (ne hS2) e, k _ _ (ne (Nat.lt_trans hS e3)) e2, e3, e4⟩
section
variable {prog : Program} {w : World} {A : Around} {E : Value → Shared → Prop} {s : Shared} {z TI TO i1 i2 l1 l2 : Addr} {xs ys : Array Value}
theorem zl_item {i : Nat} {x y : Value} {Q : Option Value → Shared → Prop} (D : ZipApart z TI TO i1 i2 l1 l2) (Z : ZlAt s.heap z TI TO i1 i2 l1 l2 i) (hl1 : s.heap.IsList l1 xs) (hl2 : s.heap.IsList l2 ys) (hx : xs[i]? = some x) (hy : ys[i]? = some y)
    (ord : TO < z ∧ i1 < TO ∧ i2 < TO)
    (hQ : ∀ h', ZlAt h' z TI TO i1 i2 l1 l2 (i + 1) → IsPair h' s.heap.objs.size x y → h'.objs.size = s.heap.objs.size + 1 → (∀ c o, c ≠ z → c ≠ TO → c ≠ i1 → c ≠ i2 → s.heap.get? c = some o → h'.get? c = some o) → Q (some (.ref s.heap.objs.size)) { s with heap := h' }) :
    wpAny (model prog w) A (pyNext (.ref z)) Q E s := by
  have lz : z < s.heap.objs.size := by
    rcases Z.st with ⟨e, _⟩ | ⟨_, _, _, e, _⟩
    · exact Heap.lt_size e
    · exact Heap.lt_size e
  rcases Z.st with ⟨e, a, b, e2⟩ | ⟨T, f, oT, e, e2, e3, e4⟩
  · refine wpAny_pyNext_zip_item D e Z.ti e2 Z.h1 Z.h2 hl1 hl2 hx hy fun h' a1 a2 a3 a4 a5 a6 a7 => hQ h' ⟨a7 _ _ D.TIz D.TITO D.TIi1 D.TIi2 Z.ti, a3, a4, .inr ⟨_, false, _, a1, a5, Nat.lt_trans ord.1 lz, lz⟩⟩ a5 a6 a7
  · have nz : T ≠ z := Nat.ne_of_gt e4
    have n1 : T ≠ i1 := Nat.ne_of_gt (Nat.lt_trans ord.2.1 e3)
    have n2 : T ≠ i2 := Nat.ne_of_gt (Nat.lt_trans ord.2.2 e3)
    exact wpAny_pyNext_zip_item_held D e e2 Z.ti Z.h1 Z.h2 hl1 hl2 hx hy fun h' a1 a2 a3 a4 a5 a6 => hQ h' ⟨a6 _ _ D.TIz D.TIi1 D.TIi2 Z.ti, a2, a3, .inr ⟨T, true, oT, a1, a6 _ _ nz n1 n2 e2, e3, e4⟩⟩ a4 a5 (fun c o c1 _ c3 c4 q => a6 c o c1 c3 c4 q)
theorem zl_done {i : Nat} {Q : Option Value → Shared → Prop} (hh : A.handled = none) (D : ZipApart z TI TO i1 i2 l1 l2) (Z : ZlAt s.heap z TI TO i1 i2 l1 l2 i) (hl1 : s.heap.IsList l1 xs) (hl2 : s.heap.IsList l2 ys) (hx : xs[i]? = none)
    (hQ : ∀ h', (∀ c o, c ≠ z → c ≠ TO → c ≠ i1 → c ≠ i2 → s.heap.get? c = some o → h'.get? c = some o) → Q none { s with heap := h' }) : wpAny (model prog w) A (pyNext (.ref z)) Q E s := by
  rcases Z.st with ⟨e, a, b, e2⟩ | ⟨T, f, oT, e, e2, e3, e4⟩
  · exact wpAny_pyNext_zip_end hh D e Z.ti e2 Z.h1 Z.h2 hl1 hl2 (.inl hx) hQ
  · exact wpAny_pyNext_zip_end_held hh D e e2 Z.ti Z.h1 Z.h2 hl1 hl2 (.inl hx) fun h' k => hQ h' fun c o c1 _ c3 c4 q => k c o c1 c3 c4 q
end
section
variable {prog : Program} {w : World} {A : Around} {R : Result → Shared → Prop} {s : Shared} {z TI TO i1 i2 l1 l2 S : Addr} {vs : List (Key × Value)} {xs ys : Array Value} {h0 : Heap}
/-- what the list at S holds so far: the tuples at as -/
structure ZlG (prog : Program) (w : World) (h0 h : Heap) (S lo : Addr) (vs : List (Key × Value)) (as : List Addr) (acc : Array Value) : Prop where
  kp : ∀ b o, h0.get? b = some o → h.get? b = some o
  g : KdxG (mixKind prog w) vs lo h as
  ls : ∃ c, h.get? S = some { cls := .type "list", dict := none, data := .seq acc c, slots := #[] }
  eq : acc.toList = as.map Value.ref
theorem zl_loop (hh : A.handled = none) (D : ZipApart z TI TO i1 i2 l1 l2) (hl1 : h0.IsList l1 xs) (hl2 : h0.IsList l2 ys) (ord : i1 < TO ∧ i2 < TO ∧ TI < TO ∧ TO < z) (nS : h0.get? S = none) (hzS : z < S) (hS : S ≠ z ∧ S ≠ TO ∧ S ≠ i1 ∧ S ≠ i2 ∧ S ≠ TI) (res : Value)
    (lt0 : ∀ b o, h0.get? b = some o → b ≠ z ∧ b ≠ TO ∧ b ≠ i1 ∧ b ≠ i2) (hn : vs.length ≤ sizeLine) (ex : xs.size = vs.length)
    (hv : ∀ (j : Nat) (k : Key) (x : Value), vs[j]? = some (k, x) → ∃ key, xs[j]? = some key ∧ ys[j]? = some x ∧ (mixKind prog w).is k key = true)
    (hR : ∀ h' tk acc as, ZlG prog w h0 h' S S vs as acc → as.length = vs.length → R (.ok (.ret res)) { s with heap := h', toks := tk }) :
    ∀ (k i : Nat) (h : Heap) (tk : Nat) (acc : Array Value) (as : List Addr), vs.length - i = k → i ≤ vs.length → ZlAt h z TI TO i1 i2 l1 l2 i → ZlG prog w h0 h S S vs as acc → as.length = i →
      codeAny (model prog w) A (.builtin "list.extend.loop" ⟨[.ref S, .ref z, res], []⟩) R { s with heap := h, toks := tk } := by
  intro k
  induction k with
  | zero =>
    intro i h tk acc as hk hi Z G hal
    refine codeAny_builtin PySem.F.entry_extend_loop ?_
    rw [Around.under_plainId PySem.F.plain_extend_loop _]
    refine (show wpAny _ A.in1 (pyNext (.ref z) >>= _) _ _ _ from wpAny_bind (zl_done (s := { s with heap := h, toks := tk }) (A := A.in1) (xs := xs) (ys := ys) hh D Z (hl1.at fun o e => G.kp _ o e) (hl2.at fun o e => G.kp _ o e) (Array.getElem?_eq_none (by omega)) fun h' k' => ?_))
    obtain ⟨c, hc⟩ := G.ls
    refine wpAny_pure (hR h' tk acc as ⟨fun b o e => let ⟨c1, c2, c3, c4⟩ := lt0 b o e; k' b o c1 c2 c3 c4 (G.kp b o e), ⟨G.g.rise, G.g.above, fun j a hj => ?_⟩, ⟨c, k' _ _ hS.1 hS.2.1 hS.2.2.1 hS.2.2.2.1 hc⟩, G.eq⟩ (by omega))
    obtain ⟨key, kk, x, e1, e2, e3⟩ := G.g.pairs j a hj
    have ha := Nat.lt_trans hzS (G.g.above a (List.mem_of_getElem? hj))
    exact ⟨key, kk, x, e1, e2, k' _ _ (Nat.ne_of_gt ha) (Nat.ne_of_gt (Nat.lt_trans ord.2.2.2 ha)) (Nat.ne_of_gt (Nat.lt_trans ord.1 (Nat.lt_trans ord.2.2.2 ha))) (Nat.ne_of_gt (Nat.lt_trans ord.2.1 (Nat.lt_trans ord.2.2.2 ha))) e3⟩
  | succ k ih =>
    intro i h tk acc as hk hi Z G hal
    have hlt : i < vs.length := by omega
    obtain ⟨⟨kk, x⟩, hx⟩ : ∃ p, vs[i]? = some p := ⟨vs[i], List.getElem?_eq_getElem hlt⟩
    obtain ⟨key, kx, ky, kis⟩ := hv i kk x hx
    obtain ⟨c, hc⟩ := G.ls
    have hsz : acc.size = i := by rw [← Array.length_toList, G.eq, List.length_map, hal]
    refine codeAny_builtin PySem.F.entry_extend_loop ?_
    rw [Around.under_plainId PySem.F.plain_extend_loop _]
    refine (show wpAny _ A.in1 (pyNext (.ref z) >>= _) _ _ _ from wpAny_bind (zl_item (s := { s with heap := h, toks := tk }) (xs := xs) (ys := ys) D Z (hl1.at fun o e => G.kp _ o e) (hl2.at fun o e => G.kp _ o e) kx ky ⟨ord.2.2.2, ord.1, ord.2.1⟩ fun h' Z' ht hz k' => ?_))
    dsimp only at ht hz k' ⊢
    have hS' := k' _ _ hS.1 hS.2.1 hS.2.2.1 hS.2.2.2.1 hc
    have lS : S < h.objs.size := Heap.lt_size hc
    have lz : z < h.objs.size := by
      rcases Z.st with ⟨e, _⟩ | ⟨_, _, _, e, _⟩
      · exact Heap.lt_size e
      · exact Heap.lt_size e
    generalize hup : (h'.update S (Obj.mapSeq (·.push (Value.ref h.objs.size)))) = h2
    have up : ∀ b o, b ≠ S → h'.get? b = some o → h2.get? b = some o := fun b o hb e => by rw [← hup]; exact (Heap.get?_update_other _ _ (Ne.symm hb)).trans e
    have tup : ∀ b o, z < b → b ≠ S → h.get? b = some o → h2.get? b = some o := fun b o h1 h3 e =>
      up b o h3 (k' b o (Nat.ne_of_gt h1) (Nat.ne_of_gt (Nat.lt_trans ord.2.2.2 h1)) (Nat.ne_of_gt (Nat.lt_trans ord.1 (Nat.lt_trans ord.2.2.2 h1))) (Nat.ne_of_gt (Nat.lt_trans ord.2.1 (Nat.lt_trans ord.2.2.2 h1))) e)
    have Z2 : ZlAt h2 z TI TO i1 i2 l1 l2 (i + 1) := by
      refine ⟨up _ _ (Ne.symm hS.2.2.2.2) Z'.ti, Z'.h1.at fun o e => up _ o (Ne.symm hS.2.2.1) e, Z'.h2.at fun o e => up _ o (Ne.symm hS.2.2.2.1) e, ?_⟩
      rcases Z'.st with ⟨e, a, b, e2⟩ | ⟨T, f, oT, e, e2, e3, e4⟩
      · exact .inl ⟨up _ _ (Ne.symm hS.1) e, a, b, up _ _ (Ne.symm hS.2.1) e2⟩
      · by_cases hT : T = S
        · subst hT
          refine .inr ⟨T, f, _, up _ _ (Ne.symm hS.1) e, by rw [← hup]; exact Heap.get?_update_self _ hS' rfl, e3, e4⟩
        · exact .inr ⟨T, f, oT, up _ _ (Ne.symm hS.1) e, up _ _ hT e2, e3, e4⟩
    have nA : ∀ a ∈ as, a ≠ S := fun a ha q => by
      obtain ⟨j, hj⟩ := List.mem_iff_getElem?.mp ha
      obtain ⟨_, _, _, _, _, e3⟩ := G.g.pairs j a hj
      rw [q, hc] at e3
      have e4 := congrArg Obj.cls (Option.some.inj e3)
      injection e4 with e5
      exact absurd e5 (by decide)
    refine (show wpAny _ A.in1 (updateSeq S (·.push (Value.ref h.objs.size)) >>= _) _ _ _ from wpAny_bind (wpAny_updateSeq hS' rfl (wpAny_pure ⟨plainId_quiet PySem.F.plain_extend_loop _, ?_⟩) (by rw [hsz]; omega) (by show (acc.push (Value.ref h.objs.size)).size ≤ sizeLine + 1; rw [Array.size_push, hsz]; omega)))
    show codeAny _ _ _ _ { s with heap := h'.update S (Obj.mapSeq (·.push (Value.ref h.objs.size))), toks := tk }
    rw [hup]
    refine ih (i + 1) h2 tk (acc.push (Value.ref h.objs.size)) (as ++ [h.objs.size]) (by omega) hlt Z2 ⟨fun b o e => ?_, ⟨?_, ?_, ?_⟩, ⟨_, by rw [← hup]; exact Heap.get?_update_self _ hS' rfl⟩, by rw [Array.toList_push, G.eq, List.map_append]; rfl⟩ (by rw [List.length_append, hal]; rfl)
    · obtain ⟨c1, c2, c3, c4⟩ := lt0 b o e
      exact up b o (fun q => by rw [q, nS] at e; cases e) (k' b o c1 c2 c3 c4 (G.kp b o e))
    · refine List.pairwise_append.mpr ⟨G.g.rise, List.pairwise_singleton _ _, fun a ha b hb => ?_⟩
      rw [List.mem_singleton.mp hb]
      exact G.g.there ha
    · intro a ha
      rcases List.mem_append.mp ha with ha | ha
      · exact G.g.above a ha
      · rw [List.mem_singleton.mp ha]; exact lS
    · intro j b hj
      rcases Nat.lt_trichotomy j as.length with q | q | q
      · rw [List.getElem?_append_left q] at hj
        obtain ⟨key', k2, x', e1, e2, e3⟩ := G.g.pairs j b hj
        have hm := List.mem_of_getElem? hj
        exact ⟨key', k2, x', e1, e2, tup b _ (Nat.lt_trans hzS (G.g.above b hm)) (nA b hm) e3⟩
      · subst q
        have hb : h.objs.size = b := by simpa using hj
        subst hb
        exact ⟨key, kk, x, by rw [hal]; exact hx, kis, up _ _ (Nat.ne_of_gt lS) ht⟩
      · have hnone : (as ++ [h.objs.size])[j]? = none := List.getElem?_eq_none (by rw [List.length_append, List.length_singleton]; omega)
        rw [hnone] at hj
        cases hj
end
theorem zip_no_len : typeLookup (.type "zip") "__len__" = pure none := am_miss_of_fast (by decide +kernel)
theorem zip_no_hint : typeLookup (.type "zip") "__length_hint__" = pure none := am_miss_of_fast (by decide +kernel)
section
variable {prog : Program} {w : World} {A : Around} {E : Value → Shared → Prop} {s : Shared} {z TI TO i1 i2 l1 l2 S : Addr} {vs : List (Key × Value)} {xs ys : Array Value}
theorem zl_hint {Q : Bool → Shared → Prop} (hT : s.TypeIs (.ref z) "zip") (h : Q true s) : wpAny (model prog w) A (Builtin.List.listLengthHint (.ref z)) Q E s := by
  unfold Builtin.List.listLengthHint
  refine wpAny_bind (wpAny_specialOf hT zip_no_len ?_)
  refine wpAny_bind (wpAny_specialOf hT zip_no_hint ?_)
  exact wpAny_pure h
/-- list(z), z = zip(xs, ys) just made -/
theorem zl_call {Q : Value → Shared → Prop} {h0 : Heap} (hh : A.handled = none) (D : ZipApart z TI TO i1 i2 l1 l2) (hl1 : h0.IsList l1 xs) (hl2 : h0.IsList l2 ys) (ord : i1 < TO ∧ i2 < TO ∧ TI < TO ∧ TO < z)
    (kp : ∀ b o, h0.get? b = some o → s.heap.get? b = some o) (lt0 : ∀ b o, h0.get? b = some o → b ≠ z ∧ b ≠ TO ∧ b ≠ i1 ∧ b ≠ i2 ∧ b ≠ TI) (hz0 : IsZip s.heap z TI TO .none) (Z : ZlAt s.heap z TI TO i1 i2 l1 l2 0) (hn : vs.length ≤ sizeLine) (ex : xs.size = vs.length)
    (hv : ∀ (j : Nat) (k : Key) (x : Value), vs[j]? = some (k, x) → ∃ key, xs[j]? = some key ∧ ys[j]? = some x ∧ (mixKind prog w).is k key = true)
    (hQ : ∀ h' tk acc as, ZlG prog w h0 h' s.heap.objs.size s.heap.objs.size vs as acc → as.length = vs.length → Q (.ref s.heap.objs.size) { s with heap := h', toks := tk }) :
    wpAny (model prog w) A (call (.type "list") [.ref z]) Q E s := by
  refine callType_codes (Q₁ := fun obj s₁ => obj = .ref s.heap.objs.size ∧ s₁ = { s with heap := s.heap.push { cls := .type "list", data := .seq #[] } }) PySem.F.called_list (PySem.F.typeCall_list_1 _) PySem.F.entry_list_init (code_list_new _ ⟨rfl, rfl⟩) fun obj s₁ h₁ => ?_
  obtain ⟨rfl, rfl⟩ := h₁
  have hS : (s.heap.push { cls := .type "list", data := .seq #[] }).get? s.heap.objs.size = some { cls := .type "list", data := .seq #[] } := Heap.get?_push_size _ rfl
  generalize hSS : s.heap.objs.size = S at *
  have lt : ∀ b o, s.heap.get? b = some o → b ≠ S := fun b o e => by rw [← hSS]; exact Nat.ne_of_lt (Heap.lt_size e)
  have nS : h0.get? S = none := by
    cases q : h0.get? S with
    | none => rfl
    | some o => exact absurd rfl (lt S o (kp S o q))
  have zTy : s.TypeIs (.ref z) "zip" := by
    rcases Z.st with ⟨e, _⟩ | ⟨_, _, _, e, _⟩
    · exact ⟨_, e, rfl⟩
    · exact ⟨_, e, rfl⟩
  have zS : z ≠ S := by obtain ⟨o, e, _⟩ := zTy; exact lt z o e
  have zS' : z < S := by rw [← hSS]; exact Heap.lt_size hz0
  obtain ⟨o1, e1, _⟩ := id Z.h1
  obtain ⟨o2, e2, _⟩ := id Z.h2
  have tS : TO ≠ S := by
    rcases Z.st with ⟨_, a, b, e⟩ | ⟨T, _, _, e, e5, e6, _⟩
    · exact lt _ _ e
    · intro q
      have := Heap.lt_size e5
      rw [hSS] at this
      rw [q] at e6
      exact Nat.lt_irrefl _ (Nat.lt_trans e6 this)
  have nZ : S ≠ z ∧ S ≠ TO ∧ S ≠ i1 ∧ S ≠ i2 ∧ S ≠ TI := ⟨Ne.symm zS, Ne.symm tS, Ne.symm (lt _ _ e1), Ne.symm (lt _ _ e2), Ne.symm (lt _ _ Z.ti)⟩
  refine ⟨⟨_, hS, rfl⟩, PySem.F.args_list_init_2 _ _, ?_⟩
  refine (show wpAny _ _ (Builtin.List.listItems (.ref S) >>= fun old => Builtin.List.listUpdate (.ref S) (fun _ => #[]) >>= fun _ => letGo old.toList.reverse >>= fun _ => Builtin.List.listExtendWith (.ref S) (.ref z) .none) _ _ _ from wpAny_bind ?_)
  unfold Builtin.List.listItems
  refine wpAny_bind (wpAny_seqItems hS rfl (wpAny_pure ?_))
  refine (show wpAny _ _ (updateSeq S (fun _ => #[]) >>= fun _ => letGo (#[] : Array Value).toList.reverse >>= fun _ => Builtin.List.listExtendWith (.ref S) (.ref z) .none) _ _ _ from wpAny_bind (wpAny_updateSeq hS rfl (wpAny_bind (wpAny_letGo ?_))))
  have hS₂ := Heap.get?_update_self (Obj.mapSeq (fun _ => (#[] : Array Value))) hS rfl
  have oth : ∀ b o, s.heap.get? b = some o → ((s.heap.push { cls := .type "list", data := .seq #[] }).update S (Obj.mapSeq (fun _ => (#[] : Array Value)))).get? b = some o :=
    fun b o e => (Heap.get?_update_other _ _ (Ne.symm (lt b o e))).trans (Heap.get?_push_of_some _ e)
  generalize hg : (s.heap.push { cls := .type "list", data := .seq #[] }).update S (Obj.mapSeq (fun _ => (#[] : Array Value))) = g at hS₂ oth
  have zat : ∀ h : Heap, (∀ b o, s.heap.get? b = some o → h.get? b = some o) → ZlAt h z TI TO i1 i2 l1 l2 0 := fun h k => by
    refine ⟨k _ _ Z.ti, Z.h1.at fun o e => k _ o e, Z.h2.at fun o e => k _ o e, ?_⟩
    rcases Z.st with ⟨e, a, b, e2⟩ | ⟨T, f, oT, e, e2, e3, e4⟩
    · exact .inl ⟨k _ _ e, a, b, k _ _ e2⟩
    · exact .inr ⟨T, f, oT, k _ _ e, k _ _ e2, e3, e4⟩
  unfold Builtin.List.listExtendWith
  refine wpAny_bind (wpAny_typeOf (T := "zip") (let ⟨o, e, c⟩ := zTy; ⟨o, oth _ _ e, c⟩) ?_)
  have h1 : Builtin.List.listSameRef (.ref S) (.ref z) = false := by simp [Builtin.List.listSameRef, Ne.symm zS]
  have h2 : (Value.type "zip" == Value.type "list") = false := by decide
  have h3 : (Value.type "zip" == Value.type "tuple") = false := by decide
  simp only [h1, h2, h3, Bool.or_false, Bool.false_eq_true, if_false]
  refine wpAny_bind (wpAny_pyIter_zip (oth _ _ hz0) ?_)
  refine wpAny_bind (wpAny_holding (zl_hint (let ⟨o, e, c⟩ := zTy; ⟨o, oth _ _ e, c⟩) ?_))
  refine wpAny_ite_split (fun _ => ?_) (fun q => absurd rfl q)
  refine wpAny_bind (wpAny_rule (wpAny_bind ?_))
  refine (show wpAny _ _ (updateSeq S (·.push .none) >>= fun _ => updateSeq S (·.pop)) _ _ _ from wpAny_bind (wpAny_updateSeq hS₂ rfl ?_))
  have hS₃ := Heap.get?_update_self (Obj.mapSeq (·.push Value.none)) hS₂ rfl
  refine wpAny_updateSeq (hz := by seq_fits) hS₃ rfl ?_
  have hS₄ := Heap.get?_update_self (Obj.mapSeq (·.pop)) hS₃ rfl
  have oth2 : ∀ b o, s.heap.get? b = some o → ((g.update S (Obj.mapSeq (·.push Value.none))).update S (Obj.mapSeq (·.pop))).get? b = some o :=
    fun b o e => (Heap.get?_update_other _ _ (Ne.symm (lt b o e))).trans ((Heap.get?_update_other _ _ (Ne.symm (lt b o e))).trans (oth b o e))
  refine wpAny_pure ⟨plainId_quiet PySem.F.plain_extend_loop _, ?_⟩
  refine zl_loop (s := s) (vs := vs) (h0 := h0) (xs := xs) (ys := ys) (A := A.in1) hh D hl1 hl2 ord nS zS' nZ .none (fun b o e => let ⟨c1, c2, c3, c4, _⟩ := lt0 b o e; ⟨c1, c2, c3, c4⟩) hn ex hv (fun h' tk acc as G hl => ?_) vs.length 0 _ _ #[] [] (Nat.sub_zero _) (Nat.zero_le _) (zat _ oth2) ⟨fun b o e => oth2 b o (kp b o e), ⟨List.Pairwise.nil, (fun _ ha => nomatch ha), (fun j a hj => by simp at hj)⟩, ⟨_, hS₄⟩, rfl⟩ rfl
  exact ⟨rfl, hQ h' tk acc as G hl⟩
end
section
variable {X : Cx}
/-- the lists ns, ms as keys and values -/
def zkv (ns ms : List Str) : List (Key × V) := (ns.zip ms).map fun q => (Sum.inr q.1, V.str q.2)
theorem zkv_vals : ∀ {ns ms : List Str} {us ws : List Value}, Vals (ns.map V.str) us → Vals (ms.map V.str) ws → KV (zkv ns ms) ((ns.zip ws).map fun q => (Sum.inr q.1, q.2))
  | [], _, _, _, _, _ => .nil
  | _ :: _, [], _, _, _, .nil => .nil
  | n :: ns, m :: ms, _, _, .cons _ t, .cons r' t' => .cons ⟨rfl, r'⟩ (zkv_vals t t')
/-- the new list at S and its new tuples are tracked -/
theorem zl_laid {pins : List (Addr × Obj)} {σ : L2.St} {H : Hp} {s : Shared} {h' : Heap} {tk : Nat} {kvs : List (Key × V)} {vs : List (Key × Value)} {acc : Array Value} {as : List Addr} {S : Addr} (I : Inv X pins σ H s) (hz : kvs.length ≤ sizeLine) (kv : KV kvs vs) (lo : s.heap.objs.size ≤ S)
    (G : ZlG X.prog X.w s.heap h' S S vs as acc) (hl : as.length = vs.length) :
    ∃ H' : Hp, Same H H' ∧ H S = none ∧ H' S = some (.lst (as.map V.ref)) ∧ Paired (fun (t : Addr) (q : Key × V) => H' t = some (.tup [kV q.1, q.2])) as kvs ∧ Inv X pins σ H' { s with heap := h', toks := tk } := by
  have lk : kvs.length = vs.length := Paired.length kv
  obtain ⟨c, hS⟩ := G.ls
  have offS : S ∉ as := fun q => Nat.lt_irrefl _ (G.g.above _ q)
  have nd : as.Nodup := G.g.rise.imp fun {a b} (q : a < b) => Nat.ne_of_lt q
  have fr : ∀ t, S ≤ t → H t = none := fun t q => I.hok.fresh (Nat.le_trans lo q)
  have frA : ∀ t ∈ as, H t = none := fun t q => fr t (Nat.le_of_lt (G.g.above t q))
  have tp := LiI.putT_at as kvs (upd H S (.lst (as.map V.ref))) (by omega) nd
  generalize hH : LiI.putT (upd H S (.lst (as.map V.ref))) as kvs = H' at tp
  have off : ∀ b, b ∉ as → b ≠ S → H' b = H b := fun b q1 q2 => by rw [← hH, LiI.putT_off as kvs _ q1, upd_ne q2]
  have atS : H' S = some (.lst (as.map V.ref)) := by rw [← hH, LiI.putT_off as kvs _ offS, upd_same]
  have same : Same H H' := fun b u e => by
    rw [off b (fun q => by rw [frA b q] at e; cases e) (fun q => by rw [q, fr S (Nat.le_refl _)] at e; cases e)]
    exact e
  have old : ∀ b o, s.heap.get? b = some o → b ∉ as ∧ b ≠ S := fun b o e => by
    have q := Nat.lt_of_lt_of_le (Heap.lt_size e) lo
    exact ⟨fun m => Nat.lt_irrefl _ (Nat.lt_trans q (G.g.above b m)), Nat.ne_of_lt q⟩
  refine ⟨H', same, fr S (Nat.le_refl _), atS, tp, I.un (t' := tk) ⟨fun b o e _ _ _ => G.kp b o e, fun b o e _ _ _ => ⟨o.slots, G.kp b o e⟩, fun b o e n _ => ?_, fun b o e _ => ⟨o, G.kp b o e⟩, fun b xs e => same b _ e, fun b o u e => same b _ e, fun b ps e => ⟨#[], by rw [same b _ e]; simp⟩⟩ fun b u e => ?_⟩
  · obtain ⟨q1, q2⟩ := old b o e
    rw [off b q1 q2]
    exact n
  · by_cases hb : b ∈ as
    · obtain ⟨j, q, g1, g2, g3⟩ := LiI.paired_ix tp hb
      rw [g3] at e
      cases e
      obtain ⟨key, k, x, f1, f2, f3⟩ := G.g.pairs j b g1
      obtain ⟨qv, d1, d2, d3⟩ := LiI.paired_get kv g2
      rw [f1] at d1
      cases d1
      have rk : RelV (kV q.1) key := by
        rw [d2]
        exact relV_key (show keyIs k key = true from f2)
      exact ⟨by show 2 ≤ sizeLine; decide, [key, x], .cons rk (.cons d3 .nil), ⟨_, f3, rfl, _, rfl⟩⟩
    · by_cases hb2 : b = S
      · rw [hb2, atS] at e
        cases e
        rw [hb2]
        exact ⟨by rw [List.length_map]; omega, acc.toList, c, by rw [G.eq]; exact LiI.vals_refs as, by rw [Array.toArray_toList]; exact hS⟩
      · rw [off b hb hb2] at e
        exact (I.hok b u e).stay (fun d v _ q => G.kp d v q) (fun d q => same d _ q) fun d xs q => same d _ q
def tListZip (K : PySem.W.Frag) (ta : TA) : TE := fun σ H Q => ta σ H fun vs H1 => ∃ (a b : Addr) (ns ms : List Str), vs = [.ref a, .ref b] ∧ SqL K H1 a (ns.map V.str) ∧ SqL K H1 b (ms.map V.str) ∧ ns.length = ms.length ∧
  ∀ (H' : Hp) (p : Addr) (ts : List Addr), Same H1 H' → H1 p = none → H' p = some (.lst (ts.map V.ref)) → Paired (fun (t : Addr) (q : Key × V) => H' t = some (.tup [kV q.1, q.2])) ts (zkv ns ms) → Q (.ref p) H'
theorem pe_listZip {e e2 : Expr} {ta : TA} {p zp zpos pos : Pos} (hc : X.calm = true) (hg : Gl X "list") (hm : X.mg "list" = none) (hgz : Gl X "zip") (hmz : X.mg "zip" = none) (ha : PA X [e, e2] ta) (hv : bootBuiltins "list" = some (.type "list"))
    (hs : starEach [.Call (.Name "zip" zp) [e, e2] [] zpos] X.env = (false, eval (.Call (.Name "zip" zp) [e, e2] [] zpos) X.env) :: starEach [] X.env := by rfl)
    (hs2 : starEach [e, e2] X.env = (false, eval e X.env) :: starEach [e2] X.env := by rfl) (hpl : (backTo zpos (starEach [e2] X.env)).any (·.1) = false := by rfl) :
    PE X (.Call (.Name "list" p) [.Call (.Name "zip" zp) [e, e2] [] zpos] [] pos) (tListZip X.K ta) := by
  refine ⟨fun pins s σ H Q I hq => ?_⟩
  refine wpAny_Call_Name_kw (ld_blt I hg hm hv (PyProof.Rows.callWith_type1 ?_ hs rfl))
  rw [hs]
  refine (show wpAny _ _ (spliced ((false, eval (.Call (.Name "zip" zp) [e, e2] [] zpos) X.env) :: backTo pos (starEach [] X.env))) _ _ s from Calls.spliced_cons ?_)
  refine Call_ (ld_blt I hgz hmz PyProof.Rows.boot_zip (PyProof.Rows.callWith_type1 (thn (ha.run zpos pins s σ H _ I hq) fun us s1 ⟨vs, H1, I1, r1, q1⟩ => ?_) hs2 hpl))
  obtain ⟨a, b, ns, ms, ex, hqx, hqy, hlen, q⟩ := q1
  subst ex
  obtain ⟨u1, u2, rfl, r, r'⟩ := vals2 r1
  obtain rfl : u1 = Value.ref a := r
  obtain rfl : u2 = Value.ref b := r'
  obtain ⟨its, rv, p1, z1⟩ := I1.list hqx
  obtain ⟨its2, rv2, p2, z2⟩ := I1.list hqy
  have la : a < s1.heap.objs.size := p1.lt
  have lb : b < s1.heap.objs.size := p2.lt
  refine call_zip_2 p1.isList p2.isList fun h1 hz hTI hTO hi1 hi2 hsz hk => Calls.spliced_nil ?_
  have I2 : Inv X pins σ H1 { s1 with heap := h1 } := I1.kept (t' := s1.toks) hk
  have lv : its.length = ns.length := by rw [← rv.length, List.length_map]
  have lv2 : its2.length = ms.length := by rw [← rv2.length, List.length_map]
  have kv := zkv_vals rv rv2
  have lkv : ((ns.zip its2).map fun q => ((Sum.inr q.1 : Key), q.2)).length = ns.length := by rw [List.length_map, List.length_zip]; omega
  have lt0 : ∀ b o, s1.heap.get? b = some o → b ≠ s1.heap.objs.size + 4 ∧ b ≠ s1.heap.objs.size + 3 ∧ b ≠ s1.heap.objs.size ∧ b ≠ s1.heap.objs.size + 1 ∧ b ≠ s1.heap.objs.size + 2 := fun b o e => by
    have := Heap.lt_size e
    have nn : ∀ k : Nat, b ≠ s1.heap.objs.size + k := fun k => Nat.ne_of_lt (Nat.lt_of_lt_of_le this (Nat.le_add_right _ _))
    exact ⟨nn 4, nn 3, nn 0, nn 1, nn 2⟩
  have o1 : ∀ k : Nat, s1.heap.objs.size + k < s1.heap.objs.size + (k + 1) := fun k => Nat.lt_succ_self _
  refine zl_call (s := { s1 with heap := h1 }) (h0 := s1.heap) (vs := (ns.zip its2).map fun q => (Sum.inr q.1, q.2)) (I1.ok.hd hc) (PySem.W.ktu_apart s1.heap.objs.size a b la lb) p1.isList p2.isList
    ⟨Nat.lt_of_lt_of_le (o1 0) (Nat.le_trans (Nat.le_of_lt (o1 1)) (Nat.le_of_lt (o1 2))), Nat.lt_trans (o1 1) (o1 2), o1 2, o1 3⟩ hk lt0 hz ⟨hTI, hi1, hi2, .inl ⟨hz, _, _, hTO⟩⟩ (by rw [lkv]; rw [List.length_map] at z1; exact z1) (by rw [lkv, List.size_toArray]; exact lv) (fun j k x hj => ?_) fun h' tk acc as G hl => ?_
  · rw [List.getElem?_map] at hj
    obtain ⟨⟨n, u⟩, e1, e2⟩ := Option.map_eq_some_iff.mp hj
    cases e2
    obtain ⟨g1, g2⟩ := List.getElem?_zip_eq_some.mp e1
    obtain ⟨key, k1, k2⟩ := rv.get (i := j) (x := .str n) (by rw [List.getElem?_map, g1]; rfl)
    obtain ⟨t, rfl⟩ := k2
    exact ⟨.str n t, by simpa using k1, by simpa using g2, mixKind_str _ _ n t⟩
  · obtain ⟨c, hS⟩ := G.ls
    have lz : s1.heap.objs.size + 4 < h1.objs.size := Heap.lt_size hz
    obtain ⟨H', k1, k2, k5, k6, J⟩ := zl_laid (tk := tk) I1 (kvs := zkv ns ms) (S := h1.objs.size) (by unfold zkv; rw [List.length_map, List.length_zip]; rw [List.length_map] at z1; omega) kv (Nat.le_of_lt (Nat.lt_of_le_of_lt (Nat.le_add_right _ 4) lz)) G hl
    exact ⟨.ref _, H', J, rfl, q H' _ as k1 k2 k5 k6⟩
end
end K66
set_option Elab.async false
set_option linter.all false
set_option maxRecDepth 100000
set_option maxHeartbeats 4000000
namespace K66
open PySem PySem.Spec PyProof.Rows L2
section
variable {prog : Program} {w : World} {A : Around} {E : Value → Shared → Prop} {s : Shared}
/-- t[::-1] of a pair -/
theorem getItem_pair_rev {t sl : Addr} {u v vl vu vs : Value} {Q : Value → Shared → Prop} (ht : IsTup s.heap t #[u, v]) (hs : s.heap.IsSliceOf sl vl vu vs) (pl : IsPart vl none) (pu : IsPart vu none) (ps : IsPart vs (some (-1)))
    (h : Q (.ref s.heap.objs.size) { s with heap := s.heap.push { cls := .type "tuple", data := .seq #[v, u] } }) : wpAny (model prog w) A (getItem (.ref t) (.ref sl)) Q E s := by
  obtain ⟨os, hos, hcs, hds⟩ := id hs
  have hTs : s.TypeIs (.ref sl) "slice" := ⟨os, hos, hcs⟩
  have hz : sizeOk (.seq #[v, u]) := by show 2 ≤ sizeLine; decide
  unfold getItem
  try with_reducible refine wpAny_holding ?_
  first | refine wpAny_bind (wpAny_pure ?_) | skip
  refine wpAny_bind (wpAny_sequenceKey ht.typeIs (by decide) (wpAny_bind (wpAny_callSpecial?_slot (name := Str.ofString "__getitem__") ht.typeIs PyProof.Rows.slot_tuple_getitem (wpAny_call_entry PyProof.Rows.slot_tuple_getitem ht.typeIs entry_tuple_getitem ?_ (args_tuple_getitem _ _)))))
  refine (show wpAny _ _ (Builtin.Tuple.tupleItemsOf (.ref t) >>= _) _ _ s from wpAny_bind (tupleItemsOf_ ht (wpAny_bind (wpAny_typeOf hTs ?_))))
  rw [if_pos (by decide)]
  have hap : ∀ {Q' : Int × Int × Nat → Shared → Prop}, Q' (1, -1, 2) s → wpAny (model prog w) A.in1 (Builtin.Slice.sliceApplied (.ref sl) (pure ((#[u, v] : Array Value).size : Int))) Q' E s := by
    intro Q' h'
    unfold Builtin.Slice.sliceApplied Builtin.Slice.sliceFields
    refine wpAny_bind (wpAny_bind (wpAny_field hos hds (x := vl) rfl (wpAny_bind (wpAny_field hos hds (x := vu) rfl (wpAny_bind (wpAny_field hos hds (x := vs) rfl (wpAny_pure ?_)))))))
    refine wpAny_bind (HT.slicePart_ ps ?_)
    refine (show wpAny _ _ (if ((-1 : Int) == 0) = true then _ else _) _ _ s from ?_)
    rw [if_neg (by decide)]
    refine wpAny_bind (HT.slicePart_ pl (wpAny_bind (HT.slicePart_ pu (wpAny_bind (wpAny_pure (wpAny_pure ?_))))))
    simpa [Builtin.Slice.slicePlaces] using h'
  refine wpAny_bind (hap ?_)
  refine (show wpAny _ _ (if ((1 : Int) == 0 && (-1 : Int) == 1 && (2 : Nat) == (#[u, v] : Array Value).size) = true then _ else _) _ _ s from ?_)
  rw [if_neg (by simp)]
  have ep : ((List.range 2).filterMap fun (k : Nat) => (#[u, v] : Array Value)[((1 : Int) + (k : Int) * (-1)).toNat]?).toArray = #[v, u] := by simp [List.range, List.range.loop]
  rw [ep]
  first
    | exact wpAny_bind (m := Builtin.Tuple.tupleExact _) (wpAny_newObj_type (wpAny_pure ⟨_, rfl, wpAny_pure h⟩) hz)
    | exact wpAny_bind (wpAny_bind (m := Builtin.Tuple.tupleExact _) (wpAny_newObj_type (wpAny_pure (wpAny_pure ⟨_, rfl, wpAny_pure h⟩)) hz))
    | exact wpAny_bind (wpAny_bind (m := Builtin.Tuple.tupleExact _) (wpAny_newObj_type (wpAny_pure ⟨_, rfl, wpAny_pure h⟩) hz))
end
section
variable {X : Cx}
def tRevP (K : PySem.W.Frag) (te : TE) : TE := fun σ H Q => te σ H fun x H1 => ∃ (a : Addr) (y z : V), x = .ref a ∧ SqT K H1 a [y, z] ∧ ∀ p, H1 p = none → Q (.ref p) (upd H1 p (.tup [z, y]))
theorem pe_revP {e : Expr} {te : TE} {k : Nat} {p1 p2 p3 pos : Pos} (he : PE X e te) : PE X (.Subscript e (.Slice none none (some (.UnaryOp .USub (.Constant (.int 1) k p1) p2)) p3) pos) (tRevP X.K te) := by
  refine ⟨fun pins s σ H Q I h => Subscript_ (thn (he.run pins s σ H _ I h) fun v s1 ⟨x, H1, I1, r1, a, y, z, ex, hx, q⟩ => ?_)⟩
  subst ex
  cases r1
  have hst : PO X (some (.UnaryOp .USub (.Constant (.int 1) k p1) p2)) (tPart (tUn (rU fun i => .int (-i)) (tC (.int 1)))) := po_some (pe_un un_neg pe_int)
  refine wpAny_Slice (thn (po_none.run pins s1 σ H1 (fun o H2 => o = none ∧ H2 = H1) I1 ⟨rfl, rfl⟩) fun vl s2 ⟨l, H2, I2, pl, el, e2⟩ => ?_)
  subst el e2
  refine thn (po_none.run pins s2 σ H2 (fun o H3 => o = none ∧ H3 = H2) I2 ⟨rfl, rfl⟩) fun vu s3 ⟨u, H3, I3, pu, eu, e3⟩ => ?_
  subst eu e3
  refine thn (hst.run pins s3 σ H3 (fun o H4 => o = some (-1) ∧ H4 = H3) I3 ⟨1, rfl, -1, rfl, rfl, rfl⟩) fun vs s4 ⟨o, H4, I4, ps, eo, e4⟩ => ?_
  subst eo e4
  have I5 : Inv X pins σ H4 { s4 with heap := s4.heap.push { cls := .type "slice", data := .fields #[vl, vu, vs] } } := I4.kept (t' := s4.toks) fun b ob q => Heap.get?_push_of_some _ q
  obtain ⟨its, r, ht, hz⟩ := I5.tuple hx
  obtain ⟨u1, u2, rfl, r1, r2⟩ := vals2 r
  refine (show wpAny (model X.prog X.w) X.A (subscriptTail e (.Slice none none (some (.UnaryOp .USub (.Constant (.int 1) k p1) p2)) p3) (.ref a) (.ref s4.heap.objs.size)) (EP X pins σ Q) X.xe { s4 with heap := s4.heap.push { cls := .type "slice", data := .fields #[vl, vu, vs] } } from ?_)
  refine tail_any (ops := [.ref a, .ref s4.heap.objs.size]) ht.typeIs (PyProof.Rows.slot_tuple_getitem.lookup) ?_ (by with_unfolding_all rfl)
  refine getItem_pair_rev ht (Heap.IsSliceOf.new _ vl vu vs) pl pu ps ?_
  refine ⟨.ref _, _, I5.laid (t' := s4.toks) (o := .tup [z, y]) (fun b ob q => Heap.get?_push_of_some _ q) (Nat.le_refl _) ?_, rfl, q _ (I5.hok.fresh (Nat.le_refl _))⟩
  exact ⟨by show 2 ≤ sizeLine; decide, _, .cons r2 (.cons r1 .nil), IsTup.new _ _⟩
end
end K66
set_option Elab.async false
set_option linter.all false
set_option maxRecDepth 100000
set_option maxHeartbeats 4000000
namespace K66
open PySem PySem.Spec PyProof.Rows L2
/-! ### d.get(y), y may be None -/
section
variable {X : Cx} {o e : Expr} {apos cpos : Pos} {td ty : TE}
def tDGetN (td ty : TE) : TE := fun σ H Q => td σ H fun x H1 => ∃ a, x = .ref a ∧ IsD H1 a ∧ ty σ H1 fun y H2 => (∃ o, DGet H2 a y o ∧ Q (o.getD .non) H2) ∨ ∃ kvs, y = .non ∧ Rd H2 a (.dK kvs) ∧ Q .non H2
theorem pe_dgetN (hu : X.A.units + 1 < cLine) (ho : PE X o td) (he : PE X e ty) (m : M1 X o "get" apos e cpos) : PE X (.Call (.Attribute o "get" apos) [e] [] cpos) (tDGetN td ty) := by
  refine ⟨fun pins s σ H Q I h => wpAny_Call_method m.base m.few m.line PySem.F.plainAttrs_dict PySem.F.slot_dict_get PySem.F.type_dict_get (thn (ho.run pins s σ H _ I h) fun u s1 ⟨x, H1, I1, rx, a, ex, d, q1⟩ => ?_)⟩
  subst ex
  obtain rfl : u = Value.ref a := rx
  obtain ⟨t1, t2, _⟩ := isD_at I1 d
  refine ⟨t1, t2, ?_⟩
  rw [m.trees]
  refine Calls.callWith_builtin rfl (Calls.evalArgs_plain (Calls.spliced_cons (thn (he.run pins s1 σ H1 _ I1 q1) fun iv s2 ⟨y, H2, I2, ry, q2⟩ => Calls.spliced_nil ?_)))
  rcases q2 with ⟨ov, g, q2⟩ | ⟨kvs, ey, g, q2⟩
  · exact d_get1 hu I2 g ry fun w' s3 I3 rw' => ⟨_, H2, I3, rw', q2⟩
  · subst ey
    obtain rfl : iv = Value.none := ry
    obtain ⟨z, hd, vs, rel, dd⟩ := dk_rd I2.hok g
    obtain ⟨f, hm, hf⟩ := none_map dd
    refine call_meetsIn PySem.F.slot_dict_get dd.typeIs PySem.F.entry_dict_get (PySem.F.args_dict_get_2 _ _) (meets_dict_get (noneKind X.prog X.w) (k := none) a rfl hd) ⟨f, hm, ?_⟩
    rw [hf]
    exact ⟨.non, H2, I2.tok _, rfl, q2⟩
end
/-! ### a call by keywords whose exceptions are wished for at the slots -/
section
variable {X : Cx} {CX : CXT} {k n : Nat} {f : Addr} {fd : FuncData} {ps ks : List Str} {sp : Sp} {E : L2.St → XK} {x : Str} {p pos : Pos} {e : Expr} {es : List Expr} {kws : List Keyword} {t tk : TA} {g : List Value → List Value → List Value} {gV : List V → List V → List V}
def tCallNS (n m : Nat) (sp : Sp) (gV : List V → List V → List V) (E : L2.St → XK) (t tk : TA) : TE := fun σ H Q => t σ H fun vs H1 => tk σ H1 fun zs H2 => vs.length = n ∧ zs.length = m ∧ sp (gV vs zs) H2 Q (E σ)
theorem run_fnNS {pins : List (Addr × Obj)} {σ : L2.St} {H : Hp} {s : Shared} {Q : VK} {us ws : List Value} {vs zs : List V} (F : FnOk X.prog X.w X.K X.mg X.base CX k f fd ps sp) (hr : Room k X.A) (hb : KBn X.K fd ps n ks g gV) (hx : PassesAt CX X σ (E σ))
    (I : Inv X pins σ H s) (r : Vals vs us) (rz : Vals zs ws) (l1 : vs.length = n) (l2 : zs.length = ks.length) (h : sp (gV vs zs) H Q (E σ)) : wpAny (model X.prog X.w) X.A (call (.ref f) us (ks.zip ws)) (EP X pins σ Q) X.xe s := by
  refine wpAny_call (codeAny_mono (F.run X.A X.stack s H ⟨us, ks.zip ws⟩ (g us ws) (gV vs zs) Q (E σ) hr I.env0 (hb.to s us ws I.kIn (r.length.symm.trans l1) (rz.length.symm.trans l2)) (hb.rel r rz) h) fun r s' hq => ?_)
  rcases r with er | fl
  · exact hx pins H s er s' I hq
  · cases fl with
    | ret u => exact I.after hq
    | next => exact False.elim hq
    | brk => exact False.elim hq
    | cont => exact False.elim hq
theorem pe_callNS (F : FnOk X.prog X.w X.K X.mg X.base CX k f fd ps sp) (hr : Room k X.A) (hg : Gl X x) (hm : X.mg x = some (.ref f)) (hk : PySem.W.keepIn X.K (.ref f) = true) (hb : KBn X.K fd ps n ks g gV) (hx : ∀ σ, PassesAt CX X σ (E σ))
    (ha : PA X (e :: es) t) (hkw : PK X kws tk) (hall : (backToKw pos (keywordEach kws X.env)).all (·.1.isSome) = true := by rfl) (hks : (backToKw pos (keywordEach kws X.env)).filterMap (·.1) = ks := by rfl)
    (hdb : (x == ("__debug__" : Str)) = false := by decide) (he : starEach (e :: es) X.env = (false, eval e X.env) :: starEach es X.env := by rfl)
    (hpl : ((backTo pos (starEach (e :: es) X.env)).any (·.1) || (backToKw pos (keywordEach kws X.env)).any (·.1.isNone)) = false := by rfl) :
    PE X (.Call (.Name x p) (e :: es) kws pos) (tCallNS n ks.length sp gV E t tk) := by
  refine ⟨fun pins s σ H Q I h => wpAny_Call_Name_kw (ld_glob I hg hm (PySem.W.callWith_KW (h₀ := X.base) I.ok.mod.kin hk hall (thn (ha.run pos pins s σ H _ I h) fun us s1 ⟨vs, H1, I1, r, q⟩ => thn (hkw.run pos pins s1 σ H1 _ I1 q) fun ws s2 ⟨zs, H2, I2, rz, l1, l2, q2⟩ => ⟨I2.kIn, ?_⟩) hpl he) hdb)⟩
  rw [hks]
  exact run_fnNS F hr hb (hx σ) I2 r rz l1 l2 q2
theorem pe_callNS0 (F : FnOk X.prog X.w X.K X.mg X.base CX k f fd ps sp) (hr : Room k X.A) (hg : Gl X x) (hm : X.mg x = some (.ref f)) (hk : PySem.W.keepIn X.K (.ref f) = true) (hb : KBn X.K fd ps 0 ks g gV) (hx : ∀ σ, PassesAt CX X σ (E σ)) (hkw : PK X kws tk)
    (hall : (backToKw pos (keywordEach kws X.env)).all (·.1.isSome) = true := by rfl) (hks : (backToKw pos (keywordEach kws X.env)).filterMap (·.1) = ks := by rfl) (hdb : (x == ("__debug__" : Str)) = false := by decide)
    (hpl : ((backTo pos (starEach [] X.env)).any (·.1) || (backToKw pos (keywordEach kws X.env)).any (·.1.isNone)) = false := by rfl) :
    PE X (.Call (.Name x p) [] kws pos) (tCallNS 0 ks.length sp gV E tNil tk) := by
  refine ⟨fun pins s σ H Q I h => wpAny_Call_Name_kw (ld_glob I hg hm (PySem.W.callWith_KW0 (h₀ := X.base) I.ok.mod.kin hk hall (thn (hkw.run pos pins s σ H _ I h) fun ws s2 ⟨zs, H2, I2, rz, l1, l2, q2⟩ => ⟨I2.kIn, ?_⟩) hpl) hdb)⟩
  rw [hks]
  exact run_fnNS (us := []) (vs := []) F hr hb (hx σ) I2 .nil rz rfl l2 q2
end
end K66
set_option Elab.async false
set_option linter.all false
set_option maxRecDepth 100000
set_option maxHeartbeats 4000000
namespace K66
open PySem PySem.Spec PyProof.Rows L2 LamX
/-! ### sorted(places, key=lambda place: (sums[place], -place)) -/
abbrev lamSc : Scope := { kind := .function, names := [(Str.ofString "place", .local), (Str.ofString "sums", .free)], isGenerator := false, isCoroutine := false, more := [] }
abbrev lamPar (q : Pos) : Arguments := { posonlyargs := [], args := [{ arg := "place", annotation := none, pos := q }], vararg := none, kwonlyargs := [], kw_defaults := [], kwarg := none, defaults := [] }
abbrev lamBody (p1 p2 p3 p4 p5 p6 : Pos) (k : Nat) : Expr := .Tuple [.Subscript (.Name "sums" p1) (.Name "place" p2) p3, .UnaryOp .USub (.Name "place" p4) p5] k p6
section
variable {prog : Program} {w : World} {A : Around} {s : Shared}
theorem lam_body {env : Env} {E : Value → Shared → Prop} {Q : Value → Shared → Prop} {cS aS : Addr} {m : Str → Option Value} {v : Value} {p1 p2 p3 p4 p5 p6 : Pos} {k : Nat} {its : List Value} {i z : Int} {t tz : Tok} (hk : env.scope.kind = .function) (k1 : env.kindOf "sums" = some .free) (k2 : env.kindOf "place" = some .local)
    (hs : env.cells.lookup (Str.ofString "sums") = some cS) (hcell : s.heap.IsCell cS (some v)) (hns : s.heap.Ns env.locals m) (hm : m "place" = some (.int i t)) (hl : s.heap.IsList aS its.toArray) (hv : v = .ref aS) (h0 : 0 ≤ i) (h1 : i < 2 ^ 63) (hi : its[i.toNat]? = some (.int z tz))
    (h : ∀ h3 tk, (∀ b o, s.heap.get? b = some o → h3.get? b = some o) → Reads h3 (.ref s.heap.objs.size) (.tuple [.int z, .int (-i)]) [] → Q (.ref s.heap.objs.size) { s with heap := h3, toks := tk }) : wpAny (model prog w) A (eval (lamBody p1 p2 p3 p4 p5 p6 k) env) Q E s := by
  subst hv
  refine wpAny_Tuple_spliced (Calls.spliced_cons (Subscript_ (wpAny_Name (wpAny_loadName_free hk k1 hs hcell (wpAny_Name (wpAny_loadName_local hk k2 hns hm ?_))))))
  refine item_listR (x := .int z tz) hl h0 h1 (by simpa using hi) ?_ (by with_unfolding_all rfl)
  refine Calls.spliced_cons (UnaryOp_ (wpAny_Name (wpAny_loadName_local hk k2 hns hm (neg_int ?_))))
  refine Calls.spliced_nil ⟨by show 2 ≤ sizeLine; decide, ?_⟩
  refine h _ _ (fun b o e => Heap.get?_push_of_some _ e) ?_
  exact .tuple (n := 0) (vs := #[.int z tz, .int (-i) s.toks]) (as := [] ++ ([] ++ [])) (Heap.get?_push_size _ rfl) rfl rfl (.cons (.int _ _) (.cons (.int _ _) .nil))
theorem lam_turn {f c' cS aS : Addr} {qual : Str} {q p1 p2 p3 p4 p5 p6 : Pos} {k : Nat} {cl : List (Str × Addr)} {pm ctv : Value} {its : List Value} {i z : Int} {t tz : Tok} (room : A.depth < recursionLimit)
    (hf : s.heap.get? f = some (PySem.W.kla_obj "<lambda>" qual (lamPar q) (lamBody p1 p2 p3 p4 p5 p6 k) lamSc cl pm c' ctv)) (hcd : s.heap.CodeRec (.ref c') qual) (nolim : s.heap.NoLimit)
    (hs : cl.lookup (Str.ofString "sums") = some cS) (hcell : s.heap.IsCell cS (some (.ref aS))) (hl : s.heap.IsList aS its.toArray) (h0 : 0 ≤ i) (h1 : i < 2 ^ 63) (hi : its[i.toNat]? = some (.int z tz)) :
    wpAny (model prog w) A (call (.ref f) [.int i t]) (PySem.W.KeyPure (.tuple [.int z, .int (-i)]) s) (fun _ _ => False) s := by
  refine wpAny_call (PySem.W.kla_callFunE room hf rfl rfl rfl rfl hcd ?_)
  rw [show bindArgs (PySem.W.kla_fn "<lambda>" qual (lamPar q) (lamBody p1 p2 p3 p4 p5 p6 k) lamSc cl pm (.ref c') ctv) ⟨[.int i t], []⟩ = pure [(Str.ofString "place", .int i t)] from rfl]
  refine wpAny_pure (wpAny_newFunctionEnv (fun y hy => ?_) (fun y hy => ?_) (fun h2 hns hsb => ⟨nolim.fresh _ hsb, ?_⟩) rfl)
  · rcases List.mem_cons.mp hy with e | e
    · rw [e]; decide
    · rw [List.mem_singleton.mp e]; decide
  · rw [List.mem_singleton.mp hy]; rfl
  have kp : ∀ b o, s.heap.get? b = some o → h2.get? b = some o := fun b o e => hsb.extBut b o (Nat.ne_of_lt (Heap.lt_size e)) (Heap.get?_push_of_some _ e)
  refine PySem.W.kla_codeExpr ?_
  generalize hL : s.heap.objs.size = L at hns hsb ⊢
  refine lam_body rfl rfl rfl hs (v := .ref aS) ?_ hns rfl ?_ rfl h0 h1 hi (fun h3 tk hk r => ?_)
  · obtain ⟨o, e1, e2⟩ := hcell
    exact ⟨o, kp _ _ e1, e2⟩
  · obtain ⟨o, e, r⟩ := hl
    exact ⟨o, kp _ _ e, r⟩
  · exact ⟨_, _, rfl, fun b o e => hk _ _ (kp b o e), r⟩
end
section
variable {X : Cx}
/-- sorted(e, key=the lambda), the sums' list at slot i -/
def tSortLam (K : PySem.W.Frag) (T : List (Addr × Str)) (i : Nat) (te : TE) : TE := fun σ H Q => te σ H fun x H1 => ∃ (l aS : Addr) (ps : List Nat) (n : Nat) (s : Nat → Int), x = .ref l ∧ SqL K H1 l (ps.map fun p => V.int (p : Nat)) ∧ ps.length ≤ 4000 ∧ Tabs T H1 ∧
  σ[i]? = some (some (.ref aS)) ∧ SqL K H1 aS ((List.range n).map fun p => V.int (s p)) ∧ (∀ p ∈ ps, p < n) ∧ n ≤ 4000 ∧
  ∀ H2 p, ExtN H1 H2 → Tabs T H2 → H2 p = none → Q (.ref p) (upd H2 p (.lst ((spareOf s ps).map fun p => V.int (p : Nat))))
theorem sq_extn {K : PySem.W.Frag} {H H2 : Hp} {a : Addr} {xs : List V} (h : SqL K H a xs) (e : ExtN H H2) : SqL K H2 a xs :=
  h.elim (fun h => .inl (h.elim (fun h => .inl (e _ _ h (fun ps z => nomatch z))) fun ⟨o, h⟩ => .inr ⟨o, e _ _ h (fun ps z => nomatch z)⟩)) fun h => .inr h
theorem nats_each : ∀ {ps : List Nat} {us : List Value}, Vals (ps.map fun p => V.int (p : Nat)) us → PySem.W.EachIs (fun (v : Value) (p : Nat) => ∃ t, v = .int (p : Nat) t) us ps
  | [], _, .nil => .nil
  | p :: ps, _, .cons r t => .cons r (nats_each t)
theorem each_nats : ∀ {ps : List Nat} {us : List Value}, PySem.W.EachIs (fun (v : Value) (p : Nat) => ∃ t, v = .int (p : Nat) t) us ps → Vals (ps.map fun p => V.int (p : Nat)) us
  | _, _, .nil => .nil
  | _, _, .cons r t => .cons r (each_nats t)
theorem keys_bef (s : Nat → Int) : PySem.W.dataLe false (fun p : Nat => .tuple [.int (s p), .int (-(p : Int))]) = bef s := by
  rw [PySem.W.dataLe_ii]
  funext a b
  simp only [bef]
  rw [Bool.eq_iff_iff]
  simp only [decide_eq_true_eq, Bool.or_eq_true, Bool.and_eq_true]
  omega
theorem pe_sortLam {T : List (Addr × Str)} {i : Nat} {c P : Addr} {e : Expr} {te : TE} {q pos lpos p p0 p1 p2 p3 p4 p5 p6 : Pos} {k : Nat} (hr : Room 3 X.A) (hg : Gl X "sorted") (hm : X.mg "sorted" = none) (he : PE X e te)
    (TB : TabB X.base X.mg c P) (hcode : X.env.code = .ref c) (hmT : (P, X.env.qual ++ "<lambda>") ∈ T) (hu : ∀ p ∈ T, p.1 = P → p.2 = X.env.qual ++ "<lambda>") (hN : X.N[i]? = some (Str.ofString "sums")) (hvc : X.env.scope.names.lookup (Str.ofString "sums") = some .cell)
    (hne : backTo pos (starEach [e] X.env) = (false, eval e X.env) :: backTo pos (starEach [] X.env) := by rfl) (hpl : (backTo pos (starEach [e] X.env)).any (·.1) = false := by rfl) :
    PE X (.Call (.Name "sorted" p) [e] [{ arg := some "key", value := .Lambda (lamPar q) (lamBody p1 p2 p3 p4 p5 p6 k) lamSc lpos, pos := p0 }] pos) (tSortLam X.K T i te) := by
  refine ⟨fun pins s σ H Q I h => wpAny_Call_Name_kw (ld_blt I hg hm boot_sorted (PyProof.Rows.callWith_kw ?_ hne hpl rfl rfl))⟩
  rw [hne]
  refine Calls.spliced_cons (thn (he.run pins s σ H _ I h) fun u s1 ⟨x, H1, I1, r1, l, aS, ps, n, sm, ex, hq, few, hT, hsl, hqs, lt, fewn, q⟩ => Calls.spliced_nil ?_)
  subst ex
  obtain rfl : u = Value.ref l := r1
  refine wpAny_evalAll_cons (wpAny_bind (lam_make2 I1 TB hcode hmT hu hT rfl (fun y hy hz => ?_) fun f c' pm ctv H2 s2 I2 eN T2 hf hfn hfr hco => wpAny_bind (wpAny_standAt (wpAny_pure (wpAny_evalAll_nil ?_)))))
  · rcases List.mem_cons.mp hy with e | e
    · rw [e] at hz; cases hz
    · rw [List.mem_singleton.mp e]
      exact I1.ok.has _ (.inl hvc)
  obtain ⟨its, rv, pl, hz⟩ := I2.list (sq_extn hq eN)
  obtain ⟨its2, rv2, pl2, hz2⟩ := I2.list (sq_extn hqs eN)
  obtain ⟨m, hns, hl⟩ := I2.loc
  obtain ⟨ua, ra, lk⟩ := hl i (Str.ofString "sums") _ hN hsl (.inr (.inl hvc))
  obtain rfl : ua = Value.ref aS := ra
  obtain ⟨cS, hcS, hcell⟩ : ∃ cS, X.env.cells.lookup (Str.ofString "sums") = some cS ∧ s2.heap.IsCell cS (some (.ref aS)) := by
    rcases lk with ⟨k', _⟩ | ⟨_, h2⟩
    · have k' : X.env.scope.names.lookup (Str.ofString "sums") = some .local := k'
      rw [hvc] at k'
      cases k'
    · exact h2
  have hcl : (cloFrom X.env.cells lamSc.names []).lookup (Str.ofString "sums") = some cS := by
    show List.lookup (Str.ofString "sums") [(Str.ofString "sums", (X.env.cells.lookup (Str.ofString "sums")).getD 0)] = some cS
    rw [hcS]
    simp [List.lookup]
  obtain ⟨⟨oc, cvs, ct, hoc, hdc, hvs⟩, _, _⟩ := I2.hok c' _ hco
  have hea := nats_each rv
  have few2 : ps.length ≤ sizeLine := by rw [List.length_map] at hz; exact hz
  show wpAny _ _ (call (.builtin "sorted") [.ref l] [(Str.ofString "key", .ref f)]) _ _ s2
  refine PySem.W.sorted_key_data (b := false) (vs := its) (bs := ps) (fun p : Nat => .tuple [.int (sm p), .int (-(p : Int))]) pl.isList hea (PySem.W.AllAlike.of fun _ _ => by simp [PySem.W.alike, PySem.W.alikeAll]) (PySem.W.Sortable.tuples fun _ => ⟨_, _, rfl⟩) few2 (fun p _ => ?_) (PyProof.Rows.ksk_s1 _ _) (fun _ => PyProof.Rows.ksk_l1 _ _) (fun _ => PyProof.Rows.ksk_t1 _ _)
    (fun v p rp hp h tk kp => ?_) fun out cc h' tk kp hn ho hlen heach => ?_
  · have := hr.un
    simp only [PyData.depth, PyData.depthAll]
    omega
  · obtain ⟨t, rfl⟩ := rp
    have hpn := lt p hp
    obtain ⟨uz, e1, e2⟩ := rv2.get (i := p) (x := .int (sm p)) (by rw [List.getElem?_map, List.getElem?_range hpn]; rfl)
    obtain ⟨tz, rfl⟩ := e2
    have dp := hr.dp
    refine lam_turn (aS := aS) (i := (p : Int)) (its := its2) (show X.A.depth < _ by omega) (kp _ _ hf) ⟨c', oc, cvs, ct, rfl, kp _ _ hoc, hdc, hvs⟩ (I2.nolimit.keeps kp) hcl ?_ ?_ (Int.natCast_nonneg p) (by omega) (by rw [Int.toNat_natCast]; exact e1)
    · obtain ⟨o, g1, g2⟩ := hcell
      exact ⟨o, kp _ _ g1, g2⟩
    · obtain ⟨o, g1, g2⟩ := pl2.isList
      exact ⟨o, kp _ _ g1, g2⟩
  · rw [keys_bef] at heach
    have vo := each_nats heach
    have I3 := I2.laid (t' := tk) (a := s2.heap.objs.size + 1) (o := .lst ((spareOf sm ps).map fun p => V.int (p : Nat))) kp (Nat.le_succ _) ⟨?_, out, cc, vo, ho⟩
    · exact ⟨.ref _, _, I3, rfl, q H2 _ eN T2 (I2.hok.fresh (Nat.le_succ _))⟩
    · rw [List.length_map]
      exact Nat.le_trans (Nat.le_of_eq (spareOf_perm sm ps).length_eq) few2
end
end K66
set_option Elab.async false
set_option linter.all false
set_option maxRecDepth 100000
set_option maxHeartbeats 4000000
namespace K66
open PySem PySem.Spec PyProof.Rows
/-! ### len(set(texts)), the texts all different -/
theorem nodup_not_in {xs : List Str} (nd : xs.Nodup) {i : Nat} {x : Str} (h : xs[i]? = some x) : (xs.take i).any (· == x) = false := by
  cases hb : (xs.take i).any (· == x) with
  | false => rfl
  | true =>
    obtain ⟨y, hy, ey⟩ := List.any_eq_true.mp hb
    obtain rfl : y = x := eq_of_beq ey
    obtain ⟨j, hj⟩ := List.mem_iff_getElem?.mp hy
    rw [List.getElem?_take] at hj
    by_cases q : j < i
    · rw [if_pos q] at hj
      obtain ⟨l1, e1⟩ := List.getElem?_eq_some_iff.mp hj
      obtain ⟨l2, e2⟩ := List.getElem?_eq_some_iff.mp h
      exact absurd (e1.trans e2.symm) (List.pairwise_iff_getElem.mp nd j i l1 l2 q)
    · rw [if_neg q] at hj
      cases hj
section
variable {prog : Program} {w : World} {A : Around} {R : Result → Shared → Prop} {I : Addr} {fp wr : List Addr} {G : Array GenState → Array GenState → Prop} {n : Nat} {P : Nat → Value → Prop} {St : Nat → Shared → Prop}
theorem txt_loop (W : WalksS prog w A.in1 I fp wr G n P St) (S : Addr) (nS : S ∉ fp) (xs : List Str) (sz : xs.length = n) (nd : xs.Nodup) (few : n ≤ 4000) (val : ∀ i v, P i v → ∃ t, v = .str (xs.getD i Str.empty) t) :
    ∀ (k i : Nat) (s : Shared), n - i = k → i ≤ n → St i s → s.heap.SetOf (PySem.strKind prog w) S (fun q => (xs.take i).any (· == q)) i →
      (∀ s2, Moved (S :: wr) G s s2 → s2.heap.SetOf (PySem.strKind prog w) S (fun q => (xs.take n).any (· == q)) n → R (.ok (.ret .none)) s2) → codeAny (model prog w) A (.builtin "set.update.loop" ⟨[.ref S, .ref I], []⟩) R s := by
  have nw : S ∉ wr := fun h => nS (W.sub _ h)
  have more : ∀ b ∈ wr, b ∈ S :: wr := fun b hb => List.mem_cons_of_mem _ hb
  have stay : ∀ {s s2 : Shared} {i m : Nat}, Moved wr G s s2 → s.heap.SetOf (PySem.strKind prog w) S (fun q => (xs.take i).any (· == q)) m → s2.heap.SetOf (PySem.strKind prog w) S (fun q => (xs.take i).any (· == q)) m := fun hm ⟨o, es, ep, t, ho, rest⟩ => ⟨o, es, ep, t, hm.heap S _ nw ho, rest⟩
  intro k
  induction k with
  | zero =>
    intro i s hk hi hst hS hR
    obtain rfl : i = n := by omega
    refine codeAny_builtin PyProof.Rows.F.entry_set_update_loop ?_; rw [Around.under_plainId PyProof.Rows.F.plain_set_update_loop _]
    refine (show wpAny _ A.in1 (pyNext (.ref I) >>= _) _ _ s from wpAny_bind (W.done s _ _ hst fun s2 hm => ?_))
    exact (show wpAny _ A.in1 (ret Value.none) _ _ s2 from wpAny_pure (hR s2 (hm.mono more) (stay hm hS)))
  | succ k ih =>
    intro i s hk hi hst hS hR
    have lt : i < n := by omega
    refine codeAny_builtin PyProof.Rows.F.entry_set_update_loop ?_; rw [Around.under_plainId PyProof.Rows.F.plain_set_update_loop _]
    refine (show wpAny _ A.in1 (pyNext (.ref I) >>= _) _ _ s from wpAny_bind (W.item i s _ _ lt hst fun v s2 hP hst2 hm => ?_))
    obtain ⟨t, rfl⟩ := val i v hP
    have ex : xs[i]? = some (xs.getD i Str.empty) := by
      rw [List.getD_eq_getElem?_getD, List.getElem?_eq_getElem (by omega)]
      rfl
    have no := nodup_not_in nd ex; have hS2 := stay hm hS
    refine (show wpAny _ A.in1 (holding [Value.str (xs.getD i Str.empty) t] (setAdd S (.str (xs.getD i Str.empty) t)) >>= _) _ _ s2 from wpAny_bind (wpAny_holding ?_))
    unfold setAdd
    refine wpAny_holding (wpAny_bind ((PySem.strKind prog w).pyHash (k := xs.getD i Str.empty) (strKind_is _ _ _ _) ?_))
    refine wpAny_setAddHashed_of (knd := PySem.strKind prog w) (s := { s2 with toks := s2.toks + 1 }) (strKind_is _ _ _ _) rfl hS2 (by unfold scanBound; omega) fun h3 hsb hS3 => ?_
    have g3 : h3.SetOf (PySem.strKind prog w) S (fun q => (xs.take (i + 1)).any (· == q)) (i + 1) := by
      refine SetOf_congr hS3 (fun q => ?_) (by rw [no]; rfl)
      rw [List.take_add_one, ex, List.any_append]
      generalize xs.getD i Str.empty = x
      show (_ || decide (q = x)) = (_ || [x].any (· == q))
      by_cases e : q = x
      · subst e; simp
      · have : (x == q) = false := beq_eq_false_iff_ne.mpr (Ne.symm e)
        simp [this, e]
    refine wpAny_pure ⟨plainId_quiet PyProof.Rows.F.plain_set_update_loop _, ih (i + 1) _ (by omega) lt (W.frame _ s2 _ _ hst2 (Nat.le_succ _) fun b hb o e => (hsb.2 b (fun z : b = S => nS (by rw [← z]; exact hb))).trans e) g3 fun s4 hm4 hS4 => ?_⟩
    exact hR s4 (Moved.trans W.gtrans ((hm.mono more).then_heap (Nat.le_succ _) fun b o hb e => (hsb.2 b (fun z : b = S => hb (by rw [z]; exact List.mem_cons_self))).trans e) hm4) hS4
end
section
variable {prog : Program} {w : World} {A : Around} {E : Value → Shared → Prop} {st : Shared}

set_option maxHeartbeats 3200000 in
theorem set_txt_list {l : Addr} {us : Array Value} {xs : List Str} {Q : Value → Shared → Prop} (quiet : A.handled = none) (hl : st.heap.IsList l us) (hi : PyProof.Rows.StrsAre us.toList xs) (nd : xs.Nodup) (few : xs.length ≤ 4000)
    (h : ∀ (h2 : Heap) (tk : Nat), h2.SetOf (PySem.strKind prog w) st.heap.objs.size (fun q => (xs.take us.size).any (· == q)) us.size → (∀ b o, b < st.heap.objs.size → st.heap.get? b = some o → h2.get? b = some o) → Q (.ref st.heap.objs.size) { st with heap := h2, toks := tk }) :
    wpAny (model prog w) A (call (.type "set") [.ref l]) Q E st := by
  obtain ⟨c, tl, hmro⟩ := PySem.F.called_set.mro; have made := PySem.F.called_set.made; have sub := PySem.F.called_set.sub
  refine wpAny_call (codeAny_of_tree ?_); show wpAny _ _ (callAny (.type "set") _) _ _ _
  refine wpAny_pure ⟨Code.quiet_builtin _ (by decide +kernel), codeAny_builtin PySem.F.entry_type_call ?_⟩; rw [Around.under_plain (weight_type_call_type "set" [.ref l] []) rfl]
  have z1 := PySem.F.called_set.notType; have z2 := PySem.F.called_set.canCreate; have z3 := PySem.F.typeCall_set_1 (.ref l)
  repeat (any_goals (first | assumption | wp_step))
  let ob : Bool → Obj := fun led => { cls := .type "set", dict := none, data := .set #[] 0 (.fresh 0 0 led) }
  refine codeAny_mono (code_set_new_1 (.ref l) (E := E) (Q₁ := fun y s1 => ∃ led : Bool, y = .ref st.heap.objs.size ∧ s1 = { st with heap := st.heap.push (ob led) }) fun led => ⟨led, rfl, rfl⟩) fun r s1 hr => ?_
  cases r with
  | error e => exact hr
  | ok fl =>
    cases fl with
    | ret y =>
      obtain ⟨led, rfl, rfl⟩ := hr
      have hS : (st.heap.push (ob led)).get? st.heap.objs.size = some (ob led) := Heap.get?_push_size _ rfl
      have hT : Shared.TypeIs { st with heap := st.heap.push (ob led) } (.ref st.heap.objs.size) "set" := ⟨_, hS, rfl⟩
      have z4 := PySem.F.called_set.init.lookup; have z5 := PySem.F.called_set.init.bind (.ref st.heap.objs.size)
      repeat (any_goals (first | assumption | wp_step))
      refine codeAny_mono (codeAny_call_builtin (R := wants (fun r s2 => r = .none ∧ ∃ h2 tk, s2 = { st with heap := h2, toks := tk } ∧ h2.SetOf (PySem.strKind prog w) st.heap.objs.size (fun q => (xs.take us.size).any (· == q)) us.size ∧
        (∀ b o, b < st.heap.objs.size → st.heap.get? b = some o → h2.get? b = some o)) E) PySem.F.called_set.init.plain PySem.F.entry_set_init (check_set_init_1 hT ?_)) fun r2 s2 hr2 => ?_
      · obtain ⟨⟨oc, od, oa, os⟩, hol, hcl, nl, hdl⟩ := hl
        simp only at hcl hdl; subst hcl; subst hdl
        have hol2 : (st.heap.push (ob led)).get? l = some { cls := .type "list", dict := od, data := .seq us nl, slots := os } := Heap.get?_push_of_some _ hol
        have y1 := PySem.F.sub_list_set; have y2 := PySem.F.sub_list_frozenset; have y3 : (Value.type "list" == Value.type "dict") = false := by decide
        have hl1 : (st.heap.push (ob led)).IsList l us := ⟨_, hol2, rfl, nl, rfl⟩
        unfold Builtin.«set.__init__» noKeywords Builtin.Frozenset.updateFrom; generalize hPI : pyIter = PI
        wp_walk
        subst hPI
        refine wpAny_pyIter_list hl1 ?_; refine wpAny_bind (wpAny_runValue ?_)
        have lt : l < st.heap.objs.size := Heap.lt_size hol
        have q3 : A.in1.in1.in1.handled = none := by simp [quiet]
        have nI : l ≠ (st.heap.push (ob led)).objs.size := by rw [Heap.size_push]; exact Nat.ne_of_lt (Nat.lt_succ_of_lt lt)
        have nS : st.heap.objs.size ∉ [(st.heap.push (ob led)).objs.size, l] := by
          rw [Heap.size_push, List.mem_cons, List.mem_singleton, not_or]
          exact ⟨Nat.ne_of_lt (Nat.lt_succ_self _), Nat.ne_of_gt lt⟩
        have sz : xs.length = us.size := by rw [← StrsAre.len_eq hi, Array.length_toList]
        have val : ∀ (i : Nat) (v : Value), us[i]? = some v → ∃ t, v = .str (xs.getD i Str.empty) t := fun i v hv => SS.strs_at hi i v (by rw [Array.getElem?_toList]; exact hv)
        refine txt_loop ((Walks.list q3 _ l nI us).toS) st.heap.objs.size nS xs sz nd (by rw [← sz]; exact few) val (us.size - 0) 0 _ (by omega) (Nat.zero_le _) ⟨⟨_, Heap.get?_push_size _ rfl, rfl, rfl⟩, (hl1.push _)⟩ ?first ?last
        case first =>
          have hget : ((st.heap.push (ob led)).push { cls := .type "list_iterator", data := .fields #[.ref l, .int 0 0] }).get? st.heap.objs.size = some (ob led) := Heap.get?_push_of_some _ hS
          exact PyProof.Rows.SetOf_congr ((PyProof.Rows.setObjOf_fresh (knd := PySem.strKind prog w) led).setOf hget (by unfold scanBound; omega)) (fun _ => rfl) rfl
        case last =>
          intro s3 hm g3
          obtain ⟨h3, c3, d3, t3, o3⟩ := s3
          obtain rfl : c3 = st.gens := hm.gens; obtain rfl : d3 = st.drawn := hm.drawn; obtain rfl : o3 = st.os := hm.os
          show wpAny _ _ _ _ _ _; refine wpAny_pure ?_; show wpAny _ _ (ret Value.none) _ _ _
          refine wpAny_pure ⟨rfl, h3, t3, rfl, g3, fun b o hb e => hm.heap b o ?_ (Heap.get?_push_of_some _ (Heap.get?_push_of_some _ e))⟩
          rw [List.mem_cons, List.mem_singleton, Heap.size_push, not_or]
          exact ⟨Nat.ne_of_lt hb, Nat.ne_of_lt (Nat.lt_succ_of_lt hb)⟩
      · cases r2 with
        | error e => exact hr2
        | ok f2 =>
          cases f2 with
          | ret r =>
            obtain ⟨rfl, h2, tk, rfl, g2, k2⟩ := hr2
            repeat (any_goals (first | assumption | wp_step))
            exact h _ _ g2 k2
          | _ => exact hr2.elim
    | _ => exact hr.elim


set_option maxHeartbeats 3200000 in
theorem set_txt_tuple {l : Addr} {us : Array Value} {xs : List Str} {Q : Value → Shared → Prop} (quiet : A.handled = none) (hl : st.heap.IsTuple l us) (hi : PyProof.Rows.StrsAre us.toList xs) (nd : xs.Nodup) (few : xs.length ≤ 4000)
    (h : ∀ (h2 : Heap) (tk : Nat), h2.SetOf (PySem.strKind prog w) st.heap.objs.size (fun q => (xs.take us.size).any (· == q)) us.size → (∀ b o, b < st.heap.objs.size → st.heap.get? b = some o → h2.get? b = some o) → Q (.ref st.heap.objs.size) { st with heap := h2, toks := tk }) :
    wpAny (model prog w) A (call (.type "set") [.ref l]) Q E st := by
  obtain ⟨c, tl, hmro⟩ := PySem.F.called_set.mro; have made := PySem.F.called_set.made; have sub := PySem.F.called_set.sub
  refine wpAny_call (codeAny_of_tree ?_); show wpAny _ _ (callAny (.type "set") _) _ _ _
  refine wpAny_pure ⟨Code.quiet_builtin _ (by decide +kernel), codeAny_builtin PySem.F.entry_type_call ?_⟩; rw [Around.under_plain (weight_type_call_type "set" [.ref l] []) rfl]
  have z1 := PySem.F.called_set.notType; have z2 := PySem.F.called_set.canCreate; have z3 := PySem.F.typeCall_set_1 (.ref l)
  repeat (any_goals (first | assumption | wp_step))
  let ob : Bool → Obj := fun led => { cls := .type "set", dict := none, data := .set #[] 0 (.fresh 0 0 led) }
  refine codeAny_mono (code_set_new_1 (.ref l) (E := E) (Q₁ := fun y s1 => ∃ led : Bool, y = .ref st.heap.objs.size ∧ s1 = { st with heap := st.heap.push (ob led) }) fun led => ⟨led, rfl, rfl⟩) fun r s1 hr => ?_
  cases r with
  | error e => exact hr
  | ok fl =>
    cases fl with
    | ret y =>
      obtain ⟨led, rfl, rfl⟩ := hr
      have hS : (st.heap.push (ob led)).get? st.heap.objs.size = some (ob led) := Heap.get?_push_size _ rfl
      have hT : Shared.TypeIs { st with heap := st.heap.push (ob led) } (.ref st.heap.objs.size) "set" := ⟨_, hS, rfl⟩
      have z4 := PySem.F.called_set.init.lookup; have z5 := PySem.F.called_set.init.bind (.ref st.heap.objs.size)
      repeat (any_goals (first | assumption | wp_step))
      refine codeAny_mono (codeAny_call_builtin (R := wants (fun r s2 => r = .none ∧ ∃ h2 tk, s2 = { st with heap := h2, toks := tk } ∧ h2.SetOf (PySem.strKind prog w) st.heap.objs.size (fun q => (xs.take us.size).any (· == q)) us.size ∧
        (∀ b o, b < st.heap.objs.size → st.heap.get? b = some o → h2.get? b = some o)) E) PySem.F.called_set.init.plain PySem.F.entry_set_init (check_set_init_1 hT ?_)) fun r2 s2 hr2 => ?_
      · obtain ⟨⟨oc, od, oa, os⟩, hol, hcl, nl, hdl⟩ := hl
        simp only at hcl hdl; subst hcl; subst hdl
        have hol2 : (st.heap.push (ob led)).get? l = some { cls := .type "tuple", dict := od, data := .seq us nl, slots := os } := Heap.get?_push_of_some _ hol
        have y1 := PySem.F.sub_tuple_set; have y2 := PySem.F.sub_tuple_frozenset; have y3 : (Value.type "tuple" == Value.type "dict") = false := by decide
        have hl1 : (st.heap.push (ob led)).IsTuple l us := ⟨_, hol2, rfl, nl, rfl⟩
        unfold Builtin.«set.__init__» noKeywords Builtin.Frozenset.updateFrom; generalize hPI : pyIter = PI
        wp_walk
        subst hPI
        refine wpAny_pyIter_tuple hl1 ?_; refine wpAny_bind (wpAny_runValue ?_)
        have lt : l < st.heap.objs.size := Heap.lt_size hol
        have q3 : A.in1.in1.in1.handled = none := by simp [quiet]
        have nI : l ≠ (st.heap.push (ob led)).objs.size := by rw [Heap.size_push]; exact Nat.ne_of_lt (Nat.lt_succ_of_lt lt)
        have nS : st.heap.objs.size ∉ [(st.heap.push (ob led)).objs.size, l] := by
          rw [Heap.size_push, List.mem_cons, List.mem_singleton, not_or]
          exact ⟨Nat.ne_of_lt (Nat.lt_succ_self _), Nat.ne_of_gt lt⟩
        have sz : xs.length = us.size := by rw [← StrsAre.len_eq hi, Array.length_toList]
        have val : ∀ (i : Nat) (v : Value), us[i]? = some v → ∃ t, v = .str (xs.getD i Str.empty) t := fun i v hv => SS.strs_at hi i v (by rw [Array.getElem?_toList]; exact hv)
        refine txt_loop ((Walks.tuple q3 _ l nI us).toS) st.heap.objs.size nS xs sz nd (by rw [← sz]; exact few) val (us.size - 0) 0 _ (by omega) (Nat.zero_le _) ⟨⟨_, Heap.get?_push_size _ rfl, rfl, rfl⟩, (hl1.push _)⟩ ?first ?last
        case first =>
          have hget : ((st.heap.push (ob led)).push { cls := .type "tuple_iterator", data := .fields #[.ref l, .int 0 0] }).get? st.heap.objs.size = some (ob led) := Heap.get?_push_of_some _ hS
          exact PyProof.Rows.SetOf_congr ((PyProof.Rows.setObjOf_fresh (knd := PySem.strKind prog w) led).setOf hget (by unfold scanBound; omega)) (fun _ => rfl) rfl
        case last =>
          intro s3 hm g3
          obtain ⟨h3, c3, d3, t3, o3⟩ := s3
          obtain rfl : c3 = st.gens := hm.gens; obtain rfl : d3 = st.drawn := hm.drawn; obtain rfl : o3 = st.os := hm.os
          show wpAny _ _ _ _ _ _; refine wpAny_pure ?_; show wpAny _ _ (ret Value.none) _ _ _
          refine wpAny_pure ⟨rfl, h3, t3, rfl, g3, fun b o hb e => hm.heap b o ?_ (Heap.get?_push_of_some _ (Heap.get?_push_of_some _ e))⟩
          rw [List.mem_cons, List.mem_singleton, Heap.size_push, not_or]
          exact ⟨Nat.ne_of_lt hb, Nat.ne_of_lt (Nat.lt_succ_of_lt hb)⟩
      · cases r2 with
        | error e => exact hr2
        | ok f2 =>
          cases f2 with
          | ret r =>
            obtain ⟨rfl, h2, tk, rfl, g2, k2⟩ := hr2
            repeat (any_goals (first | assumption | wp_step))
            exact h _ _ g2 k2
          | _ => exact hr2.elim
    | _ => exact hr.elim

end
end K66
namespace K66
open PySem PySem.Spec PyProof.Rows L2
section
variable {X : Cx}
def tLenTxt (K : PySem.W.Frag) (ta : TE) : TE := fun σ H Q => ta σ H fun x H1 => ∃ (l : Addr) (xs : List Str), x = .ref l ∧ (SqL K H1 l (xs.map V.str) ∨ SqT K H1 l (xs.map V.str)) ∧ xs.Nodup ∧ xs.length ≤ 4000 ∧ Q (.int (xs.length : Nat)) H1
theorem pe_lenTxt {a : Expr} {ta : TE} {p p2 q pos : Pos} (hc : X.calm = true) (hg : Gl X "len") (hm : X.mg "len" = none) (hg2 : Gl X "set") (hm2 : X.mg "set" = none) (ha : PE X a ta) (na : starEach [a] X.env = (false, eval a X.env) :: starEach [] X.env := by rfl) :
    PE X (.Call (.Name "len" p) [.Call (.Name "set" p2) [a] [] q] [] pos) (tLenTxt X.K ta) := by
  refine ⟨fun pins s σ H Q I h => Call_ (ld_blt I hg hm boot_len (PyProof.Rows.callWith_builtin1 (PyProof.Rows.args_cons ?_ rfl) rfl rfl))⟩
  refine Call_ (ld_blt I hg2 hm2 boot_set (PyProof.Rows.callWith_type1 (PyProof.Rows.args_cons (thn (ha.run pins s σ H _ I h) fun v s1 ⟨x, H1, I1, r1, q1⟩ => PyProof.Rows.args_nil ?_) na) na rfl))
  obtain ⟨l, xs, rfl, hq, nd, few, q1⟩ := q1
  cases r1
  have fin : ∀ (its : List Value), Vals (xs.map V.str) its → ∀ (h2 : Heap) (tk : Nat), h2.SetOf (PySem.strKind X.prog X.w) s1.heap.objs.size (fun q => (xs.take its.toArray.size).any (· == q)) its.toArray.size →
      (∀ b o, b < s1.heap.objs.size → s1.heap.get? b = some o → h2.get? b = some o) → wpAny (model X.prog X.w) X.A (spliced (backTo pos (starEach [] X.env))) (fun vs s2 => wpAny (model X.prog X.w) X.A (call (.builtin "len") (Value.ref s1.heap.objs.size :: vs)) (EP X pins σ Q) X.xe s2) X.xe { s1 with heap := h2, toks := tk } := fun its r h2 tk hS hk => by
    refine PyProof.Rows.args_nil ?_
    rw [show its.toArray.size = xs.length by rw [List.size_toArray, ← r.length, List.length_map]] at hS
    obtain ⟨o, es, ep, t, ho, hex, hd, _, _, _, hf, hn⟩ := hS
    have I2 : Inv X pins σ H1 { s1 with heap := h2, toks := tk } := I1.kept fun b o e => hk b o (Heap.lt_size e) e
    exact call_len_set ho hex hd hf (by rw [hn] <;> omega) ⟨.int (xs.length : Nat), H1, I2.tok _, ⟨_, by rw [hn]⟩, q1⟩
  rcases hq with hq | hq
  · obtain ⟨its, r, pl, hz⟩ := I1.list hq
    exact set_txt_list (I1.ok.hd hc) pl.isList (by simpa using strsAre_of r) nd few fun h2 tk hS hk => fin its r h2 tk hS hk
  · obtain ⟨its, r, pl, hz⟩ := I1.tuple hq
    exact set_txt_tuple (I1.ok.hd hc) pl (by simpa using strsAre_of r) nd few fun h2 tk hS hk => fin its r h2 tk hS hk
end
end K66
set_option Elab.async false
set_option linter.all false
set_option maxRecDepth 100000
set_option maxHeartbeats 4000000
namespace K66
open PySem PySem.Spec PyProof.Rows L2
/-! ### a dict comprehension whose keys are tuples -/
section
variable {X : Cx}
theorem t_dictSet {pz : List (Addr × Obj)} {σ : L2.St} {H : Hp} {st : Shared} {E : Value → Shared → Prop} {D b : Addr} {kvs : List (List Key × V)} {k : List Key} {v : V} {r : Value} {Q : Unit → Shared → Prop} (hu : X.A.units < cLine) (I : Inv X pz σ H st) (hD : H D = some (.dT kvs)) (hz : kvs.length < sizeLine)
    (hb : H b = some (.tup (k.map kV))) (rv : RelV v r) (h : ∀ s2, Inv X pz σ (upd H D (.dT (putK kvs k v))) s2 → Q () s2) : wpAny (model X.prog X.w) X.A (dictSet D (.ref b) r) Q E st := by
  obtain ⟨z, hd, xs, rel, dd⟩ := dt_of I.hok hD
  have few : xs.length ≤ sizeLine := by rw [← Paired.length rel]; exact z
  have few2 : (putK kvs k v).length ≤ sizeLine := by have := length_putK kvs k v; omega
  refine wpAny_dictSet_heap (hsz := few) hu (key_of I.hok hb) dd fun h2 dd2 hs => h _ ?_
  obtain ⟨q, es, ep, hq, g2, g3, g4, _, g5⟩ := dd2
  refine d_write I (by rw [hD]; exact True.intro) hs ⟨q, hq⟩ ⟨few2, hd, _, (rel.put k hb rv).keeps fun c ys ec => ?_, q, es, ep, hq, g2, g3, g4, g5⟩
  exact (upd_ne (ne_of ec hD (fun z => nomatch z))).trans ec
/-- {k: v for target in iter}; Pv: what stands ahead of turn i -/
def tDcT (wi : TI) (g : TG) (tk tv : TE) (vs : List Nat) : TE := fun σ H Q => wi σ H fun J H1 => ∃ (n : Nat) (G : Hp → Prop) (Y : Nat → Hp → V → Hp → Prop), Walk J n G Y ∧ ∀ D, H1 D = none → ∃ Pv : Nat → Hp → Prop, Pv 0 (upd H1 D (.dT [])) ∧ (∀ i H2, i ≤ n → Pv i H2 → G H2) ∧
  (∀ i x H2 H3, i < n → Pv i H2 → Y i H2 x H3 → g x (wipe σ vs) H3 fun σ2 H4 => wipe σ2 vs = wipe σ vs ∧ tk σ2 H4 fun y H5 => tv σ2 H5 fun z H6 => ∃ (kvs : List (List Key × V)) (k : List Key) (b : Addr), y = .ref b ∧ H6 b = some (.tup (k.map kV)) ∧ H6 D = some (.dT kvs) ∧ kvs.length < sizeLine ∧ Pv (i + 1) (upd H6 D (.dT (putK kvs k z)))) ∧
  ∀ H2, Pv n H2 → Q (.ref D) H2
theorem pe_dcT {kx vx tg iter : Expr} {scope : Scope} {own : List (Str × Nat)} {pos : Pos} {wi : TI} {g : TG} {tk tv : TE} (hu : X.A.units < cLine) (hc : X.calm = true) (nd : X.N.Nodup) (hi : PI X tg iter wi) (ok : BlkOk X.N X.env.scope scope own)
    (hg : ∀ (s : Shared) (H : Hp) (C : Addr) (cl : List (Str × Addr)) (fp : List Addr), PG (X.blk s H scope (compEnvC scope cl C X.env) fp) tg g) (hk : ∀ (s : Shared) (H : Hp) (C : Addr) (cl : List (Str × Addr)) (fp : List Addr), PE (X.blk s H scope (compEnvC scope cl C X.env) fp) kx tk)
    (hv : ∀ (s : Shared) (H : Hp) (C : Addr) (cl : List (Str × Addr)) (fp : List Addr), PE (X.blk s H scope (compEnvC scope cl C X.env) fp) vx tv) (hs : ∀ x, foldedSetIterable iter X.env x = pure x) : PE X (.DictComp kx vx [⟨tg, iter, [], 0⟩] scope pos) (tDcT wi g tk tv (own.map (·.2))) := by
  refine ⟨fun pz s σ H Q I hq => ?_⟩
  rw [arm_eval_DictComp]
  have free : ∀ y ∈ scope.names, y.2 = .free → ∃ c, X.env.cells.lookup y.1 = some c := fun y hy e => (ok.free y hy e).elim (fun k => I.ok.has _ (.inl k)) fun k => I.ok.has _ (.inr k)
  refine wpAny_comprehension_free (use := none) rfl hs (closure_ok free) ok.kind (fun y hy e => by rw [ok.uniq y hy, e]) (thn (hi.run pz s σ H _ I hq) fun xv s1 hx => thn hx fun itv s2 h2 => ?_)
  obtain ⟨it, fp, tn, J, H2, e, I2, T, st2, f2, n0, G, Y, wk, q⟩ := h2
  subst e
  refine wpAny_newObj_type (newEnv_comp ?_)
  generalize hD : s2.heap.objs.size = D
  have nD : H2 D = none := I2.hok.fresh (Nat.le_of_eq hD)
  obtain ⟨Pv, p0, pl, pt, pd⟩ := q D nD
  generalize hs3 : ({ s2 with heap := s2.heap.push { cls := .type "dict", data := .dict #[] } } : Shared) = s3
  have h3 : s3.heap = s2.heap.push { cls := .type "dict", data := .dict #[] } := by rw [← hs3]
  have I3 : Inv X pz σ (upd H2 D (.dT [])) s3 := by
    rw [← hs3]
    refine I2.laid (t' := s2.toks) (fun b o e => Heap.get?_push_of_some _ e) (Nat.le_of_eq hD) ?_
    subst hD
    exact dt_empty s2.heap I2.big
  have old : ∀ b ∈ fp, b < s2.heap.objs.size := fun b hb => let ⟨o, e, _⟩ := T.obj _ _ st2 b hb; Heap.lt_size e
  have f3 : ∀ b ∈ fp, FpOk X pz (upd H2 D (.dT [])) b ∧ b < s3.heap.objs.size := fun b hb => by
    refine ⟨⟨(upd_ne (fun z => ?_)).trans (f2 b hb).1, (f2 b hb).2⟩, by rw [h3, Heap.size_push]; exact Nat.lt_succ_of_lt (old b hb)⟩
    exact Nat.ne_of_lt (old b hb) (z.trans hD.symm)
  have st3 : tn 0 s3.heap := T.keep _ _ _ st2 fun b _ o e => by rw [h3]; exact Heap.get?_push_of_some _ e
  have I4 := block_start I3 ok nd f3
  have g1 := hg s3 (upd H2 D (.dT [])) s3.heap.objs.size (cellsFrom (s3.heap.objs.size + 1) scope.names (cloFrom X.env.cells scope.names [])) fp
  have g2 := hk s3 (upd H2 D (.dT [])) s3.heap.objs.size (cellsFrom (s3.heap.objs.size + 1) scope.names (cloFrom X.env.cells scope.names [])) fp
  have g3 := hv s3 (upd H2 D (.dT [])) s3.heap.objs.size (cellsFrom (s3.heap.objs.size + 1) scope.names (cloFrom X.env.cells scope.names [])) fp
  show codeAny _ _ (.compStart (.DictComp kx vx [⟨tg, iter, [], 0⟩] scope pos) 0 (.ref it) (.ref D) (compEnvC scope (cellsFrom (s3.heap.objs.size + 1) scope.names (cloFrom X.env.cells scope.names [])) s3.heap.objs.size X.env)) (compPost (model X.prog X.w) X.A X.xe none (EP X pz σ Q) (.ref D) s3.heap.objs.size) { s3 with heap := pushCells (s3.heap.push { cls := .type "dict", data := .dict #[] }) scope.names }
  generalize hce : compEnvC scope (cellsFrom (s3.heap.objs.size + 1) scope.names (cloFrom X.env.cells scope.names [])) s3.heap.objs.size X.env = ce at I4 g1 g2 g3 ⊢
  have cL : ce.locals = s3.heap.objs.size := by rw [← hce]; rfl
  generalize hH3 : upd H2 D (.dT []) = H3 at I3 I4 g1 g2 g3 p0 f3
  generalize hs4 : ({ s3 with heap := pushCells (s3.heap.push { cls := .type "dict", data := .dict #[] }) scope.names } : Shared) = s4 at I4 ⊢
  have st4 : tn 0 s4.heap := T.keep _ _ _ st3 fun b _ o e => by rw [← hs4]; exact pushCells_keeps _ _ _ _ (Heap.get?_push_of_some _ e)
  have fpo : ∀ {σ2 : L2.St} {H6 : Hp} {s6 : Shared}, Inv (X.blk s3 H3 scope ce fp) [] σ2 H6 s6 → (∀ b ∈ fp, H6 b = none) → ∀ b ∈ fp, FpOk (X.blk s3 H3 scope ce fp) [] H6 b := fun {σ2 H6 s6} J hn b hb =>
    ⟨hn b hb, (J.ok.exf b hb).1, J.ok.exfs b hb, .inl hb, fun x c e => (J.ok.exf b hb).2 x c e, fun p hp => absurd (show p ∈ ([] : List (Addr × Obj)) ++ [] from hp) (by simp)⟩
  have loop : codeAny (model X.prog X.w) X.A (.compLoop (.DictComp kx vx [⟨tg, iter, [], 0⟩] scope pos) 0 (.ref it) (.ref D) ce) (compPost (model X.prog X.w) X.A X.xe none (EP X pz σ Q) (.ref D) s3.heap.objs.size) s4 := by
    refine compLoop_anyD (fun n s5 => ∃ i H5, n = n0 - i ∧ i ≤ n0 ∧ Inv (X.blk s3 H3 scope ce fp) [] (wipe σ (own.map (·.2))) H5 s5 ∧ tn i s5.heap ∧ (∀ b ∈ fp, H5 b = none) ∧ Pv i H5) ?_ n0 ⟨0, H3, rfl, Nat.zero_le _, I4, st4, fun b hb => (f3 b hb).1.1, p0⟩
    rintro n s5 ⟨i, H5, rfl, le, I5, st5, n5, p5⟩
    have sq := pl i H5 le p5
    by_cases lt : i < n0
    · have ti := T.item (X.blk s3 H3 scope ce fp) rfl rfl rfl hc i [] s5 _ H5 (fun _ _ => False) I5 (fpo I5 n5) st5 (wk.goes i H5 lt sq)
      refine thnF ti fun r s6 ⟨u, hr, h6⟩ => ?_
      subst hr
      refine thnF h6 fun _ s7 ⟨x, H7, I7, r7, y7, st7, n7⟩ => ?_
      have I8 := I7.pinned (fpo I7 n7) (T.obj _ _ st7)
      refine thnF (g1.run _ s7 _ H7 x u _ I8 r7 (pt i x H5 H7 lt p5 (wk.yields i H5 x H7 lt sq y7))) fun _ s8 ⟨σ8, H8, I9, w8, q8⟩ => ?_
      refine wpAny_pure ?_
      simp only [if_true]
      refine thnF (g2.run _ s8 σ8 H8 _ I9 q8) fun z s10 ⟨yk, H10, I10, r10, q10⟩ => ?_
      refine thnF (g3.run _ s10 σ8 H10 _ I10 q10) fun z2 s11 ⟨yv, H11, I11, r11, kvs, k, b, ek, hb, hD11, few, nx⟩ => ?_
      subst ek
      obtain rfl : z = Value.ref b := r10
      refine t_dictSet (X := X.blk s3 H3 scope ce fp) hu I11 hD11 few hb r11 fun s12 I12 => ?_
      have pin : ∀ b ∈ fp, ∀ o, s7.heap.get? b = some o → s12.heap.get? b = some o ∧ (upd H11 D (.dT (putK kvs k yv))) b = none := fun b hb o e => let z := I12.pin (b, o) (List.mem_append_right _ (List.mem_append_right _ (mem_pinsAt hb e))); ⟨z.1, z.2.1⟩
      refine ⟨n0 - (i + 1), by omega, i + 1, _, rfl, lt, (I12.unpinned (pins := [])).weak (by rw [← w8, wipe_length]) (fun j v e => ?_), T.keep _ _ _ st7 fun b hb o e => (pin b hb o e).1, fun b hb => ?_, nx⟩
      · rw [← w8] at e
        exact (wipe_some e).1
      · obtain ⟨o, e, _⟩ := T.obj _ _ st7 b hb
        exact (pin b hb o e).2
    · obtain rfl : i = n0 := by omega
      have td := T.done (X.blk s3 H3 scope ce fp) rfl rfl rfl hc i [] s5 _ H5 (fun _ _ => False) I5 (fpo I5 n5) st5 (wk.stops H5 sq)
      refine thnF td fun r s6 ⟨hr, I6⟩ => ?_
      subst hr
      have I7 : Inv X pz σ H5 s6 := I3.call' (ch := fp) I6.os I6.base I6.hok I6.bare fun b hb => ⟨(f3 b hb).1.2.2.2.1, (f3 b hb).1.2.1, (f3 b hb).1.2.2.2.2.1, (f3 b hb).1.2.2.2.2.2⟩
      have nC : H5 s3.heap.objs.size = none := by rw [← cL]; exact I6.free
      obtain ⟨m, hn, _⟩ := I6.loc
      have hn : s6.heap.Ns ce.locals m := hn
      rw [cL] at hn
      obtain ⟨f0, f1, f4, f5, f6, f7⟩ := I3.fpOk (Nat.le_refl _) nC
      exact ⟨m, hn, fun h8 sb => ⟨.ref D, H5, I7.turned (t' := s6.toks) (fun b o hb e => (sb.2 b hb).trans e) f0 f1 f5 f6 f7, rfl, pd H5 p5⟩⟩
  exact codeAny_compStart_dict loop (T.self X.A 0 _ _ _ st4 loop)
end
end K66
set_option Elab.async false
set_option linter.all false
set_option maxRecDepth 100000
set_option maxHeartbeats 4000000
namespace K66
open PySem PySem.Spec PyProof.Rows L2
/-! ### what a def is known by -/
structure Cal (P : Program) (w : World) (K : PySem.W.Frag) (mg : Str → Option Value) (base : Heap) (CX : CXT) (k : Nat) (x : Str) (ps : List Str) (sp : Sp) : Prop where
  ex : ∃ (f : Addr) (fd : FuncData), FnOk P w K mg base CX k f fd ps sp ∧ mg x = some (.ref f) ∧ PySem.W.keepIn K (.ref f) = true ∧ Binds K fd ps []
/-- the def of fnK named x as it stands -/
structure Fd (K : PySem.W.Frag) (mg : Str → Option Value) (x : Str) (i : Nat) (f : Addr) (fd : FuncData) : Prop where
  fu : FunD K x x (defArgs (topS i)) (defBody (topS i)) (defScope (topS i)) [] [] f fd
  gl : mg x = some (.ref f)
structure Bl (mg : Str → Option Value) : Prop where
  fr : ∀ x ∈ freeK, mg x = none
theorem Bl.no {mg : Str → Option Value} (B : Bl mg) (x : Str) (h : x ∈ freeK := by decide +kernel) : mg x = none := B.fr x h
section
variable {P : Program} {w : World} {K : PySem.W.Frag} {mg : Str → Option Value} {base : Heap} {CX : CXT} {k i : Nat} {x : Str} {ps : List Str} {sp : Sp} {f : Addr} {fd : FuncData}
theorem Fd.cal (F : Fd K mg x i f fd) (G : FnOk P w K mg base CX k f fd ps sp)
    (h : ∀ (kV doc pm : Value) (an : Option Addr) (cdv ct : Value) (us : List Value), us.length = ps.length → bindArgs (PySem.W.fnOf x x (defArgs (topS i)) (defBody (topS i)) (defScope (topS i)) .none kV doc pm an cdv ct) ⟨us, []⟩ = pure (ps.zip us)) : Cal P w K mg base CX k x ps sp :=
  ⟨f, fd, G, F.gl, F.fu.kp, F.fu.bindsN h⟩
end
section
variable {X : Cx} {k : Nat} {x : Str} {ps : List Str} {sp : Sp} {t : TA} {p pos : Pos} {e : Expr} {es : List Expr}
theorem pe_cal (C : Cal X.prog X.w X.K X.mg X.base CX0 k x ps sp) (hr : Room k X.A) (ha : PA X (e :: es) t) (hg : Gl X x := by rfl) (hdb : (x == ("__debug__" : Str)) = false := by decide)
    (he : starEach (e :: es) X.env = (false, eval e X.env) :: starEach es X.env := by rfl) (hpl : (backTo pos (starEach es X.env)).any (·.1) = false := by rfl) : PE X (.Call (.Name x p) (e :: es) [] pos) (tCall sp [] E0 t) := by
  obtain ⟨f, fd, G, gl, kp, b⟩ := C.ex
  exact pe_call (pos := pos) G hr hg gl kp b .nil pass0 ha hdb he hpl
end
/-! ### a list or a tuple -/
def SqA (K : PySem.W.Frag) (H : Hp) (a : Addr) (xs : List V) : Prop := SqL K H a xs ∨ SqT K H a xs
theorem sqT_same {K : PySem.W.Frag} {H H2 : Hp} {a : Addr} {xs : List V} (e : Same H H2) (h : SqT K H a xs) : SqT K H2 a xs :=
  h.elim (fun h => .inl (h.elim (fun h => .inl (e _ _ h)) fun ⟨o, h⟩ => .inr ⟨o, e _ _ h⟩)) fun h => .inr h
theorem SqA.same {K : PySem.W.Frag} {H H2 : Hp} {a : Addr} {xs : List V} (h : SqA K H a xs) (e : Same H H2) : SqA K H2 a xs := h.elim (fun h => .inl (e.seq h)) fun h => .inr (sqT_same e h)
theorem same_new {H : Hp} {p : Addr} {o : HO} (h : H p = none) : Same H (upd H p o) := fun b x e => (upd_ne (ne_of_none e h)).trans e
/-- each of acc is a tuple of the values told -/
def Tups (H : Hp) (xss : List (List V)) (acc : List V) : Prop := Paired (fun xs v => ∃ t, v = .ref t ∧ H t = some (.tup xs)) xss acc
theorem Tups.mono {H H2 : Hp} {xss : List (List V)} {acc : List V} (h : Tups H xss acc) (e : ∀ t xs, H t = some (.tup xs) → H2 t = some (.tup xs)) : Tups H2 xss acc := L2.Paired.mapP h fun _ _ ⟨t, e1, e2⟩ => ⟨t, e1, e _ _ e2⟩
theorem Tups.snoc {H : Hp} {xss : List (List V)} {acc : List V} {xs : List V} {t : Addr} (h : Tups H xss acc) (e : H t = some (.tup xs)) : Tups H (xss ++ [xs]) (acc ++ [.ref t]) := Paired.snoc h ⟨t, rfl, e⟩
theorem Tups.same {H H2 : Hp} {xss : List (List V)} {acc : List V} (h : Tups H xss acc) (e : Same H H2) : Tups H2 xss acc := h.mono fun _ _ q => e _ _ q
theorem paired_at {α β : Type} {F : α → β → Prop} : ∀ {l1 : List α} {l2 : List β}, Paired F l1 l2 → ∀ (i : Nat) (b : β), l2[i]? = some b → ∃ a, l1[i]? = some a ∧ F a b
  | _, _, .nil, i, b, h => by simp at h
  | _, _, .cons (a := a) q t, 0, b, h => ⟨a, rfl, by simp at h; rw [← h]; exact q⟩
  | _, _, .cons q t, i + 1, b, h => by
    obtain ⟨a, h1, h2⟩ := paired_at t i b (by simpa using h)
    exact ⟨a, by simpa using h1, h2⟩
theorem paired_le {α β : Type} {F : α → β → Prop} : ∀ {l1 : List α} {l2 : List β}, Paired F l1 l2 → ∀ (i : Nat) (a : α), l1[i]? = some a → ∃ b, l2[i]? = some b ∧ F a b
  | _, _, .nil, i, b, h => by simp at h
  | _, _, .cons (b := b) q t, 0, a, h => ⟨b, rfl, by simp at h; rw [← h]; exact q⟩
  | _, _, .cons q t, i + 1, a, h => by
    obtain ⟨b, h1, h2⟩ := paired_le t i a (by simpa using h)
    exact ⟨b, by simpa using h1, h2⟩
/-! ### relations of heaps along a comprehension -/
structure Rl (R : Hp → Hp → Prop) : Prop where
  tr : ∀ {a b c}, R a b → R b c → R a c
  sm : ∀ {a b c}, R a b → Same b c → R a c
  kp : ∀ {a b} {t : Addr} {o : HO}, R a b → a t = some o → (∀ kvs, o ≠ .dK kvs) → (∀ ps, o ≠ .tbl ps) → b t = some o
  nw : ∀ {a b} {D : Addr} {xs ys : List V}, R a b → a D = none → b D = some (.lst xs) → R a (upd b D (.lst ys))
theorem rl_same : Rl Same where
  tr := fun h g => h.trans g
  sm := fun h g => h.trans g
  kp := fun h e _ _ => h _ _ e
  nw := fun h n e b o q => (upd_ne (ne_of_none q n)).trans (h b o q)
section
variable {R : Hp → Hp → Prop} {J : It} {n : Nat} {G : Hp → Prop} {Y : Nat → Hp → V → Hp → Prop}
theorem lc_gen (hR : Rl R) (w : Walk J n G Y) {g : TG} {tt : TT} {te : TE} {vs : List Nat} {σ : L2.St} {H1 : Hp} {D : Addr} {Qd : Hp → Prop} (I : Nat → Hp → List V → Prop) (few : n < sizeLine) (nD : H1 D = none) (r1 : R H1 (upd H1 D (.lst []))) (i0 : I 0 (upd H1 D (.lst [])) [])
    (len : ∀ i H acc, I i H acc → acc.length ≤ i) (put : ∀ i H acc xs ys, H D = some (.lst xs) → I i H acc → I i (upd H D (.lst ys)) acc) (hG : ∀ H, R H1 H → G H)
    (hs : ∀ i x H H2 acc (Kt : V → Hp → Prop) (Kf : Hp → Prop), i < n → R H1 H → H D = some (.lst acc) → I i H acc → Y i H x H2 → (∀ v H4, R H H4 → I (i + 1) H4 (acc ++ [v]) → Kt v H4) → (∀ H3, R H H3 → I (i + 1) H3 acc → Kf H3) →
      g x (wipe σ vs) H2 fun σ2 H3 => wipe σ2 vs = wipe σ vs ∧ tt σ2 H3 fun b H4 => if b = true then te σ2 H4 Kt else Kf H4)
    (hd : ∀ H acc, R H1 H → H D = some (.lst acc) → I n H acc → Qd H) :
    ∃ W : Nat → Nat → Hp → Prop, (∃ m, W 0 m (upd H1 D (.lst []))) ∧ ∀ i m H, W i m H →
      (J.stop i H ∧ Qd H) ∨ (J.go i H ∧ ∃ Nx : Hp → Prop, (∀ H', Nx H' → ∃ m', m' < m ∧ W (i + 1) m' H') ∧ ∀ x H', J.yld i H x H' → g x (wipe σ vs) H' fun σ2 H2 => wipe σ2 vs = wipe σ vs ∧ tt σ2 H2 fun b H3 =>
        if b = true then te σ2 H3 fun y H4 => ∃ acc, H4 D = some (.lst acc) ∧ acc.length < sizeLine ∧ Nx (upd H4 D (.lst (acc ++ [y]))) else Nx H3) := by
  have nl : ∀ {xs : List V}, (∀ kvs, HO.lst xs ≠ .dK kvs) ∧ (∀ ps, HO.lst xs ≠ .tbl ps) := fun {xs} => ⟨(fun _ z => nomatch z), (fun _ z => nomatch z)⟩
  refine lc_it w (fun i H => R H1 H ∧ ∃ acc, H D = some (.lst acc) ∧ I i H acc) ⟨r1, [], upd_same, i0⟩ (fun i H _ h => hG H h.1) (fun i x H H2 hi h y => ?_) fun H h => ?_
  · obtain ⟨r, acc, e, q⟩ := h
    refine hs i x H H2 acc _ _ hi r e q y (fun v H4 r4 q4 => ?_) fun H3 r3 q3 => ?_
    · have e4 := hR.kp r4 e nl.1 nl.2
      refine ⟨acc, e4, ?_, hR.nw (hR.tr r r4) nD e4, _, upd_same, put _ _ _ _ _ e4 q4⟩
      have := len _ _ _ q
      omega
    · exact ⟨hR.tr r r3, acc, hR.kp r3 e nl.1 nl.2, q3⟩
  · obtain ⟨r, acc, e, q⟩ := h
    exact hd H acc r e q
/-- what is kept is told ahead: the items of L that keep takes, each by f -/
theorem lc_map {α : Type} (hR : Rl R) {L : List α} {n : Nat} (w : Walk J n G Y) (hn : n = L.length) {g : TG} {tt : TT} {te : TE} {vs : List Nat} {σ : L2.St} {H1 : Hp} {D : Addr} {Qd : Hp → Prop} (keep : α → Bool) (f : α → V) (few : n < sizeLine) (nD : H1 D = none) (r1 : R H1 (upd H1 D (.lst []))) (hG : ∀ H, R H1 H → G H)
    (hs : ∀ i a x H H2 (Kt : V → Hp → Prop) (Kf : Hp → Prop), L[i]? = some a → R H1 H → Y i H x H2 → (keep a = true → ∀ H4, R H H4 → Kt (f a) H4) → (keep a = false → ∀ H3, R H H3 → Kf H3) →
      g x (wipe σ vs) H2 fun σ2 H3 => wipe σ2 vs = wipe σ vs ∧ tt σ2 H3 fun b H4 => if b = true then te σ2 H4 Kt else Kf H4)
    (hd : ∀ H, R H1 H → H D = some (.lst ((L.filter keep).map f)) → Qd H) :
    ∃ W : Nat → Nat → Hp → Prop, (∃ m, W 0 m (upd H1 D (.lst []))) ∧ ∀ i m H, W i m H →
      (J.stop i H ∧ Qd H) ∨ (J.go i H ∧ ∃ Nx : Hp → Prop, (∀ H', Nx H' → ∃ m', m' < m ∧ W (i + 1) m' H') ∧ ∀ x H', J.yld i H x H' → g x (wipe σ vs) H' fun σ2 H2 => wipe σ2 vs = wipe σ vs ∧ tt σ2 H2 fun b H3 =>
        if b = true then te σ2 H3 fun y H4 => ∃ acc, H4 D = some (.lst acc) ∧ acc.length < sizeLine ∧ Nx (upd H4 D (.lst (acc ++ [y]))) else Nx H3) := by
  subst hn
  refine lc_gen hR w (fun i _ acc => acc = ((L.take i).filter keep).map f) few nD r1 rfl (fun i H acc e => ?_) (fun i H acc xs ys _ e => e) hG (fun i x H H2 acc Kt Kf hi r e q y kt kf => ?_) fun H acc r e q => ?_
  · rw [e, List.length_map]
    exact Nat.le_trans (List.length_filter_le _ _) (List.length_take_le _ _)
  · have el : L[i]? = some L[i] := List.getElem?_eq_getElem hi
    refine hs i L[i] x H H2 Kt Kf el r y (fun k H4 r4 => kt _ _ r4 ?_) fun k H3 r3 => kf _ r3 ?_
    · rw [q, List.take_add_one, el, List.filter_append, List.map_append]
      simp [k]
    · rw [q, List.take_add_one, el, List.filter_append, List.map_append]
      simp [k]
  · rw [q, List.take_length] at e
    exact hd H r e
/-- all([..]), all of them True -/
theorem lc_true (hR : Rl R) (w : Walk J n G Y) {g : TG} {te : TE} {vs : List Nat} {σ : L2.St} {H1 : Hp} {D : Addr} {Qd : Hp → Prop} (few : n < sizeLine) (nD : H1 D = none) (r1 : R H1 (upd H1 D (.lst []))) (hG : ∀ H, R H1 H → G H)
    (hs : ∀ i x H H2 (Kt : V → Hp → Prop), i < n → R H1 H → Y i H x H2 → (∀ H4, R H H4 → Kt (.bl true) H4) → g x (wipe σ vs) H2 fun σ2 H3 => wipe σ2 vs = wipe σ vs ∧ te σ2 H3 Kt)
    (hd : ∀ H, R H1 H → H D = some (.lst ((List.replicate n true).map V.bl)) → Qd H) :
    ∃ W : Nat → Nat → Hp → Prop, (∃ m, W 0 m (upd H1 D (.lst []))) ∧ ∀ i m H, W i m H →
      (J.stop i H ∧ Qd H) ∨ (J.go i H ∧ ∃ Nx : Hp → Prop, (∀ H', Nx H' → ∃ m', m' < m ∧ W (i + 1) m' H') ∧ ∀ x H', J.yld i H x H' → g x (wipe σ vs) H' fun σ2 H2 => wipe σ2 vs = wipe σ vs ∧ tYes σ2 H2 fun b H3 =>
        if b = true then te σ2 H3 fun y H4 => ∃ acc, H4 D = some (.lst acc) ∧ acc.length < sizeLine ∧ Nx (upd H4 D (.lst (acc ++ [y]))) else Nx H3) := by
  refine lc_gen hR w (fun i _ acc => acc = (List.replicate i true).map V.bl) few nD r1 rfl (fun i H acc e => ?_) (fun i H acc xs ys _ e => e) hG (fun i x H H2 acc Kt Kf hi r e q y kt kf => ?_) fun H acc r e q => ?_
  · rw [e, List.length_map, List.length_replicate]
    exact Nat.le_refl _
  · refine hs i x H H2 Kt hi r y fun H4 r4 => kt _ _ r4 ?_
    rw [q, List.replicate_succ', List.map_append]
    rfl
  · rw [q] at e
    exact hd H r e
theorem all_replicate (n : Nat) : (List.replicate n true).all id = true := by
  induction n with
  | zero => rfl
  | succ n ih => rw [List.replicate_succ, List.all_cons, ih]; rfl
end
/-! ### a walk over a list or a tuple -/
section
variable {X : Cx} {tg : Expr}
def iSeq (K : PySem.W.Frag) (tl : TE) : TI := fun σ H R => tl σ H fun x H1 => ∃ (a : Addr) (xs : List V), x = .ref a ∧ SqA K H1 a xs ∧ ∀ (J : It) (G : Hp → Prop), (∀ H2, Same H1 H2 → G H2) → Walk J xs.length G (YAt xs) → R J H1
theorem pi_seq {l : Expr} {tl : TE} (hl : PE X l tl) : PI X tg l (iSeq X.K tl) := by
  refine ⟨fun pz st σ H R I h => thn (hl.run pz st σ H _ I h) fun v s1 ⟨x, H1, I1, r1, q1⟩ => ?_⟩
  obtain ⟨a, xs, e, hq, q⟩ := q1
  subst e
  obtain rfl : v = Value.ref a := r1
  have I2 : ∀ o : Obj, Inv X pz σ H1 { s1 with heap := s1.heap.push o } := fun o => I1.kept (t' := s1.toks) fun b u e => Heap.get?_push_of_some _ e
  have fp : ∀ b ∈ [s1.heap.objs.size], FpOk X pz H1 b := fun b hb => by
    rw [List.mem_singleton.mp hb]
    exact I1.fpOk (Nat.le_refl _) (I1.hok.fresh (Nat.le_refl _))
  rcases hq with hq | hq
  · obtain ⟨its, rv, p, hz⟩ := I1.list hq
    exact wpAny_pyIter_list p.isList ⟨s1.heap.objs.size, [s1.heap.objs.size], _, _, H1, rfl, I2 _, turn_list a _, ⟨_, Heap.get?_push_size _ rfl, rfl, rfl⟩, fp, q (Itl X.K a) _ (fun H2 e => e.seq hq) walk_list⟩
  · obtain ⟨its, rv, p, hz⟩ := I1.tuple hq
    exact wpAny_pyIter_tuple (show s1.heap.IsTuple a its.toArray from p) ⟨s1.heap.objs.size, [s1.heap.objs.size], _, _, H1, rfl, I2 _, turn_tuple a _, ⟨_, Heap.get?_push_size _ rfl, rfl, rfl⟩, fp, q (Itt X.K a) _ (fun H2 e => sqT_same e hq) walk_tup⟩
end
theorem tyx_of {K : PySem.W.Frag} {H : Hp} {a : Addr} {xs : List V} (h : SqA K H a xs) : TyX K H (.ref a) (.type "list") ∨ TyX K H (.ref a) (.type "tuple") := by
  rcases h with ((h | ⟨o, h⟩) | ⟨o, its, n, h, c, _⟩) | ((h | ⟨o, h⟩) | ⟨o, its, n, h, c, _⟩)
  · exact .inl (.base (.lst h))
  · exact .inl (.base (.frz h))
  · exact .inl (.kList h c)
  · exact .inr (.base (.tup h))
  · exact .inr (.fTuple h)
  · exact .inr (.kTuple h c)
theorem bl_dec {Q : VK} {H : Hp} {c : Prop} [Decidable c] {b : Bool} (e : decide c = b) (q : Q (.bl b) H) : Q (.bl (decide c)) H := by
  rw [e]
  exact q
theorem inV_str (z : Str) (ns : List Str) : inV (.str z) (ns.map V.str) = decide (z ∈ ns) := by
  rw [Bool.eq_iff_iff, decide_eq_true_eq]
  unfold inV
  rw [List.any_eq_true]
  refine ⟨fun ⟨x, hx, e⟩ => ?_, fun h => ⟨.str z, List.mem_map_of_mem h, by show (z == z) = true; simp⟩⟩
  obtain ⟨y, hy, rfl⟩ := List.mem_map.mp hx
  have e : (y == z) = true := e
  rw [← eq_of_beq e]
  exact hy
theorem flat_strs (ns : List Str) : (ns.map V.str).all flatV = true := by
  rw [List.all_eq_true]
  intro x hx
  obtain ⟨y, _, rfl⟩ := List.mem_map.mp hx
  rfl
theorem at_map {α : Type} {f : α → V} {xs : List α} {i : Nat} {v : V} (h : (xs.map f)[i]? = some v) : ∃ a, xs[i]? = some a ∧ v = f a ∧ a ∈ xs := by
  rw [List.getElem?_map] at h
  obtain ⟨a, e1, e2⟩ := Option.map_eq_some_iff.mp h
  exact ⟨a, e1, e2.symm, List.mem_of_getElem? e1⟩
end K66
set_option Elab.async false
set_option linter.all false
set_option maxRecDepth 100000
set_option maxHeartbeats 4000000
namespace K66
open PySem PySem.Spec PyProof.Rows L2
abbrev lett : Str := "abcdefghijklmnopqrstuvwxyz"
structure Cs (mg : Str → Option Value) : Prop where
  lett : ∃ t, mg "LETTERS" = some (.str lett t)
  long : ∃ t, mg "LONGEST" = some (.int 8 t)
  least : ∃ t, mg "LEAST_NAMES" = some (.int 2 t)
  most : ∃ t, mg "MOST_NAMES" = some (.int 10 t)
  sum : ∃ t, mg "MOST_SUM" = some (.int 100 t)
section
variable {X : Cx} {x : Str} {pos : Pos}
theorem pe_cint {n : Int} (h : ∃ t, X.mg x = some (.int n t)) (hg : Gl X x := by rfl) (hd : (x == ("__debug__" : Str)) = false := by decide) : PE X (.Name x pos) (tC (.int n)) := by
  obtain ⟨t, e⟩ := h
  exact pe_glob hg e ⟨t, rfl⟩ hd
theorem pe_cstr {z : Str} (h : ∃ t, X.mg x = some (.str z t)) (hg : Gl X x := by rfl) (hd : (x == ("__debug__" : Str)) = false := by decide) : PE X (.Name x pos) (tC (.str z)) := by
  obtain ⟨t, e⟩ := h
  exact pe_glob hg e ⟨t, rfl⟩ hd
end
structure GoodN (z : Str) : Prop where
  lo : 1 ≤ z.length
  hi : z.length ≤ 8
  let_ : ∀ c ∈ z.cps.toList, c ∈ lett.cps.toList
section
variable {P : Program} {w : World} {K : PySem.W.Frag} {mg : Str → Option Value} {base : Heap} {f : Addr} {fd : FuncData}
/-! ### is_name -/
theorem scName : FnScope ["thing", "sign"] ["thing"] (defScope (topS 6)) := ⟨rfl, rfl, rfl, by decide +kernel, rfl, by decide +kernel, by decide +kernel⟩
def spName : Sp := fun vs H Q _ => ∃ z, vs = [.str z] ∧ GoodN z ∧ ∀ H2, Same H H2 → Q (.bl true) H2
theorem ok_name (F : Fd K mg "is_name" 6 f fd) (B : Bl mg) (C : Cs mg) : Cal P w K mg base CX0 1 "is_name" ["thing"] spName := by
  refine F.cal ?_ (fun _ _ _ _ _ _ us hl => match us, hl with | [_], _ => rfl)
  refine F.fu.ok scName (fun vs H Q E h => by obtain ⟨z, rfl, _⟩ := h; rfl) (fun cdv A outer s H vs Q E hr h => ⟨_, PSs.nox (pss_one (ps_ret (pe_and (pe_callB call_isi (by rfl) (B.no "isinstance") (by decide +kernel) (pa_cons (pv 0) (pa_cons (pe_bltn (v := .ty "str") (by rfl) (B.no "str") (by decide +kernel) rfl) pa_nil)))
    (pe_and (pe_chain op_le op_le pe_int (pe_callB call_len (by rfl) (B.no "len") (by decide +kernel) (pa_cons (pv 0) pa_nil)) (pe_cint C.long))
      (pe_one (pe_callB (cr_all rfl) (by rfl) (B.no "all") (by decide +kernel) (pa_cons (pe_lc (own := [("sign", 1)]) (g := gName 1) (tt := tYes) rfl scName.nd (pi_str (pv 0)) (blkOk_by (own := [("sign", 1)]) (N := ["thing", "sign"]) (sc := defScope (topS 6)) (by decide +kernel))
        (fun _ _ _ _ _ => pg_name (i := 1) scName.nd rfl (Or.inl rfl)) (fun _ _ _ _ _ => pts_nil) (fun _ _ _ _ _ => pe_cmpR op_in_sign (pv 1) (pe_cstr C.lett) (by rfl))) pa_nil))))))), ?_⟩)
  obtain ⟨z, rfl, g, q⟩ := h
  refine ⟨_, rfl, _, _, .type "str", .type "str", true, rfl, .ty "str", .base (.str z), kit_ty (by decide +kernel), true, rfl, iteT ?_⟩
  refine ⟨_, rfl, _, z.length, rfl, ⟨Nat.le_trans g.hi (by decide), rfl⟩, _, _, rfl, rfl, _, rfl, ?_⟩
  rw [if_pos (by have := g.lo; simp; omega)]
  refine ⟨_, _, rfl, rfl, _, rfl, ?_⟩
  rw [if_pos (by have := g.hi; simp; omega)]
  refine ⟨_, rfl, z, rfl, fun D nD => lc_true rl_same walk_str (Nat.lt_of_le_of_lt g.hi (by decide)) nD (same_new nD) (fun _ _ => trivial) (fun i x H1 H2 Kt hi r y kt => ?_) fun H1 r e => ?_⟩
  · obtain ⟨rfl, c, hc, rfl⟩ := y
    refine ⟨rfl, _, rfl, c, lett, rfl, rfl, ?_⟩
    have hm : c ∈ z.cps.toList := List.mem_of_getElem? (i := i) (by simpa using hc)
    rw [decide_eq_true (g.let_ c hm)]
    exact kt _ (Same.refl _)
  · refine ⟨D, List.replicate z.cps.size true, rfl, .of e, ?_⟩
    rw [all_replicate]
    exact q H1 r
/-! ### is_number -/
theorem scNum : FnScope ["thing", "low", "high"] ["thing", "low", "high"] (defScope (topS 7)) := ⟨rfl, rfl, rfl, by decide +kernel, rfl, by decide +kernel, by decide +kernel⟩
def spNum : Sp := fun vs H Q _ => ∃ (n lo : Int) (hi : V), vs = [.int n, .int lo, hi] ∧ lo ≤ n ∧ (hi = .non ∨ ∃ h, hi = .int h ∧ n ≤ h) ∧ Q (.bl true) H
theorem ok_num (F : Fd K mg "is_number" 7 f fd) (B : Bl mg) : Cal P w K mg base CX0 1 "is_number" ["thing", "low", "high"] spNum := by
  refine F.cal ?_ (fun _ _ _ _ _ _ us hl => match us, hl with | [_, _, _], _ => rfl)
  refine F.fu.ok scNum (fun vs H Q E h => by obtain ⟨n, lo, hi, rfl, _⟩ := h; rfl) (fun cdv A outer s H vs Q E hr h => ⟨_, PSs.nox (pss_cons (ps_if (PW.pt (pw_or (pt_not (pt_val (pe_callB call_isi (by rfl) (B.no "isinstance") (by decide +kernel) (pa_cons (pv 0) (pa_cons (pe_bltn (v := .ty "int") (by rfl) (B.no "int") (by decide +kernel) rfl) pa_nil)))))
    (pw_or (pt_val (pe_callB call_isi (by rfl) (B.no "isinstance") (by decide +kernel) (pa_cons (pv 0) (pa_cons (pe_bltn (v := .ty "bool") (by rfl) (B.no "bool") (by decide +kernel) rfl) pa_nil)))) (pw_or1 (pt_cmpR op_lt (pv 0) (pv 1) (nomark _)))))) (pss_one (ps_ret pe_bl)) pss_nil)
    (pss_one (ps_ret (pe_or (pe_cmpR op_isN (pv 2) pe_non (nomark _)) (pe_one (pe_cmpR op_le (pv 0) (pv 2) (nomark _))))))), ?_⟩)
  obtain ⟨n, lo, hi, rfl, hlo, hhi, q⟩ := h
  refine ⟨_, rfl, _, _, .type "int", .type "int", true, rfl, .ty "int", .base (.int n), kit_ty (by decide +kernel), true, rfl, iteF ?_⟩
  refine ⟨_, rfl, _, _, .type "int", .type "bool", false, rfl, .ty "bool", .base (.int n), kit_ty (by decide +kernel), false, rfl, iteF ?_⟩
  refine ⟨_, rfl, _, rfl, n, lo, rfl, rfl, _, rfl, ?_⟩
  rw [decide_eq_false (show ¬ n < lo by omega)]
  refine iteF ?_
  refine ⟨_, rfl, rfl, _, rfl, ?_⟩
  rcases hhi with rfl | ⟨h, rfl, hh⟩
  · rw [decide_eq_true rfl]
    exact iteT q
  · rw [decide_eq_false (fun z => nomatch z)]
    refine iteF ⟨_, rfl, _, rfl, n, h, rfl, rfl, ?_⟩
    exact bl_dec (decide_eq_true hh) q
/-! ### is_row -/
theorem scRow : FnScope ["thing", "low", "high"] ["thing", "low", "high"] (defScope (topS 8)) := ⟨rfl, rfl, rfl, by decide +kernel, rfl, by decide +kernel, by decide +kernel⟩
def spRow (K : PySem.W.Frag) : Sp := fun vs H Q _ => ∃ (a : Addr) (xs : List V) (lo : Int) (hi : V), vs = [.ref a, .int lo, hi] ∧ SqA K H a xs ∧ lo ≤ (xs.length : Int) ∧ (hi = .non ∨ ∃ h, hi = .int h ∧ (xs.length : Int) ≤ h) ∧ ∀ H2, Same H H2 → Q (.bl true) H2
theorem ok_row (F : Fd K mg "is_row" 8 f fd) (B : Bl mg) (N : Cal P w K mg base CX0 1 "is_number" ["thing", "low", "high"] spNum) : Cal P w K mg base CX0 2 "is_row" ["thing", "low", "high"] (spRow K) := by
  refine F.cal ?_ (fun _ _ _ _ _ _ us hl => match us, hl with | [_, _, _], _ => rfl)
  refine F.fu.ok scRow (fun vs H Q E h => by obtain ⟨a, xs, lo, hi, rfl, _⟩ := h; rfl) (fun cdv A outer s H vs Q E hr h => ⟨_, PSs.nox (pss_one (ps_ret (pe_and (pe_callB call_isiT (by rfl) (B.no "isinstance") (by decide +kernel)
      (pa_cons (pv 0) (pa_cons (pe_tup (pa_cons (pe_bltn (v := .ty "list") (by rfl) (B.no "list") (by decide +kernel) rfl) (pa_cons (pe_bltn (v := .ty "tuple") (by rfl) (B.no "tuple") (by decide +kernel) rfl) pa_nil))) pa_nil)))
    (pe_one (pe_cal N hr (pa_cons (pe_callB call_len_seq (by rfl) (B.no "len") (by decide +kernel) (pa_cons (pv 0) pa_nil)) (pa_cons (pv 1) (pa_cons (pv 2) pa_nil)))))))), ?_⟩)
  obtain ⟨a, xs, lo, hi, rfl, hq, hlo, hhi, q⟩ := h
  refine ⟨_, rfl, by show 2 ≤ sizeLine; decide, fun p np => ?_⟩
  have s1 : Same H (upd H p (.tup [.ty "list", .ty "tuple"])) := same_new np
  have hq1 := hq.same s1
  have fin : ∀ t, TyX K (upd H p (.tup [.ty "list", .ty "tuple"])) (.ref a) t → PySem.W.kitAny K t [.type "list", .type "tuple"] = some true → rIsiT K [.ref a, .ref p] (upd H p (.tup [.ty "list", .ty "tuple"])) (fun x H1 => ∃ c, x = .bl c ∧
      if c = true then tCall spNum [] E0 (tCons (tCB (fun xs H Q => ∃ p ys, xs = [.ref p] ∧ (SqL K H p ys ∨ SqT K H p ys) ∧ Q (.int ys.length) H) (tCons (tVar 0) tNil)) (tCons (tVar 1) (tCons (tVar 2) tNil))) (L2.start ["thing", "low", "high"] [.ref a, .int lo, hi]) H1 Q else Q (.bl false) H1) := fun t ty kit => by
    refine ⟨_, p, _, t, [.type "list", .type "tuple"], true, rfl, upd_same, .cons (.ty _) (.cons (.ty _) .nil), ty, kit, true, rfl, iteT ?_⟩
    exact ⟨_, rfl, a, xs, rfl, hq1, _, rfl, _, rfl, _, lo, hi, rfl, hlo, hhi, q _ s1⟩
  rcases tyx_of hq1 with ty | ty
  · exact fin _ ty (kitAny_cons (kit_ty (r := true) (by decide +kernel)) (fun z => nomatch z) (fun _ => rfl))
  · exact fin _ ty (kitAny_cons (kit_ty (r := false) (by decide +kernel)) (fun _ => kitAny_cons (kit_ty (r := true) (by decide +kernel)) (fun z => nomatch z) (fun _ => rfl)) (fun z => nomatch z))
end
end K66
set_option Elab.async false
set_option linter.all false
set_option maxRecDepth 100000
set_option maxHeartbeats 4000000
namespace K66
open PySem PySem.Spec PyProof.Rows L2
section
variable {P : Program} {w : World} {K : PySem.W.Frag} {mg : Str → Option Value} {base : Heap} {f : Addr} {fd : FuncData}
/-! ### are_entrants -/
theorem scEnt : FnScope ["thing", "name"] ["thing"] (defScope (topS 13)) := ⟨rfl, rfl, rfl, by decide +kernel, rfl, by decide +kernel, by decide +kernel⟩
structure Names (ns : List Str) : Prop where
  lo : 2 ≤ ns.length
  hi : ns.length ≤ 10
  nd : ns.Nodup
  good : ∀ z ∈ ns, GoodN z
def spEnt (K : PySem.W.Frag) : Sp := fun vs H Q _ => ∃ (a : Addr) (ns : List Str), vs = [.ref a] ∧ SqA K H a (ns.map V.str) ∧ Names ns ∧ ∀ H2, Same H H2 → Q (.bl true) H2
theorem ok_ent (F : Fd K mg "are_entrants" 13 f fd) (B : Bl mg) (C : Cs mg) (N : Cal P w K mg base CX0 1 "is_name" ["thing"] spName) (R : Cal P w K mg base CX0 2 "is_row" ["thing", "low", "high"] (spRow K)) : Cal P w K mg base CX0 3 "are_entrants" ["thing"] (spEnt K) := by
  refine F.cal ?_ (fun _ _ _ _ _ _ us hl => match us, hl with | [_], _ => rfl)
  refine F.fu.ok scEnt (fun vs H Q E h => by obtain ⟨a, ns, rfl, _⟩ := h; rfl) (fun cdv A outer s H vs Q E hr h => ⟨_, PSs.nox (pss_cons (ps_if (PW.pt (pw_or (pt_not (pt_val (pe_cal R hr (pa_cons (pv 0) (pa_cons (pe_cint C.least) (pa_cons (pe_cint C.most) pa_nil))))))
      (pw_or1 (pt_not (pt_val (pe_callB (cr_all rfl) (by rfl) (B.no "all") (by decide +kernel) (pa_cons (pe_lc (own := [("name", 1)]) (g := gName 1) (tt := tYes) rfl scEnt.nd (pi_seq (pv 0)) (blkOk_by (own := [("name", 1)]) (N := ["thing", "name"]) (sc := defScope (topS 13)) (by decide +kernel))
        (fun _ _ _ _ _ => pg_name (i := 1) scEnt.nd rfl (Or.inl rfl)) (fun _ _ _ _ _ => pts_nil) (fun _ _ _ _ _ => pe_cal N (hr.mono (by decide)) (pa_cons (pv 1) pa_nil))) pa_nil))))))) (pss_one (ps_ret pe_bl)) pss_nil)
    (pss_one (ps_ret (pe_cmpR op_eq (pe_lenTxt rfl (by rfl) (B.no "len") (by rfl) (B.no "set") (pv 0)) (pe_callB call_len_seq (by rfl) (B.no "len") (by decide +kernel) (pa_cons (pv 0) pa_nil)) (nomark _))))), ?_⟩)
  obtain ⟨a, ns, rfl, hq, g, q⟩ := h
  have hlen : (ns.map V.str).length = ns.length := List.length_map ..
  refine ⟨_, rfl, a, _, 2, .int 10, rfl, hq, by rw [hlen]; have := g.lo; omega, .inr ⟨10, rfl, by rw [hlen]; have := g.hi; omega⟩, fun H2 s2 => ?_⟩
  refine ⟨true, rfl, iteF ?_⟩
  have q2 := hq.same s2
  refine ⟨_, rfl, a, _, rfl, q2, fun J G hG wk D nD => ?_⟩
  refine lc_true rl_same wk (by rw [hlen]; exact Nat.lt_of_le_of_lt g.hi (by decide)) nD (same_new nD) (fun _ => hG _) (fun i x H3 H4 Kt hi r y kt => ?_) fun H3 r3 e => ?_
  · obtain ⟨rfl, hx⟩ := y
    obtain ⟨z, hz, rfl, hm⟩ := at_map hx
    exact ⟨rfl, _, rfl, z, rfl, g.good z hm, fun H5 s5 => kt _ s5⟩
  · refine ⟨D, _, rfl, .of e, ?_⟩
    rw [all_replicate]
    refine ⟨true, rfl, iteF ?_⟩
    have q3 := q2.same r3
    refine ⟨_, rfl, a, ns, rfl, q3, g.nd, Nat.le_trans g.hi (by decide), ?_⟩
    refine ⟨_, rfl, a, _, rfl, q3, ?_⟩
    rw [hlen]
    exact ⟨rfl, bl_dec (decide_eq_true rfl) (q H3 (s2.trans r3))⟩
/-! ### is_one_of -/
theorem scOne : FnScope ["thing", "some"] ["thing", "some"] (defScope (topS 14)) := ⟨rfl, rfl, rfl, by decide +kernel, rfl, by decide +kernel, by decide +kernel⟩
def spOne (K : PySem.W.Frag) : Sp := fun vs H Q _ => ∃ (z : Str) (a : Addr) (ns : List Str), vs = [.str z, .ref a] ∧ GoodN z ∧ SqA K H a (ns.map V.str) ∧ z ∈ ns ∧ ∀ H2, Same H H2 → Q (.bl true) H2
theorem ok_one (F : Fd K mg "is_one_of" 14 f fd) (N : Cal P w K mg base CX0 1 "is_name" ["thing"] spName) : Cal P w K mg base CX0 2 "is_one_of" ["thing", "some"] (spOne K) := by
  refine F.cal ?_ (fun _ _ _ _ _ _ us hl => match us, hl with | [_, _], _ => rfl)
  refine F.fu.ok scOne (fun vs H Q E h => by obtain ⟨z, a, ns, rfl, _⟩ := h; rfl) (fun cdv A outer s H vs Q E hr h => ⟨_, PSs.nox (pss_one (ps_ret (pe_and (pe_cal N hr (pa_cons (pv 0) pa_nil)) (pe_one (pe_cmpR op_in_seq (pv 0) (pv 1) (by rfl)))))), ?_⟩)
  obtain ⟨z, a, ns, rfl, g, hq, hm, q⟩ := h
  refine ⟨_, rfl, z, rfl, g, fun H2 s2 => ⟨true, rfl, iteT ?_⟩⟩
  refine ⟨_, rfl, _, rfl, a, _, rfl, hq.same s2, rfl, flat_strs ns, ?_⟩
  show Q (.bl (inV (.str z) (ns.map V.str))) H2
  rw [inV_str]
  exact bl_dec (decide_eq_true hm) (q H2 s2)
/-! ### are_sums -/
/-- a dict by names -/
def dOf (ls : List Str) (v : Str → Int) : List (Key × V) := ls.map fun z => (Sum.inr z, V.int (v z))
theorem dOf_val (v : Str → Int) (z : Str) : ∀ ls : List Str, valV (dOf ls v) (Sum.inr z) = if z ∈ ls then some (.int (v z)) else none
  | [] => rfl
  | y :: ls => by
    unfold dOf
    rw [List.map_cons]
    by_cases e : y = z
    · subst e
      rw [valV_pos rfl, if_pos List.mem_cons_self]
    · rw [valV_neg (fun q => e (Sum.inr.inj q))]
      show valV (dOf ls v) (Sum.inr z) = _
      rw [dOf_val v z ls]
      have : (z ∈ y :: ls) = (z ∈ ls) := by
        apply propext
        rw [List.mem_cons]
        exact ⟨fun h => h.elim (fun q => absurd q.symm e) id, .inr⟩
      simp only [this]
theorem dOf_in {v : Str → Int} {z : Str} {ls : List Str} (h : z ∈ ls) : valV (dOf ls v) (Sum.inr z) = some (.int (v z)) := by rw [dOf_val, if_pos h]
theorem SqA.put {H : Hp} {a d : Addr} {xs : List V} {kvs : List (Key × V)} {o : HO} (h : SqA K H a xs) (e : H d = some (.dK kvs)) : SqA K (upd H d o) a xs := by
  have ne : ∀ {u}, H a = some u → u ≠ .dK kvs → upd H d o a = some u := fun h n => (upd_ne (ne_of h e n)).trans h
  rcases h with ((h | ⟨ob, h⟩) | h) | ((h | ⟨ob, h⟩) | h)
  · exact .inl (.inl (.inl (ne h (fun z => nomatch z))))
  · exact .inl (.inl (.inr ⟨ob, ne h (fun z => nomatch z)⟩))
  · exact .inl (.inr h)
  · exact .inr (.inl (.inl (ne h (fun z => nomatch z))))
  · exact .inr (.inl (.inr ⟨ob, ne h (fun z => nomatch z)⟩))
  · exact .inr (.inr h)
theorem same_lock {H H2 : Hp} {d : Addr} {o u : HO} (e : H d = some u) (s : Same (upd H d o) H2) : Same H (upd H2 d u) := fun b x h => by
  by_cases q : b = d
  · rw [q, upd_same]
    rw [q, e] at h
    exact h
  · rw [upd_ne q]
    exact s b x ((upd_ne q).trans h)
theorem scSums : FnScope ["thing", "some", "name"] ["thing", "some"] (defScope (topS 15)) := ⟨rfl, rfl, rfl, by decide +kernel, rfl, by decide +kernel, by decide +kernel⟩
structure Sums (ns ls : List Str) (v : Str → Int) : Prop where
  of : ∀ z ∈ ls, z ∈ ns ∧ GoodN z ∧ 0 ≤ v z ∧ v z ≤ 100
  few : ls.length ≤ 10
def spSums (K : PySem.W.Frag) : Sp := fun vs H Q _ => ∃ (d a : Addr) (ns ls : List Str) (v : Str → Int), vs = [.ref d, .ref a] ∧ H d = some (.dK (dOf ls v)) ∧ SqA K H a (ns.map V.str) ∧ Sums ns ls v ∧ ∀ H2, Same H H2 → Q (.bl true) H2
theorem ok_sums (F : Fd K mg "are_sums" 15 f fd) (B : Bl mg) (C : Cs mg) (N : Cal P w K mg base CX0 1 "is_number" ["thing", "low", "high"] spNum) (O : Cal P w K mg base CX0 2 "is_one_of" ["thing", "some"] (spOne K)) : Cal P w K mg base CX0 3 "are_sums" ["thing", "some"] (spSums K) := by
  refine F.cal ?_ (fun _ _ _ _ _ _ us hl => match us, hl with | [_, _], _ => rfl)
  refine F.fu.ok scSums (fun vs H Q E h => by obtain ⟨d, a, ns, ls, v, rfl, _⟩ := h; rfl) (fun cdv A outer s H vs Q E hr h => ⟨_, PSs.nox (pss_cons (ps_if (pt_not (pt_val (pe_callB call_isi (by rfl) (B.no "isinstance") (by decide +kernel) (pa_cons (pv 0) (pa_cons (pe_bltn (v := .ty "dict") (by rfl) (B.no "dict") (by decide +kernel) rfl) pa_nil))))) (pss_one (ps_ret pe_bl)) pss_nil)
    (pss_one (ps_ret (pe_callB (cr_all rfl) (by rfl) (B.no "all") (by decide +kernel) (pa_cons (pe_lock (pe_lc (own := [("name", 2)]) (g := gName 2) (tt := tYes) rfl scSums.nd (pi_keys (pv 0)) (blkOk_by (own := [("name", 2)]) (N := ["thing", "some", "name"]) (sc := defScope (topS 15)) (by decide +kernel))
        (fun _ _ _ _ _ => pg_name (i := 2) scSums.nd rfl (Or.inl rfl)) (fun _ _ _ _ _ => pts_nil) (fun _ _ _ _ _ => pe_and (pe_cal O hr (pa_cons (pv 2) (pa_cons (pv 1) pa_nil))) (pe_one (pe_cal N (hr.mono (by decide)) (pa_cons (pe_dget (hu_of hr) (pv 0) (pv 2) (fun _ _ => rfl)) (pa_cons pe_int (pa_cons (pe_cint C.sum) pa_nil)))))))) pa_nil))))), ?_⟩)
  obtain ⟨d, a, ns, ls, v, rfl, hd, hq, g, q⟩ := h
  refine ⟨_, rfl, _, _, .type "dict", .type "dict", true, rfl, .ty "dict", .base (.dK hd), kit_ty (by decide +kernel), true, rfl, iteF ?_⟩
  refine ⟨d, _, hd, trivial, fun od => ?_⟩
  have hq1 := hq.put (o := .frz od (.dK (dOf ls v))) hd
  refine ⟨_, rfl, d, od, rfl, .inl ⟨_, upd_same, fun D nD => ?_⟩⟩
  have hlen : (dOf ls v).length = ls.length := List.length_map ..
  refine lc_true rl_same walk_keys (by rw [hlen]; exact Nat.lt_of_le_of_lt g.few (by decide)) nD (same_new nD) (fun H3 s3 => s3 _ _ upd_same) (fun i x H3 H4 Kt hi r y kt => ?_) fun H3 r3 e => ?_
  · obtain ⟨rfl, k, u, hk, rfl⟩ := y
    obtain ⟨z, hz, ez, hm⟩ : ∃ z, ls[i]? = some z ∧ (k, u) = (Sum.inr z, V.int (v z)) ∧ z ∈ ls := by
      unfold dOf at hk
      rw [List.getElem?_map] at hk
      obtain ⟨z, e1, e2⟩ := Option.map_eq_some_iff.mp hk
      exact ⟨z, e1, e2.symm, List.mem_of_getElem? e1⟩
    cases ez
    obtain ⟨h1, h2, h3, h4⟩ := g.of z hm
    refine ⟨rfl, _, rfl, _, rfl, z, a, ns, rfl, h2, hq1.same r, h1, fun H5 s5 => ⟨true, rfl, iteT ?_⟩⟩
    refine ⟨_, rfl, _, rfl, d, .int (v z), rfl, .inl ⟨_, Sum.inr z, .inr ⟨od, s5 _ _ (r _ _ upd_same)⟩, rfl, (dOf_in hm).symm⟩, ?_⟩
    exact ⟨v z, 0, .int 100, rfl, h3, .inr ⟨100, rfl, h4⟩, kt H5 s5⟩
  · have e2 : (upd H3 d (.dK (dOf ls v))) D = some (.lst ((List.replicate (dOf ls v).length true).map V.bl)) := (upd_ne (ne_of e (r3 _ _ upd_same) (fun z => nomatch z))).trans e
    refine ⟨r3 _ _ upd_same, D, _, rfl, .of e2, ?_⟩
    rw [all_replicate]
    exact q _ (same_lock hd r3)
/-! ### is_met -/
theorem scMet : FnScope ["thing", "some", "name"] ["thing", "some"] (defScope (topS 16)) := ⟨rfl, rfl, rfl, by decide +kernel, rfl, by decide +kernel, by decide +kernel⟩
def spMet (K : PySem.W.Frag) : Sp := fun vs H Q _ => ∃ (t a : Addr) (x y : Str) (ns : List Str), vs = [.ref t, .ref a] ∧ H t = some (.tup [.str x, .str y]) ∧ SqA K H a (ns.map V.str) ∧ (x ∈ ns ∧ GoodN x) ∧ (y ∈ ns ∧ GoodN y) ∧ x ≠ y ∧ ∀ H2, Same H H2 → Q (.bl true) H2
theorem ok_met (F : Fd K mg "is_met" 16 f fd) (B : Bl mg) (O : Cal P w K mg base CX0 2 "is_one_of" ["thing", "some"] (spOne K)) : Cal P w K mg base CX0 3 "is_met" ["thing", "some"] (spMet K) := by
  refine F.cal ?_ (fun _ _ _ _ _ _ us hl => match us, hl with | [_, _], _ => rfl)
  refine F.fu.ok scMet (fun vs H Q E h => by obtain ⟨t, a, x, y, ns, rfl, _⟩ := h; rfl) (fun cdv A outer s H vs Q E hr h => ⟨_, PSs.nox (pss_cons (ps_if (PW.pt (pw_or (pt_not (pt_val (pe_callB call_isi (by rfl) (B.no "isinstance") (by decide +kernel) (pa_cons (pv 0) (pa_cons (pe_bltn (v := .ty "tuple") (by rfl) (B.no "tuple") (by decide +kernel) rfl) pa_nil)))))
      (pw_or (pt_cmpR op_ne (pe_callB call_len_seq (by rfl) (B.no "len") (by decide +kernel) (pa_cons (pv 0) pa_nil)) pe_int (nomark _)) (pw_or1 (pt_not (pt_val (pe_callB (cr_all rfl) (by rfl) (B.no "all") (by decide +kernel) (pa_cons (pe_lc (own := [("name", 2)]) (g := gName 2) (tt := tYes) rfl scMet.nd (pi_tup (pv 0)) (blkOk_by (own := [("name", 2)]) (N := ["thing", "some", "name"]) (sc := defScope (topS 16)) (by decide +kernel))
        (fun _ _ _ _ _ => pg_name (i := 2) scMet.nd rfl (Or.inl rfl)) (fun _ _ _ _ _ => pts_nil) (fun _ _ _ _ _ => pe_cal O hr (pa_cons (pv 2) (pa_cons (pv 1) pa_nil)))) pa_nil)))))))) (pss_one (ps_ret pe_bl)) pss_nil)
    (pss_one (ps_ret (pe_cmpR op_ne (pe_ix ix_tup (pv 0) pe_int (fun _ _ => rfl)) (pe_ix ix_tup (pv 0) pe_int (fun _ _ => rfl)) (nomark _))))), ?_⟩)
  obtain ⟨t, a, x, y, ns, rfl, ht, hq, gx, gy, ne, q⟩ := h
  refine ⟨_, rfl, _, _, .type "tuple", .type "tuple", true, rfl, .ty "tuple", .base (.tup ht), kit_ty (by decide +kernel), true, rfl, iteF ?_⟩
  refine ⟨_, rfl, t, _, rfl, .inr (.of ht), ?_⟩
  refine ⟨rfl, _, rfl, iteF ?_⟩
  refine ⟨_, rfl, t, rfl, ⟨_, .of ht⟩, fun D nD => ?_⟩
  refine lc_true rl_same (walk_tup (xs := [.str x, .str y])) (by show 2 < sizeLine; decide) nD (same_new nD) (fun H3 s3 => .of (s3 _ _ ht)) (fun i v H3 H4 Kt hi r w kt => ?_) fun H3 r3 e => ?_
  · obtain ⟨rfl, hw⟩ := w
    have hv : ∃ z, v = .str z ∧ z ∈ ns ∧ GoodN z := by
      match i, hi, hw with
      | 0, _, hw => exact ⟨x, (Option.some.inj hw).symm, gx⟩
      | 1, _, hw => exact ⟨y, (Option.some.inj hw).symm, gy⟩
    obtain ⟨z, rfl, h1, h2⟩ := hv
    exact ⟨rfl, _, rfl, _, rfl, z, a, ns, rfl, h2, hq.same r, h1, fun H5 s5 => kt _ s5⟩
  · refine ⟨D, _, rfl, .of e, ?_⟩
    rw [all_replicate]
    refine ⟨true, rfl, iteF ?_⟩
    have ht3 := r3 _ _ ht
    refine ⟨_, rfl, t, _, _, .str x, rfl, rfl, .of ht3, rfl, ?_⟩
    refine ⟨_, rfl, t, _, _, .str y, rfl, rfl, .of ht3, rfl, ?_⟩
    refine ⟨rfl, ?_⟩
    rw [decide_eq_false (fun z => ne (V.str.inj z))]
    exact q H3 r3
/-! ### need_pairable -/
structure Tk where
  ns : List Str
  pt : Str → Int
  met : List (Str × Str)
  sat : List Str
  ls : List Str
  fi : Str → Int
structure Tk.Ok (T : Tk) : Prop where
  names : Names T.ns
  pts : Sums T.ns T.ns T.pt
  met : ∀ p ∈ T.met, p.1 ∈ T.ns ∧ p.2 ∈ T.ns ∧ p.1 ≠ p.2
  mfew : T.met.length ≤ 1000
  sat : ∀ z ∈ T.sat, z ∈ T.ns
  sfew : T.sat.length ≤ 1000
  led : Sums T.ns T.ls T.fi
def prV (p : Str × Str) : List V := [.str p.1, .str p.2]
structure Tk.At (T : Tk) (K : PySem.W.Frag) (H : Hp) (a d m s l : Addr) : Prop where
  ns : SqA K H a (T.ns.map V.str)
  pt : H d = some (.dK (dOf T.ns T.pt))
  met : ∃ xs, SqA K H m xs ∧ Tups H (T.met.map prV) xs
  sat : SqA K H s (T.sat.map V.str)
  led : H l = some (.dK (dOf T.ls T.fi))
theorem Tk.At.same {T : Tk} {H H2 : Hp} {a d m s l : Addr} (h : T.At K H a d m s l) (e : Same H H2) : T.At K H2 a d m s l where
  ns := h.ns.same e
  pt := e _ _ h.pt
  met := let ⟨xs, h1, h2⟩ := h.met; ⟨xs, h1.same e, h2.same e⟩
  sat := h.sat.same e
  led := e _ _ h.led
theorem scNeed : FnScope ["names", "points", "met", "sat", "firsts", "pair", "name"] ["names", "points", "met", "sat", "firsts"] (defScope (topS 17)) := ⟨rfl, rfl, rfl, by decide +kernel, rfl, by decide +kernel, by decide +kernel⟩
def spNeed (K : PySem.W.Frag) : Sp := fun vs H Q _ => ∃ (T : Tk) (a d m s l : Addr), vs = [.ref a, .ref d, .ref m, .ref s, .ref l] ∧ T.Ok ∧ T.At K H a d m s l ∧ ∀ H2, Same H H2 → Q .non H2
end
end K66
set_option Elab.async false
set_option linter.all false
set_option maxRecDepth 100000
set_option maxHeartbeats 4000000
namespace K66
open PySem PySem.Spec PyProof.Rows L2
section
variable {P : Program} {w : World} {K : PySem.W.Frag} {mg : Str → Option Value} {base : Heap} {f : Addr} {fd : FuncData}
theorem ok_need (F : Fd K mg "need_pairable" 17 f fd) (B : Bl mg) (En : Cal P w K mg base CX0 3 "are_entrants" ["thing"] (spEnt K)) (Su : Cal P w K mg base CX0 3 "are_sums" ["thing", "some"] (spSums K)) (R : Cal P w K mg base CX0 2 "is_row" ["thing", "low", "high"] (spRow K))
    (M : Cal P w K mg base CX0 3 "is_met" ["thing", "some"] (spMet K)) (O : Cal P w K mg base CX0 2 "is_one_of" ["thing", "some"] (spOne K)) : Cal P w K mg base CX0 4 "need_pairable" ["names", "points", "met", "sat", "firsts"] (spNeed K) := by
  refine F.cal ?_ (fun _ _ _ _ _ _ us hl => match us, hl with | [_, _, _, _, _], _ => rfl)
  refine F.fu.ok scNeed (fun vs H Q E h => by obtain ⟨T, a, d, m, s, l, rfl, _⟩ := h; rfl) (fun cdv A outer s0 H vs Q E hr h => ⟨_, PSs.nox (pss_cons (ps_if (PW.pt (pw_or (pt_not (pt_val (pe_cal En hr (pa_cons (pv 0) pa_nil)))) (pw_or (pt_not (pt_val (pe_cal Su hr (pa_cons (pv 1) (pa_cons (pv 0) pa_nil)))))
        (pw_or1 (pt_cmpR op_ne (pe_callB call_lenD (by rfl) (B.no "len") (by decide +kernel) (pa_cons (pv 1) pa_nil)) (pe_callB call_len_seq (by rfl) (B.no "len") (by decide +kernel) (pa_cons (pv 0) pa_nil)) (nomark _)))))) (pss_one ps_never) pss_nil)
    (pss_cons (ps_if (PW.pt (pw_or (pt_not (pt_val (pe_cal R (hr.mono (by decide)) (pa_cons (pv 2) (pa_cons pe_int (pa_cons pe_non pa_nil)))))) (pw_or1 (pt_not (pt_val (pe_callB (cr_all rfl) (by rfl) (B.no "all") (by decide +kernel) (pa_cons (pe_lc (own := [("pair", 5)]) (g := gName 5) (tt := tYes) rfl scNeed.nd (pi_seq (pv 2)) (blkOk_by (own := [("pair", 5)]) (N := ["names", "points", "met", "sat", "firsts", "pair", "name"]) (sc := defScope (topS 17)) (by decide +kernel))
        (fun _ _ _ _ _ => pg_name (i := 5) scNeed.nd rfl (Or.inl rfl)) (fun _ _ _ _ _ => pts_nil) (fun _ _ _ _ _ => pe_cal M hr (pa_cons (pv 5) (pa_cons (pv 0) pa_nil)))) pa_nil))))))) (pss_one ps_never) pss_nil)
    (pss_cons (ps_if (PW.pt (pw_or (pt_not (pt_val (pe_cal R (hr.mono (by decide)) (pa_cons (pv 3) (pa_cons pe_int (pa_cons pe_non pa_nil)))))) (pw_or1 (pt_not (pt_val (pe_callB (cr_all rfl) (by rfl) (B.no "all") (by decide +kernel) (pa_cons (pe_lc (own := [("name", 6)]) (g := gName 6) (tt := tYes) rfl scNeed.nd (pi_seq (pv 3)) (blkOk_by (own := [("name", 6)]) (N := ["names", "points", "met", "sat", "firsts", "pair", "name"]) (sc := defScope (topS 17)) (by decide +kernel))
        (fun _ _ _ _ _ => pg_name (i := 6) scNeed.nd rfl (Or.inl rfl)) (fun _ _ _ _ _ => pts_nil) (fun _ _ _ _ _ => pe_cal O (hr.mono (by decide)) (pa_cons (pv 6) (pa_cons (pv 0) pa_nil)))) pa_nil))))))) (pss_one ps_never) pss_nil)
    (pss_one (ps_if (PW.pt (pw_and (pt_cmpR op_notN (pv 4) pe_non (nomark _)) (pw_and1 (pt_not (pt_val (pe_cal Su hr (pa_cons (pv 4) (pa_cons (pv 0) pa_nil)))))))) (pss_one ps_never) pss_nil))))), ?_⟩)
  obtain ⟨T, a, d, m, s, l, rfl, ok, at0, q⟩ := h
  have good : ∀ z ∈ T.ns, GoodN z := ok.names.good
  refine ⟨_, rfl, a, T.ns, rfl, at0.ns, ok.names, fun H1 s1 => ⟨true, rfl, iteF ?_⟩⟩
  have at1 := at0.same s1
  refine ⟨_, rfl, _, rfl, d, a, T.ns, T.ns, T.pt, rfl, at1.pt, at1.ns, ok.pts, fun H2 s2 => ⟨true, rfl, iteF ?_⟩⟩
  have at2 := at1.same s2
  refine ⟨_, rfl, d, _, rfl, at2.pt, ?_⟩
  refine ⟨_, rfl, a, _, rfl, at2.ns, rfl, _, rfl, ?_⟩
  rw [show (dOf T.ns T.pt).length = (T.ns.map V.str).length by unfold dOf; rw [List.length_map, List.length_map], decide_eq_true rfl]
  refine iteF ?_
  obtain ⟨xs, hx, tx⟩ := at2.met
  have lx : xs.length = T.met.length := by rw [← Paired.length tx, List.length_map]
  refine ⟨_, rfl, m, xs, 0, .non, rfl, hx, by omega, .inl rfl, fun H3 s3 => ⟨true, rfl, iteF ?_⟩⟩
  have at3 := at2.same s3
  have hx3 := hx.same s3
  have tx3 := tx.same s3
  refine ⟨_, rfl, m, xs, rfl, hx3, fun J G hG wk D nD => ?_⟩
  refine lc_true rl_same wk (by rw [lx]; exact Nat.lt_of_le_of_lt ok.mfew (by decide)) nD (same_new nD) (fun _ => hG _) (fun i v H4 H5 Kt hi r y kt => ?_) fun H4 s4 e => ?_
  · obtain ⟨rfl, hv⟩ := y
    obtain ⟨ys, h1, t, rfl, h2⟩ := paired_at (tx3.same r) i v hv
    rw [List.getElem?_map] at h1
    obtain ⟨p, e1, rfl⟩ := Option.map_eq_some_iff.mp h1
    obtain ⟨g1, g2, g3⟩ := ok.met p (List.mem_of_getElem? e1)
    exact ⟨rfl, _, rfl, _, rfl, t, a, p.1, p.2, T.ns, rfl, h2, (at3.same r).ns, ⟨g1, good _ g1⟩, ⟨g2, good _ g2⟩, g3, fun H6 s6 => kt _ s6⟩
  refine ⟨D, _, rfl, .of e, ?_⟩
  rw [all_replicate]
  refine ⟨true, rfl, iteF ?_⟩
  have at4 := at3.same s4
  have ls : (T.sat.map V.str).length = T.sat.length := List.length_map ..
  refine ⟨_, rfl, s, _, 0, .non, rfl, at4.sat, by omega, .inl rfl, fun H5 s5 => ⟨true, rfl, iteF ?_⟩⟩
  have at5 := at4.same s5
  refine ⟨_, rfl, s, _, rfl, at5.sat, fun J G hG wk D2 nD2 => ?_⟩
  refine lc_true rl_same wk (by rw [ls]; exact Nat.lt_of_le_of_lt ok.sfew (by decide)) nD2 (same_new nD2) (fun _ => hG _) (fun i v H6 H7 Kt hi r y kt => ?_) fun H6 s6 e => ?_
  · obtain ⟨rfl, hv⟩ := y
    obtain ⟨z, _, rfl, hm⟩ := at_map hv
    have hz := ok.sat z hm
    exact ⟨rfl, _, rfl, _, rfl, z, a, T.ns, rfl, good z hz, (at5.same r).ns, hz, fun H8 s8 => kt _ s8⟩
  refine ⟨D2, _, rfl, .of e, ?_⟩
  rw [all_replicate]
  refine ⟨true, rfl, iteF ?_⟩
  have at6 := at5.same s6
  refine ⟨_, rfl, rfl, _, rfl, ?_⟩
  rw [decide_eq_false (fun z => nomatch z)]
  refine iteT ?_
  refine ⟨_, rfl, _, rfl, l, a, T.ns, T.ls, T.fi, rfl, at6.led, at6.ns, ok.led, fun H7 s7 => ⟨true, rfl, iteF ?_⟩⟩
  exact q _ (s1.trans (s2.trans (s3.trans (s4.trans (s5.trans (s6.trans s7))))))
end
end K66
set_option Elab.async false
set_option linter.all false
set_option maxRecDepth 100000
set_option maxHeartbeats 4000000
namespace K66
open PySem PySem.Spec PyProof.Rows L2
def natV (p : Nat) : V := .int (p : Nat)
def prI (p : Pr) : List V := [natV p.1, natV p.2]
/-- a list of pairs of places -/
def PairsAt (H : Hp) (l : Addr) (ps : List Pr) : Prop := ∃ xs, H l = some (.lst xs) ∧ Tups H (ps.map prI) xs
theorem PairsAt.mono {H H2 : Hp} {l : Addr} {ps : List Pr} (h : PairsAt H l ps) (e : ∀ t xs, H t = some (.tup xs) → H2 t = some (.tup xs)) (e2 : ∀ xs, H l = some (.lst xs) → H2 l = some (.lst xs)) : PairsAt H2 l ps :=
  let ⟨xs, h1, h2⟩ := h; ⟨xs, e2 _ h1, h2.mono e⟩
theorem PairsAt.same {H H2 : Hp} {l : Addr} {ps : List Pr} (h : PairsAt H l ps) (e : Same H H2) : PairsAt H2 l ps := h.mono (fun _ _ q => e _ _ q) fun _ q => e _ _ q
/-- a found pairing, with its cost -/
def CandAt (H : Hp) (c : Cand) (v : V) : Prop := ∃ t l, v = .ref t ∧ H t = some (.tup [.int c.1, .ref l]) ∧ PairsAt H l c.2
theorem CandAt.mono {H H2 : Hp} {c : Cand} {v : V} (h : CandAt H c v) (e : ∀ t xs, H t = some (.tup xs) → H2 t = some (.tup xs)) (e2 : ∀ (l : Addr) (xs : List V) (ps : List Pr), Tups H (ps.map prI) xs → H l = some (.lst xs) → H2 l = some (.lst xs)) : CandAt H2 c v :=
  let ⟨t, l, h1, h2, xs, h3, h4⟩ := h; ⟨t, l, h1, e _ _ h2, xs, e2 l xs _ h4 h3, h4.mono e⟩
theorem CandAt.same {H H2 : Hp} {c : Cand} {v : V} (h : CandAt H c v) (e : Same H H2) : CandAt H2 c v := let ⟨t, l, h1, h2, h3⟩ := h; ⟨t, l, h1, e _ _ h2, h3.same e⟩
/-- all but the list at fo is kept -/
def KeepL (fo : Addr) (H H2 : Hp) : Prop := ∀ d u, d ≠ fo → H d = some u → H2 d = some u
theorem Tups.keepL {fo : Addr} {H H2 : Hp} {xss : List (List V)} {acc zs : List V} (h : Tups H xss acc) (k : KeepL fo H H2) (ef : H fo = some (.lst zs)) : Tups H2 xss acc := h.mono fun _ _ e => k _ _ (ne_of e ef (fun z => nomatch z)) e
def CandN (fo : Addr) (H : Hp) (c : Cand) (v : V) : Prop := ∃ t l, v = .ref t ∧ l ≠ fo ∧ H t = some (.tup [.int c.1, .ref l]) ∧ PairsAt H l c.2
theorem CandN.keepL {fo : Addr} {H H2 : Hp} {c : Cand} {v : V} {zs : List V} (h : CandN fo H c v) (k : KeepL fo H H2) (ef : H fo = some (.lst zs)) : CandN fo H2 c v :=
  let ⟨t, l, h1, n, h2, xs, h3, h4⟩ := h; ⟨t, l, h1, n, k _ _ (ne_of h2 ef (fun z => nomatch z)) h2, xs, k _ _ n h3, h4.keepL k ef⟩
theorem CandN.at_ {fo : Addr} {H : Hp} {c : Cand} {v : V} (h : CandN fo H c v) : CandAt H c v := let ⟨t, l, h1, _, h2, h3⟩ := h; ⟨t, l, h1, h2, h3⟩
theorem KeepL.trans {fo : Addr} {H H1 H2 : Hp} (a : KeepL fo H H1) (b : KeepL fo H1 H2) : KeepL fo H H2 := fun d u n h => b d u n (a d u n h)
theorem KeepL.of {fo : Addr} {H H1 : Hp} (a : Same H H1) : KeepL fo H H1 := fun d u _ h => a d u h
theorem keepL_put {fo : Addr} {H : Hp} {o : HO} : KeepL fo H (upd H fo o) := fun d u n h => (upd_ne n).trans h
def LpV (H : Hp) (v : V) (r : Option Cand) : Prop := match r with
  | none => v = .non
  | some c => CandAt H c v
theorem tups_dp {K : PySem.W.Frag} {H : Hp} : ∀ {ps : List Pr} {xs : List V}, Tups H (ps.map prI) xs → DpAll K H xs (ps.map prD)
  | [], _, .nil => .nil
  | p :: ps, _, .cons ⟨t, e1, e2⟩ r => by
    subst e1
    exact .cons (.tup (.of e2) (.cons (.int _) (.cons (.int _) .nil))) (tups_dp r)
theorem cand_dp {K : PySem.W.Frag} {H : Hp} {c : Cand} {v : V} (h : CandAt H c v) : Dp K H v (candD c) := by
  obtain ⟨t, l, rfl, h2, xs, h3, h4⟩ := h
  exact .tup (.of h2) (.cons (.int _) (.cons (.lst (.of h3) (tups_dp h4)) .nil))
theorem cands_dp {K : PySem.W.Frag} {H : Hp} : ∀ {cs : List Cand} {xs : List V}, Paired (CandAt H) cs xs → DpAll K H xs (cs.map candD)
  | [], _, .nil => .nil
  | c :: cs, _, .cons h r => .cons (cand_dp h) (cands_dp r)
theorem ints_dp {K : PySem.W.Frag} {H : Hp} : ∀ ps : List Nat, DpAll K H (ps.map natV) (ps.map fun p => PyData.int (p : Nat))
  | [] => .nil
  | p :: ps => .cons (.int _) (ints_dp ps)
theorem ints_lay : ∀ ps : List Nat, PyData.canLayAll0 (ps.map fun p => PyData.int (p : Nat)) = true
  | [] => rfl
  | p :: ps => ints_lay ps
theorem ints_deep : ∀ ps : List Nat, PyData.depthAll (ps.map fun p => PyData.int (p : Nat)) ≤ 1
  | [] => by simp [PyData.depthAll]
  | p :: ps => by
    have := ints_deep ps
    simp only [List.map_cons, PyData.depthAll, PyData.depth]
    omega
theorem ints_shaped (ps : List Nat) : SeqAt.shaped (.list (ps.map fun p => PyData.int (p : Nat))) = true := by
  have := ints_deep ps
  unfold SeqAt.shaped
  rw [Bool.and_eq_true, decide_eq_true_eq]
  refine ⟨ints_lay ps, ?_⟩
  simp only [PyData.depth]
  omega
/-- what is barred -/
def BarAt (H : Hp) (c : Addr) (bar : Nat → Nat → Bool) : Prop := ∃ kvs : List (List Key × V), H c = some (.dT kvs) ∧ ∀ i j : Nat, (valV kvs [Sum.inl (i : Int), Sum.inl (j : Int)]).isSome = bar i j
def spLp (K : PySem.W.Frag) (n : Nat) : Sp := fun vs H Q _ => ∃ (a b c : Addr) (ps : List Nat) (N : Nat) (s : Nat → Int) (bar : Nat → Nat → Bool), vs = [.ref a, .ref b, .ref c] ∧ SqL K H a (ps.map natV) ∧ ps.length ≤ n ∧ ps.length ≤ 10 ∧ SqL K H b ((List.range N).map fun i => V.int (s i)) ∧ (∀ p ∈ ps, p < N) ∧
  (∀ i, i < N → 0 ≤ s i ∧ s i ≤ 100) ∧ BarAt H c bar ∧ ∀ H2 v, Same H H2 → LpV H2 v (lp s bar n ps) → Q v H2
def nLp : List Str := ["places", "sums", "barred", "one", "others", "found", "other", "rest", "cost", "pairs", "place"]
theorem scLp : FnScope ["places", "sums", "barred", "one", "others", "found", "other", "rest", "cost", "pairs", "place"] ["places", "sums", "barred"] (defScope (topS 18)) := ⟨rfl, rfl, rfl, by decide +kernel, rfl, by decide +kernel, by decide +kernel⟩
section
variable {P : Program} {w : World} {K : PySem.W.Frag} {mg : Str → Option Value} {base : Heap} {f : Addr} {fd : FuncData}
theorem lp_step {n : Nat} (F : Fd K mg "least_pairs" 18 f fd) (B : Bl mg) (L : Cal P w K mg base CX0 (n + 1) "least_pairs" ["places", "sums", "barred"] (spLp K n)) : Cal P w K mg base CX0 (n + 2) "least_pairs" ["places", "sums", "barred"] (spLp K (n + 1)) := by
  refine F.cal ?_ (fun _ _ _ _ _ _ us hl => match us, hl with | [_, _, _], _ => rfl)
  refine F.fu.ok scLp (fun vs H Q E h => by obtain ⟨a, b, c, ps, N, s, bar, rfl, _⟩ := h; rfl) (fun cdv A outer s0 H vs Q E hr h => ⟨_, PSs.nox (pss_cons (ps_if (pt_cmpR (op_eqD hr.units) (pv 0) (pe_lst pa_nil) (nomark _)) (pss_one (ps_ret (pe_tup (pa_cons pe_int (pa_cons (pe_lst pa_nil) pa_nil))))) pss_nil)
    (pss_cons (ps_asg (pv 0) (pg_star rfl (pgs_cons (pg_name (i := 3) scLp.nd rfl (Or.inr rfl)) (pgs_cons (pg_name (i := 4) scLp.nd rfl (Or.inl rfl)) pgs_nil))))
    (pss_cons (ps_set (i := 5) scLp.nd rfl (Or.inl rfl) (pe_lst pa_nil))
    (pss_cons (ps_for PassesOwn.never rfl (pi_list (pe_lc (own := [("other", 6)]) (g := gName 6) rfl scLp.nd (pi_list (pv 4)) (blkOk_by (own := [("other", 6)]) (N := ["places", "sums", "barred", "one", "others", "found", "other", "rest", "cost", "pairs", "place"]) (sc := defScope (topS 18)) (by decide +kernel))
        (fun _ _ _ _ _ => pg_name (i := 6) scLp.nd rfl (Or.inl rfl)) (fun _ _ _ _ _ => pts_one (pt_cmp (pc_dnotin (hu_of hr) (pe_tup (pa_cons (pv 3) (pa_cons (pv 6) pa_nil))) (pv 2)))) (fun _ _ _ _ _ => pv 6))) (pg_name (i := 6) scLp.nd rfl (Or.inr rfl))
      (pss_cons (ps_set (i := 7) scLp.nd rfl (Or.inl rfl) (pe_cal L hr (pa_cons (pe_lc (own := [("place", 10)]) (g := gName 10) rfl scLp.nd (pi_list (pv 4)) (blkOk_by (own := [("place", 10)]) (N := ["places", "sums", "barred", "one", "others", "found", "other", "rest", "cost", "pairs", "place"]) (sc := defScope (topS 18)) (by decide +kernel))
          (fun _ _ _ _ _ => pg_name (i := 10) scLp.nd rfl (Or.inl rfl)) (fun _ _ _ _ _ => pts_one (pt_cmpR op_ne (pv 10) (pv 6) (nomark _))) (fun _ _ _ _ _ => pv 10)) (pa_cons (pv 1) (pa_cons (pv 2) pa_nil)))))
      (pss_one (ps_if (pt_cmpR op_notN (pv 7) pe_non (nomark _)) (pss_cons (ps_asg (pv 7) (pg_tup rfl (pgs_cons (pg_name (i := 8) scLp.nd rfl (Or.inl rfl)) (pgs_cons (pg_name (i := 9) scLp.nd rfl (Or.inl rfl)) pgs_nil))))
        (pss_one (ps_expr (pe_bm PySem.F.plainAttrs_list PySem.F.slot_list_append PySem.F.type_list_append mt_append (pv 5) (pa_cons (pe_tup (pa_cons (pe_op op_add (pv 8) (pe_op op_pow (pe_op op_sub (pe_ix ix_list (pv 1) (pv 3) (fun _ _ => rfl)) (pe_ix ix_list (pv 1) (pv 6) (fun _ _ => rfl))) pe_int))
          (pa_cons (pe_op op_cat (pe_lst (pa_cons (pe_tup (pa_cons (pv 3) (pa_cons (pv 6) pa_nil))) pa_nil)) (pv 9)) pa_nil))) pa_nil))))) pss_nil))))
    (pss_one (ps_ret (pe_callBK (cr_minC rfl hr.units) (by rfl) (B.no "min") (by decide +kernel) (pa_cons (pv 5) pa_nil) (pk_cons pe_non pk_nil)))))))), ?_⟩)
  obtain ⟨a, b, c, ps, N, s, bar, rfl, hps, hlen, hten, hsums, hlt, hbd, hbar, q⟩ := h
  refine ⟨_, rfl, Nat.zero_le _, fun e ne => ?_⟩
  have s1 : Same H (upd H e (.lst [])) := same_new ne
  refine ⟨_, .list [], .lst (s1.seq hps) (ints_dp ps), .lst (.of upd_same) .nil, ints_shaped ps, rfl, _, rfl, ?_⟩
  cases ps with
  | nil =>
    rw [show PyData.eqv (.list (([] : List Nat).map fun p => PyData.int (p : Nat))) (.list []) = true by simp [PyData.eqv, PyData.eqvAll]]
    refine iteT ⟨Nat.zero_le _, fun l nl => ⟨by show 2 ≤ sizeLine; decide, fun t nt => ?_⟩⟩
    exact q _ _ (s1.trans ((same_new nl).trans (same_new nt))) ⟨t, l, rfl, upd_same, [], (upd_ne (ne_of_none upd_same nt)).trans upd_same, .nil⟩
  | cons one others =>
    rw [show PyData.eqv (.list ((one :: others).map fun p => PyData.int (p : Nat))) (.list []) = false by simp [PyData.eqv, PyData.eqvAll]]
    refine iteF ?_
    rw [List.length_cons] at hlen hten
    refine ⟨_, rfl, a, natV one, others.map natV, rfl, s1.seq hps, by rw [List.length_map]; omega, fun o no => ?_⟩
    refine ⟨_, _, rfl, _, _, rfl, rfl, ?_⟩
    refine ⟨Nat.zero_le _, fun fo nfo => ?_⟩
    have s2 : Same (upd H e (.lst [])) (upd (upd H e (.lst [])) o (.lst (others.map natV))) := same_new no
    have s3 : Same (upd (upd H e (.lst [])) o (.lst (others.map natV))) (upd (upd (upd H e (.lst [])) o (.lst (others.map natV))) fo (.lst [])) := same_new nfo
    have nf0 : H fo = none := (s1.trans s2).free nfo
    have s4 := (s1.trans s2).trans s3
    generalize hH4 : upd (upd (upd H e (.lst [])) o (.lst (others.map natV))) fo (.lst []) = H4 at s4
    have ho4 : H4 o = some (.lst (others.map natV)) := by rw [← hH4]; exact s3 _ _ upd_same
    have hf4 : H4 fo = some (.lst []) := by rw [← hH4]; exact upd_same
    have nofo : o ≠ fo := fun z => by
      rw [← z] at nfo
      rw [upd_same] at nfo
      cases nfo
    refine ⟨_, rfl, o, rfl, ⟨_, .of ho4⟩, fun D nD => ?_⟩
    refine lc_map rl_same walk_list (L := others) (List.length_map ..) (fun z => !bar one z) natV (by rw [List.length_map]; exact Nat.lt_of_le_of_lt (show others.length ≤ 10 by omega) (by decide)) nD (same_new nD) (fun H5 s5 => .of (s5 _ _ ho4)) (fun i z x H5 H6 Kt Kf hz s5 y kt kf => ?_) fun H5 s5 e5 => ?_
    · obtain ⟨rfl, hx⟩ := y
      rw [List.getElem?_map, hz] at hx
      obtain rfl : natV z = x := Option.some.inj hx
      refine ⟨rfl, _, rfl, _, rfl, by show 2 ≤ sizeLine; decide, fun t nt => ?_⟩
      obtain ⟨kvs, hc, hb⟩ := hbar
      have s6 : Same H6 (upd H6 t (.tup [natV one, natV z])) := same_new nt
      refine ⟨_, rfl, c, _, rfl, DGet.t (k := [Sum.inl (one : Int), Sum.inl (z : Int)]) (s6 _ _ (s5 _ _ (s4 _ _ hc))) upd_same, _, rfl, ?_⟩
      rw [hb one z]
      cases hbz : bar one z with
      | true => exact iteF (kf (by rw [hbz]; rfl) _ s6)
      | false => exact iteT ⟨_, rfl, kt (by rw [hbz]; rfl) _ s6⟩
    · generalize hfs : (others.filter fun z => !bar one z) = fs at e5
      have fsm : ∀ z ∈ fs, z ∈ others := fun z hz => by rw [← hfs] at hz; exact (List.mem_filter.mp hz).1
      have fsl : fs.length ≤ 10 := by rw [← hfs]; have := List.length_filter_le (fun z => !bar one z) others; omega
      let g : Nat → Option Cand := fun z => (lp s bar n (others.filter fun p => p != z)).map fun r => (r.1 + sq (s one - s z), (one, z) :: r.2)
      have elp : lp s bar (n + 1) (one :: others) = least (fs.filterMap g) := by rw [← hfs]; rfl
      have nofD : D ≠ fo := (ne_of_none hf4 nD).symm
      refine ⟨D, rfl, ⟨_, .of e5⟩, for_list (xs := fs.map natV) (fun i σ2 H2 => ∃ y6 y7 y8 y9 xs, σ2 = [some (.ref a), some (.ref b), some (.ref c), some (natV one), some (.ref o), some (.ref fo), y6, y7, y8, y9, none] ∧ KeepL fo H5 H2 ∧ H2 fo = some (.lst xs) ∧ Paired (CandN fo H2) ((fs.take i).filterMap g) xs)
        ⟨none, none, none, none, [], rfl, fun d u _ h => h, s5 _ _ hf4, .nil⟩ (fun i σ2 H2 _ ⟨y6, y7, y8, y9, xs, _, kp, _⟩ => .of (kp _ _ nofD e5)) (fun i x σ2 H6 hx iv => ?_) fun σ2 H6 iv => ?_⟩
      · obtain ⟨y6, y7, y8, y9, xs, rfl, kp, ef, pd⟩ := iv
        obtain ⟨z, hz, rfl, hm⟩ := at_map hx
        have zo := fsm z hm
        have s6 : Same H H6 := fun d u h => kp d u (ne_of_none h nf0) (s5 _ _ (s4 _ _ h))
        have ho6 : H6 o = some (.lst (others.map natV)) := kp _ _ nofo (s5 _ _ ho4)
        refine ⟨_, rfl, o, rfl, ⟨_, .of ho6⟩, fun D2 nD2 => ?_⟩
        refine lc_map rl_same walk_list (L := others) (List.length_map ..) (fun p => p != z) natV (by rw [List.length_map]; exact Nat.lt_of_le_of_lt (show others.length ≤ 10 by omega) (by decide)) nD2 (same_new nD2) (fun H7 s7 => .of (s7 _ _ ho6)) (fun j y v H7 H8 Kt Kf hy s7 w kt kf => ?_) fun H7 s7 e7 => ?_
        · obtain ⟨rfl, hv⟩ := w
          rw [List.getElem?_map, hy] at hv
          obtain rfl : natV y = v := Option.some.inj hv
          refine ⟨rfl, _, rfl, _, rfl, rfl, _, rfl, ?_⟩
          have ed : decide (natV y = natV z) = !(y != z) := by
            by_cases q : y = z
            · subst q; simp
            · have : natV y ≠ natV z := fun w => q (Int.ofNat.inj (V.int.inj w))
              simp [q, this]
          rw [ed, Bool.not_not]
          cases hyz : (y != z) with
          | true => exact iteT ⟨_, rfl, kt hyz _ (Same.refl _)⟩
          | false => exact iteF (kf hyz _ (Same.refl _))
        · have s67 := s6.trans s7
          have ef7 := s7 _ _ ef
          have tk : ∀ {cs : Option Cand}, g z = cs → (fs.take (i + 1)).filterMap g = (fs.take i).filterMap g ++ cs.toList := fun {cs} e => by
            rw [List.take_add_one, hz, List.filterMap_append]
            simp only [Option.toList_some, List.filterMap_cons, List.filterMap_nil, e]
            cases cs <;> rfl
          have lz : (others.filter fun p => p != z).length ≤ others.length := List.length_filter_le ..
          refine ⟨_, rfl, _, rfl, D2, b, c, others.filter (fun p => p != z), N, s, bar, rfl, .of e7, by omega, by omega, s67.seq hsums, fun p hp => hlt p (List.mem_cons_of_mem _ (List.mem_filter.mp hp).1), hbd, (let ⟨kvs, h1, h2⟩ := hbar; ⟨kvs, s67 _ _ h1, h2⟩), fun H8 v s8 hv => ?_⟩
          have ef8 := s8 _ _ ef7
          have kp8 : KeepL fo H5 H8 := kp.trans (.of (s7.trans s8))
          have pd8 : Paired (CandN fo H8) ((fs.take i).filterMap g) xs := L2.Paired.mapP pd fun _ _ h => h.keepL (.of (s7.trans s8)) ef
          refine ⟨_, rfl, rfl, _, rfl, ?_⟩
          cases hr2 : lp s bar n (others.filter fun p => p != z) with
          | none =>
            rw [hr2] at hv
            obtain rfl : v = .non := hv
            rw [decide_eq_true rfl]
            refine iteF ⟨_, _, _, _, xs, rfl, kp8, ef8, ?_⟩
            rw [tk (cs := none) (by show Option.map _ (lp s bar n (others.filter fun p => p != z)) = none; rw [hr2]; rfl)]
            simpa using pd8
          | some r =>
            rw [hr2] at hv
            obtain ⟨t, l, rfl, ht, rs, hl, tr⟩ := hv
            rw [decide_eq_false (fun z => nomatch z)]
            refine iteT ⟨_, rfl, t, _, rfl, .of ht, rfl, _, _, rfl, _, _, rfl, rfl, ?_⟩
            refine ⟨_, rfl, .inl ⟨rfl, _, .inl (.inl ef8)⟩, ?_⟩
            have hs8 : SqL K H8 b ((List.range N).map fun i => V.int (s i)) := (s67.trans s8).seq hsums
            have sat : ∀ p, p < N → atI ((List.range N).map fun i => V.int (s i)) ((p : Nat) : Int) = some (.int (s p)) := fun p hp => atI_nat (by rw [List.getElem?_map, List.getElem?_range hp]; rfl)
            have h1 := hlt one List.mem_cons_self
            have h2 := hlt z (List.mem_cons_of_mem _ zo)
            have b1 := hbd one h1
            have b2 := hbd z h2
            refine ⟨_, rfl, _, rfl, _, rfl, b, _, _, _, rfl, rfl, hs8, sat one h1, _, rfl, _, rfl, b, _, _, _, rfl, rfl, hs8, sat z h2, _, _, rfl, rfl, _, _, rfl, rfl, ⟨by decide, by decide, by omega⟩, _, _, rfl, rfl, ?_⟩
            refine ⟨_, rfl, _, rfl, by show 2 ≤ sizeLine; decide, fun t1 nt1 => ⟨by show 1 ≤ sizeLine; decide, fun l1 nl1 => ?_⟩⟩
            have a1 : Same H8 (upd H8 t1 (.tup [natV one, natV z])) := same_new nt1
            have a2 : Same (upd H8 t1 (.tup [natV one, natV z])) (upd (upd H8 t1 (.tup [natV one, natV z])) l1 (.lst [.ref t1])) := same_new nl1
            have lr : rs.length = r.2.length := by rw [← Paired.length tr, List.length_map]
            have lm := lp_len hr2
            refine ⟨_, rfl, l1, l, _, rs, rfl, rfl, upd_same, a2 _ _ (a1 _ _ hl), by show 1 + rs.length ≤ sizeLine; exact Nat.le_trans (show 1 + rs.length ≤ 20 by omega) (by decide), fun l2 nl2 => ⟨by show 2 ≤ sizeLine; decide, fun t2 nt2 => ?_⟩⟩
            have a3 := same_new (o := .lst ([.ref t1] ++ rs)) nl2
            have a4 := same_new (o := .tup [.int (r.1 + (s one - s z) ^ (2 : Int).toNat), .ref l2]) nt2
            have a14 := (a1.trans a2).trans (a3.trans a4)
            have ef9 := a14 _ _ ef8
            have lx : xs.length ≤ 10 := by
              rw [← Paired.length pd8]
              have := List.length_filterMap_le g (fs.take i)
              have := List.length_take_le i fs
              have := List.length_take (i := i) (l := fs)
              omega
            refine ⟨fo, xs, .ref t2, rfl, rfl, ef9, Nat.lt_of_le_of_lt lx (by decide), ?_⟩
            have kp9 := (KeepL.of (fo := fo) a14).trans (keepL_put (o := .lst (xs ++ [.ref t2])))
            refine ⟨_, _, _, _, xs ++ [.ref t2], rfl, kp8.trans kp9, upd_same, ?_⟩
            rw [tk (cs := some (r.1 + sq (s one - s z), (one, z) :: r.2)) (by show Option.map _ (lp s bar n (others.filter fun p => p != z)) = _; rw [hr2]; rfl)]
            refine Paired.snoc (L2.Paired.mapP pd8 fun _ _ h => h.keepL kp9 ef8) ?_
            have n2 : l2 ≠ fo := (ne_of_none (a2 _ _ (a1 _ _ ef8)) nl2).symm
            have nt : t2 ≠ fo := (ne_of_none (a3 _ _ (a2 _ _ (a1 _ _ ef8))) nt2).symm
            have tr9 : Tups _ (r.2.map prI) rs := tr.keepL kp9 ef8
            refine ⟨t2, l2, rfl, n2, (upd_ne nt).trans upd_same, .ref t1 :: rs, (upd_ne n2).trans (a4 _ _ upd_same), .cons ⟨t1, rfl, (upd_ne (ne_of_none ef8 nt1).symm).trans ((a3.trans a4) _ _ (a2 _ _ upd_same))⟩ tr9⟩
      · obtain ⟨y6, y7, y8, y9, xs, rfl, kp, ef, pd⟩ := iv
        rw [List.length_map, List.take_length] at pd
        replace pd : Paired (CandAt H6) (fs.filterMap g) xs := L2.Paired.mapP pd fun _ _ h => h.at_
        have s6 : Same H H6 := fun d u h => kp d u (ne_of_none h nf0) (s5 _ _ (s4 _ _ h))
        refine ⟨_, rfl, fo, xs, _, rfl, rfl, .of ef, cands_dp pd, fun e0 => q _ _ s6 ?_, fun i x cc hx hc hl => q _ _ s6 ?_⟩
        · show LpV H6 .non (lp s bar (n + 1) (one :: others))
          rw [elp, e0]
          rfl
        · show LpV H6 x (lp s bar (n + 1) (one :: others))
          rw [elp, hl]
          obtain ⟨c2, h1, h2⟩ := paired_at pd i x hx
          rw [hc] at h1
          cases h1
          exact h2
theorem lp_zero (F : Fd K mg "least_pairs" 18 f fd) (B : Bl mg) : Cal P w K mg base CX0 1 "least_pairs" ["places", "sums", "barred"] (spLp K 0) := by
  refine F.cal ?_ (fun _ _ _ _ _ _ us hl => match us, hl with | [_, _, _], _ => rfl)
  refine F.fu.ok scLp (fun vs H Q E h => by obtain ⟨a, b, c, ps, N, s, bar, rfl, _⟩ := h; rfl) (fun cdv A outer s0 H vs Q E hr h => ⟨_, PSs.nox (pss_cons (ps_if (pt_cmpR (op_eqD hr.units) (pv 0) (pe_lst pa_nil) (nomark _)) (pss_one (ps_ret (pe_tup (pa_cons pe_int (pa_cons (pe_lst pa_nil) pa_nil))))) pss_nil)
    (pss_cons ps_never (pss_cons ps_never (pss_cons ps_never (pss_one ps_never))))), ?_⟩)
  obtain ⟨a, b, c, ps, N, s, bar, rfl, hps, hlen, hten, hsums, hlt, hbd, hbar, q⟩ := h
  refine ⟨_, rfl, Nat.zero_le _, fun e ne => ?_⟩
  have s1 : Same H (upd H e (.lst [])) := same_new ne
  refine ⟨_, .list [], .lst (s1.seq hps) (ints_dp ps), .lst (.of upd_same) .nil, ints_shaped ps, rfl, _, rfl, ?_⟩
  obtain rfl : ps = [] := List.length_eq_zero_iff.mp (Nat.le_zero.mp hlen)
  rw [show PyData.eqv (.list (([] : List Nat).map fun p => PyData.int (p : Nat))) (.list []) = true by simp [PyData.eqv, PyData.eqvAll]]
  refine iteT ⟨Nat.zero_le _, fun l nl => ⟨by show 2 ≤ sizeLine; decide, fun t nt => ?_⟩⟩
  exact q _ _ (s1.trans ((same_new nl).trans (same_new nt))) ⟨t, l, rfl, upd_same, [], (upd_ne (ne_of_none upd_same nt)).trans upd_same, .nil⟩
theorem ok_lp (F : Fd K mg "least_pairs" 18 f fd) (B : Bl mg) : ∀ n, Cal P w K mg base CX0 (n + 1) "least_pairs" ["places", "sums", "barred"] (spLp K n)
  | 0 => lp_zero F B
  | n + 1 => lp_step F B (ok_lp F B n)
end
end K66
set_option Elab.async false
set_option linter.all false
set_option maxRecDepth 100000
set_option maxHeartbeats 4000000
namespace K66
open PySem PySem.Spec PyProof.Rows L2
section
variable {P : Program} {w : World} {K : PySem.W.Frag} {mg : Str → Option Value} {base : Heap} {f : Addr} {fd : FuncData}
/-! names.index(z) -/
theorem idxV {ns : List Str} {z : Str} (h : z ∈ ns) : (ns.map V.str)[ns.idxOf z]? = some (.str z) := by rw [List.getElem?_map, idx_at h]; rfl
theorem eqV_self (z : Str) : eqV (.str z) (.str z) = true := by show (z == z) = true; simp
theorem idxN {ns : List Str} {z : Str} (m : Nat) (y : V) (hm : m < ns.idxOf z) (e : (ns.map V.str)[m]? = some y) : eqV y (.str z) = false := by
  rw [List.getElem?_map] at e
  obtain ⟨x, e1, rfl⟩ := Option.map_eq_some_iff.mp e
  show (x == z) = false
  exact beq_eq_false_iff_ne.mpr (idx_first hm e1)
/-- tuple(a list), tuple(a tuple) -/
def rTupOf (K : PySem.W.Frag) : List V → Hp → VK → Prop := fun xs H Q => ∃ p ys, xs = [.ref p] ∧ ((SqL K H p ys ∧ ∀ l, H l = none → Q (.ref l) (upd H l (.tup ys))) ∨ (SqT K H p ys ∧ Q (.ref p) H))
/-! ### barred_of -/
theorem scBar : FnScope ["names", "met", "one", "other"] ["names", "met"] (defScope (topS 19)) := ⟨rfl, rfl, rfl, by decide +kernel, rfl, by decide +kernel, by decide +kernel⟩
def spBar (K : PySem.W.Frag) : Sp := fun vs H Q _ => ∃ (a m : Addr) (ns : List Str) (met : List (Str × Str)) (xs : List V), vs = [.ref a, .ref m] ∧ SqL K H a (ns.map V.str) ∧ SqA K H m xs ∧ Tups H (met.map prV) xs ∧ (∀ p ∈ met, p.1 ∈ ns ∧ p.2 ∈ ns) ∧ met.length ≤ 1000 ∧
  ∀ H2 d, Same H H2 → BarAt H2 d (barOf ns met) → Q (.ref d) H2
theorem ok_bar (F : Fd K mg "barred_of" 19 f fd) (B : Bl mg) : Cal P w K mg base CX0 1 "barred_of" ["names", "met"] (spBar K) := by
  refine F.cal ?_ (fun _ _ _ _ _ _ us hl => match us, hl with | [_, _], _ => rfl)
  refine F.fu.ok scBar (fun vs H Q E h => by obtain ⟨a, m, ns, met, xs, rfl, _⟩ := h; rfl) (fun cdv A outer s0 H vs Q E hr h => ⟨_, PSs.nox (pss_one (ps_ret (pe_dcT (own := [("one", 2), ("other", 3)]) (g := gTup K 2 (gCons (gName 2) (gCons (gName 3) gNil))) (tk := tCB (rTupOf K) (tCons (tCB (rSorted K) (tCons (tLst (tCons (tBM K "list" (rIndex K) (tVar 0) (tCons (tVar 2) tNil)) (tCons (tBM K "list" (rIndex K) (tVar 0) (tCons (tVar 3) tNil)) tNil))) tNil)) tNil)) hr.units0 rfl scBar.nd (pi_seq (pv 1)) (blkOk_by (own := [("one", 2), ("other", 3)]) (N := ["names", "met", "one", "other"]) (sc := defScope (topS 19)) (by decide +kernel))
    (fun _ _ _ _ _ => pg_tup rfl (pgs_cons (pg_name (i := 2) scBar.nd rfl (Or.inl rfl)) (pgs_cons (pg_name (i := 3) scBar.nd rfl (Or.inl rfl)) pgs_nil)))
    (fun _ _ _ _ _ => pe_callTy call_tuple_of (by rfl) (B.no "tuple") (by decide +kernel) (pa_cons (pe_callB cr_sorted (by rfl) (B.no "sorted") (by decide +kernel) (pa_cons (pe_lst (pa_cons (pe_bm PySem.F.plainAttrs_list PySem.F.slot_list_index PySem.F.type_list_index mt_index (pv 0) (pa_cons (pv 2) pa_nil))
      (pa_cons (pe_bm PySem.F.plainAttrs_list PySem.F.slot_list_index PySem.F.type_list_index mt_index (pv 0) (pa_cons (pv 3) pa_nil)) pa_nil))) pa_nil)) pa_nil)) (fun _ _ _ _ _ => pe_bl) (fun _ => rfl)))), ?_⟩)
  obtain ⟨a, m, ns, met, xs, rfl, hn, hm, ht, hin, few, q⟩ := h
  have lx : xs.length = met.length := by rw [← Paired.length ht, List.length_map]
  refine ⟨_, rfl, m, xs, rfl, hm, fun J G hG wk => ⟨xs.length, G, _, wk, fun D nD => ?_⟩⟩
  refine ⟨fun i H2 => Same H H2 ∧ ∃ kvs : List (List Key × V), H2 D = some (.dT kvs) ∧ kvs.length ≤ i ∧ ∀ i' j' : Nat, (valV kvs [Sum.inl (i' : Int), Sum.inl (j' : Int)]).isSome = barOf ns (met.take i) i' j', ⟨same_new nD, [], upd_same, Nat.le_refl _, fun _ _ => rfl⟩, fun i H2 _ h => hG _ h.1, fun i x H2 H3 hi ⟨s2, kvs, ed, lk, hb⟩ y => ?_, fun H2 ⟨s2, kvs, ed, lk, hb⟩ => ?_⟩
  · obtain ⟨rfl, hx⟩ := y
    obtain ⟨ys, h1, t, rfl, h2⟩ := paired_at (ht.same s2) i x hx
    rw [List.getElem?_map] at h1
    obtain ⟨p, e1, rfl⟩ := Option.map_eq_some_iff.mp h1
    obtain ⟨g1, g2⟩ := hin p (List.mem_of_getElem? e1)
    have hn2 := s2.seq hn
    refine ⟨t, _, rfl, .of h2, rfl, _, _, rfl, _, _, rfl, rfl, rfl, ?_⟩
    refine ⟨_, rfl, .inl ⟨rfl, _, hn2⟩, ?_⟩
    refine ⟨_, rfl, a, _, _, ns.idxOf p.1, .str p.1, rfl, rfl, hn2, rfl, flat_strs ns, idxV g1, eqV_self _, idxN, ?_⟩
    refine ⟨_, rfl, .inl ⟨rfl, _, hn2⟩, ?_⟩
    refine ⟨_, rfl, a, _, _, ns.idxOf p.2, .str p.2, rfl, rfl, hn2, rfl, flat_strs ns, idxV g2, eqV_self _, idxN, ?_⟩
    refine ⟨by show 2 ≤ sizeLine; decide, fun l nl => ?_⟩
    refine ⟨l, [((ns.idxOf p.1 : Nat) : Int), ((ns.idxOf p.2 : Nat) : Int)], rfl, .of upd_same, by show 2 < 64; decide, fun ns2 l2 pm so nl2 => ?_⟩
    refine ⟨l2, _, rfl, .inl ⟨.of upd_same, fun b nb => ?_⟩⟩
    have a1 := same_new (o := .lst [V.int ((ns.idxOf p.1 : Nat) : Int), V.int ((ns.idxOf p.2 : Nat) : Int)]) nl
    have a2 := same_new (o := .lst (ns2.map V.int)) nl2
    have a3 := same_new (o := .tup (ns2.map V.int)) nb
    have a13 := a1.trans (a2.trans a3)
    refine ⟨kvs, ns2.map Sum.inl, b, rfl, by rw [upd_same, List.map_map]; rfl, a13 _ _ ed, Nat.lt_of_le_of_lt (show kvs.length ≤ 1000 by omega) (by decide), ?_⟩
    have eD := a13 _ _ ed
    refine ⟨fun b' u e => ?_, _, upd_same, ?_, fun i' j' => ?_⟩
    · have : b' ≠ D := ne_of_none e (show H D = none from nD)
      exact (upd_ne this).trans (a13 _ _ (s2 _ _ e))
    · have := length_putK kvs (ns2.map Sum.inl : List Key) (.bl true)
      omega
    · rw [valV_put, List.take_add_one, e1]
      have e2 : ns2.map Sum.inl = ([Sum.inl ((keyOf ns p).1 : Int), Sum.inl ((keyOf ns p).2 : Int)] : List Key) := by
        rw [sorted_two pm so]
        unfold keyOf
        by_cases c : ns.idxOf p.1 ≤ ns.idxOf p.2
        · rw [if_pos (Int.ofNat_le.mpr c), if_pos c]
          rfl
        · rw [if_neg (fun z => c (Int.ofNat_le.mp z)), if_neg c]
          rfl
      rw [e2]
      unfold barOf
      rw [List.any_append]
      have hb2 := hb i' j'
      unfold barOf at hb2
      rw [← hb2]
      by_cases c : keyOf ns p = (i', j')
      · rw [c, if_pos rfl]
        simp [c]
      · have c2 : ¬ (([Sum.inl (i' : Int), Sum.inl (j' : Int)] : List Key) = [Sum.inl ((keyOf ns p).1 : Int), Sum.inl ((keyOf ns p).2 : Int)]) := fun z => c (by
          injection z with z1 z2
          injection z2 with z2 _
          exact Prod.ext (Int.ofNat.inj (Sum.inl.inj z1)).symm (Int.ofNat.inj (Sum.inl.inj z2)).symm)
        rw [if_neg c2]
        simp [c]
  · refine q H2 D s2 ⟨kvs, ed, fun i j => ?_⟩
    rw [hb i j, lx, List.take_length]
/-! ### in_order -/
theorem scOrd : FnScope ["some", "pair", "firsts", "one", "other"] ["some", "pair", "firsts"] (defScope (topS 21)) := ⟨rfl, rfl, rfl, by decide +kernel, rfl, by decide +kernel, by decide +kernel⟩
def spOrd (K : PySem.W.Frag) : Sp := fun vs H Q _ => ∃ (a t l : Addr) (ns ls : List Str) (fi : Str → Int) (p : Pr), vs = [.ref a, .ref t, .ref l] ∧ SqL K H a (ns.map V.str) ∧ H t = some (.tup (prI p)) ∧ p.1 < ns.length ∧ p.2 < ns.length ∧ H l = some (.dK (dOf ls fi)) ∧
  ∀ H2 x, Same H H2 → H2 x = some (.tup (prV (named ns (fiOf ls fi) p))) → Q (.ref x) H2
theorem nm_at {ns : List Str} {i : Nat} (h : i < ns.length) : ns[i]? = some (nm ns i) := by
  unfold nm
  rw [List.getD_eq_getElem?_getD, List.getElem?_eq_getElem h]
  rfl
theorem fi_get {ls : List Str} {fi : Str → Int} (z : Str) : (valV (dOf ls fi) (Sum.inr z)).getD (.int 0) = .int (fiOf ls fi z) := by
  rw [dOf_val]
  unfold fiOf
  split <;> rfl
theorem ok_ord (F : Fd K mg "in_order" 21 f fd) : Cal P w K mg base CX0 1 "in_order" ["some", "pair", "firsts"] (spOrd K) := by
  refine F.cal ?_ (fun _ _ _ _ _ _ us hl => match us, hl with | [_, _, _], _ => rfl)
  refine F.fu.ok scOrd (fun vs H Q E h => by obtain ⟨a, t, l, ns, ls, fi, p, rfl, _⟩ := h; rfl) (fun cdv A outer s0 H vs Q E hr h => ⟨_, PSs.nox (pss_cons (ps_par (i := 3) (j := 4) (by rfl) scOrd.nd rfl rfl (by decide) rfl rfl (pa_cons (pe_ix ix_list (pv 0) (pe_ix ix_tup (pv 1) pe_int (fun _ _ => rfl)) (fun _ _ => rfl)) (pa_cons (pe_ix ix_list (pv 0) (pe_ix ix_tup (pv 1) pe_int (fun _ _ => rfl)) (fun _ _ => rfl)) pa_nil)) (by rfl))
    (pss_one (ps_ret (pe_ifExp (pt_cmpR op_lt (pe_dget2 (hu_of hr) (pv 2) (pv 4) pe_int ⟨rfl, rfl, rfl, rfl⟩) (pe_dget2 (hu_of hr) (pv 2) (pv 3) pe_int ⟨rfl, rfl, rfl, rfl⟩) (nomark _)) (pe_tup (pa_cons (pv 4) (pa_cons (pv 3) pa_nil))) (pe_tup (pa_cons (pv 3) (pa_cons (pv 4) pa_nil))))))), ?_⟩)
  obtain ⟨a, t, l, ns, ls, fi, p, rfl, hn, ht, h1, h2, hl, q⟩ := h
  have at_ : ∀ i, i < ns.length → atI (ns.map V.str) ((i : Nat) : Int) = some (.str (nm ns i)) := fun i hi => atI_nat (by rw [List.getElem?_map, nm_at hi]; rfl)
  refine ⟨_, rfl, _, rfl, t, _, _, natV p.1, rfl, rfl, .of ht, rfl, a, _, _, _, rfl, rfl, hn, at_ p.1 h1, ?_⟩
  refine ⟨_, rfl, _, rfl, t, _, _, natV p.2, rfl, rfl, .of ht, rfl, a, _, _, _, rfl, rfl, hn, at_ p.2 h2, ?_⟩
  refine ⟨_, _, rfl, ?_⟩
  refine ⟨_, rfl, l, rfl, .inl ⟨_, .inl hl⟩, _, rfl, _, DGet.k (k := Sum.inr (nm ns p.2)) hl, ?_⟩
  rw [fi_get]
  refine ⟨_, rfl, l, rfl, .inl ⟨_, .inl hl⟩, _, rfl, _, DGet.k (k := Sum.inr (nm ns p.1)) hl, ?_⟩
  rw [fi_get]
  refine ⟨_, _, rfl, rfl, _, rfl, ?_⟩
  by_cases c : fiOf ls fi (nm ns p.2) < fiOf ls fi (nm ns p.1)
  · rw [decide_eq_true c]
    refine iteT ⟨_, rfl, _, rfl, by show 2 ≤ sizeLine; decide, fun x nx => q _ x (same_new nx) ?_⟩
    rw [upd_same]
    unfold named prV
    rw [if_pos c]
  · rw [decide_eq_false c]
    refine iteF ⟨_, rfl, _, rfl, by show 2 ≤ sizeLine; decide, fun x nx => q _ x (same_new nx) ?_⟩
    rw [upd_same]
    unfold named prV
    rw [if_neg c]
end
end K66
set_option Elab.async false
set_option linter.all false
set_option maxRecDepth 100000
set_option maxHeartbeats 4000000
namespace K66
open PySem PySem.Spec PyProof.Rows L2 LamX
/-! ### paired -/
theorem scPair : FnScope ["names", "points", "met", "sat", "firsts", "some", "places", "barred", "spare", "out", "found", "games", "sums", "name", "place", "pair"] ["names", "points", "met", "sat", "firsts"] (defScope (topS 20)) := ⟨rfl, rfl, rfl, by decide +kernel, rfl, by decide +kernel, by decide +kernel⟩
abbrev nPair : List Str := ["names", "points", "met", "sat", "firsts", "some", "places", "barred", "spare", "out", "found", "games", "sums", "name", "place", "pair"]
/-- the rule of a def whose code object is known -/
theorem okC {P : Program} {w : World} {K : PySem.W.Frag} {mg : Str → Option Value} {base : Heap} {x qual : Str} {params : Arguments} {body : List Stmt} {scope : Scope} {dvs : List V} {kws : List (Str × V)} {f : Addr} {fd : FuncData} {CX : CXT} {N ps : List Str} {k : Nat} {sp : Sp}
    (F : FunD K x qual params body scope dvs kws f fd) (S : FnScope N ps scope) (len : ∀ vs H Q E, sp vs H Q E → vs.length = ps.length)
    (hbody : ∀ (cdv : Value) (A : Around) (outer : List Env) (s : Shared) (H : Hp) (vs : List V) (Q : VK) (E : XK), fd.code = cdv → Room k (A.deeper (envOfC qual scope s.heap.objs.size f cdv)) → sp vs H Q E →
      ∃ t, PSs (cxOf CX P w K mg base N qual scope f cdv A outer s H E) body t ∧ t { nx := fun _ H' => Q .non H', rt := Q } (L2.start N vs) H) : FnOk P w K mg base CX (k + 1) f fd ps sp := by
  obtain ⟨oc, od, dV, kV, doc, pm, an, cdv, ct, osl, rfl, lk, hcd, _, _⟩ := F.ex
  exact fn_of lk hcd S len fun A outer s H vs Q E hr hsp => hbody cdv A outer s H vs Q E rfl hr hsp
structure NpF (K : PySem.W.Frag) (mg : Str → Option Value) (C : Addr) : Prop where
  x : PySem.W.excIn K C [.type "ValueError", .type "Exception", .type "BaseException", .type "object"] "ValueError.__new__" = true
  g : mg "NoPairing" = some (.ref C)
  k : PySem.W.keepIn K (.ref C) = true
  b : PySem.W.subIn K (.ref C) (.type "BaseException") = some true
  t : PySem.W.typeIn K (.ref C) = some (.type "type")
  e : PySem.W.exmOne K (.ref C) (.ref C) = some true
def pairedN (T : Tk) : Option (List (Str × Str) × Option Str) := (pairedP T.ns.length (fun i => T.pt (nm T.ns i)) (barOf T.ns T.met) (fun i => decide (nm T.ns i ∈ T.sat))).map fun r => (r.1.map (named T.ns (fiOf T.ls T.fi)), r.2.map (nm T.ns))
def outV : Option Str → V
  | none => .non
  | some z => .str z
/-- a pairing as it is given back -/
def ResAt (H : Hp) (v : V) (r : List (Str × Str) × Option Str) : Prop := ∃ t g xs, v = .ref t ∧ H t = some (.tup [.ref g, outV r.2]) ∧ H g = some (.lst xs) ∧ Tups H (r.1.map prV) xs
def optV : Option Nat → V
  | none => .non
  | some p => natV p
theorem optV_eq (p : Nat) (o : Option Nat) : decide (natV p = optV o) = !decide (some p ≠ o) := by
  cases o with
  | none =>
    have h1 : natV p ≠ optV none := fun z => nomatch z
    rw [decide_eq_false h1, decide_eq_true (show some p ≠ none from fun z => nomatch z)]
    rfl
  | some q =>
    by_cases e : p = q
    · subst e
      simp [optV]
    · have h1 : natV p ≠ optV (some q) := fun z => e (Int.ofNat.inj (V.int.inj z))
      have h2 : some p ≠ some q := fun z => e (Option.some.inj z)
      rw [decide_eq_false h1, decide_eq_true h2]
      rfl
theorem pairedP_end {n : Nat} {s : Nat → Int} {bar : Nat → Nat → Bool} {satp : Nat → Bool} (h : ∀ o ∈ outsOf n s satp, tryOut n s bar o = none) : pairedP n s bar satp = none := by
  unfold pairedP
  rw [List.findSome?_eq_none_iff]
  exact h
theorem pairedP_hit {n i : Nat} {s : Nat → Int} {bar : Nat → Nat → Bool} {satp : Nat → Bool} {o : Option Nat} {r : List Pr × Option Nat} (hi : (outsOf n s satp)[i]? = some o) (h : ∀ o ∈ (outsOf n s satp).take i, tryOut n s bar o = none) (e : tryOut n s bar o = some r) : pairedP n s bar satp = some r := by
  unfold pairedP
  rw [List.findSome?_eq_some_iff]
  obtain ⟨lt, ei⟩ := List.getElem?_eq_some_iff.mp hi
  refine ⟨(outsOf n s satp).take i, o, (outsOf n s satp).drop (i + 1), ?_, e, h⟩
  rw [← ei, List.getElem_cons_drop, List.take_append_drop]
/-- what stands ahead of the walk through those that may sit out -/
structure Mid (K : PySem.W.Frag) (T : List (Addr × Str)) (W : Tk) (l so po bd su : Addr) (H H6 : Hp) : Prop where
  ext : ExtN H H6
  tabs : Tabs T H6
  so : H6 so = some (.lst (W.ns.map V.str))
  po : H6 po = some (.lst ((List.range W.ns.length).map natV))
  bar : BarAt H6 bd (barOf W.ns W.met)
  su : H6 su = some (.lst ((List.range W.ns.length).map fun i => V.int (W.pt (nm W.ns i))))
  led : H6 l = some (.dK (dOf W.ls W.fi))
def outsN (W : Tk) : List (Option Nat) := outsOf W.ns.length (fun i => W.pt (nm W.ns i)) (fun i => decide (nm W.ns i ∈ W.sat))
def spPair (K : PySem.W.Frag) (T : List (Addr × Str)) (C : Addr) : Sp := fun vs H Q E => ∃ (W : Tk) (a d m s l : Addr), vs = [.ref a, .ref d, .ref m, .ref s, .ref l] ∧ W.Ok ∧ W.At K H a d m s l ∧ Tabs T H ∧
  (∀ r, pairedN W = some r → ∀ H2 v, ExtN H H2 → Tabs T H2 → ResAt H2 v r → Q v H2) ∧ (pairedN W = none → ∀ H2, ExtN H H2 → Tabs T H2 → E (.ref C) none H2)
section
variable {P : Program} {w : World} {K : PySem.W.Frag} {mg : Str → Option Value} {base : Heap} {f : Addr} {fd : FuncData}
theorem nm_mem {ns : List Str} {i : Nat} (h : i < ns.length) : nm ns i ∈ ns := List.mem_of_getElem? (nm_at h)
theorem ok_paired {c Pt C : Addr} (F : Fd K mg "paired" 20 f fd) (B : Bl mg) (N : NpF K mg C) (hc : fd.code = .ref c) (TB : TabB base mg c Pt) (Nd : Cal P w K mg base CX0 4 "need_pairable" ["names", "points", "met", "sat", "firsts"] (spNeed K)) (Lp : ∀ n, Cal P w K mg base CX0 (n + 1) "least_pairs" ["places", "sums", "barred"] (spLp K n))
    (Br : Cal P w K mg base CX0 1 "barred_of" ["names", "met"] (spBar K)) (Od : Cal P w K mg base CX0 1 "in_order" ["some", "pair", "firsts"] (spOrd K)) : FnOk P w K mg base (L2.CX P w) 13 f fd ["names", "points", "met", "sat", "firsts"] (spPair K [(Pt, "paired.<locals>.<lambda>")] C) := by
  refine okC F.fu scPair (fun vs H Q E h => by obtain ⟨W, a, d, m, s, l, rfl, _⟩ := h; rfl) (fun cdv A outer s0 H vs Q E ecd hr h => ?_)
  obtain ⟨W, a, d, m, s, l, rfl, ok, at0, tb0, qs, qn⟩ := h
  have n10 := ok.names.hi
  obtain rfl : cdv = .ref c := ecd.symm.trans hc
  have n2 := ok.names.lo
  let n := W.ns.length
  let sm : Nat → Int := fun i => W.pt (nm W.ns i)
  let bar := barOf W.ns W.met
  obtain ⟨tt, hts, htr⟩ : ∃ tt, PSs (cxOf (L2.CX P w) P w K mg base nPair "paired" (defScope (topS 20)) f (.ref c) A outer s0 H E) ((defBody (topS 20)).drop 5) tt ∧ ∀ (so po bd su spa : Addr) (H6 : Hp), Mid K [(Pt, "paired.<locals>.<lambda>")] W l so po bd su H H6 → H6 spa = some (.lst ((outsN W).map optV)) →
      tt { nx := fun _ H' => Q .non H', rt := Q } [some (.ref a), some (.ref d), some (.ref m), some (.ref s), some (.ref l), some (.ref so), some (.ref po), some (.ref bd), some (.ref spa), none, none, none, some (.ref su), none, none, none] H6 := by
    refine ⟨_, pss_cons (ps_for (passes_of rfl) rfl (pi_list (pv 8)) (pg_name (i := 9) scPair.nd rfl (Or.inr rfl))
      (pss_cons (ps_set (i := 10) scPair.nd rfl (Or.inl rfl) (pe_cal (Lp W.ns.length) (hr.mono (by omega)) (pa_cons (pe_lc (own := [("place", 14)]) (g := gName 14) rfl scPair.nd (pi_list (pv 6)) (blkOk_by (own := [("place", 14)]) (N := nPair) (sc := defScope (topS 20)) (by decide +kernel))
          (fun _ _ _ _ _ => pg_name (i := 14) scPair.nd rfl (Or.inl rfl)) (fun _ _ _ _ _ => pts_one (pt_cmpR op_ne (pv 14) (pv 9) (nomark _))) (fun _ _ _ _ _ => pv 14)) (pa_cons (pv 12) (pa_cons (pv 7) pa_nil)))))
      (pss_one (ps_if (pt_cmpR op_notN (pv 10) pe_non (nomark _))
        (pss_cons (ps_setLc (i := 11) (own := [("pair", 15)]) (g := gName 15) (by rfl) scPair.nd rfl rfl (sw_true rfl rfl rfl (by decide +kernel)) (pi_list (pe_ix ix_tup (pv 10) pe_int (fun _ _ => rfl))) (blkOk_by (own := [("pair", 15)]) (N := nPair) (sc := defScope (topS 20)) (by decide +kernel))
          (fun _ _ _ _ _ => pg_name (i := 15) scPair.nd rfl (Or.inl rfl)) (fun _ _ _ _ _ => pts_nil) (fun _ _ _ _ _ => pe_cal Od (hr.mono (by decide)) (pa_cons (pv 5) (pa_cons (pv 15) (pa_cons (pe_ifExp (pt_cmpR op_isN (pv 4) pe_non (nomark _)) pe_dnewK (pv 4)) pa_nil)))))
        (pss_one (ps_ret (pe_tup (pa_cons (pv 11) (pa_cons (pe_ifExp (pt_cmpR op_isN (pv 9) pe_non (nomark _)) pe_non (pe_ix ix_list (pv 5) (pv 9) (fun _ _ => rfl))) pa_nil)))))) pss_nil))))
      (pss_one (ps_raise rfl (takes_of rfl rfl rfl rfl) (pmk_own PySem.F.excBase_ValueError N.x N.g N.k (raises_own N.b N.t) (by exact rfl)))), fun so po bd su spa H6 mi hsp => ?_⟩
    refine ⟨_, rfl, spa, rfl, ⟨_, .of hsp⟩, for_list (xs := (outsN W).map optV) (fun i σ2 H2 => ∃ y9 y10 y11, σ2 = [some (.ref a), some (.ref d), some (.ref m), some (.ref s), some (.ref l), some (.ref so), some (.ref po), some (.ref bd), some (.ref spa), y9, y10, y11, some (.ref su), none, none, none] ∧ Same H6 H2 ∧ ∀ o ∈ (outsN W).take i, tryOut n sm bar o = none)
      ⟨none, none, none, rfl, Same.refl _, fun o ho => by rw [List.take_zero] at ho; cases ho⟩ (fun i σ2 H2 _ ⟨_, _, _, _, s2, _⟩ => .of (s2 _ _ hsp)) (fun i x σ2 H7 hx iv => ?_) fun σ2 H7 iv => ?_⟩
    · obtain ⟨y9, y10, y11, rfl, s7, hno⟩ := iv
      obtain ⟨o, ho, rfl, hm⟩ := at_map hx
      have hpo := s7 _ _ mi.po
      refine ⟨_, rfl, po, rfl, ⟨_, .of hpo⟩, fun D nD => ?_⟩
      refine lc_map rl_same walk_list (L := List.range n) (List.length_map ..) (fun p => decide (some p ≠ o)) natV (by rw [List.length_map, List.length_range]; exact Nat.lt_of_le_of_lt n10 (by decide)) nD (same_new nD) (fun H8 s8 => .of (s8 _ _ hpo)) (fun j y v H8 H9 Kt Kf hy s8 w kt kf => ?_) fun H8 s8 e8 => ?_
      · obtain ⟨rfl, hv⟩ := w
        rw [List.getElem?_map, hy] at hv
        obtain rfl : natV y = v := Option.some.inj hv
        refine ⟨rfl, _, rfl, _, rfl, (by cases o <;> rfl), _, rfl, ?_⟩
        rw [optV_eq, Bool.not_not]
        cases hyz : decide (some y ≠ o) with
        | true => exact iteT ⟨_, rfl, kt hyz _ (Same.refl _)⟩
        | false => exact iteF (kf hyz _ (Same.refl _))
      · have s68 := s7.trans s8
        have lz : (placesBut n o).length ≤ n := by
          have := List.length_filter_le (fun p => decide (some p ≠ o)) (List.range n)
          rw [List.length_range] at this
          exact this
        refine ⟨_, rfl, _, rfl, D, su, bd, placesBut n o, n, sm, bar, rfl, .of e8, lz, Nat.le_trans lz n10, .of (s68 _ _ mi.su), fun p hp => List.mem_range.mp (List.mem_filter.mp hp).1, fun i hi => ?_, (let ⟨kvs, h1, h2⟩ := mi.bar; ⟨kvs, s68 _ _ h1, h2⟩), fun H9 v s9 hv => ?_⟩
        · exact (ok.pts.of _ (nm_mem hi)).2.2
        refine ⟨_, rfl, rfl, _, rfl, ?_⟩
        cases hlp : lp sm bar n (placesBut n o) with
        | none =>
          rw [hlp] at hv
          obtain rfl : v = .non := hv
          rw [decide_eq_true rfl]
          refine iteF ⟨_, _, _, rfl, s68.trans s9, fun o2 h2 => ?_⟩
          rw [List.take_add_one, ho] at h2
          rcases List.mem_append.mp h2 with h2 | h2
          · exact hno o2 h2
          · obtain rfl : o2 = o := by simpa using h2
            unfold tryOut
            rw [hlp]
            rfl
        | some cc =>
          rw [hlp] at hv
          obtain ⟨t, l2, rfl, ht, rs, hl, tr⟩ := hv
          rw [decide_eq_false (fun z => nomatch z)]
          have hit : pairedP n sm bar (fun i => decide (nm W.ns i ∈ W.sat)) = some (cc.2, o) := pairedP_hit ho hno (by unfold tryOut; rw [hlp]; rfl)
          have hmem := pairedP_mem hit
          have lrs : rs.length = cc.2.length := by rw [← Paired.length tr, List.length_map]
          have lcc := lp_len hlp
          refine iteT ⟨_, rfl, t, _, _, .ref l2, rfl, rfl, .of ht, rfl, l2, rfl, ⟨_, .of hl⟩, fun D2 nD2 => ?_⟩
          have s69 := s68.trans s9
          refine lc_gen rl_same walk_list (fun j H acc => Tups H (((cc.2.take j).map (named W.ns (fiOf W.ls W.fi))).map prV) acc) (by rw [lrs]; exact Nat.lt_of_le_of_lt (Nat.le_trans lcc (Nat.le_trans lz n10)) (by decide)) nD2 (same_new nD2) .nil (fun j H acc h => ?_) (fun j H acc xs ys e h => h.mono fun t ws q => (upd_ne (ne_of q e (fun z => nomatch z))).trans q) (fun H10 s10 => .of (s10 _ _ hl)) (fun j x H10 H11 acc Kt Kf hj s10 eD hacc y kt kf => ?_) fun H10 acc s10 eD hacc => ?_
          · rw [← Paired.length h, List.length_map, List.length_map]
            exact List.length_take_le _ _
          · obtain ⟨rfl, hx2⟩ := y
            obtain ⟨ys, h1, t1, rfl, h2⟩ := paired_at (tr.same s10) j x hx2
            rw [List.getElem?_map] at h1
            obtain ⟨p, e1, rfl⟩ := Option.map_eq_some_iff.mp h1
            obtain ⟨g1, g2, _⟩ := hmem.1 p (List.mem_of_getElem? e1)
            have s6b := s69.trans s10
            refine ⟨rfl, _, rfl, _, rfl, _, rfl, rfl, _, rfl, ?_⟩
            rw [decide_eq_false (fun z => nomatch z)]
            refine iteF ⟨_, rfl, so, t1, l, W.ns, W.ls, W.fi, p, rfl, .of (s6b _ _ mi.so), h2, g1, g2, s6b _ _ mi.led, fun H12 x12 s12 e12 => kt _ _ s12 ?_⟩
            rw [List.take_add_one, e1]
            simp only [Option.toList_some, List.map_append, List.map_cons, List.map_nil]
            exact (hacc.same s12).snoc e12
          · rw [lrs, List.take_length] at hacc
            have hr2 : pairedN W = some (cc.2.map (named W.ns (fiOf W.ls W.fi)), o.map (nm W.ns)) := by
              unfold pairedN
              rw [hit]
              rfl
            have s6b := s69.trans s10
            have fin : ∀ t3, H10 t3 = none → Q (.ref t3) (upd H10 t3 (.tup [.ref D2, outV (o.map (nm W.ns))])) := fun t3 nt3 => by
              have s11 := same_new (o := .tup [.ref D2, outV (o.map (nm W.ns))]) nt3
              refine qs _ hr2 _ _ (mi.ext.trans (ExtN.of (s6b.trans s11))) (mi.tabs.ext (s6b.trans s11)) ⟨t3, D2, acc, rfl, upd_same, s11 _ _ eD, hacc.same s11⟩
            refine ⟨_, rfl, _, rfl, rfl, _, rfl, ?_⟩
            cases o with
            | none =>
              rw [decide_eq_true (show optV none = .non from rfl)]
              exact iteT ⟨by show 2 ≤ sizeLine; decide, fun t3 nt3 => fin t3 nt3⟩
            | some q =>
              have hq := hmem.2 q rfl
              rw [decide_eq_false (show ¬ optV (some q) = .non from fun z => nomatch z)]
              exact iteF ⟨_, rfl, _, rfl, so, _, _, _, rfl, rfl, .of (s6b _ _ mi.so), atI_nat (by rw [List.getElem?_map, nm_at hq]; rfl), ⟨by show 2 ≤ sizeLine; decide, fun t3 nt3 => fin t3 nt3⟩⟩
    · obtain ⟨y9, y10, y11, rfl, s7, hno⟩ := iv
      rw [List.length_map, List.take_length] at hno
      have hn : pairedN W = none := by
        unfold pairedN
        rw [pairedP_end (fun o ho => hno o ho)]
        rfl
      exact qn hn H7 (mi.ext.trans (ExtN.of s7)) (mi.tabs.ext s7)
  refine ⟨_, pss_cons (ps_expr (pe_cal Nd (hr.mono (by decide)) (pa_cons (pv 0) (pa_cons (pv 1) (pa_cons (pv 2) (pa_cons (pv 3) (pa_cons (pv 4) pa_nil)))))))
    (pss_cons (ps_set (i := 5) scPair.nd rfl (Or.inr rfl) (pe_callTy call_list_of (by rfl) (B.no "list") (by decide +kernel) (pa_cons (pv 0) pa_nil)))
    (pss_cons (ps_asg (pe_tup (pa_cons (pe_listRg rfl (by rfl) (B.no "list") (prg_1 (by rfl) (B.no "range") (pe_callB call_len_seq (by rfl) (B.no "len") (by decide +kernel) (pa_cons (pv 5) pa_nil))))
        (pa_cons (pe_lc (own := [("name", 13)]) (g := gName 13) rfl scPair.nd (pi_list (pv 5)) (blkOk_by (own := [("name", 13)]) (N := nPair) (sc := defScope (topS 20)) (by decide +kernel))
          (fun _ _ _ _ _ => pg_name (i := 13) scPair.nd rfl (Or.inl rfl)) (fun _ _ _ _ _ => pts_nil) (fun _ _ _ _ _ => pe_dget (hu_of hr) (pv 1) (pv 13) (fun _ _ => rfl))) pa_nil))) (pg_tup rfl (pgs_cons (pg_name (i := 6) scPair.nd rfl (Or.inl rfl)) (pgs_cons (pg_name (i := 12) scPair.nd rfl (Or.inr rfl)) pgs_nil))))
    (pss_cons (ps_par (i := 7) (j := 8) (by rfl) scPair.nd rfl rfl (by decide) rfl rfl (pa_cons (pe_cal Br (hr.mono (by decide)) (pa_cons (pv 5) (pa_cons (pv 2) pa_nil))) (pa_cons (pe_lst (pa_cons pe_non pa_nil)) pa_nil)) (by rfl))
    (pss_cons (ps_if (pt_cmpR op_eq (pe_op op_mod (pe_callB call_len_seq (by rfl) (B.no "len") (by decide +kernel) (pa_cons (pv 6) pa_nil)) pe_int) pe_int (nomark _))
        (pss_one (ps_set (i := 8) scPair.nd rfl (Or.inl rfl) (pe_sortLam (i := 12) (T := [(Pt, "paired.<locals>.<lambda>")]) (c := c) (P := Pt) (hr.mono (by decide)) (by rfl) (B.no "sorted") (pe_lc (own := [("place", 14)]) (g := gName 14) (tt := tTest (tOp (rIn K true) (tOp (rIxL K) (tVar 5) (tVar 14)) (tVar 3))) rfl scPair.nd (pi_list (pv 6)) (blkOk_by (own := [("place", 14)]) (N := nPair) (sc := defScope (topS 20)) (by decide +kernel))
          (fun _ _ _ _ _ => pg_name (i := 14) scPair.nd rfl (Or.inl rfl)) (fun _ _ _ _ _ => pts_one (pt_cmpR op_notIn_seq (pe_ix ix_list (pv 5) (pv 14) (fun _ _ => rfl)) (pv 3) (by rfl))) (fun _ _ _ _ _ => pv 14)) TB rfl List.mem_cons_self (fun p hp _ => by rw [List.mem_singleton.mp hp]; rfl) rfl rfl))) pss_nil) hts)))), ?_⟩
  refine ⟨_, rfl, _, rfl, _, rfl, _, rfl, _, rfl, W, a, d, m, s, l, rfl, ok, at0, fun H1 s1 => ?_⟩
  have at1 := at0.same s1
  refine ⟨_, rfl, a, _, rfl, at1.ns, fun so nso => ?_⟩
  have s2 := same_new (o := .lst (W.ns.map V.str)) nso
  have eso : upd H1 so (.lst (W.ns.map V.str)) so = some (.lst (W.ns.map V.str)) := upd_same
  have at2 := at1.same s2
  generalize upd H1 so (.lst (W.ns.map V.str)) = H2 at s2 at2 eso
  have hlen : (W.ns.map V.str).length = W.ns.length := List.length_map ..
  refine ⟨_, rfl, so, _, rfl, .inl (.of eso), _, rfl, RgOk.of_le (Int.le_refl _) (by rw [hlen]; omega) (by decide) (by omega), fun po npo => ?_⟩
  rw [show rgV 0 ((W.ns.map V.str).length : Nat) = (List.range W.ns.length).map natV by
    unfold rgV natV
    rw [hlen, Int.sub_zero, Int.toNat_natCast]
    apply List.map_congr_left
    intro i _
    rw [Int.zero_add]] at *
  have s3 := same_new (o := .lst ((List.range W.ns.length).map natV)) npo
  have epo : upd H2 po (.lst ((List.range W.ns.length).map natV)) po = some (.lst ((List.range W.ns.length).map natV)) := upd_same
  have at3 := at2.same s3
  have eso3 := s3 _ _ eso
  generalize upd H2 po (.lst ((List.range W.ns.length).map natV)) = H3 at s3 at3 epo eso3
  refine ⟨_, rfl, so, rfl, ⟨_, .of eso3⟩, fun su nsu => ?_⟩
  refine lc_map rl_same walk_list (L := W.ns) hlen (fun _ => true) (fun z => V.int (W.pt z)) (by rw [hlen]; exact Nat.lt_of_le_of_lt n10 (by decide)) nsu (same_new nsu) (fun H4 s4 => .of (s4 _ _ eso3)) (fun i z x H4 H5 Kt Kf hz s4 y kt kf => ?_) fun H4 s4 e4 => ?_
  · obtain ⟨rfl, hx⟩ := y
    rw [List.getElem?_map, hz] at hx
    obtain rfl : V.str z = x := Option.some.inj hx
    have hm := List.mem_of_getElem? hz
    exact ⟨rfl, iteT (B := Kf H5) ⟨_, rfl, _, rfl, d, .int (W.pt z), rfl, .inl ⟨_, Sum.inr z, .inl (s4 _ _ at3.pt), rfl, (dOf_in hm).symm⟩, kt rfl _ (Same.refl _)⟩⟩
  · have at4 := at3.same s4
    have eso4 := s4 _ _ eso3
    have epo4 := s4 _ _ epo
    rw [show (W.ns.filter fun _ => true) = W.ns from List.filter_eq_self.mpr fun _ _ => rfl] at e4
    have e4 : H4 su = some (.lst ((List.range W.ns.length).map fun i => V.int (W.pt (nm W.ns i)))) := by
      rw [e4]
      congr 2
      apply List.ext_getElem?
      intro i
      rw [List.getElem?_map, List.getElem?_map]
      by_cases hi : i < W.ns.length
      · rw [nm_at hi, List.getElem?_range hi]
        rfl
      · rw [List.getElem?_eq_none (by omega), List.getElem?_eq_none (by rw [List.length_range]; omega)]
        rfl
    refine ⟨by show 2 ≤ sizeLine; decide, fun t0 nt0 => ?_⟩
    have s5 := same_new (o := .tup [.ref po, .ref su]) nt0
    refine ⟨t0, _, rfl, .of upd_same, rfl, _, _, rfl, _, _, rfl, rfl, ?_⟩
    have at5 := at4.same s5
    have eso5 := s5 _ _ eso4
    have epo5 := s5 _ _ epo4
    have esu5 := s5 _ _ e4
    have ext5 : Same H (upd H4 t0 (.tup [.ref po, .ref su])) := s1.trans (s2.trans (s3.trans (s4.trans s5)))
    generalize upd H4 t0 (.tup [.ref po, .ref su]) = H5 at s5 at5 eso5 epo5 esu5 ext5
    obtain ⟨mx, hm, tm⟩ := at5.met
    refine ⟨_, rfl, _, rfl, so, m, W.ns, W.met, mx, rfl, .of eso5, hm, tm, fun p hp => ⟨(ok.met p hp).1, (ok.met p hp).2.1⟩, ok.mfew, fun H6 bd s6 hbar => ?_⟩
    refine ⟨by show 1 ≤ sizeLine; decide, fun sp nsp => ?_⟩
    have s7 := same_new (o := .lst [.non]) nsp
    have esp : upd H6 sp (.lst [.non]) sp = some (.lst [.non]) := upd_same
    have ext7 := ext5.trans (s6.trans s7)
    have eso7 := s7 _ _ (s6 _ _ eso5)
    have epo7 := s7 _ _ (s6 _ _ epo5)
    have esu7 := s7 _ _ (s6 _ _ esu5)
    have led7 := s7 _ _ (s6 _ _ at5.led)
    have sat7 := (at5.sat.same s6).same s7
    have bar7 : BarAt (upd H6 sp (.lst [.non])) bd (barOf W.ns W.met) := let ⟨kvs, h1, h2⟩ := hbar; ⟨kvs, s7 _ _ h1, h2⟩
    generalize upd H6 sp (.lst [.non]) = H7 at s7 esp ext7 eso7 epo7 esu7 led7 sat7 bar7
    have mi7 : Mid K [(Pt, "paired.<locals>.<lambda>")] W l so po bd su H H7 := ⟨ExtN.of ext7, tb0.ext ext7, eso7, epo7, bar7, esu7, led7⟩
    refine ⟨_, _, rfl, ?_⟩
    refine ⟨_, rfl, po, _, rfl, .inl (.of epo7), _, _, rfl, rfl, (by show (0 : Int) < 2; decide), rfl, _, rfl, ?_⟩
    rw [List.length_map, List.length_range]
    by_cases hodd : W.ns.length % 2 = 1
    · rw [decide_eq_true (show V.int ((W.ns.length : Nat) % 2 : Int) = V.int 1 by rw [show ((W.ns.length : Nat) % 2 : Int) = 1 by omega])]
      refine iteT ⟨_, rfl, po, rfl, ⟨_, .of epo7⟩, fun D nD => ?_⟩
      refine lc_map rl_same walk_list (L := List.range n) (List.length_map ..) (fun p => !decide (nm W.ns p ∈ W.sat)) natV (by rw [List.length_map, List.length_range]; exact Nat.lt_of_le_of_lt n10 (by decide)) nD (same_new nD) (fun H8 s8 => .of (s8 _ _ epo7)) (fun j y v H8 H9 Kt Kf hy s8 w kt kf => ?_) fun H8 s8 e8 => ?_
      · obtain ⟨rfl, hv⟩ := w
        rw [List.getElem?_map, hy] at hv
        obtain rfl : natV y = v := Option.some.inj hv
        have hyn : y < n := List.mem_range.mp (List.mem_of_getElem? hy)
        refine ⟨rfl, _, rfl, _, rfl, so, _, _, .str (nm W.ns y), rfl, rfl, .of (s8 _ _ eso7), atI_nat (by rw [List.getElem?_map, nm_at hyn]; rfl), ?_⟩
        refine ⟨_, rfl, s, _, rfl, sat7.same s8, rfl, flat_strs _, _, rfl, ?_⟩
        rw [show (if true = true then !inV (V.str (nm W.ns y)) (W.sat.map V.str) else inV (V.str (nm W.ns y)) (W.sat.map V.str)) = !decide (nm W.ns y ∈ W.sat) by rw [if_pos rfl, inV_str]]
        cases hk : (!decide (nm W.ns y ∈ W.sat)) with
        | true => exact iteT ⟨_, rfl, kt hk _ (Same.refl _)⟩
        | false => exact iteF (kf hk _ (Same.refl _))
      · have lf : ((List.range n).filter fun p => !decide (nm W.ns p ∈ W.sat)).length ≤ n := by
          have := List.length_filter_le (fun p => !decide (nm W.ns p ∈ W.sat)) (List.range n)
          rw [List.length_range] at this
          exact this
        refine ⟨D, su, (List.range n).filter fun p => !decide (nm W.ns p ∈ W.sat), n, sm, rfl, .of e8, Nat.le_trans lf (Nat.le_trans n10 (by decide)), mi7.tabs.ext s8, rfl, .of (s8 _ _ esu7), fun p hp => List.mem_range.mp (List.mem_filter.mp hp).1, Nat.le_trans n10 (by decide), fun H9 sp2 x9 t9 nsp2 => ?_⟩
        have s10 := same_new (o := .lst ((spareOf sm ((List.range n).filter fun p => !decide (nm W.ns p ∈ W.sat))).map fun p => V.int (p : Nat))) nsp2
        have go : ∀ {b : Addr} {u : HO}, (∀ ps, u ≠ .tbl ps) → H7 b = some u → upd H9 sp2 (.lst ((spareOf sm ((List.range n).filter fun p => !decide (nm W.ns p ∈ W.sat))).map fun p => V.int (p : Nat))) b = some u := fun {b u} nt e => s10 _ _ (x9 _ _ (s8 _ _ e) nt)
        refine htr so po bd su sp2 _ ⟨mi7.ext.trans ((ExtN.of s8).trans (x9.trans (ExtN.of s10))), t9.ext s10, go (fun _ z => nomatch z) eso7, go (fun _ z => nomatch z) epo7, (let ⟨kvs, h1, h2⟩ := bar7; ⟨kvs, go (fun _ z => nomatch z) h1, h2⟩), go (fun _ z => nomatch z) esu7, go (fun _ z => nomatch z) led7⟩ ?_
        rw [upd_same]
        unfold outsN outsOf
        rw [if_pos hodd, List.map_map]
        rfl
    · rw [decide_eq_false (show ¬ V.int ((W.ns.length : Nat) % 2 : Int) = V.int 1 from fun z => by have := V.int.inj z; omega)]
      refine iteF (htr so po bd su sp H7 mi7 ?_)
      rw [esp]
      unfold outsN outsOf
      rw [if_neg hodd]
      rfl
end
end K66
set_option Elab.async false
set_option linter.all false
set_option maxRecDepth 100000
set_option maxHeartbeats 4000000
namespace K66
open PySem PySem.Spec PyProof.Rows L2 LamX
/-! ### the state of the draws: a dict at st, the script's own cells at c -/
structure SA where
  st : Addr
  c : Addr
  cs : List Int
def stK (c : Addr) (k : Nat) (l m : Int) : List (Key × V) := [(Sum.inr "cells", .ref c), (Sum.inr "next", .int (k : Nat)), (Sum.inr "left", .int l), (Sum.inr "mixed", .int m)]
theorem stK_cells {c k l m} : valV (stK c k l m) (Sum.inr "cells") = some (.ref c) := by rfl
theorem stK_next {c k l m} : valV (stK c k l m) (Sum.inr "next") = some (.int (k : Nat)) := by rfl
theorem stK_left {c k l m} : valV (stK c k l m) (Sum.inr "left") = some (.int l) := by rfl
theorem stK_mixed {c k l m} : valV (stK c k l m) (Sum.inr "mixed") = some (.int m) := by rfl
theorem stK_putN {c k l m} {j : Nat} : putK (stK c k l m) (Sum.inr "next") (.int (j : Nat)) = stK c j l m := by rfl
theorem stK_putL {c k l m} {j : Int} : putK (stK c k l m) (Sum.inr "left") (.int j) = stK c k j m := by rfl
structure StOk (K : PySem.W.Frag) (S : SA) (H : Hp) : Prop where
  cells : SqL K H S.c (S.cs.map V.int)
  st : ∃ (k : Nat) (l m : Int), H S.st = some (.dK (stK S.c k l m))
/-- all but the state is kept, the state stands before and after -/
structure Mv (K : PySem.W.Frag) (S : SA) (H H2 : Hp) : Prop where
  a : StOk K S H
  kp : ∀ b o, b ≠ S.st → H b = some o → H2 b = some o
  b : StOk K S H2
section
variable {K : PySem.W.Frag} {S : SA} {H H1 H2 H3 : Hp}
theorem StOk.same (h : StOk K S H) (e : Same H H2) : StOk K S H2 := ⟨e.seq h.cells, let ⟨k, l, m, q⟩ := h.st; ⟨k, l, m, e _ _ q⟩⟩
theorem Mv.refl (h : StOk K S H) : Mv K S H H := ⟨h, fun _ _ _ e => e, h⟩
theorem Mv.trans (x : Mv K S H H1) (y : Mv K S H1 H2) : Mv K S H H2 := ⟨x.a, fun b o n e => y.kp b o n (x.kp b o n e), y.b⟩
theorem Mv.same (x : Mv K S H H1) (e : Same H1 H2) : Mv K S H H2 := ⟨x.a, fun b o n q => e _ _ (x.kp b o n q), x.b.same e⟩
theorem Mv.of (h : StOk K S H) (e : Same H H2) : Mv K S H H2 := (Mv.refl h).same e
theorem Mv.keep (x : Mv K S H H1) {b : Addr} {o : HO} (e : H b = some o) (n : ∀ kvs, o ≠ .dK kvs) : H1 b = some o := by
  obtain ⟨k, l, m, q⟩ := x.a.st
  exact x.kp b o (ne_of e q (n _)) e
theorem Mv.lst (x : Mv K S H H1) {b : Addr} {xs : List V} (e : H b = some (.lst xs)) : H1 b = some (.lst xs) := x.keep e fun _ z => nomatch z
theorem Mv.tup (x : Mv K S H H1) {b : Addr} {xs : List V} (e : H b = some (.tup xs)) : H1 b = some (.tup xs) := x.keep e fun _ z => nomatch z
theorem Mv.seq (x : Mv K S H H1) {b : Addr} {xs : List V} (e : SqL K H b xs) : SqL K H1 b xs :=
  e.elim (fun h => .inl (h.elim (fun h => .inl (x.lst h)) fun ⟨o, h⟩ => .inr ⟨o, x.keep h (fun _ z => nomatch z)⟩)) fun h => .inr h
theorem Mv.tups (x : Mv K S H H1) {xss : List (List V)} {acc : List V} (h : Tups H xss acc) : Tups H1 xss acc := h.mono fun _ _ e => x.tup e
theorem Mv.free (x : Mv K S H H1) {p : Addr} (n : H1 p = none) : H p = none := by
  cases q : H p with
  | none => rfl
  | some o =>
    by_cases e : p = S.st
    · obtain ⟨k, l, m, z⟩ := x.b.st
      rw [e] at n
      rw [n] at z
      cases z
    · rw [x.kp p o e q] at n
      cases n
/-- the state's dict is written -/
theorem Mv.put (h : StOk K S H) (k : Nat) (l m : Int) : Mv K S H (upd H S.st (.dK (stK S.c k l m))) where
  a := h
  kp := fun b o n e => (upd_ne n).trans e
  b := by
    obtain ⟨k0, l0, m0, q⟩ := h.st
    have kp : ∀ {u : HO}, H S.c = some u → (∀ kvs, u ≠ .dK kvs) → upd H S.st (.dK (stK S.c k l m)) S.c = some u := fun e n => (upd_ne (ne_of e q (n _))).trans e
    exact ⟨h.cells.elim (fun h => .inl (h.elim (fun h => .inl (kp h (fun _ z => nomatch z))) fun ⟨o, h⟩ => .inr ⟨o, kp h (fun _ z => nomatch z)⟩)) fun h => .inr h, k, l, m, upd_same⟩
theorem rl_mv : Rl (Mv K S) where
  tr := fun a b => a.trans b
  sm := fun a b => a.same b
  kp := fun h e n _ => h.keep e n
  nw := fun {a b D xs ys} h n e => by
    have nD : ∀ {c o}, a c = some o → c ≠ D := fun q => ne_of_none q n
    refine ⟨h.a, fun c o nc q => (upd_ne (nD q)).trans (h.kp c o nc q), ?_, ?_⟩
    · have cl := h.a.cells
      have kp : ∀ {u : HO}, a S.c = some u → (∀ kvs, u ≠ .dK kvs) → upd b D (.lst ys) S.c = some u := fun q n => (upd_ne (nD q)).trans (h.keep q n)
      exact cl.elim (fun h => .inl (h.elim (fun h => .inl (kp h (fun _ z => nomatch z))) fun ⟨o, h⟩ => .inr ⟨o, kp h (fun _ z => nomatch z)⟩)) fun h => .inr h
    · obtain ⟨k0, l0, m0, q0⟩ := h.a.st
      obtain ⟨k, l, m, q⟩ := h.b.st
      exact ⟨k, l, m, (upd_ne (nD q0)).trans q⟩
end
end K66
set_option Elab.async false
set_option linter.all false
set_option maxRecDepth 100000
set_option maxHeartbeats 4000000
namespace K66
open PySem PySem.Spec PyProof.Rows L2
/-! ### dicts made of pairs whose keys are all different -/
def strK (l : List (Str × V)) : List (Key × V) := l.map fun q => (Sum.inr q.1, q.2)
theorem put_new {kvs : List (Key × V)} {k : Key} {v : V} (h : ∀ p ∈ kvs, p.1 ≠ k) : putK kvs k v = kvs ++ [(k, v)] := by
  unfold putK
  rw [if_neg]
  simp only [Bool.not_eq_true, List.any_eq_false, decide_eq_true_eq]
  exact fun p hp => h p hp
theorem merge_new : ∀ (more kvs : List (Key × V)), (more.map (·.1)).Nodup → (∀ p ∈ kvs, ∀ q ∈ more, p.1 ≠ q.1) → mergeK kvs more = kvs ++ more
  | [], kvs, _, _ => by simp [mergeK]
  | q :: more, kvs, nd, h => by
    rw [List.map_cons, List.nodup_cons] at nd
    show mergeK (putK kvs q.1 q.2) more = _
    rw [put_new fun p hp => h p hp q List.mem_cons_self, merge_new more _ nd.2 fun p hp r hr => ?_, List.append_assoc]
    · rfl
    · rcases List.mem_append.mp hp with hp | hp
      · exact h p hp r (List.mem_cons_of_mem _ hr)
      · rw [List.mem_singleton.mp hp]
        intro e
        exact nd.1 (by rw [show q.1 = r.1 from e]; exact List.mem_map_of_mem hr)
theorem merge_str {l : List (Str × V)} (nd : (l.map (·.1)).Nodup) : mergeK [] (strK l) = strK l := by
  refine merge_new (strK l) [] ?_ (fun p hp => nomatch hp)
  unfold strK
  rw [List.map_map]
  have : (l.map ((fun x : Key × V => x.1) ∘ fun q : Str × V => ((Sum.inr q.1 : Key), q.2))) = (l.map (·.1)).map (Sum.inr : Str → Key) := by rw [List.map_map]; rfl
  rw [this]
  exact List.pairwise_map.mpr (List.Pairwise.imp (fun {a b} q e => q (Sum.inr.inj e)) nd)
/-- lists of the refs of tuples -/
theorem tups_refs {H : Hp} : ∀ {xss : List (List V)} {acc : List V}, Tups H xss acc → ∃ ps : List Addr, acc = ps.map V.ref ∧ Paired (fun p xs => H p = some (.tup xs)) ps xss
  | _, _, .nil => ⟨[], rfl, .nil⟩
  | _, _, .cons ⟨t, e1, e2⟩ r => by
    obtain ⟨ps, h1, h2⟩ := tups_refs r
    exact ⟨t :: ps, by rw [List.map_cons, ← h1, e1], .cons e2 h2⟩
theorem refs_pairs {K : PySem.W.Frag} {H : Hp} : ∀ {l : List (Str × V)} {ps : List Addr}, Paired (fun p xs => H p = some (.tup xs)) ps (l.map fun q => [V.str q.1, q.2]) → Paired (fun p (kv : Key × V) => SqT K H p [kV kv.1, kv.2]) ps (strK l)
  | [], _, .nil => .nil
  | q :: l, _, .cons h r => .cons (.of h) (refs_pairs r)
def rDictP (K : PySem.W.Frag) : List V → Hp → VK → Prop := fun xs H Q => ∃ (a : Addr) (acc : List V) (l : List (Str × V)), xs = [.ref a] ∧ SqL K H a acc ∧ Tups H (l.map fun q => [V.str q.1, q.2]) acc ∧ (l.map (·.1)).Nodup ∧ ∀ p, H p = none → Q (.ref p) (upd H p (.dK (strK l)))
theorem cr_dictP {X : Cx} (hc : X.calm = true) : CallR X (.type "dict") (rDictP X.K) := by
  intro pz s σ H xs us Q I r q
  obtain ⟨a, acc, l, ex, hq, ht, nd, q⟩ := q
  obtain ⟨ps, e, hp⟩ := tups_refs ht
  refine call_dictP hc pz s σ H xs us Q I r ⟨a, ps, strK l, ex, by rw [← e]; exact hq, refs_pairs hp, fun p np => ?_⟩
  rw [merge_str nd]
  exact q p np
/-- values by place -/
theorem idx_nodup {ns : List Str} (nd : ns.Nodup) {i : Nat} {z : Str} (h : ns[i]? = some z) : ns.idxOf z = i := by
  have hz := List.mem_of_getElem? h
  have e := idx_at hz
  obtain ⟨l1, e1⟩ := List.getElem?_eq_some_iff.mp h
  obtain ⟨l2, e2⟩ := List.getElem?_eq_some_iff.mp e
  rcases Nat.lt_trichotomy (ns.idxOf z) i with q | q | q
  · exact absurd (e2.trans e1.symm) (List.pairwise_iff_getElem.mp nd _ _ l2 l1 q)
  · exact q
  · exact absurd (e1.trans e2.symm) (List.pairwise_iff_getElem.mp nd _ _ l1 l2 q)
def valOf (ns : List Str) (rs : List Nat) (z : Str) : Int := ((rs.getD (ns.idxOf z) 0 : Nat) : Int)
theorem zip_dOf {ns : List Str} {rs : List Nat} (nd : ns.Nodup) (hl : rs.length = ns.length) : strK ((ns.zip rs).map fun p => (p.1, V.int (p.2 : Nat))) = dOf ns (valOf ns rs) := by
  unfold strK dOf
  rw [List.map_map]
  apply List.ext_getElem?
  intro i
  rw [List.getElem?_map, List.getElem?_map]
  by_cases hi : i < ns.length
  · have hi2 : i < rs.length := by omega
    have ez : ns[i]? = some ns[i] := List.getElem?_eq_getElem hi
    have e : (ns.zip rs)[i]? = some (ns[i], rs[i]) := by
      rw [List.getElem?_zip_eq_some]
      exact ⟨ez, List.getElem?_eq_getElem hi2⟩
    rw [e, ez]
    simp only [Option.map_some, Function.comp]
    congr 2
    unfold valOf
    rw [idx_nodup nd ez, List.getD_eq_getElem?_getD, List.getElem?_eq_getElem hi2]
    rfl
  · rw [List.getElem?_eq_none (show ns.length ≤ i by omega), List.getElem?_eq_none (by rw [List.length_zip]; omega)]
    rfl
theorem zip_keys {ns : List Str} {rs : List Nat} (hl : rs.length = ns.length) : ((ns.zip rs).map fun p => (p.1, V.int (p.2 : Nat))).map (·.1) = ns := by
  rw [List.map_map]
  have : ((fun x : Str × V => x.1) ∘ fun p : Str × Nat => (p.1, V.int (p.2 : Nat))) = Prod.fst := rfl
  rw [this, List.map_fst_zip (by omega)]
/-! ### all but the state and one new list is kept -/
structure MvL (K : PySem.W.Frag) (S : SA) (fo : Addr) (H H2 : Hp) : Prop where
  kp : ∀ b o, b ≠ S.st → b ≠ fo → H b = some o → H2 b = some o
  b : StOk K S H2
section
variable {K : PySem.W.Frag} {S : SA} {fo : Addr} {H H1 H2 : Hp}
theorem MvL.step (m : MvL K S fo H H1) (x : Mv K S H1 H2) : MvL K S fo H H2 := ⟨fun b o n1 n2 e => x.kp b o n1 (m.kp b o n1 n2 e), x.b⟩
theorem MvL.same (m : MvL K S fo H H1) (x : Same H1 H2) : MvL K S fo H H2 := ⟨fun b o n1 n2 e => x _ _ (m.kp b o n1 n2 e), m.b.same x⟩
theorem MvL.fin (m : MvL K S fo H H2) (ok : StOk K S H) (n : H fo = none) : Mv K S H H2 := ⟨ok, fun b o n1 e => m.kp b o n1 (ne_of_none e n) e, m.b⟩
theorem MvL.new (ok : StOk K S H) {o : HO} (n : H fo = none) : MvL K S fo H (upd H fo o) := ⟨fun b u _ n2 e => (upd_ne n2).trans e, ok.same (same_new n)⟩
theorem MvL.put (m : MvL K S fo H H1) (ok : StOk K S H) (n : H fo = none) {xs ys : List V} (e : H1 fo = some (.lst xs)) : MvL K S fo H (upd H1 fo (.lst ys)) := by
  refine ⟨fun b o n1 n2 q => (upd_ne n2).trans (m.kp b o n1 n2 q), ?_, ?_⟩
  · have go : ∀ {u : HO}, H S.c = some u → (∀ kvs, u ≠ .dK kvs) → upd H1 fo (.lst ys) S.c = some u := fun q nk => by
      have n1 : S.c ≠ fo := ne_of_none q n
      have n2 : S.c ≠ S.st := let ⟨_, _, _, z⟩ := ok.st; ne_of q z (nk _)
      exact (upd_ne n1).trans (m.kp _ _ n2 n1 q)
    exact ok.cells.elim (fun h => .inl (h.elim (fun h => .inl (go h (fun _ z => nomatch z))) fun ⟨o, h⟩ => .inr ⟨o, go h (fun _ z => nomatch z)⟩)) fun h => .inr h
  · obtain ⟨k, l, mm, est⟩ := m.b.st
    exact ⟨k, l, mm, (upd_ne (ne_of est e (fun z => nomatch z))).trans est⟩
theorem MvL.put2 (m : MvL K S fo H H1) (ok : StOk K S H) (nf : H fo = none) {D : Addr} (n : H D = none) {xs ys : List V} (e : H1 D = some (.lst xs)) : MvL K S fo H (upd H1 D (.lst ys)) := by
  refine ⟨fun b o n1 n2 q => (upd_ne (ne_of_none q n)).trans (m.kp b o n1 n2 q), ?_, ?_⟩
  · have go : ∀ {u : HO}, H S.c = some u → (∀ kvs, u ≠ .dK kvs) → upd H1 D (.lst ys) S.c = some u := fun q nk => by
      have n2 : S.c ≠ S.st := let ⟨_, _, _, z⟩ := ok.st; ne_of q z (nk _)
      exact (upd_ne (ne_of_none q n)).trans (m.kp _ _ n2 (ne_of_none q nf) q)
    exact ok.cells.elim (fun h => .inl (h.elim (fun h => .inl (go h (fun _ z => nomatch z))) fun ⟨o, h⟩ => .inr ⟨o, go h (fun _ z => nomatch z)⟩)) fun h => .inr h
  · obtain ⟨k, l, mm, est⟩ := m.b.st
    exact ⟨k, l, mm, (upd_ne (ne_of est e (fun z => nomatch z))).trans est⟩
theorem MvL.free (m : MvL K S fo H H1) (n : H fo = none) {D : Addr} (e : H1 D = none) : H D = none := by
  cases q : H D with
  | none => rfl
  | some u =>
    by_cases h : D = S.st
    · obtain ⟨k, l, mm, est⟩ := m.b.st
      rw [h, est] at e
      cases e
    · have := m.kp D u h (ne_of_none q n) q
      rw [e] at this
      cases this
end
end K66
set_option Elab.async false
set_option linter.all false
set_option maxRecDepth 100000
set_option maxHeartbeats 4000000
namespace K66
open PySem PySem.Spec PyProof.Rows L2
section
variable {P : Program} {w : World} {K : PySem.W.Frag} {mg : Str → Option Value} {base : Heap} {f : Addr} {fd : FuncData}
/-! ### _law_begin -/
theorem scBeg : FnScope ["_law_script", "_law_mixed", "_law_cell"] ["_law_script"] (defScope (topS 23)) := ⟨rfl, rfl, rfl, by decide +kernel, rfl, by decide +kernel, by decide +kernel⟩
def spBeg (K : PySem.W.Frag) : Sp := fun vs H Q _ => ∃ (a : Addr) (ns : List Int), vs = [.ref a] ∧ SqL K H a (ns.map V.int) ∧ ∀ H2 S, Same H H2 → StOk K S H2 → Q (.ref S.st) H2
theorem ok_beg (F : Fd K mg "_law_begin" 23 f fd) (B : Bl mg) : Cal P w K mg base CX0 1 "_law_begin" ["_law_script"] (spBeg K) := by
  refine F.cal ?_ (fun _ _ _ _ _ _ us hl => match us, hl with | [_], _ => rfl)
  refine F.fu.ok scBeg (fun vs H Q E h => by obtain ⟨a, ns, rfl, _⟩ := h; rfl) (fun cdv A outer s H vs Q E hr h => ⟨_, PSs.nox (pss_cons (ps_set (i := 1) scBeg.nd rfl (.inl rfl) pe_int)
    (pss_cons (ps_for PassesOwn.never rfl (pi_list (pv 0)) (pg_name (i := 2) scBeg.nd rfl (.inl rfl)) (pss_one (ps_set (i := 1) scBeg.nd rfl (.inl rfl) (pe_op op_mod (pe_op op_add (pe_op op_mul (pv 1) pe_int) (pv 2)) pe_int))))
    (pss_one (ps_ret (pe_disp (pps_cons pe_str (pe_callTy call_list_of (by rfl) (B.no "list") (by decide +kernel) (pa_cons (pv 0) pa_nil)) (pps_cons pe_str pe_int (pps_cons pe_str pe_int (pps_cons pe_str (pv 1) pps_nil)))) (by rfl) (by rfl) (fun z => by cases z) (by decide)))))), ?_⟩)
  obtain ⟨a, ns, rfl, hq, q⟩ := h
  refine ⟨_, rfl, a, rfl, ⟨_, hq⟩, for_list (xs := ns.map V.int) (fun i σ H' => H' = H ∧ ∃ m y2, σ = [some (.ref a), some (.int m), y2]) ⟨rfl, 11, none, rfl⟩ (fun i σ H' _ h => by rw [h.1]; exact hq) (fun i x σ H' hx h => ?_) fun σ H' h => ?_⟩
  · obtain ⟨rfl, m, y2, rfl⟩ := h
    obtain ⟨z, _, rfl, _⟩ := at_map hx
    exact ⟨_, rfl, _, _, rfl, rfl, .inr ⟨by decide, by decide⟩, _, rfl, _, _, rfl, rfl, _, _, rfl, rfl, (by show (0 : Int) < 2147483629; decide), rfl, _, _, rfl⟩
  · obtain ⟨rfl, m, y2, rfl⟩ := h
    intro p np
    have s1 := same_new (o := .dK []) np
    refine ⟨_, rfl, a, _, rfl, .inl (s1.seq hq), fun c nc => ?_⟩
    have s2 := same_new (o := .lst (ns.map V.int)) nc
    refine ⟨_, rfl, s2 _ _ upd_same, [(Sum.inr "cells", .ref c), (Sum.inr "next", .int 0), (Sum.inr "left", .int 0), (Sum.inr "mixed", .int m)], rfl, by show 4 ≤ 15; decide, ?_⟩
    have npc : c ≠ p := (ne_of_none upd_same nc).symm
    refine q _ ⟨p, c, ns⟩ (fun b o e => ?_) ⟨.of ((upd_ne npc).trans upd_same), 0, 0, m, ?_⟩
    · exact (upd_ne (ne_of_none e np)).trans (s2 _ _ (s1 _ _ e))
    · exact upd_same
/-! ### _law_more -/
theorem scMore : FnScope ["_law_state", "_law_k", "_law_cell", "_law_one", "_law_two", "_law_three"] ["_law_state"] (defScope (topS 24)) := ⟨rfl, rfl, rfl, by decide +kernel, rfl, by decide +kernel, by decide +kernel⟩
def spMore (K : PySem.W.Frag) : Sp := fun vs H Q _ => ∃ S : SA, vs = [.ref S.st] ∧ StOk K S H ∧ ∀ H2 n, Mv K S H H2 → Q (.int n) H2
theorem ok_more (F : Fd K mg "_law_more" 24 f fd) (B : Bl mg) : Cal P w K mg base CX0 1 "_law_more" ["_law_state"] (spMore K) := by
  refine F.cal ?_ (fun _ _ _ _ _ _ us hl => match us, hl with | [_], _ => rfl)
  refine F.fu.ok scMore (fun vs H Q E h => by obtain ⟨S, rfl, _⟩ := h; rfl) (fun cdv A outer s H vs Q E hr h => ?_)
  obtain ⟨tt, hts, htr⟩ : ∃ tt, PSs (cxOf CX0 P w K mg base ["_law_state", "_law_k", "_law_cell", "_law_one", "_law_two", "_law_three"] "_law_more" (defScope (topS 24)) f cdv A outer s H E).nox ((defBody (topS 24)).drop 4) tt ∧
      ∀ (a : Addr) (k : Nat) (x : Int) (H2 : Hp), (∀ n, Q (.int n) H2) → tt { nx := fun _ H' => Q .non H', rt := Q } [some (.ref a), some (.int (k : Nat)), some (.int x), none, none, none] H2 := by
    refine ⟨_, (pss_cons (ps_if (pt_cmpR op_ge (pv 2) (pe_op op_pow pe_int pe_int) (nomark _)) (pss_one (ps_ret (pe_op op_sub (pv 2) (pe_op op_pow pe_int pe_int)))) pss_nil)
    (pss_cons (ps_set (i := 3) scMore.nd rfl (.inl rfl) (pe_op op_mod (pe_op op_add (pe_op op_add (pe_op op_mul (pv 2) pe_int) (pe_op op_mul pe_int (pv 1))) pe_int) pe_int))
    (pss_cons (ps_set (i := 4) scMore.nd rfl (.inl rfl) (pe_op op_mod (pe_op op_mul (pv 3) (pe_op op_add (pe_op op_add (pv 3) (pe_op op_mul pe_int (pv 1))) pe_int)) pe_int))
    (pss_cons (ps_set (i := 5) scMore.nd rfl (.inl rfl) (pe_op op_mod (pe_op op_mul (pv 4) (pe_op op_add (pe_op op_add (pv 4) (pv 3)) pe_int)) pe_int))
    (pss_one (ps_ret (pe_op op_add (pe_op op_mul (pe_op op_add (pe_op op_mul (pv 3) pe_int) (pv 4)) pe_int) (pv 5)))))))), fun a k x H2 q => ?_⟩
    refine ⟨_, rfl, _, _, rfl, rfl, ⟨by decide, by decide, by decide⟩, _, _, rfl, rfl, _, rfl, ?_⟩
    refine ite2 (fun _ => ⟨_, rfl, _, _, rfl, rfl, ⟨by decide, by decide, by decide⟩, _, _, rfl, rfl, q _⟩) (fun _ => ?_)
    refine ⟨_, rfl, _, _, rfl, rfl, .inr ⟨by decide, by decide⟩, _, rfl, _, _, rfl, rfl, .inl ⟨by decide, by decide⟩, _, _, rfl, rfl, _, _, rfl, rfl, _, _, rfl, rfl, (by show (0 : Int) < 2147483647; decide), ?_⟩
    have b1 := Int.emod_nonneg (x * 48271 + 7919 * (k : Nat) + 11) (by decide : (2147483647 : Int) ≠ 0)
    have b2 := Int.emod_lt_of_pos (x * 48271 + 7919 * (k : Nat) + 11) (by decide : (0 : Int) < 2147483647)
    generalize (x * 48271 + 7919 * (k : Nat) + 11) % 2147483647 = one at b1 b2
    refine ⟨_, rfl, _, rfl, _, rfl, _, _, rfl, rfl, .inl ⟨by decide, by decide⟩, _, _, rfl, rfl, _, _, rfl, rfl, _, _, rfl, rfl, .inl ⟨by omega, by omega⟩, _, _, rfl, rfl, (by show (0 : Int) < 2147483629; decide), ?_⟩
    have c1 := Int.emod_nonneg (one * (one + 2 * (k : Nat) + 1)) (by decide : (2147483629 : Int) ≠ 0)
    have c2 := Int.emod_lt_of_pos (one * (one + 2 * (k : Nat) + 1)) (by decide : (0 : Int) < 2147483629)
    generalize one * (one + 2 * (k : Nat) + 1) % 2147483629 = two at c1 c2
    refine ⟨_, rfl, _, rfl, _, rfl, _, _, rfl, rfl, _, _, rfl, rfl, _, _, rfl, rfl, .inl ⟨by omega, by omega⟩, _, _, rfl, rfl, (by show (0 : Int) < 2147483587; decide), ?_⟩
    exact ⟨_, rfl, _, _, rfl, rfl, .inl ⟨by omega, by omega⟩, _, rfl, _, _, rfl, rfl, _, _, rfl, rfl, .inr ⟨by decide, by decide⟩, _, rfl, _, _, rfl, rfl, q _⟩
  refine ⟨_, PSs.nox (pss_cons (ps_set (i := 1) scMore.nd rfl (.inl rfl) (pe_dget (hu_of hr) (pv 0) pe_str (fun _ _ => rfl))) (pss_cons (ps_dput (hu_of hr) (pv 0) pe_str (pe_op op_add (pv 1) pe_int) (by rfl))
    (pss_cons (ps_set (i := 2) scMore.nd rfl (.inl rfl) (pe_op op_add (pe_dget (hu_of hr) (pv 0) pe_str (fun _ _ => rfl)) (pe_op op_mul pe_int (pv 1))))
    (pss_cons (ps_if (pt_cmpR op_lt (pv 1) (pe_callB call_len_seq (by rfl) (B.no "len") (by decide +kernel) (pa_cons (pe_dget (hu_of hr) (pv 0) pe_str (fun _ _ => rfl)) pa_nil)) (nomark _)) (pss_one (ps_set (i := 2) scMore.nd rfl (.inl rfl) (pe_ix ix_list (pe_dget (hu_of hr) (pv 0) pe_str (fun _ _ => rfl)) (pv 1) (fun _ _ => rfl)))) pss_nil) hts)))), ?_⟩
  obtain ⟨S, rfl, ok, q⟩ := h
  obtain ⟨k, l, m, e⟩ := ok.st
  refine ⟨_, rfl, S.st, .int (k : Nat), rfl, .inl ⟨_, Sum.inr "next", .inl e, rfl, stK_next.symm⟩, ?_⟩
  refine ⟨_, rfl, _, _, rfl, rfl, _, rfl, S.st, _, rfl, DPut.k (k := Sum.inr "next") e (by show 4 < sizeLine; decide), ?_⟩
  rw [show putK (stK S.c k l m) (Sum.inr "next") (.int ((k : Nat) + 1)) = stK S.c (k + 1) l m from stK_putN (j := k + 1)]
  have mv := Mv.put ok (k + 1) l m
  have e2 : upd H S.st (.dK (stK S.c (k + 1) l m)) S.st = some (.dK (stK S.c (k + 1) l m)) := upd_same
  generalize upd H S.st (.dK (stK S.c (k + 1) l m)) = H1 at mv e2
  refine ⟨_, rfl, S.st, .int m, rfl, .inl ⟨_, Sum.inr "mixed", .inl e2, rfl, stK_mixed.symm⟩, _, rfl, _, _, rfl, rfl, .inl ⟨by decide, by decide⟩, _, _, rfl, rfl, ?_⟩
  refine ⟨_, rfl, _, rfl, S.st, .ref S.c, rfl, .inl ⟨_, Sum.inr "cells", .inl e2, rfl, stK_cells.symm⟩, S.c, _, rfl, .inl mv.b.cells, _, _, rfl, rfl, _, rfl, ?_⟩
  by_cases hk : ((k : Nat) : Int) < ((S.cs.map V.int).length : Nat)
  · rw [decide_eq_true hk]
    have hk2 : k < S.cs.length := by rw [List.length_map] at hk; omega
    refine iteT ⟨_, rfl, S.st, .ref S.c, rfl, .inl ⟨_, Sum.inr "cells", .inl e2, rfl, stK_cells.symm⟩, _, rfl, S.c, _, _, .int S.cs[k], rfl, rfl, mv.b.cells, atI_nat (by rw [List.getElem?_map, List.getElem?_eq_getElem hk2]; rfl), ?_⟩
    exact htr S.st k _ H1 fun n => q _ n mv
  · rw [decide_eq_false hk]
    exact iteF (htr S.st k _ H1 fun n => q _ n mv)
end
end K66
set_option Elab.async false
set_option linter.all false
set_option maxRecDepth 100000
set_option maxHeartbeats 4000000
namespace K66
open PySem PySem.Spec PyProof.Rows L2
section
variable {P : Program} {w : World} {K : PySem.W.Frag} {mg : Str → Option Value} {base : Heap} {f : Addr} {fd : FuncData}
/-! ### _law_next -/
theorem scNext : FnScope ["_law_state", "_law_many", "_law_found"] ["_law_state", "_law_many"] (defScope (topS 25)) := ⟨rfl, rfl, rfl, by decide +kernel, rfl, by decide +kernel, by decide +kernel⟩
def spNext (K : PySem.W.Frag) : Sp := fun vs H Q _ => ∃ (S : SA) (m : Nat), vs = [.ref S.st, .int (m : Nat)] ∧ 0 < m ∧ m < 1073741824 ∧ StOk K S H ∧ ∀ H2 (r : Nat), Mv K S H H2 → r < m → Q (.int (r : Nat)) H2
theorem ok_next (F : Fd K mg "_law_next" 25 f fd) (M : Cal P w K mg base CX0 1 "_law_more" ["_law_state"] (spMore K)) : Cal P w K mg base CX0 2 "_law_next" ["_law_state", "_law_many"] (spNext K) := by
  refine F.cal ?_ (fun _ _ _ _ _ _ us hl => match us, hl with | [_, _], _ => rfl)
  refine F.fu.ok scNext (fun vs H Q E h => by obtain ⟨S, m, rfl, _⟩ := h; rfl) (fun cdv A outer s H vs Q E hr h => ?_)
  obtain ⟨S, n, rfl, n0, n1, ok, q⟩ := h
  obtain ⟨tt, hts, htr⟩ : ∃ tt, PSs (cxOf CX0 P w K mg base ["_law_state", "_law_many", "_law_found"] "_law_next" (defScope (topS 25)) f cdv A outer s H E).nox ((defBody (topS 25)).drop 1) tt ∧
      ∀ (H2 : Hp), Mv K S H H2 → tt { nx := fun _ H' => Q .non H', rt := Q } [some (.ref S.st), some (.int (n : Nat)), none] H2 := by
    refine ⟨_, (pss_cons (ps_set (i := 2) scNext.nd rfl (.inl rfl) (pe_op op_mod (pe_dget (hu_of hr) (pv 0) pe_str (fun _ _ => rfl)) (pv 1)))
    (pss_cons (ps_dput (hu_of hr) (pv 0) pe_str (pe_op op_fdiv (pe_dget (hu_of hr) (pv 0) pe_str (fun _ _ => rfl)) (pv 1)) (by rfl))
    (pss_one (ps_ret (pv 2))))), fun H2 mv => ?_⟩
    obtain ⟨k, l, m, e⟩ := mv.b.st
    refine ⟨_, rfl, S.st, .int l, rfl, .inl ⟨_, Sum.inr "left", .inl e, rfl, stK_left.symm⟩, _, rfl, _, _, rfl, rfl, (by show (0 : Int) < (n : Nat); omega), ?_⟩
    refine ⟨_, rfl, S.st, .int l, rfl, .inl ⟨_, Sum.inr "left", .inl e, rfl, stK_left.symm⟩, _, rfl, _, _, rfl, rfl, ⟨by omega, by omega⟩, _, rfl, S.st, _, rfl, DPut.k (k := Sum.inr "left") e (by show 4 < sizeLine; decide), ?_⟩
    refine ⟨_, rfl, ?_⟩
    have h0 := Int.emod_nonneg l (show ((n : Nat) : Int) ≠ 0 by omega)
    have h1 := Int.emod_lt_of_pos l (show (0 : Int) < (n : Nat) by omega)
    rw [show putK (stK S.c k l m) (Sum.inr "left") (.int (l / (n : Nat))) = stK S.c k (l / (n : Nat)) m from stK_putL]
    have z := q _ (l % (n : Nat)).toNat (mv.trans (Mv.put mv.b k (l / (n : Nat)) m)) (by omega)
    rw [Int.toNat_of_nonneg h0] at z
    exact z
  refine ⟨_, PSs.nox (pss_cons (ps_if (pt_cmpR op_eq (pe_dget (hu_of hr) (pv 0) pe_str (fun _ _ => rfl)) pe_int (nomark _)) (pss_one (ps_dput (hu_of hr) (pv 0) pe_str (pe_cal M (hr.mono (by decide)) (pa_cons (pv 0) pa_nil)) (by rfl))) pss_nil) hts), ?_⟩
  obtain ⟨k, l, m, e⟩ := ok.st
  refine ⟨_, rfl, S.st, .int l, rfl, .inl ⟨_, Sum.inr "left", .inl e, rfl, stK_left.symm⟩, rfl, _, rfl, ?_⟩
  refine ite2 (fun _ => ?_) fun _ => htr H (Mv.refl ok)
  refine ⟨_, rfl, S, rfl, ok, fun H2 x mv => ?_⟩
  obtain ⟨k2, l2, m2, e2⟩ := mv.b.st
  refine ⟨_, rfl, S.st, _, rfl, DPut.k (k := Sum.inr "left") e2 (by show 4 < sizeLine; decide), ?_⟩
  rw [show putK (stK S.c k2 l2 m2) (Sum.inr "left") (.int x) = stK S.c k2 x m2 from stK_putL]
  exact htr _ (mv.trans (Mv.put mv.b k2 x m2))
/-! ### _law_pick -/
theorem scPick : FnScope ["_law_state", "_law_some_here"] ["_law_state", "_law_some_here"] (defScope (topS 26)) := ⟨rfl, rfl, rfl, by decide +kernel, rfl, by decide +kernel, by decide +kernel⟩
def spPick (K : PySem.W.Frag) : Sp := fun vs H Q _ => ∃ S : SA, StOk K S H ∧ ((∃ (a : Addr) (xs : List V), vs = [.ref S.st, .ref a] ∧ SqL K H a xs ∧ 0 < xs.length ∧ xs.length ≤ 1000 ∧ ∀ H2 x, Mv K S H H2 → x ∈ xs → Q x H2) ∨
  ∃ z : Str, vs = [.ref S.st, .str z] ∧ 0 < z.length ∧ z.length ≤ 1000 ∧ ∀ H2 c, Mv K S H H2 → c ∈ z.cps.toList → Q (.str ⟨#[c]⟩) H2)
theorem ok_pick (F : Fd K mg "_law_pick" 26 f fd) (B : Bl mg) (N : Cal P w K mg base CX0 2 "_law_next" ["_law_state", "_law_many"] (spNext K)) : Cal P w K mg base CX0 3 "_law_pick" ["_law_state", "_law_some_here"] (spPick K) := by
  refine F.cal ?_ (fun _ _ _ _ _ _ us hl => match us, hl with | [_, _], _ => rfl)
  refine F.fu.ok scPick (fun vs H Q E h => by obtain ⟨S, _, ⟨a, xs, rfl, _⟩ | ⟨z, rfl, _⟩⟩ := h <;> rfl) (fun cdv A outer s H vs Q E hr h => ⟨_, PSs.nox (pss_one (ps_ret (pe_ix ix_seq (pv 1) (pe_cal N (hr.mono (by decide)) (pa_cons (pv 0) (pa_cons (pe_callB call_len (by rfl) (B.no "len") (by decide +kernel) (pa_cons (pv 1) pa_nil)) pa_nil))) (fun _ _ => rfl)))), ?_⟩)
  obtain ⟨S, ok, ⟨a, xs, rfl, hq, h0, h1, q⟩ | ⟨z, rfl, h0, h1, q⟩⟩ := h
  · refine ⟨_, rfl, _, rfl, _, rfl, _, xs.length, rfl, .inl ⟨xs, hq, rfl⟩, S, xs.length, rfl, h0, by omega, ok, fun H2 r mv hr => ?_⟩
    exact .inl ⟨a, xs, _, xs[r], rfl, rfl, mv.seq hq, atI_nat (List.getElem?_eq_getElem hr), q H2 _ mv (List.getElem_mem hr)⟩
  · refine ⟨_, rfl, _, rfl, _, rfl, _, z.length, rfl, ⟨Nat.le_trans h1 (by decide), rfl⟩, S, z.length, rfl, h0, by omega, ok, fun H2 r mv hr => ?_⟩
    have hr2 : r < z.cps.toList.length := by rw [Array.length_toList]; exact hr
    exact .inr (.inr ⟨z, _, z.cps.toList[r], rfl, rfl, Nat.le_trans h1 (by decide), atI_nat (List.getElem?_eq_getElem hr2), q H2 _ mv (List.getElem_mem hr2)⟩)
end
end K66
set_option Elab.async false
set_option linter.all false
set_option maxRecDepth 100000
set_option maxHeartbeats 4000000
namespace K66
open PySem PySem.Spec PyProof.Rows L2
/-! ### words -/
def goodB (z : Str) : Bool := decide (1 ≤ z.length) && (decide (z.length ≤ 8) && z.cps.toList.all fun c => lett.cps.toList.contains c)
theorem good_of {z : Str} (h : goodB z = true) : GoodN z := by
  unfold goodB at h
  simp only [Bool.and_eq_true, decide_eq_true_eq, List.all_eq_true, List.contains_iff_mem] at h
  exact ⟨h.1, h.2.1, h.2.2⟩
def ownS : Str := "move give even open deed void fall two lose flat plus grace parts round cup table out none over any by"
theorem own_good : ((Txt.split ownS " ").all goodB && decide (0 < (Txt.split ownS " ").length) && decide ((Txt.split ownS " ").length ≤ 1000)) = true := by decide +kernel
theorem join_ones : ∀ cs : List Nat, TL.joinL [] (cs.map fun c => [c]) = cs
  | [] => rfl
  | [c] => rfl
  | c :: d :: cs => by
    have := join_ones (d :: cs)
    simp only [List.map_cons, TL.joinL] at this ⊢
    simpa using this
section
variable {P : Program} {w : World} {K : PySem.W.Frag} {mg : Str → Option Value} {base : Heap} {f : Addr} {fd : FuncData}
theorem scWord : FnScope ["_law_state", "_law_letters", "_law_own", "_law_size", "_law_turn"] ["_law_state"] (defScope (topS 27)) := ⟨rfl, rfl, rfl, by decide +kernel, rfl, by decide +kernel, by decide +kernel⟩
def spWord (K : PySem.W.Frag) : Sp := fun vs H Q _ => ∃ S : SA, vs = [.ref S.st] ∧ StOk K S H ∧ ∀ H2 z, Mv K S H H2 → GoodN z → Q (.str z) H2
theorem ok_word (F : Fd K mg "_law_word" 27 f fd) (B : Bl mg) (N : Cal P w K mg base CX0 2 "_law_next" ["_law_state", "_law_many"] (spNext K)) (Pk : Cal P w K mg base CX0 3 "_law_pick" ["_law_state", "_law_some_here"] (spPick K)) : Cal P w K mg base CX0 4 "_law_word" ["_law_state"] (spWord K) := by
  refine F.cal ?_ (fun _ _ _ _ _ _ us hl => match us, hl with | [_], _ => rfl)
  refine F.fu.ok scWord (fun vs H Q E h => by obtain ⟨S, rfl, _⟩ := h; rfl) (fun cdv A outer s H vs Q E hr h => ⟨_, PSs.nox (pss_cons (ps_set (i := 1) scWord.nd rfl (.inr rfl) pe_str)
    (pss_cons (ps_set (i := 2) scWord.nd rfl (.inl rfl) pe_str)
    (pss_cons (ps_if (pt_cmpR op_eq (pe_cal N (hr.mono (by decide)) (pa_cons (pv 0) (pa_cons pe_int pa_nil))) pe_int (nomark _)) (pss_one (ps_ret (pe_cal Pk (hr.mono (by decide)) (pa_cons (pv 0) (pa_cons (pe_split (pv 2) pe_str) pa_nil))))) pss_nil)
    (pss_cons (ps_set (i := 3) scWord.nd rfl (.inl rfl) (pe_ix ix_list (pe_lst (pa_cons pe_int (pa_cons pe_int (pa_cons pe_int (pa_cons pe_int (pa_cons pe_int (pa_cons pe_int pa_nil))))))) (pe_cal N (hr.mono (by decide)) (pa_cons (pv 0) (pa_cons pe_int pa_nil))) (fun _ _ => rfl)))
    (pss_one (ps_ret (pe_join pe_str (pe_lc (own := [("_law_turn", 4)]) (g := gName 4) rfl scWord.nd (pi_range1 (by rfl) (B.no "range") (pa_cons (pv 3) pa_nil)) (blkOk_by (own := [("_law_turn", 4)]) (N := ["_law_state", "_law_letters", "_law_own", "_law_size", "_law_turn"]) (sc := defScope (topS 27)) (by decide +kernel))
      (fun _ _ _ _ _ => pg_name (i := 4) scWord.nd rfl (Or.inl rfl)) (fun _ _ _ _ _ => pts_nil) (fun _ _ _ _ _ => (pe_cal Pk (hr.mono (by decide)) (pa_cons (pv 0) (pa_cons (pv 1) pa_nil)))))))))))), ?_⟩)
  obtain ⟨S, rfl, ok, q⟩ := h
  refine ⟨_, rfl, S, 4, rfl, by decide, by decide, ok, fun H1 r mv hr => ?_⟩
  refine ⟨rfl, _, rfl, ite2 (fun _ => ?_) fun _ => ?_⟩
  · have g := own_good
    simp only [Bool.and_eq_true, decide_eq_true_eq, List.all_eq_true] at g
    refine ⟨_, rfl, _, rfl, ⟨_, rfl⟩, ownS, _, rfl, rfl, by decide, by decide, fun p np => ?_⟩
    have s1 := same_new (o := .lst ((Txt.split ownS " ").map V.str)) np
    refine ⟨S, mv.b.same s1, .inl ⟨p, _, rfl, .of upd_same, by rw [List.length_map]; exact g.1.2, by rw [List.length_map]; exact g.2, fun H2 x mv2 hx => ?_⟩⟩
    obtain ⟨z, hz, rfl⟩ := List.mem_map.mp hx
    exact q H2 z ((mv.same s1).trans mv2) (good_of (g.1.1 z hz))
  · refine ⟨by show 6 ≤ sizeLine; decide, fun p np => ?_⟩
    have s1 := same_new (o := .lst [.int 1, .int 1, .int 2, .int 3, .int 5, .int 8]) np
    refine ⟨_, rfl, S, 6, rfl, by decide, by decide, mv.b.same s1, fun H2 r2 mv2 hr2 => ?_⟩
    obtain ⟨n, hn, h1, h8⟩ : ∃ n : Nat, ([.int 1, .int 1, .int 2, .int 3, .int 5, .int 8] : List V)[r2]? = some (.int (n : Nat)) ∧ 1 ≤ n ∧ n ≤ 8 := by
      match r2, hr2 with
      | 0, _ => exact ⟨1, rfl, by decide, by decide⟩
      | 1, _ => exact ⟨1, rfl, by decide, by decide⟩
      | 2, _ => exact ⟨2, rfl, by decide, by decide⟩
      | 3, _ => exact ⟨3, rfl, by decide, by decide⟩
      | 4, _ => exact ⟨5, rfl, by decide, by decide⟩
      | 5, _ => exact ⟨8, rfl, by decide, by decide⟩
    have mv3 := (mv.same s1).trans mv2
    refine ⟨p, _, _, .int (n : Nat), rfl, rfl, .of (mv2.lst upd_same), atI_nat hn, ?_⟩
    refine ⟨⟨_, rfl⟩, _, rfl, _, rfl, by omega, by omega, fun D nD => ?_⟩
    rw [Int.toNat_natCast]
    refine lc_gen rl_mv walk_range (fun i _ acc => ∃ cs : List Nat, acc = cs.map (fun c => V.str ⟨#[c]⟩) ∧ cs.length = i ∧ ∀ c ∈ cs, c ∈ lett.cps.toList) (Nat.lt_of_le_of_lt h8 (by decide)) nD (Mv.of mv2.b (same_new nD)) ⟨[], rfl, rfl, fun c hc => nomatch hc⟩ (fun i H acc ⟨cs, e, l, _⟩ => by rw [e, List.length_map, l]; exact Nat.le_refl _) (fun i H acc xs ys _ h => h) (fun _ _ => trivial)
      (fun i x H3 H4 acc Kt Kf hi r3 eD hI y kt kf => ?_) fun H3 acc r3 eD hI => ?_
    · obtain ⟨rfl, rfl⟩ := y
      obtain ⟨cs, rfl, l, hc⟩ := hI
      refine ⟨rfl, iteT (B := Kf H4) ?_⟩
      refine ⟨_, rfl, _, rfl, S, r3.b, .inr ⟨lett, rfl, by decide, by decide, fun H5 c mv5 hc5 => kt _ _ mv5 ⟨cs ++ [c], by simp, by simp [l], fun c2 h2 => ?_⟩⟩⟩
      rcases List.mem_append.mp h2 with h2 | h2
      · exact hc c2 h2
      · rw [List.mem_singleton.mp h2]
        exact hc5
    · obtain ⟨cs, rfl, l, hc⟩ := hI
      have e2 : cs.map (fun c => V.str ⟨#[c]⟩) = ((cs.map fun c => [c]).map SX.S).map V.str := by
        rw [List.map_map, List.map_map]
        rfl
      rw [e2] at eD
      refine ⟨_, D, (cs.map fun c => [c]).map SX.S, rfl, rfl, .inl (.of eD), ?_, ?_⟩
      · have : (((cs.map fun c => [c]).map SX.S).map (·.length)).sum = cs.length := by
          rw [List.map_map, List.map_map]
          clear e2 eD hc l
          induction cs with
          | nil => rfl
          | cons c cs ih =>
            rw [List.map_cons, List.sum_cons, ih, List.length_cons]
            show 1 + cs.length = cs.length + 1
            omega
        rw [this]
        have : (Str.ofString "").length = 0 := by decide
        rw [this]
        omega
      · have e3 : Txt.join "" ((cs.map fun c => [c]).map SX.S) = SX.S cs := by
          rw [show (Str.ofString "" : Str) = SX.S [] from rfl, SX.join_S, join_ones]
        rw [e3]
        refine q H3 _ (mv3.trans r3) ⟨?_, ?_, fun c h => hc c (by simpa using h)⟩
        · rw [SX.S_len, l]
          exact h1
        · rw [SX.S_len, l]
          exact h8
end
end K66
set_option Elab.async false
set_option linter.all false
set_option maxRecDepth 100000
set_option maxHeartbeats 4000000
namespace K66
open PySem PySem.Spec PyProof.Rows L2
/-! ### crews -/
def cut7 (z : Str) : Str := cutS z none (some 7)
theorem cut7_eq (z : Str) : cut7 z = ⟨(z.cps.toList.take (min 7 z.length)).toArray⟩ := by
  unfold cut7 cutS
  rw [show HT.sIx z.length z.length (some 7) = min 7 z.length from HT.sIx_nat z.length z.length 7, HT.sIx_none]
  rfl
def withC (z : Str) (c : Nat) : Str := cut7 z ++ ⟨#[c]⟩
theorem withC_list (z : Str) (c : Nat) : (withC z c).cps.toList = z.cps.toList.take (min 7 z.length) ++ [c] := by
  unfold withC
  rw [cut7_eq]
  show ((z.cps.toList.take (min 7 z.length)).toArray ++ #[c]).toList = _
  rw [Array.toList_append]
theorem withC_len (z : Str) (c : Nat) : (withC z c).length = min 7 z.length + 1 := by
  have := congrArg List.length (withC_list z c)
  rw [Array.length_toList, List.length_append, List.length_take, Array.length_toList] at this
  show (withC z c).cps.size = _
  rw [this]
  show min (min 7 z.cps.size) z.cps.size + 1 = min 7 z.cps.size + 1
  omega
theorem withC_good {z : Str} {c : Nat} (g : GoodN z) (h : c ∈ lett.cps.toList) : GoodN (withC z c) := by
  refine ⟨by rw [withC_len]; omega, by rw [withC_len]; omega, fun d hd => ?_⟩
  rw [withC_list] at hd
  rcases List.mem_append.mp hd with hd | hd
  · exact g.let_ d (List.mem_of_mem_take hd)
  · rw [List.mem_singleton.mp hd]
    exact h
theorem withC_inj {z : Str} {c d : Nat} (h : withC z c = withC z d) : c = d := by
  have := congrArg (fun x : Str => x.cps.toList) h
  simp only [withC_list] at this
  have := List.append_cancel_left this
  simpa using this
def spareOfW (z : Str) : List Str := z :: lett.cps.toList.map (withC z)
theorem lett_nodup : lett.cps.toList.Nodup := by decide +kernel
theorem spare_left {z : Str} {found : List Str} (h : found.length ≤ 9) : ∃ y, y ∈ spareOfW z ∧ y ∉ found := by
  refine Classical.byContradiction fun n => ?_
  have all : ∀ y ∈ lett.cps.toList.map (withC z), y ∈ found := fun y hy => Classical.byContradiction fun q => n ⟨y, List.mem_cons_of_mem _ hy, q⟩
  have nd : (lett.cps.toList.map (withC z)).Nodup := by
    refine List.pairwise_map.mpr (List.Pairwise.imp (fun {a b} q e => q (withC_inj e)) lett_nodup)
  have l1 := nodup_le nd all
  rw [List.length_map] at l1
  have l2 : lett.cps.toList.length = 26 := by decide +kernel
  omega
theorem spare_good {z y : Str} (g : GoodN z) (h : y ∈ spareOfW z) : GoodN y := by
  rcases List.mem_cons.mp h with e | h
  · rw [e]
    exact g
  · obtain ⟨c, hc, rfl⟩ := List.mem_map.mp h
    exact withC_good g hc
section
variable {P : Program} {w : World} {K : PySem.W.Frag} {mg : Str → Option Value} {base : Heap} {f : Addr} {fd : FuncData}
abbrev nCrew : List Str := ["_law_state", "_law_many", "_law_found", "_law_turn", "_law_word_here", "_law_spare", "_law_sign", "_law_one"]
theorem scCrew : FnScope ["_law_state", "_law_many", "_law_found", "_law_turn", "_law_word_here", "_law_spare", "_law_sign", "_law_one"] ["_law_state", "_law_many"] (defScope (topS 28)) := ⟨rfl, rfl, rfl, by decide +kernel, rfl, by decide +kernel, by decide +kernel⟩
structure Crew (m : Nat) (ns : List Str) : Prop where
  len : ns.length = m
  nd : ns.Nodup
  good : ∀ z ∈ ns, GoodN z
def spCrew (K : PySem.W.Frag) : Sp := fun vs H Q _ => ∃ (S : SA) (m : Nat), vs = [.ref S.st, .int (m : Nat)] ∧ m ≤ 10 ∧ StOk K S H ∧ ∀ H2 p ns, Mv K S H H2 → H p = none → H2 p = some (.lst (ns.map V.str)) → Crew m ns → Q (.ref p) H2
theorem ok_crew (F : Fd K mg "_law_crew" 28 f fd) (B : Bl mg) (Wd : Cal P w K mg base CX0 4 "_law_word" ["_law_state"] (spWord K)) : Cal P w K mg base CX0 5 "_law_crew" ["_law_state", "_law_many"] (spCrew K) := by
  refine F.cal ?_ (fun _ _ _ _ _ _ us hl => match us, hl with | [_, _], _ => rfl)
  refine F.fu.ok scCrew (fun vs H Q E h => by obtain ⟨S, m, rfl, _⟩ := h; rfl) (fun cdv A outer s H vs Q E hr h => ⟨_, PSs.nox (pss_cons (ps_set (i := 2) scCrew.nd rfl (.inr rfl) (pe_lst pa_nil))
    (pss_cons (ps_for PassesOwn.never rfl (pi_range1 (by rfl) (B.no "range") (pa_cons (pv 1) pa_nil)) (pg_name (i := 3) scCrew.nd rfl (.inl rfl)) (pss_cons (ps_set (i := 4) scCrew.nd rfl (.inr rfl) (pe_cal Wd (hr.mono (by decide)) (pa_cons (pv 0) pa_nil)))
    (pss_cons (ps_set (i := 5) scCrew.nd rfl (.inl rfl) (pe_op op_cat (pe_lst (pa_cons (pv 4) pa_nil)) (pe_lc (own := [("_law_sign", 6)]) (g := gName 6) rfl scCrew.nd (pi_str pe_str) (blkOk_by (own := [("_law_sign", 6)]) (N := nCrew) (sc := defScope (topS 28)) (by decide +kernel))
        (fun _ _ _ _ _ => pg_name (i := 6) scCrew.nd rfl (Or.inl rfl)) (fun _ _ _ _ _ => pts_nil) (fun _ _ _ _ _ => pe_op op_add_str (pe_slice sl_str (pv 4) po_none (po_some pe_int)) (pv 6)))))
    (pss_one (ps_expr (pe_bm PySem.F.plainAttrs_list PySem.F.slot_list_append PySem.F.type_list_append mt_append (pv 2) (pa_cons (pe_ix ix_list (pe_lc (own := [("_law_one", 7)]) (g := gName 7) (tt := tTest (tOp (rIn K true) (tVar 7) (tVar 2))) rfl scCrew.nd (pi_list (pv 5)) (blkOk_by (own := [("_law_one", 7)]) (N := nCrew) (sc := defScope (topS 28)) (by decide +kernel))
        (fun _ _ _ _ _ => pg_name (i := 7) scCrew.nd rfl (Or.inl rfl)) (fun _ _ _ _ _ => pts_one (pt_cmpR op_notIn_seq (pv 7) (pv 2) (by rfl))) (fun _ _ _ _ _ => pv 7)) pe_int (fun _ _ => rfl)) pa_nil)))))))
    (pss_one (ps_ret (pv 2))))), ?_⟩)
  obtain ⟨S, n, rfl, n9, ok, q⟩ := h
  refine ⟨Nat.zero_le _, fun fo nfo => ?_⟩
  have s0 := same_new (o := .lst []) nfo
  refine ⟨_, rfl, _, rfl, by omega, by omega, ?_⟩
  rw [Int.toNat_natCast]
  refine for_range (Pv := fun i σ2 H2 => ∃ y3 y4 y5 ns, σ2 = [some (.ref S.st), some (.int (n : Nat)), some (.ref fo), y3, y4, y5, none, none] ∧ (∀ b o, b ≠ S.st → b ≠ fo → H b = some o → H2 b = some o) ∧ StOk K S H2 ∧ H2 fo = some (.lst (ns.map V.str)) ∧ Crew i ns)
    ⟨none, none, none, [], rfl, fun b o _ _ e => s0 _ _ e, ok.same s0, upd_same, rfl, List.nodup_nil, fun z hz => nomatch hz⟩ (fun i σ2 H2 hi iv => ?_) fun σ2 H2 iv => ?_
  · obtain ⟨y3, y4, y5, ns, rfl, kp, ok2, ef, cr⟩ := iv
    refine ⟨_, rfl, S, rfl, ok2, fun H3 z mv g => ?_⟩
    have ef3 := mv.lst ef
    refine ⟨_, rfl, by show 1 ≤ sizeLine; decide, fun l1 nl1 => ?_⟩
    have s4 := same_new (o := .lst [.str z]) nl1
    have e1 : upd H3 l1 (.lst [.str z]) l1 = some (.lst [.str z]) := upd_same
    generalize upd H3 l1 (.lst [.str z]) = H4 at s4 e1
    refine ⟨lett, rfl, fun D nD => ?_⟩
    refine lc_map rl_same walk_str (L := lett.cps.toList) (by rw [Array.length_toList]) (fun _ => true) (fun c => V.str (withC z c)) (by decide) nD (same_new nD) (fun _ _ => trivial) (fun j c x H5 H6 Kt Kf hj s5 y kt kf => ?_) fun H5 s5 e5 => ?_
    · obtain ⟨rfl, d, hd, rfl⟩ := y
      obtain rfl : c = d := by
        rw [Array.getElem?_toList] at hj
        exact Option.some.inj (hj.symm.trans hd)
      refine ⟨rfl, iteT (B := Kf H6) ?_⟩
      refine ⟨_, rfl, 7, rfl, z, rfl, Nat.le_trans g.hi (by decide), _, rfl, _, _, rfl, rfl, ?_, kt rfl _ (Same.refl _)⟩
      have := cutS_length z none (some 7)
      have := g.hi
      exact Nat.le_trans (show (cutS z none (some 7)).length + 1 ≤ 20 by omega) (by decide)
    rw [show (lett.cps.toList.filter fun _ => true) = lett.cps.toList from List.filter_eq_self.mpr fun _ _ => rfl] at e5
    refine ⟨l1, D, _, _, rfl, rfl, s5 _ _ e1, e5, ?_, fun l2 nl2 => ?_⟩
    · rw [List.length_map]
      show 1 + lett.cps.toList.length ≤ sizeLine
      decide
    have s6 := same_new (o := .lst ([.str z] ++ lett.cps.toList.map fun c => V.str (withC z c))) nl2
    have e6 : upd H5 l2 (.lst ([.str z] ++ lett.cps.toList.map fun c => V.str (withC z c))) l2 = some (.lst ((spareOfW z).map V.str)) := by
      rw [upd_same]
      unfold spareOfW
      rw [List.map_cons, List.map_map]
      rfl
    have ef6 := s6 _ _ (s5 _ _ (s4 _ _ ef3))
    have sm : Same H3 (upd H5 l2 (.lst ([.str z] ++ lett.cps.toList.map fun c => V.str (withC z c)))) := s4.trans (s5.trans s6)
    generalize upd H5 l2 (.lst ([.str z] ++ lett.cps.toList.map fun c => V.str (withC z c))) = H6 at s6 e6 ef6 sm
    refine ⟨_, rfl, .inl ⟨rfl, _, .of ef6⟩, ?_⟩
    refine ⟨_, rfl, l2, rfl, ⟨_, .of e6⟩, fun D2 nD2 => ?_⟩
    have l27 : (spareOfW z).length = 27 := by
      unfold spareOfW
      rw [List.length_cons, List.length_map]
      decide +kernel
    refine lc_map rl_same walk_list (L := spareOfW z) (List.length_map ..) (fun y => !decide (y ∈ ns)) V.str (by rw [List.length_map, l27]; decide) nD2 (same_new nD2) (fun H7 s7 => .of (s7 _ _ e6)) (fun j y x H7 H8 Kt Kf hj s7 w kt kf => ?_) fun H7 s7 e7 => ?_
    · obtain ⟨rfl, hx⟩ := w
      rw [List.getElem?_map, hj] at hx
      obtain rfl : V.str y = x := Option.some.inj hx
      refine ⟨rfl, _, rfl, _, rfl, fo, _, rfl, .inl (.of (s7 _ _ ef6)), rfl, flat_strs _, _, rfl, ?_⟩
      rw [show (if true = true then !inV (V.str y) (ns.map V.str) else inV (V.str y) (ns.map V.str)) = !decide (y ∈ ns) by rw [if_pos rfl, inV_str]]
      cases hk : (!decide (y ∈ ns)) with
      | true => exact iteT ⟨_, rfl, kt hk _ (Same.refl _)⟩
      | false => exact iteF (kf hk _ (Same.refl _))
    · obtain ⟨y0, h1, h2⟩ := spare_left (z := z) (found := ns) (by rw [cr.len]; omega)
      obtain ⟨y, r, er⟩ : ∃ y r, (spareOfW z).filter (fun y => !decide (y ∈ ns)) = y :: r := by
        cases q : (spareOfW z).filter (fun y => !decide (y ∈ ns)) with
        | nil =>
          have := (List.mem_filter (p := fun y => !decide (y ∈ ns))).mpr ⟨h1, show (!decide (y0 ∈ ns)) = true by rw [decide_eq_false h2]; rfl⟩
          rw [q] at this
          cases this
        | cons y r => exact ⟨y, r, rfl⟩
      have hy := List.mem_filter.mp (show y ∈ (spareOfW z).filter (fun y => !decide (y ∈ ns)) by rw [er]; exact List.mem_cons_self)
      have hyn : y ∉ ns := by simpa using hy.2
      rw [er] at e7
      refine ⟨D2, _, _, .str y, rfl, rfl, .of e7, atI_nat (j := 0) rfl, ?_⟩
      have ef7 := s7 _ _ ef6
      refine ⟨fo, _, _, rfl, rfl, ef7, by rw [List.length_map, cr.len]; exact Nat.lt_of_lt_of_le (show i < 20 by omega) (by decide), ?_⟩
      have ok7 := (mv.b.same sm).same s7
      refine ⟨_, _, _, ns ++ [y], rfl, fun b o n1 n2 e => ?_, ?_, ?_, ?_, ?_, ?_⟩
      · exact (upd_ne n2).trans (s7 _ _ (sm _ _ (mv.kp b o n1 (kp b o n1 n2 e))))
      · obtain ⟨k, l, m, est⟩ := ok7.st
        have nst : S.st ≠ fo := ne_of est ef7 (fun z => nomatch z)
        refine ⟨?_, k, l, m, (upd_ne nst).trans est⟩
        have okc := ok.cells
        have nc : ∀ {u : HO}, H S.c = some u → S.c ≠ fo := fun e => ne_of_none e nfo
        have nst2 : ∀ {u : HO}, H S.c = some u → (∀ kvs, u ≠ .dK kvs) → S.c ≠ S.st := fun e n => let ⟨_, _, _, q⟩ := ok.st; ne_of e q (n _)
        have go : ∀ {u : HO}, H S.c = some u → (∀ kvs, u ≠ .dK kvs) → upd H7 fo (.lst (ns.map V.str ++ [.str y])) S.c = some u := fun e n => (upd_ne (nc e)).trans (s7 _ _ (sm _ _ (mv.kp _ _ (nst2 e n) (kp _ _ (nst2 e n) (nc e) e))))
        exact okc.elim (fun h => .inl (h.elim (fun h => .inl (go h (fun _ z => nomatch z))) fun ⟨o, h⟩ => .inr ⟨o, go h (fun _ z => nomatch z)⟩)) fun h => .inr h
      · rw [upd_same, List.map_append]
        rfl
      · rw [List.length_append, cr.len]
        rfl
      · rw [List.nodup_append]
        exact ⟨cr.nd, List.pairwise_singleton _ _, fun a ha b hb => by rw [List.mem_singleton.mp hb]; exact fun e => hyn (e ▸ ha)⟩
      · intro a ha
        rcases List.mem_append.mp ha with ha | ha
        · exact cr.good a ha
        · rw [List.mem_singleton.mp ha]
          exact spare_good g hy.1
  · obtain ⟨y3, y4, y5, ns, rfl, kp, ok2, ef, cr⟩ := iv
    exact ⟨_, rfl, q H2 fo ns ⟨ok, fun b o n1 e => kp b o n1 (ne_of_none e nfo) e, ok2⟩ nfo ef cr⟩
end
end K66
set_option Elab.async false
set_option linter.all false
set_option maxRecDepth 100000
set_option maxHeartbeats 4000000
namespace K66
open PySem PySem.Spec PyProof.Rows L2
section
variable {P : Program} {w : World} {K : PySem.W.Frag} {mg : Str → Option Value} {base : Heap} {f : Addr} {fd : FuncData}
/-- what a list of (name, drawn number) holds -/
def Drawn (ns : List Str) (wd i : Nat) (H : Hp) (acc : List V) : Prop := ∃ rs : List Nat, rs.length = i ∧ (∀ r ∈ rs, r < wd) ∧ Tups H ((((ns.take i).zip rs).map fun p => (p.1, V.int (p.2 : Nat))).map fun q => [V.str q.1, q.2]) acc
theorem Drawn.zero {ns : List Str} {wd : Nat} {H : Hp} : Drawn ns wd 0 H [] := ⟨[], rfl, (fun r hr => nomatch hr), .nil⟩
theorem Drawn.len {ns : List Str} {wd i : Nat} {H : Hp} {acc : List V} (h : Drawn ns wd i H acc) : acc.length ≤ i := by
  obtain ⟨rs, l, _, t⟩ := h
  rw [← Paired.length t, List.length_map, List.length_map, List.length_zip]
  omega
theorem Drawn.mono {ns : List Str} {wd i : Nat} {H H2 : Hp} {acc : List V} (h : Drawn ns wd i H acc) (e : ∀ t xs, H t = some (.tup xs) → H2 t = some (.tup xs)) : Drawn ns wd i H2 acc := let ⟨rs, l, b, t⟩ := h; ⟨rs, l, b, t.mono e⟩
theorem Drawn.more {ns : List Str} {wd i r : Nat} {z : Str} {H : Hp} {acc : List V} {t : Addr} (h : Drawn ns wd i H acc) (hz : ns[i]? = some z) (hr : r < wd) (e : H t = some (.tup [.str z, .int (r : Nat)])) : Drawn ns wd (i + 1) H (acc ++ [.ref t]) := by
  obtain ⟨rs, l, b, tt⟩ := h
  refine ⟨rs ++ [r], by rw [List.length_append, l]; rfl, fun x hx => ?_, ?_⟩
  · rcases List.mem_append.mp hx with hx | hx
    · exact b x hx
    · rw [List.mem_singleton.mp hx]
      exact hr
  · have lt : (ns.take i).length = rs.length := by
      rw [List.length_take, l]
      have := (List.getElem?_eq_some_iff.mp hz).1
      omega
    rw [List.take_add_one, hz, Option.toList_some, List.zip_append lt, List.map_append, List.map_append]
    exact tt.snoc e
theorem Drawn.fin {ns : List Str} {wd : Nat} {H : Hp} {acc : List V} (nd : ns.Nodup) (h : Drawn ns wd ns.length H acc) : ∃ (l : List (Str × V)) (v : Str → Int), Tups H (l.map fun q => [V.str q.1, q.2]) acc ∧ (l.map (·.1)).Nodup ∧ strK l = dOf ns v ∧ ∀ z, 0 ≤ v z ∧ (v z < wd ∨ v z = 0) := by
  obtain ⟨rs, l, b, t⟩ := h
  rw [List.take_length] at t
  refine ⟨_, valOf ns rs, t, by rw [zip_keys l]; exact nd, zip_dOf nd l, fun z => ⟨Int.natCast_nonneg _, ?_⟩⟩
  unfold valOf
  by_cases hi : ns.idxOf z < rs.length
  · left
    rw [List.getD_eq_getElem?_getD, List.getElem?_eq_getElem hi]
    exact Int.ofNat_lt.mpr (b _ (List.getElem_mem hi))
  · right
    rw [List.getD_eq_getElem?_getD, List.getElem?_eq_none (by omega)]
    rfl
/-! ### _law_scores -/
theorem scSco : FnScope ["_law_state", "_law_crew_here", "_law_wide", "_law_one"] ["_law_state", "_law_crew_here"] (defScope (topS 29)) := ⟨rfl, rfl, rfl, by decide +kernel, rfl, by decide +kernel, by decide +kernel⟩
def spSco (K : PySem.W.Frag) : Sp := fun vs H Q _ => ∃ (S : SA) (a : Addr) (ns : List Str), vs = [.ref S.st, .ref a] ∧ StOk K S H ∧ SqL K H a (ns.map V.str) ∧ ns.Nodup ∧ ns.length ≤ 10 ∧ ∀ H2 d v, Mv K S H H2 → H d = none → H2 d = some (.dK (dOf ns v)) → (∀ z, 0 ≤ v z ∧ v z ≤ 100) → Q (.ref d) H2
theorem ok_sco (F : Fd K mg "_law_scores" 29 f fd) (B : Bl mg) (N : Cal P w K mg base CX0 2 "_law_next" ["_law_state", "_law_many"] (spNext K)) : Cal P w K mg base CX0 3 "_law_scores" ["_law_state", "_law_crew_here"] (spSco K) := by
  refine F.cal ?_ (fun _ _ _ _ _ _ us hl => match us, hl with | [_, _], _ => rfl)
  refine F.fu.ok scSco (fun vs H Q E h => by obtain ⟨S, a, ns, rfl, _⟩ := h; rfl) (fun cdv A outer s H vs Q E hr h => ⟨_, PSs.nox (pss_cons (ps_set (i := 2) scSco.nd rfl (.inr rfl) (pe_ix ix_list (pe_lst (pa_cons pe_int (pa_cons pe_int (pa_cons pe_int (pa_cons pe_int pa_nil))))) (pe_cal N (hr.mono (by decide)) (pa_cons (pv 0) (pa_cons pe_int pa_nil))) (fun _ _ => rfl)))
    (pss_one (ps_ret (pe_callTy (cr_dictP rfl) (by rfl) (B.no "dict") (by decide +kernel) (pa_cons (pe_lc (own := [("_law_one", 3)]) (g := gName 3) rfl scSco.nd (pi_list (pv 1)) (blkOk_by (own := [("_law_one", 3)]) (N := ["_law_state", "_law_crew_here", "_law_wide", "_law_one"]) (sc := defScope (topS 29)) (by decide +kernel))
      (fun _ _ _ _ _ => pg_name (i := 3) scSco.nd rfl (Or.inl rfl)) (fun _ _ _ _ _ => pts_nil) (fun _ _ _ _ _ => (pe_tup (pa_cons (pv 3) (pa_cons (pe_cal N (hr.mono (by decide)) (pa_cons (pv 0) (pa_cons (pv 2) pa_nil))) pa_nil))))) pa_nil))))), ?_⟩)
  obtain ⟨S, a, ns, rfl, ok, hq, nd, n10, q⟩ := h
  refine ⟨by show 4 ≤ sizeLine; decide, fun p np => ?_⟩
  have s1 := same_new (o := .lst [.int 1, .int 3, .int 9, .int 101]) np
  refine ⟨_, rfl, S, 4, rfl, by decide, by decide, ok.same s1, fun H1 r mv hr => ?_⟩
  obtain ⟨wd, hw, w1, w2⟩ : ∃ n : Nat, ([.int 1, .int 3, .int 9, .int 101] : List V)[r]? = some (.int (n : Nat)) ∧ 0 < n ∧ n ≤ 101 := by
    match r, hr with
    | 0, _ => exact ⟨1, rfl, by decide, by decide⟩
    | 1, _ => exact ⟨3, rfl, by decide, by decide⟩
    | 2, _ => exact ⟨9, rfl, by decide, by decide⟩
    | 3, _ => exact ⟨101, rfl, by decide, by decide⟩
  refine ⟨p, _, _, .int (wd : Nat), rfl, rfl, .of (mv.lst upd_same), atI_nat hw, ?_⟩
  have mv1 : Mv K S H H1 := (Mv.of ok s1).trans mv
  have hq1 := mv1.seq hq
  refine ⟨_, rfl, a, rfl, ⟨_, hq1⟩, fun D nD => ?_⟩
  refine lc_gen rl_mv walk_list (Drawn ns wd) (by rw [List.length_map]; exact Nat.lt_of_le_of_lt n10 (by decide)) nD (Mv.of mv.b (same_new nD)) .zero (fun i H acc h => h.len) (fun i H acc xs ys e h => h.mono fun t ws q => (upd_ne (ne_of q e (fun z => nomatch z))).trans q) (fun H2 m2 => m2.seq hq1) (fun i x H2 H3 acc Kt Kf hi m2 eD hI y kt kf => ?_) fun H2 acc m2 eD hI => ?_
  · obtain ⟨rfl, hx⟩ := y
    obtain ⟨z, hz, rfl, _⟩ := at_map hx
    refine ⟨rfl, iteT (B := Kf H3) ?_⟩
    refine ⟨_, rfl, _, rfl, _, rfl, S, wd, rfl, w1, by omega, m2.b, fun H4 r2 m4 hr2 => ⟨by show 2 ≤ sizeLine; decide, fun t nt => ?_⟩⟩
    have s5 := same_new (o := .tup [.str z, .int (r2 : Nat)]) nt
    exact kt _ _ (m4.same s5) ((hI.mono fun t xs e => s5 _ _ (m4.tup e)).more hz hr2 upd_same)
  · rw [List.length_map] at hI
    obtain ⟨l, v, ht, hk, es, hv⟩ := hI.fin nd
    refine ⟨D, acc, l, rfl, .of eD, ht, hk, fun d nd2 => ?_⟩
    rw [es]
    have m3 := (mv1.trans m2).same (same_new (o := .dK (dOf ns v)) nd2)
    refine q _ d v m3 ((mv1.trans m2).free nd2) upd_same fun z => ?_
    obtain ⟨h1, h2⟩ := hv z
    exact ⟨h1, by omega⟩
/-! ### _law_some -/
theorem scSome : FnScope ["_law_state", "_law_crew_here", "_law_often", "_law_one"] ["_law_state", "_law_crew_here", "_law_often"] (defScope (topS 31)) := ⟨rfl, rfl, rfl, by decide +kernel, rfl, by decide +kernel, by decide +kernel⟩
def spSome (K : PySem.W.Frag) : Sp := fun vs H Q _ => ∃ (S : SA) (a : Addr) (ns : List Str) (n : Nat), vs = [.ref S.st, .ref a, .int (n : Nat)] ∧ StOk K S H ∧ SqL K H a (ns.map V.str) ∧ ns.length ≤ 10 ∧ 0 < n ∧ n ≤ 1000 ∧ ∀ (H2 : Hp) (p : Addr) (ys : List Str), Mv K S H H2 → H p = none → H2 p = some (.lst (ys.map V.str)) → ys.Sublist ns → Q (.ref p) H2
theorem ok_some (F : Fd K mg "_law_some" 31 f fd) (N : Cal P w K mg base CX0 2 "_law_next" ["_law_state", "_law_many"] (spNext K)) : Cal P w K mg base CX0 3 "_law_some" ["_law_state", "_law_crew_here", "_law_often"] (spSome K) := by
  refine F.cal ?_ (fun _ _ _ _ _ _ us hl => match us, hl with | [_, _, _], _ => rfl)
  refine F.fu.ok scSome (fun vs H Q E h => by obtain ⟨S, a, ns, n, rfl, _⟩ := h; rfl) (fun cdv A outer s H vs Q E hr h => ⟨_, PSs.nox (pss_one (ps_ret (pe_lc (own := [("_law_one", 3)]) (g := gName 3) rfl scSome.nd (pi_list (pv 1)) (blkOk_by (own := [("_law_one", 3)]) (N := ["_law_state", "_law_crew_here", "_law_often", "_law_one"]) (sc := defScope (topS 31)) (by decide +kernel))
      (fun _ _ _ _ _ => pg_name (i := 3) scSome.nd rfl (Or.inl rfl)) (fun _ _ _ _ _ => pts_one (pt_cmpR op_eq (pe_cal N (hr.mono (by decide)) (pa_cons (pv 0) (pa_cons (pv 2) pa_nil))) pe_int (nomark _))) (fun _ _ _ _ _ => pv 3)))), ?_⟩)
  obtain ⟨S, a, ns, n, rfl, ok, hq, n10, n0, n1, q⟩ := h
  refine ⟨_, rfl, a, rfl, ⟨_, hq⟩, fun D nD => ?_⟩
  refine lc_gen rl_mv walk_list (fun i _ acc => ∃ ys, acc = ys.map V.str ∧ ys.Sublist (ns.take i)) (by rw [List.length_map]; exact Nat.lt_of_le_of_lt n10 (by decide)) nD (Mv.of ok (same_new nD)) ⟨[], rfl, List.Sublist.refl _⟩ (fun i H acc ⟨ys, e, h⟩ => by rw [e, List.length_map]; exact Nat.le_trans h.length_le (List.length_take_le _ _)) (fun i H acc xs ys _ h => h) (fun H2 m2 => m2.seq hq) (fun i x H2 H3 acc Kt Kf hi m2 eD hI y kt kf => ?_) fun H2 acc m2 eD hI => ?_
  · obtain ⟨rfl, hx⟩ := y
    obtain ⟨z, hz, rfl, _⟩ := at_map hx
    obtain ⟨ys, rfl, hs⟩ := hI
    have et : ns.take (i + 1) = ns.take i ++ [z] := by rw [List.take_add_one, hz]; rfl
    refine ⟨rfl, _, rfl, _, rfl, S, n, rfl, n0, by omega, m2.b, fun H4 r m4 hr2 => ⟨rfl, _, rfl, ?_⟩⟩
    refine ite2 (fun _ => ⟨_, rfl, kt _ _ m4 ⟨ys ++ [z], by rw [List.map_append]; rfl, ?_⟩⟩) fun _ => kf _ m4 ⟨ys, rfl, ?_⟩
    · rw [et]
      exact hs.append (List.Sublist.refl _)
    · rw [et]
      exact hs.trans (List.sublist_append_left _ _)
  · rw [List.length_map, List.take_length] at hI
    obtain ⟨ys, rfl, hs⟩ := hI
    exact q H2 D ys m2 nD eD hs
end
end K66
set_option Elab.async false
set_option linter.all false
set_option maxRecDepth 100000
set_option maxHeartbeats 4000000
namespace K66
open PySem PySem.Spec PyProof.Rows L2
section
variable {P : Program} {w : World} {K : PySem.W.Frag} {mg : Str → Option Value} {base : Heap} {f : Addr} {fd : FuncData}
/-! ### _law_done -/
theorem scDone : FnScope ["_law_state", "_law_crew_here", "_law_often", "_law_found", "_law_at", "_law_there", "_law_way"] ["_law_state", "_law_crew_here", "_law_often"] (defScope (topS 30)) := ⟨rfl, rfl, rfl, by decide +kernel, rfl, by decide +kernel, by decide +kernel⟩
structure Mets (ns : List Str) (met : List (Str × Str)) (n : Nat) : Prop where
  of : ∀ q ∈ met, q.1 ∈ ns ∧ q.2 ∈ ns ∧ q.1 ≠ q.2
  few : met.length ≤ n
theorem Mets.more {ns : List Str} {met : List (Str × Str)} {n : Nat} {x y : Str} (h : Mets ns met n) (hx : x ∈ ns) (hy : y ∈ ns) (ne : x ≠ y) : Mets ns (met ++ [(x, y)]) (n + 1) := by
  refine ⟨fun q hq => ?_, by rw [List.length_append]; exact Nat.succ_le_succ h.few⟩
  rcases List.mem_append.mp hq with hq | hq
  · exact h.of q hq
  · rw [List.mem_singleton.mp hq]
    exact ⟨hx, hy, ne⟩
def spDone (K : PySem.W.Frag) : Sp := fun vs H Q _ => ∃ (S : SA) (a : Addr) (ns : List Str) (n : Nat), vs = [.ref S.st, .ref a, .int (n : Nat)] ∧ StOk K S H ∧ SqL K H a (ns.map V.str) ∧ ns.Nodup ∧ ns.length ≤ 10 ∧ 0 < n ∧ n ≤ 1000 ∧
  ∀ (H2 : Hp) (p : Addr) (met : List (Str × Str)) (xs : List V), Mv K S H H2 → H p = none → H2 p = some (.lst xs) → Tups H2 (met.map prV) xs → Mets ns met 100 → Q (.ref p) H2
theorem ok_done (F : Fd K mg "_law_done" 30 f fd) (B : Bl mg) (N : Cal P w K mg base CX0 2 "_law_next" ["_law_state", "_law_many"] (spNext K)) : Cal P w K mg base CX0 3 "_law_done" ["_law_state", "_law_crew_here", "_law_often"] (spDone K) := by
  refine F.cal ?_ (fun _ _ _ _ _ _ us hl => match us, hl with | [_, _, _], _ => rfl)
  refine F.fu.ok scDone (fun vs H Q E h => by obtain ⟨S, a, ns, n, rfl, _⟩ := h; rfl) (fun cdv A outer s H vs Q E hr h => ⟨_, PSs.nox (pss_cons (ps_set (i := 3) scDone.nd rfl (.inl rfl) (pe_lst pa_nil))
    (pss_cons (ps_for PassesOwn.never rfl (pi_range1 (by rfl) (B.no "range") (pa_cons (pe_callB call_len_seq (by rfl) (B.no "len") (by decide +kernel) (pa_cons (pv 1) pa_nil)) pa_nil)) (pg_name (i := 4) scDone.nd rfl (.inl rfl)) (pss_one (ps_for PassesOwn.never rfl (pi_range2 (by rfl) (B.no "range") (pa_cons (pe_op op_add (pv 4) pe_int) (pa_cons (pe_callB call_len_seq (by rfl) (B.no "len") (by decide +kernel) (pa_cons (pv 1) pa_nil)) pa_nil))) (pg_name (i := 5) scDone.nd rfl (.inl rfl)) (pss_cons (ps_set (i := 6) scDone.nd rfl (.inl rfl) (pe_cal N (hr.mono (by decide)) (pa_cons (pv 0) (pa_cons (pv 2) pa_nil))))
    (pss_one (ps_if (pt_cmpR op_lt (pv 6) pe_int (nomark _)) (pss_one (ps_expr (pe_bm PySem.F.plainAttrs_list PySem.F.slot_list_append PySem.F.type_list_append mt_append (pv 3) (pa_cons (pe_ifExp (pt_cmpR op_eq (pv 6) pe_int (nomark _)) (pe_tup (pa_cons (pe_ix ix_list (pv 1) (pv 4) (fun _ _ => rfl)) (pa_cons (pe_ix ix_list (pv 1) (pv 5) (fun _ _ => rfl)) pa_nil))) (pe_tup (pa_cons (pe_ix ix_list (pv 1) (pv 5) (fun _ _ => rfl)) (pa_cons (pe_ix ix_list (pv 1) (pv 4) (fun _ _ => rfl)) pa_nil)))) pa_nil)))) pss_nil))))))
    (pss_one (ps_ret (pv 3))))), ?_⟩)
  obtain ⟨S, a, ns, n, rfl, ok, hq, nd, n10, n0, n1, q⟩ := h
  have hlen : (ns.map V.str).length = ns.length := List.length_map ..
  refine ⟨Nat.zero_le _, fun fo nfo => ?_⟩
  have s0 := same_new (o := .lst []) nfo
  have hqa : ∀ {H2}, MvL K S fo H H2 → SqL K H2 a (ns.map V.str) := fun {H2} m => by
    have go : ∀ {u : HO}, H a = some u → (∀ kvs, u ≠ .dK kvs) → H2 a = some u := fun e nk => m.kp a _ (let ⟨_, _, _, z⟩ := ok.st; ne_of e z (nk _)) (ne_of_none e nfo) e
    exact hq.elim (fun h => .inl (h.elim (fun h => .inl (go h (fun _ z => nomatch z))) fun ⟨o, h⟩ => .inr ⟨o, go h (fun _ z => nomatch z)⟩)) fun h => .inr h
  refine ⟨_, rfl, a, _, rfl, .inl (s0.seq hq), _, rfl, by omega, by rw [hlen]; omega, ?_⟩
  rw [hlen, Int.toNat_natCast]
  refine for_range (Pv := fun i σ2 H2 => ∃ y4 y5 y6 met xs, σ2 = [some (.ref S.st), some (.ref a), some (.int (n : Nat)), some (.ref fo), y4, y5, y6] ∧ MvL K S fo H H2 ∧ H2 fo = some (.lst xs) ∧ Tups H2 (met.map prV) xs ∧ Mets ns met (i * 10))
    ⟨none, none, none, [], [], rfl, MvL.new ok nfo, upd_same, .nil, (fun q hq => nomatch hq), Nat.zero_le _⟩ (fun i σ2 H2 hi iv => ?_) fun σ2 H2 iv => ?_
  · obtain ⟨y4, y5, y6, met, xs, rfl, m, ef, tp, ms⟩ := iv
    refine ⟨_, rfl, _, _, rfl, rfl, _, rfl, a, _, rfl, .inl (hqa m), _, _, rfl, ⟨by omega, by omega, by rw [hlen]; omega, by rw [hlen]; omega⟩, ?_⟩
    rw [hlen]
    have e1 : (((ns.length : Nat) : Int) - (0 + ((i : Nat) : Int) + 1)).toNat = ns.length - (i + 1) := by omega
    rw [e1]
    refine for_range (Pv := fun j σ2 H2 => ∃ y5 y6 met xs, σ2 = [some (.ref S.st), some (.ref a), some (.int (n : Nat)), some (.ref fo), some (.int (0 + (i : Nat))), y5, y6] ∧ MvL K S fo H H2 ∧ H2 fo = some (.lst xs) ∧ Tups H2 (met.map prV) xs ∧ Mets ns met (i * 10 + j))
      ⟨_, _, met, xs, rfl, m, ef, tp, ms⟩ (fun j σ2 H3 hj iv => ?_) fun σ2 H3 iv => ?_
    · obtain ⟨y5, y6, met, xs, rfl, m, ef, tp, ms⟩ := iv
      refine ⟨_, rfl, _, rfl, S, n, rfl, n0, by omega, m.b, fun H4 r mv hr => ?_⟩
      have m4 := m.step mv
      have ef4 := mv.lst ef
      have tp4 := mv.tups tp
      refine ⟨_, rfl, _, _, rfl, rfl, _, rfl, ?_⟩
      refine ite2 (fun _ => ?_) fun _ => ⟨_, _, met, xs, rfl, m4, ef4, tp4, ms.of, Nat.le_succ_of_le ms.few⟩
      have hi1 : i < ns.length := hi
      have hj1 : i + 1 + j < ns.length := by omega
      have a1 : atI (ns.map V.str) (0 + ((i : Nat) : Int)) = some (.str ns[i]) := by
        rw [Int.zero_add]
        exact atI_nat (by rw [List.getElem?_map, List.getElem?_eq_getElem hi1]; rfl)
      have a2 : atI (ns.map V.str) (0 + ((i : Nat) : Int) + 1 + ((j : Nat) : Int)) = some (.str ns[i + 1 + j]) := by
        rw [show 0 + ((i : Nat) : Int) + 1 + ((j : Nat) : Int) = ((i + 1 + j : Nat) : Int) by omega]
        exact atI_nat (by rw [List.getElem?_map, List.getElem?_eq_getElem hj1]; rfl)
      have ne : ns[i] ≠ ns[i + 1 + j] := List.pairwise_iff_getElem.mp nd _ _ hi1 hj1 (by omega)
      have hx := List.getElem_mem hi1
      have hy := List.getElem_mem hj1
      have lx : xs.length = met.length := by rw [← Paired.length tp, List.length_map]
      have fw := ms.few
      have fin : ∀ (t : Addr) (x y : Str), x ∈ ns → y ∈ ns → x ≠ y → H4 t = none → ∃ y5 y6 met xs2, ([some (.ref S.st), some (.ref a), some (.int (n : Nat)), some (.ref fo), some (.int (0 + (i : Nat))), some (.int (0 + (i : Nat) + 1 + (j : Nat))), some (.int (r : Nat))] : L2.St) = [some (.ref S.st), some (.ref a), some (.int (n : Nat)), some (.ref fo), some (.int (0 + (i : Nat))), y5, y6] ∧
          MvL K S fo H (upd (upd H4 t (.tup [.str x, .str y])) fo (.lst (xs ++ [.ref t]))) ∧ (upd (upd H4 t (.tup [.str x, .str y])) fo (.lst (xs ++ [.ref t]))) fo = some (.lst xs2) ∧ Tups (upd (upd H4 t (.tup [.str x, .str y])) fo (.lst (xs ++ [.ref t]))) (met.map prV) xs2 ∧ Mets ns met (i * 10 + (j + 1)) := fun t x y hx hy ne nt => by
        have s5 := same_new (o := .tup [.str x, .str y]) nt
        have m5 := m4.same s5
        refine ⟨_, _, met ++ [(x, y)], _, rfl, m5.put ok nfo (s5 _ _ ef4), upd_same, ?_, ms.more hx hy ne⟩
        rw [List.map_append]
        have tp5 := (tp4.same s5).mono (H2 := upd (upd H4 t (.tup [.str x, .str y])) fo (.lst (xs ++ [.ref t]))) fun t2 ys e => (upd_ne (ne_of e (s5 _ _ ef4) (fun z => nomatch z))).trans e
        exact tp5.snoc ((upd_ne (ne_of (upd_same : upd H4 t (.tup [.str x, .str y]) t = _) (s5 _ _ ef4) (fun z => nomatch z))).trans upd_same)
      have lb : xs.length < sizeLine := Nat.lt_of_le_of_lt (show xs.length ≤ 1000 by omega) (by decide)
      refine ⟨_, rfl, .inl ⟨rfl, _, .of ef4⟩, ?_⟩
      refine ⟨_, rfl, rfl, _, rfl, ?_⟩
      refine ite2 (fun _ => ?_) fun _ => ?_
      · refine ⟨_, rfl, _, rfl, a, _, _, _, rfl, rfl, hqa m4, a1, _, rfl, _, rfl, a, _, _, _, rfl, rfl, hqa m4, a2, by show 2 ≤ sizeLine; decide, fun t nt => ?_⟩
        exact ⟨fo, xs, _, rfl, rfl, same_new nt _ _ ef4, lb, fin t _ _ hx hy ne nt⟩
      · refine ⟨_, rfl, _, rfl, a, _, _, _, rfl, rfl, hqa m4, a2, _, rfl, _, rfl, a, _, _, _, rfl, rfl, hqa m4, a1, by show 2 ≤ sizeLine; decide, fun t nt => ?_⟩
        exact ⟨fo, xs, _, rfl, rfl, same_new nt _ _ ef4, lb, fin t _ _ hy hx (Ne.symm ne) nt⟩
    · obtain ⟨y5, y6, met, xs, rfl, m, ef, tp, ms⟩ := iv
      exact ⟨_, _, _, met, xs, rfl, m, ef, tp, ms.of, by have := ms.few; omega⟩
  · obtain ⟨y4, y5, y6, met, xs, rfl, m, ef, tp, ms⟩ := iv
    exact ⟨_, rfl, q H2 fo met xs (m.fin ok nfo) nfo ef tp ⟨ms.of, by have := ms.few; omega⟩⟩
end
end K66
set_option Elab.async false
set_option linter.all false
set_option maxRecDepth 100000
set_option maxHeartbeats 4000000
namespace K66
open PySem PySem.Spec PyProof.Rows L2
/-- a task's parts, each tracked -/
structure Tk.AtL (T : Tk) (H : Hp) (a d m s l : Addr) : Prop where
  ns : H a = some (.lst (T.ns.map V.str))
  pt : H d = some (.dK (dOf T.ns T.pt))
  met : ∃ xs, H m = some (.lst xs) ∧ Tups H (T.met.map prV) xs
  sat : H s = some (.lst (T.sat.map V.str))
  led : H l = some (.dK (dOf T.ls T.fi))
theorem Mv.ne {K : PySem.W.Frag} {S : SA} {H H1 : Hp} (x : Mv K S H H1) {p : Addr} (n : H p = none) : p ≠ S.st := fun e => by
  obtain ⟨k, l, m, q⟩ := x.a.st
  rw [e, q] at n
  cases n
section
variable {P : Program} {w : World} {K : PySem.W.Frag} {mg : Str → Option Value} {base : Heap} {f : Addr} {fd : FuncData}
abbrev nTask : List Str := ["_law_state", "_law_many", "_law_crew_here", "_law_often", "_law_lead", "_law_score", "_law_done_here", "_law_one"]
theorem scTask : FnScope ["_law_state", "_law_many", "_law_crew_here", "_law_often", "_law_lead", "_law_score", "_law_done_here", "_law_one"] ["_law_state", "_law_many"] (defScope (topS 32)) := ⟨rfl, rfl, rfl, by decide +kernel, rfl, by decide +kernel, by decide +kernel⟩
def spTask (K : PySem.W.Frag) : Sp := fun vs H Q _ => ∃ (S : SA) (n : Nat), vs = [.ref S.st, .int (n : Nat)] ∧ 2 ≤ n ∧ n ≤ 10 ∧ StOk K S H ∧ ∀ (H2 : Hp) (t a d m s l : Addr) (W : Tk), Mv K S H H2 → H2 t = some (.lst [.ref a, .ref d, .ref m, .ref s, .ref l]) → W.Ok → W.AtL H2 a d m s l → d ≠ S.st → l ≠ S.st → W.ls.Nodup → W.met.length ≤ 100 → Q (.ref t) H2
theorem ok_task (F : Fd K mg "_law_task" 32 f fd) (B : Bl mg) (N : Cal P w K mg base CX0 2 "_law_next" ["_law_state", "_law_many"] (spNext K)) (Cr : Cal P w K mg base CX0 5 "_law_crew" ["_law_state", "_law_many"] (spCrew K)) (Sc : Cal P w K mg base CX0 3 "_law_scores" ["_law_state", "_law_crew_here"] (spSco K))
    (Dn : Cal P w K mg base CX0 3 "_law_done" ["_law_state", "_law_crew_here", "_law_often"] (spDone K)) (So : Cal P w K mg base CX0 3 "_law_some" ["_law_state", "_law_crew_here", "_law_often"] (spSome K)) : Cal P w K mg base CX0 6 "_law_task" ["_law_state", "_law_many"] (spTask K) := by
  refine F.cal ?_ (fun _ _ _ _ _ _ us hl => match us, hl with | [_, _], _ => rfl)
  refine F.fu.ok scTask (fun vs H Q E h => by obtain ⟨S, n, rfl, _⟩ := h; rfl) (fun cdv A outer s H vs Q E hr h => ⟨_, PSs.nox (pss_cons (ps_set (i := 2) scTask.nd rfl (.inl rfl) (pe_cal Cr (hr.mono (by decide)) (pa_cons (pv 0) (pa_cons (pv 1) pa_nil))))
    (pss_cons (ps_set (i := 3) scTask.nd rfl (.inl rfl) (pe_ix ix_list (pe_lst (pa_cons pe_int (pa_cons pe_int (pa_cons pe_int (pa_cons pe_int pa_nil))))) (pe_cal N (hr.mono (by decide)) (pa_cons (pv 0) (pa_cons pe_int pa_nil))) (fun _ _ => rfl)))
    (pss_cons (ps_set (i := 4) scTask.nd rfl (.inl rfl) (pe_callTy (cr_dictP rfl) (by rfl) (B.no "dict") (by decide +kernel) (pa_cons (pe_lc (own := [("_law_one", 7)]) (g := gName 7) rfl scTask.nd (pi_list (pe_cal So (hr.mono (by decide)) (pa_cons (pv 0) (pa_cons (pv 2) (pa_cons pe_int pa_nil))))) (blkOk_by (own := [("_law_one", 7)]) (N := nTask) (sc := defScope (topS 32)) (by decide +kernel))
      (fun _ _ _ _ _ => pg_name (i := 7) scTask.nd rfl (Or.inl rfl)) (fun _ _ _ _ _ => pts_nil) (fun _ _ _ _ _ => (pe_tup (pa_cons (pv 7) (pa_cons (pe_cal N (hr.mono (by decide)) (pa_cons (pv 0) (pa_cons pe_int pa_nil))) pa_nil))))) pa_nil)))
    (pss_cons (ps_par (i := 5) (j := 6) (by rfl) scTask.nd rfl rfl (by decide) rfl rfl (pa_cons (pe_cal Sc (hr.mono (by decide)) (pa_cons (pv 0) (pa_cons (pv 2) pa_nil))) (pa_cons (pe_cal Dn (hr.mono (by decide)) (pa_cons (pv 0) (pa_cons (pv 2) (pa_cons (pv 3) pa_nil)))) pa_nil)) (by rfl))
    (pss_one (ps_ret (pe_lst (pa_cons (pv 2) (pa_cons (pv 5) (pa_cons (pv 6) (pa_cons (pe_cal So (hr.mono (by decide)) (pa_cons (pv 0) (pa_cons (pv 2) (pa_cons (pe_ix ix_list (pe_lst (pa_cons pe_int (pa_cons pe_int (pa_cons pe_int pa_nil)))) (pe_cal N (hr.mono (by decide)) (pa_cons (pv 0) (pa_cons pe_int pa_nil))) (fun _ _ => rfl)) pa_nil)))) (pa_cons (pv 4) pa_nil)))))))))))), ?_⟩)
  obtain ⟨S, n, rfl, n2, n10, ok, q⟩ := h
  refine ⟨_, rfl, _, rfl, S, n, rfl, n10, ok, fun H1 a ns m1 na e1 cr => ?_⟩
  have l10 : ns.length ≤ 10 := by rw [cr.len]; exact n10
  refine ⟨by show 4 ≤ sizeLine; decide, fun p np => ?_⟩
  have s2 := same_new (o := .lst [.int 4, .int 6, .int 12, .int 60]) np
  refine ⟨_, rfl, S, 4, rfl, by decide, by decide, m1.b.same s2, fun H3 r m3 hr => ?_⟩
  obtain ⟨of, hof, o1, o2⟩ : ∃ n : Nat, ([.int 4, .int 6, .int 12, .int 60] : List V)[r]? = some (.int (n : Nat)) ∧ 0 < n ∧ n ≤ 1000 := by
    match r, hr with
    | 0, _ => exact ⟨4, rfl, by decide, by decide⟩
    | 1, _ => exact ⟨6, rfl, by decide, by decide⟩
    | 2, _ => exact ⟨12, rfl, by decide, by decide⟩
    | 3, _ => exact ⟨60, rfl, by decide, by decide⟩
  refine ⟨p, _, _, .int (of : Nat), rfl, rfl, .of (m3.lst upd_same), atI_nat hof, ?_⟩
  have M3 : Mv K S H H3 := (m1.same s2).trans m3
  have e3 : H3 a = some (.lst (ns.map V.str)) := m3.lst (s2 _ _ e1)
  refine ⟨_, rfl, _, rfl, S, a, ns, 2, rfl, m3.b, .of e3, l10, by decide, by decide, fun H4 pl ls m4 _ el hs => ⟨pl, rfl, ⟨_, .of el⟩, fun D nD => ?_⟩⟩
  have lnd : ls.Nodup := hs.nodup cr.nd
  have ll : ls.length ≤ 10 := Nat.le_trans hs.length_le l10
  refine lc_gen rl_mv walk_list (Drawn ls 4) (by rw [List.length_map]; exact Nat.lt_of_le_of_lt ll (by decide)) nD (Mv.of m4.b (same_new nD)) .zero (fun i H acc h => h.len) (fun i H acc xs ys e h => h.mono fun t ws q => (upd_ne (ne_of q e (fun z => nomatch z))).trans q) (fun H2 m2 => .of (m2.lst el)) (fun i x H5 H6 acc Kt Kf hi m2 eD hI y kt kf => ?_) fun H5 acc m5 eD hI => ?_
  · obtain ⟨rfl, hx⟩ := y
    obtain ⟨z, hz, rfl, _⟩ := at_map hx
    refine ⟨rfl, iteT (B := Kf H6) ?_⟩
    refine ⟨_, rfl, _, rfl, S, 4, rfl, by decide, by decide, m2.b, fun H7 r2 m7 hr2 => ⟨by show 2 ≤ sizeLine; decide, fun t nt => ?_⟩⟩
    have s5 := same_new (o := .tup [.str z, .int (r2 : Nat)]) nt
    exact kt _ _ (m7.same s5) ((hI.mono fun t xs e => s5 _ _ (m7.tup e)).more hz hr2 upd_same)
  rw [List.length_map] at hI
  obtain ⟨lp0, fi, ht, hk, es, hv⟩ := hI.fin lnd
  refine ⟨D, acc, lp0, rfl, .of eD, ht, hk, fun l nl => ?_⟩
  rw [es]
  have s6 := same_new (o := .dK (dOf ls fi)) nl
  have M5 : Mv K S H H5 := (M3.trans m4).trans m5
  have ll6 : upd H5 l (.dK (dOf ls fi)) l = some (.dK (dOf ls fi)) := upd_same
  have lst := M5.ne (M5.free nl)
  have M6 := M5.same s6
  have e6 : upd H5 l (.dK (dOf ls fi)) a = some (.lst (ns.map V.str)) := s6 _ _ (m5.lst (m4.lst e3))
  generalize upd H5 l (.dK (dOf ls fi)) = H6 at s6 ll6 M6 e6
  refine ⟨_, rfl, _, rfl, S, a, ns, rfl, M6.b, .of e6, cr.nd, l10, fun H7 d v m7 nd e7 hv7 => ?_⟩
  have a7 := m7.lst e6
  refine ⟨_, rfl, _, rfl, _, rfl, S, a, ns, of, rfl, m7.b, .of a7, cr.nd, l10, o1, o2, fun H8 m met xs m8 _ e8 tp8 ms => ⟨_, _, rfl, ?_⟩⟩
  have a8 := m8.lst a7
  refine ⟨_, rfl, _, rfl, _, rfl, _, rfl, _, rfl, by show 3 ≤ sizeLine; decide, fun p2 np2 => ?_⟩
  have s9 := same_new (o := .lst [.int 2, .int 4, .int 9]) np2
  refine ⟨_, rfl, S, 3, rfl, by decide, by decide, m8.b.same s9, fun H9 r9 m9 hr9 => ?_⟩
  obtain ⟨o9, ho9, g1, g2⟩ : ∃ n : Nat, ([.int 2, .int 4, .int 9] : List V)[r9]? = some (.int (n : Nat)) ∧ 0 < n ∧ n ≤ 1000 := by
    match r9, hr9 with
    | 0, _ => exact ⟨2, rfl, by decide, by decide⟩
    | 1, _ => exact ⟨4, rfl, by decide, by decide⟩
    | 2, _ => exact ⟨9, rfl, by decide, by decide⟩
  refine ⟨p2, _, _, .int (o9 : Nat), rfl, rfl, .of (m9.lst upd_same), atI_nat ho9, ?_⟩
  have a9 := m9.lst (s9 _ _ a8)
  refine ⟨S, a, ns, o9, rfl, m9.b, .of a9, l10, g1, g2, fun H10 sp ys m10 _ e10 hs10 => ?_⟩
  refine ⟨_, rfl, by show 5 ≤ sizeLine; decide, fun t nt => ?_⟩
  have s11 := same_new (o := .lst [.ref a, .ref d, .ref m, .ref sp, .ref l]) nt
  have dst : d ≠ S.st := m7.ne nd
  have M8 : Mv K S H H8 := (M6.trans m7).trans m8
  have m810 : Mv K S H8 H10 := (Mv.of m8.b s9).trans (m9.trans m10)
  have M11 := (M8.trans m810).same s11
  have d11 := s11 _ _ (m810.kp _ _ dst (m8.kp _ _ dst e7))
  have l11 := s11 _ _ (m810.kp _ _ lst (m8.kp _ _ lst (m7.kp _ _ lst ll6)))
  refine q _ t a d m sp l ⟨ns, v, met, ys, ls, fi⟩ M11 upd_same ⟨⟨by rw [cr.len]; exact n2, l10, cr.nd, cr.good⟩, ⟨fun z hz => ⟨hz, cr.good z hz, hv7 z⟩, l10⟩, ms.of, Nat.le_trans ms.few (by decide), fun z hz => hs10.subset hz, Nat.le_trans hs10.length_le (Nat.le_trans l10 (by decide)), ⟨fun z hz => ⟨hs.subset hz, cr.good z (hs.subset hz), (hv z).1, by have := (hv z).2; show fi z ≤ 100; omega⟩, ll⟩⟩
    ⟨s11 _ _ (m10.lst a9), d11, ⟨xs, s11 _ _ (m810.lst e8), (m810.tups tp8).same s11⟩, s11 _ _ e10, l11⟩ dst lst lnd ms.few
/-! ### _law_turned -/
theorem scTurn : FnScope ["_law_state", "_law_some_here", "_law_left", "_law_turn"] ["_law_state", "_law_some_here"] (defScope (topS 34)) := ⟨rfl, rfl, rfl, by decide +kernel, rfl, by decide +kernel, by decide +kernel⟩
def spTurn (K : PySem.W.Frag) : Sp := fun vs H Q _ => ∃ (S : SA) (a : Addr) (xs : List V), vs = [.ref S.st, .ref a] ∧ StOk K S H ∧ SqL K H a xs ∧ xs.length ≤ 1000 ∧ ∀ (H2 : Hp) (p : Addr) (ys : List V), Mv K S H H2 → H p = none → H2 p = some (.lst ys) → ys.Perm xs → Q (.ref p) H2
theorem perm_erase {α : Type} : ∀ (l : List α) (i : Nat) (h : i < l.length), (l[i] :: l.eraseIdx i).Perm l
  | [], i, h => absurd h (Nat.not_lt_zero _)
  | a :: l, 0, _ => List.Perm.refl _
  | a :: l, i + 1, h => (List.Perm.swap a _ _).trans (List.Perm.cons a (perm_erase l i (Nat.lt_of_succ_lt_succ h)))
theorem ok_turn (F : Fd K mg "_law_turned" 34 f fd) (B : Bl mg) (N : Cal P w K mg base CX0 2 "_law_next" ["_law_state", "_law_many"] (spNext K)) : Cal P w K mg base CX0 3 "_law_turned" ["_law_state", "_law_some_here"] (spTurn K) := by
  refine F.cal ?_ (fun _ _ _ _ _ _ us hl => match us, hl with | [_, _], _ => rfl)
  refine F.fu.ok scTurn (fun vs H Q E h => by obtain ⟨S, a, xs, rfl, _⟩ := h; rfl) (fun cdv A outer s H vs Q E hr h => ⟨_, PSs.nox (pss_cons (ps_set (i := 2) scTurn.nd rfl (.inr rfl) (pe_callTy call_list_of (by rfl) (B.no "list") (by decide +kernel) (pa_cons (pv 1) pa_nil)))
    (pss_one (ps_ret (pe_lc (own := [("_law_turn", 3)]) (g := gName 3) (te := tBM K "list" rPopAt (tVar 2) (tCons (tCall (spNext K) [] E0 (tCons (tVar 0) (tCons (tCB (fun xs H Q => ∃ p ys, xs = [.ref p] ∧ (SqL K H p ys ∨ SqT K H p ys) ∧ Q (.int ys.length) H) (tCons (tVar 2) tNil)) tNil))) tNil)) rfl scTurn.nd (pi_range1 (by rfl) (B.no "range") (pa_cons (pe_callB call_len_seq (by rfl) (B.no "len") (by decide +kernel) (pa_cons (pv 2) pa_nil)) pa_nil)) (blkOk_by (own := [("_law_turn", 3)]) (N := ["_law_state", "_law_some_here", "_law_left", "_law_turn"]) (sc := defScope (topS 34)) (by decide +kernel))
      (fun _ _ _ _ _ => pg_name (i := 3) scTurn.nd rfl (Or.inl rfl)) (fun _ _ _ _ _ => pts_nil) (fun _ _ _ _ _ => pe_bm PySem.F.plainAttrs_list PySem.F.slot_list_pop PySem.F.type_list_pop mt_popAt (pv 2) (pa_cons (pe_cal N (hr.mono (by decide)) (pa_cons (pv 0) (pa_cons (pe_callB call_len_seq (by rfl) (B.no "len") (by decide +kernel) (pa_cons (pv 2) pa_nil)) pa_nil))) pa_nil)))))), ?_⟩)
  obtain ⟨S, a, xs, rfl, ok, hq, few, q⟩ := h
  refine ⟨_, rfl, a, _, rfl, .inl hq, fun lf nlf => ?_⟩
  have m1 : MvL K S lf H (upd H lf (.lst xs)) := MvL.new ok nlf
  have e1 : upd H lf (.lst xs) lf = some (.lst xs) := upd_same
  generalize upd H lf (.lst xs) = H1 at m1 e1
  refine ⟨_, rfl, lf, _, rfl, .inl (.of e1), _, rfl, by omega, by omega, fun D nD => ?_⟩
  rw [Int.toNat_natCast]
  have nDl : lf ≠ D := ne_of_none e1 nD
  have nD0 := m1.free nlf nD
  refine lc_it walk_range (fun i H2 => MvL K S lf H H2 ∧ ∃ acc rest, H2 D = some (.lst acc) ∧ H2 lf = some (.lst rest) ∧ (acc ++ rest).Perm xs ∧ rest.length + i = xs.length ∧ acc.length = i) ⟨m1.same (same_new nD), [], xs, upd_same, (upd_ne nDl).trans e1, List.Perm.refl _, rfl, rfl⟩ (fun _ _ _ _ => trivial) (fun i x H2 H3 hi h y => ?_) fun H2 h => ?_
  · obtain ⟨rfl, rfl⟩ := y
    obtain ⟨m, acc, rest, eD, el, pm, hl, ha⟩ := h
    refine ⟨rfl, iteT (B := True) ?_⟩
    · refine ⟨_, rfl, .inl ⟨rfl, _, .of el⟩, _, rfl, _, rfl, lf, _, rfl, .inl (.of el), S, rest.length, rfl, by omega, by omega, m.b, fun H4 r mv hr => ?_⟩
      have el4 := mv.lst el
      have eD4 := mv.lst eD
      have m4 := m.step mv
      refine ⟨lf, rest, (r : Nat), r, rest[r], rfl, rfl, el4, by omega, by omega, by rw [seqIndex_of (by omega) (by omega), Int.toNat_natCast], List.getElem?_eq_getElem hr, ?_⟩
      have m5 := m4.put (ys := rest.eraseIdx r) ok nlf el4
      have eD5 : upd H4 lf (.lst (rest.eraseIdx r)) D = some (.lst acc) := (upd_ne (Ne.symm nDl)).trans eD4
      refine ⟨acc, eD5, by rw [ha]; exact Nat.lt_of_lt_of_le (show i < 2000 by omega) (by decide), m5.put2 ok nlf nD0 eD5, acc ++ [rest[r]], rest.eraseIdx r, upd_same, (upd_ne nDl).trans upd_same, ?_, ?_, ?_⟩
      · rw [List.append_assoc]
        exact (List.Perm.append_left acc (perm_erase rest r hr)).trans pm
      · rw [List.length_eraseIdx_of_lt hr]
        omega
      · rw [List.length_append, ha]
        rfl
  · obtain ⟨m, acc, rest, eD, el, pm, hl, ha⟩ := h
    have e0 : rest = [] := List.length_eq_zero_iff.mp (by omega)
    rw [e0, List.append_nil] at pm
    exact q H2 D acc (m.fin ok nlf) nD0 eD pm
end
end K66
set_option Elab.async false
set_option linter.all false
set_option maxRecDepth 100000
set_option maxHeartbeats 4000000
namespace K66
open PySem PySem.Spec PyProof.Rows L2 LamX
section
variable {P : Program} {w : World} {K : PySem.W.Frag} {mg : Str → Option Value} {base : Heap} {f fp : Addr} {fd fdp : FuncData}
abbrev psPair : List Str := ["names", "points", "met", "sat", "firsts"]
theorem kb1 (F : Fd K mg "paired" 20 f fd) : KBn K fd psPair 1 ["points", "met", "sat", "firsts"] (fun us ws => us ++ ws) (fun us ws => us ++ ws) := by
  obtain ⟨oc, od, dV, kV, doc, pm, an, cdv, ct, osl, rfl, lk, hcd, hD, hK⟩ := F.fu.ex
  rcases hD with ⟨_, rfl⟩ | ⟨e, _⟩
  · refine ⟨fun s us ws X l1 l2 => .of_eq ?_, fun r1 r2 => r1.append r2⟩
    match us, ws, l1, l2 with
    | [_], [_, _, _, _], _, _ => rfl
  · exact absurd rfl e
theorem paired_rev {α β : Type} {F : α → β → Prop} : ∀ {l1 : List α} {l2 : List β}, Paired F l1 l2 → Paired F l1.reverse l2.reverse
  | _, _, .nil => .nil
  | _, _, .cons h r => by
    rw [List.reverse_cons, List.reverse_cons]
    exact Paired.snoc (paired_rev r) h
theorem kb2 (F : Fd K mg "paired" 20 f fd) : KBn K fd psPair 0 ["firsts", "sat", "met", "points", "names"] (fun _ ws => ws.reverse) (fun _ ws => ws.reverse) := by
  obtain ⟨oc, od, dV, kV, doc, pm, an, cdv, ct, osl, rfl, lk, hcd, hD, hK⟩ := F.fu.ex
  rcases hD with ⟨_, rfl⟩ | ⟨e, _⟩
  · refine ⟨fun s us ws X l1 l2 => .of_eq ?_, fun r1 r2 => ?_⟩
    · match us, ws, l1, l2 with
      | [], [_, _, _, _, _], _, _ => rfl
    · exact paired_rev r2
  · exact absurd rfl e
theorem cr_tupK {X : Cx} {K : PySem.W.Frag} (h : X.K = K) : CallR X (.type "tuple") (rTupOf K) := by
  subst h
  exact call_tuple_of
/-! ### _law_asked -/
def AnsAt (H : Hp) (v : V) : Option (List (Str × Str) × Option Str) → Prop
  | none => v = .non
  | some r => ResAt H v r
theorem scAsk : FnScope ["_law_task_here", "_law_way", "_law_crew_here", "_law_score", "_law_done_here", "_law_rest", "_law_lead", "_law_caught", "_law_found", "error"] ["_law_task_here", "_law_way"] (defScope (topS 33)) := ⟨rfl, rfl, rfl, by decide +kernel, rfl, by decide +kernel, by decide +kernel⟩
def spAsk (K : PySem.W.Frag) (T : List (Addr × Str)) : Sp := fun vs H Q _ => ∃ (W : Tk) (t a d m s l : Addr) (wy : Int), vs = [.ref t, .int wy] ∧ H t = some (.lst [.ref a, .ref d, .ref m, .ref s, .ref l]) ∧ W.Ok ∧ W.AtL H a d m s l ∧ Tabs T H ∧ ∀ H2 v, ExtN H H2 → Tabs T H2 → AnsAt H2 v (pairedN W) → Q v H2
theorem ok_ask {Pt C : Addr} (F : Fd K mg "_law_asked" 33 f fd) (B : Bl mg) (N : NpF K mg C) (Fp : Fd K mg "paired" 20 fp fdp) (Gp : FnOk P w K mg base (L2.CX P w) 13 fp fdp psPair (spPair K [(Pt, "paired.<locals>.<lambda>")] C)) : Cal P w K mg base CX0 14 "_law_asked" ["_law_task_here", "_law_way"] (spAsk K [(Pt, "paired.<locals>.<lambda>")]) := by
  refine F.cal ?_ (fun _ _ _ _ _ _ us hl => match us, hl with | [_, _], _ => rfl)
  refine F.fu.ok scAsk (fun vs H Q E h => by obtain ⟨W, t, a, d, m, s, l, wy, rfl, _⟩ := h; rfl) (fun cdv A outer s0 H vs Q E hr h => ⟨_, PSs.nox (pss_cons (ps_asg (pv 0) (pg_unl rfl (pgs_cons (pg_name (i := 2) scAsk.nd rfl (.inl rfl)) (pgs_cons (pg_name (i := 3) scAsk.nd rfl (.inl rfl)) (pgs_cons (pg_name (i := 4) scAsk.nd rfl (.inl rfl)) (pgs_cons (pg_name (i := 5) scAsk.nd rfl (.inl rfl)) (pgs_cons (pg_name (i := 6) scAsk.nd rfl (.inl rfl)) pgs_nil)))))))
    (pss_cons (ps_asg (pe_tup (pa_cons pe_non (pa_cons pe_non pa_nil))) (pg_tup rfl (pgs_cons (pg_name (i := 7) scAsk.nd rfl (.inl rfl)) (pgs_cons (pg_name (i := 8) scAsk.nd rfl (.inl rfl)) pgs_nil))))
    (pss_cons (ps_try_as (i := 9) rfl rfl scAsk.nd rfl rfl ⟨rfl, by decide, .inl N.g⟩ L2.takes0 (fun W pn xe tk _ => (pss_one (ps_if (pt_cmpR op_eq (pv 1) pe_int (nomark _))
        (pss_one (ps_set (i := 8) scAsk.nd rfl (.inl rfl) (pe_callNS Gp hr (by rfl) Fp.gl Fp.fu.kp (kb1 Fp) (fun σ => passAt tk σ) (pa_cons (pv 2) pa_nil) (pk_cons (pv 3) (pk_cons (pv 4) (pk_cons (pv 5) (pk_cons (pv 6) pk_nil)))))))
        (pss_one (ps_set (i := 8) scAsk.nd rfl (.inl rfl) (pe_callNS0 Gp hr (by rfl) Fp.gl Fp.fu.kp (kb2 Fp) (fun σ => passAt tk σ) (pk_cons (pv 6) (pk_cons (pe_callTy (cr_tupK (K := K) rfl) (by rfl) (B.no "tuple") (by decide +kernel) (pa_cons (pv 5) pa_nil)) (pk_cons (pe_callTy (cr_tupK (K := K) rfl) (by rfl) (B.no "tuple") (by decide +kernel) (pa_cons (pv 4) pa_nil)) (pk_cons (pv 3) (pk_cons (pe_callTy (cr_tupK (K := K) rfl) (by rfl) (B.no "tuple") (by decide +kernel) (pa_cons (pv 2) pa_nil)) pk_nil)))))))))))
      (fun a oe cls d pn hz hf => (pss_one (ps_set (i := 7) scAsk.nd rfl (.inl rfl) (pv 9)))))
    (pss_one (ps_ret (pe_ifExp (pt_cmpR op_isN (pv 7) pe_non (nomark _)) (pv 8) pe_non)))))), ?_⟩)
  obtain ⟨W, t, a, d, m, s, l, wy, rfl, et, ok, at0, tb, q⟩ := h
  refine ⟨_, rfl, t, _, rfl, .of et, rfl, _, _, rfl, _, _, rfl, _, _, rfl, _, _, rfl, _, _, rfl, rfl, ?_⟩
  refine ⟨by show 2 ≤ sizeLine; decide, fun t2 nt2 => ?_⟩
  have s1 := same_new (o := .tup [.non, .non]) nt2
  refine ⟨t2, _, rfl, .of upd_same, rfl, _, _, rfl, _, _, rfl, rfl, ?_⟩
  generalize upd H t2 (.tup [.non, .non]) = H1 at s1
  have tb1 := tb.ext s1
  refine ⟨_, rfl, rfl, _, rfl, ?_⟩
  obtain ⟨mx, hm, tm⟩ := at0.met
  have yes : ∀ r, pairedN W = some r → ∀ H2 v, ExtN H1 H2 → Tabs [(Pt, "paired.<locals>.<lambda>")] H2 → ResAt H2 v r → ∀ x : Option (Option V), x = some (some V.non) → ∀ y : Option (Option V), y = some (some v) →
      ∃ u, x = some (some u) ∧ V.non = V.non ∧ ∃ k, V.bl (decide (u = V.non)) = V.bl k ∧ (if k = true then ∃ u, y = some (some u) ∧ Q u H2 else Q .non H2) := fun r hr H2 v x2 tb2 ra x ex y ey => by
    refine ⟨_, ex, rfl, _, rfl, ?_⟩
    rw [decide_eq_true rfl]
    refine iteT ⟨_, ey, q H2 v ((ExtN.of s1).trans x2) tb2 ?_⟩
    rw [hr]
    exact ra
  have no : pairedN W = none → ∀ H2, ExtN H1 H2 → Tabs [(Pt, "paired.<locals>.<lambda>")] H2 → ∀ (b : Addr) (x : Option (Option V)), x = some (some (V.ref b)) →
      ∃ u, x = some (some u) ∧ V.non = V.non ∧ ∃ k, V.bl (decide (u = V.non)) = V.bl k ∧ (if k = true then ∃ u, (some (some V.non) : Option (Option V)) = some (some u) ∧ Q u H2 else Q .non H2) := fun hn H2 x2 tb2 b x ex => by
    refine ⟨_, ex, rfl, _, rfl, ?_⟩
    rw [decide_eq_false (fun z => nomatch z)]
    refine iteF (q H2 _ ((ExtN.of s1).trans x2) tb2 ?_)
    rw [hn]
    rfl
  refine ite2 (fun _ => ?_) fun _ => ?_
  · refine ⟨_, rfl, _, rfl, _, rfl, _, rfl, _, rfl, rfl, rfl, W, a, d, m, s, l, rfl, ok, ⟨.inl (.of (s1 _ _ at0.ns)), s1 _ _ at0.pt, ⟨mx, .inl (.of (s1 _ _ hm)), tm.same s1⟩, .inl (.of (s1 _ _ at0.sat)), s1 _ _ at0.led⟩, tb1, fun r hr H2 v x2 t2 ra => ?_, fun hn H2 x2 t2 => ?_⟩
    · exact yes r hr H2 v x2 t2 ra _ rfl _ rfl
    · exact ⟨true, N.e, fun _ b nb => ⟨_, rfl, no hn H2 x2 t2 b _ rfl⟩, fun z => nomatch z⟩
  · refine ⟨_, rfl, _, rfl, s, _, rfl, .inl ⟨.of (s1 _ _ at0.sat), fun s' ns' => ?_⟩⟩
    have s2 := same_new (o := .tup (W.sat.map V.str)) ns'
    have es : upd H1 s' (.tup (W.sat.map V.str)) s' = some (.tup (W.sat.map V.str)) := upd_same
    generalize upd H1 s' (.tup (W.sat.map V.str)) = H2 at s2 es
    refine ⟨_, rfl, m, _, rfl, .inl ⟨.of (s2 _ _ (s1 _ _ hm)), fun m' nm' => ?_⟩⟩
    have s3 := same_new (o := .tup mx) nm'
    have em : upd H2 m' (.tup mx) m' = some (.tup mx) := upd_same
    generalize upd H2 m' (.tup mx) = H3 at s3 em
    have s13 := s1.trans (s2.trans s3)
    refine ⟨_, rfl, _, rfl, a, _, rfl, .inl ⟨.of (s13 _ _ at0.ns), fun a' na' => ?_⟩⟩
    have s4 := same_new (o := .tup (W.ns.map V.str)) na'
    have ea : upd H3 a' (.tup (W.ns.map V.str)) a' = some (.tup (W.ns.map V.str)) := upd_same
    generalize upd H3 a' (.tup (W.ns.map V.str)) = H4 at s4 ea
    have s14 := s13.trans s4
    refine ⟨rfl, rfl, W, a', d, m', s', l, rfl, ok, ⟨.inr (.of ea), s14 _ _ at0.pt, ⟨mx, .inr (.of (s4 _ _ em)), tm.same s14⟩, .inr (.of (s4 _ _ (s3 _ _ es))), s14 _ _ at0.led⟩, tb.ext s14, fun r hr H5 v x5 t5 ra => ?_, fun hn H5 x5 t5 => ?_⟩
    · exact yes r hr H5 v ((ExtN.of (s2.trans (s3.trans s4))).trans x5) t5 ra _ rfl _ rfl
    · exact ⟨true, N.e, fun _ b nb => ⟨_, rfl, no hn H5 ((ExtN.of (s2.trans (s3.trans s4))).trans x5) t5 b _ rfl⟩, fun z => nomatch z⟩
end
end K66
set_option Elab.async false
set_option linter.all false
set_option maxRecDepth 100000
set_option maxHeartbeats 4000000
namespace K66
open PySem PySem.Spec PyProof.Rows L2
/-! ### answers as data -/
abbrev Res := List (Str × Str) × Option Str
def pairD (p : Str × Str) : PyData := .tuple [.str p.1, .str p.2]
def outD : Option Str → PyData
  | none => .none
  | some z => .str z
def ansD : Option Res → PyData
  | none => .none
  | some r => .tuple [.list (r.1.map pairD), outD r.2]
theorem pairD_eqv (a b : Str × Str) : PyData.eqv (pairD a) (pairD b) = decide (a = b) := by
  obtain ⟨a1, a2⟩ := a
  obtain ⟨b1, b2⟩ := b
  simp only [pairD, PyData.eqv, PyData.eqvAll, Bool.and_true]
  by_cases e1 : a1 = b1 <;> by_cases e2 : a2 = b2 <;> simp [e1, e2]
theorem pairsD_eqv : ∀ a b : List (Str × Str), PyData.eqvAll (a.map pairD) (b.map pairD) = decide (a = b)
  | [], [] => by simp [PyData.eqvAll]
  | [], _ :: _ => by simp [PyData.eqvAll]
  | _ :: _, [] => by simp [PyData.eqvAll]
  | a :: as, b :: bs => by
    rw [List.map_cons, List.map_cons, PyData.eqvAll, pairD_eqv, pairsD_eqv as bs]
    by_cases e1 : a = b <;> by_cases e2 : as = bs <;> simp [e1, e2]
theorem outD_eqv (a b : Option Str) : PyData.eqv (outD a) (outD b) = decide (a = b) := by
  cases a <;> cases b <;> simp [outD, PyData.eqv, SX.S_beq_eq]
  rename_i x y
  by_cases e : x = y <;> simp [e]
theorem ansD_eqv (a b : Option Res) : PyData.eqv (ansD a) (ansD b) = decide (a = b) := by
  cases a with
  | none => cases b <;> simp [ansD, PyData.eqv]
  | some a =>
    cases b with
    | none => simp [ansD, PyData.eqv]
    | some b =>
      obtain ⟨a1, a2⟩ := a
      obtain ⟨b1, b2⟩ := b
      simp only [ansD, PyData.eqv, PyData.eqvAll, pairsD_eqv, outD_eqv, Bool.and_true]
      by_cases e1 : a1 = b1 <;> by_cases e2 : a2 = b2 <;> simp [e1, e2]
theorem strs_dp {K : PySem.W.Frag} {H : Hp} : ∀ {ps : List (Str × Str)} {xs : List V}, Tups H (ps.map prV) xs → DpAll K H xs (ps.map pairD)
  | [], _, .nil => .nil
  | p :: ps, _, .cons ⟨t, e1, e2⟩ r => by
    subst e1
    exact .cons (.tup (.of e2) (.cons (.str _) (.cons (.str _) .nil))) (strs_dp r)
theorem ans_dp {K : PySem.W.Frag} {H : Hp} {v : V} {r : Option Res} (h : AnsAt H v r) : Dp K H v (ansD r) := by
  cases r with
  | none =>
    obtain rfl : v = .non := h
    exact .non
  | some r =>
    obtain ⟨t, g, xs, rfl, h1, h2, h3⟩ := h
    refine .tup (.of h1) (.cons (.lst (.of h2) (strs_dp h3)) (.cons ?_ .nil))
    cases r.2 with
    | none => exact .non
    | some z => exact .str z
theorem good_ok {z : Str} (g : GoodN z) : PyData.strOk z = true := by
  unfold PyData.strOk
  rw [← Array.all_toList, List.all_eq_true]
  intro c hc
  have h := g.let_ c hc
  have all : ∀ c ∈ lett.cps.toList, c < 0x110000 := by decide +kernel
  exact decide_eq_true (all c h)
/-- all names of an answer are good ones -/
structure ResOk (ns : List Str) (r : Res) : Prop where
  g : ∀ p ∈ r.1, p.1 ∈ ns ∧ p.2 ∈ ns
  o : ∀ z, r.2 = some z → z ∈ ns
def AnsOk (ns : List Str) : Option Res → Prop
  | none => True
  | some r => ResOk ns r
theorem pairs_lay : ∀ {ps : List (Str × Str)}, (∀ p ∈ ps, GoodN p.1 ∧ GoodN p.2) → PyData.canLayAll0 (ps.map pairD) = true
  | [], _ => rfl
  | p :: ps, h => by
    have h1 := h p List.mem_cons_self
    simp only [List.map_cons, pairD, PyData.canLayAll0, PyData.canLay0, good_ok h1.1, good_ok h1.2, Bool.and_true, Bool.true_and]
    exact pairs_lay fun q hq => h q (List.mem_cons_of_mem _ hq)
theorem pairs_deep : ∀ ps : List (Str × Str), PyData.depthAll (ps.map pairD) ≤ 2
  | [] => by simp [PyData.depthAll]
  | p :: ps => by
    have := pairs_deep ps
    have h : (pairD p).depth ≤ 2 := by simp [pairD, PyData.depth, PyData.depthAll]
    simp only [List.map_cons, PyData.depthAll]
    omega
theorem outD_deep (o : Option Str) : (outD o).depth = 0 := by
  cases o <;> simp [outD, PyData.depth]
theorem ans_shaped {ns : List Str} (g : ∀ z ∈ ns, GoodN z) {r : Option Res} (h : AnsOk ns r) : SeqAt.shaped (ansD r) = true := by
  cases r with
  | none => rfl
  | some r =>
    have hl := pairs_lay (ps := r.1) fun p hp => ⟨g _ (h.g p hp).1, g _ (h.g p hp).2⟩
    have ho : (outD r.2).canLay0 = true := by
      cases q : r.2 with
      | none => rfl
      | some z => exact good_ok (g z (h.o z q))
    unfold SeqAt.shaped
    rw [Bool.and_eq_true, decide_eq_true_eq]
    refine ⟨?_, ?_⟩
    · simp only [ansD, PyData.canLay0, PyData.canLayAll0, hl, ho, Bool.and_true]
    · have := pairs_deep r.1
      have := outD_deep r.2
      simp only [ansD, PyData.depth, PyData.depthAll]
      omega
theorem ResAt.mono {H H2 : Hp} {v : V} {r : Res} (h : ResAt H v r) (e1 : ∀ t xs, H t = some (.tup xs) → H2 t = some (.tup xs)) (e2 : ∀ t xs, H t = some (.lst xs) → H2 t = some (.lst xs)) : ResAt H2 v r :=
  let ⟨t, g, xs, h1, h2, h3, h4⟩ := h; ⟨t, g, xs, h1, e1 _ _ h2, e2 _ _ h3, h4.mono e1⟩
theorem AnsAt.mono {H H2 : Hp} {v : V} {r : Option Res} (h : AnsAt H v r) (e1 : ∀ t xs, H t = some (.tup xs) → H2 t = some (.tup xs)) (e2 : ∀ t xs, H t = some (.lst xs) → H2 t = some (.lst xs)) : AnsAt H2 v r := by
  cases r with
  | none => exact h
  | some r => exact ResAt.mono h e1 e2
theorem AnsAt.same {H H2 : Hp} {v : V} {r : Option Res} (h : AnsAt H v r) (e : Same H H2) : AnsAt H2 v r := h.mono (fun _ _ q => e _ _ q) fun _ _ q => e _ _ q
/-! ### other names -/
def wOf (ns : List Str) (wv : Str → Str) : List (Key × V) := strK (ns.map fun z => (z, V.str (wv z)))
theorem wOf_val (wv : Str → Str) (z : Str) : ∀ ls : List Str, valV (wOf ls wv) (Sum.inr z) = if z ∈ ls then some (.str (wv z)) else none
  | [] => rfl
  | y :: ls => by
    have e0 : wOf (y :: ls) wv = (Sum.inr y, V.str (wv y)) :: wOf ls wv := rfl
    rw [e0]
    by_cases e : y = z
    · subst e
      rw [valV_pos rfl, if_pos List.mem_cons_self]
    · rw [valV_neg (fun q => e (Sum.inr.inj q)), wOf_val wv z ls]
      have : (z ∈ y :: ls) = (z ∈ ls) := by
        apply propext
        rw [List.mem_cons]
        exact ⟨fun h => h.elim (fun q => absurd q.symm e) id, .inr⟩
      simp only [this]
theorem wOf_in {wv : Str → Str} {z : Str} {ls : List Str} (h : z ∈ ls) : valV (wOf ls wv) (Sum.inr z) = some (.str (wv z)) := by rw [wOf_val, if_pos h]
def ledOver (wv : Str → Str) (r : Option Res) : Option Res := r.map fun r => (r.1.map fun p => (wv p.1, wv p.2), r.2.map wv)
section
variable {P : Program} {w : World} {K : PySem.W.Frag} {mg : Str → Option Value} {base : Heap} {f : Addr} {fd : FuncData}
theorem scLed : FnScope ["_law_found", "_law_ways", "_law_one", "_law_other"] ["_law_found", "_law_ways"] (defScope (topS 35)) := ⟨rfl, rfl, rfl, by decide +kernel, rfl, by decide +kernel, by decide +kernel⟩
def spLed : Sp := fun vs H Q _ => ∃ (v : V) (wd : Addr) (r : Option Res) (ns : List Str) (wv : Str → Str), vs = [v, .ref wd] ∧ AnsAt H v r ∧ H wd = some (.dK (wOf ns wv)) ∧ AnsOk ns r ∧ (∀ q, r = some q → q.1.length ≤ 1000) ∧ ∀ H2 u, Same H H2 → AnsAt H2 u (ledOver wv r) → Q u H2
theorem ok_led (F : Fd K mg "_law_led_over" 35 f fd) : Cal P w K mg base CX0 1 "_law_led_over" ["_law_found", "_law_ways"] spLed := by
  refine F.cal ?_ (fun _ _ _ _ _ _ us hl => match us, hl with | [_, _], _ => rfl)
  refine F.fu.ok scLed (fun vs H Q E h => by obtain ⟨v, wd, r, ns, wv, rfl, _⟩ := h; rfl) (fun cdv A outer s H vs Q E hr h => ⟨_, PSs.nox (pss_cons (ps_if (pt_cmpR op_isN (pv 0) pe_non (nomark _)) (pss_one (ps_ret pe_non)) pss_nil)
    (pss_one (ps_ret (pe_tup (pa_cons (pe_lc (own := [("_law_one", 2), ("_law_other", 3)]) (g := gTup K 2 (gCons (gName 2) (gCons (gName 3) gNil))) rfl scLed.nd (pi_list (pe_ix ix_tup (pv 0) pe_int (fun _ _ => rfl))) (blkOk_by (own := [("_law_one", 2), ("_law_other", 3)]) (N := ["_law_found", "_law_ways", "_law_one", "_law_other"]) (sc := defScope (topS 35)) (by decide +kernel))
      (fun _ _ _ _ _ => pg_tup rfl (pgs_cons (pg_name (i := 2) scLed.nd rfl (Or.inl rfl)) (pgs_cons (pg_name (i := 3) scLed.nd rfl (Or.inl rfl)) pgs_nil))) (fun _ _ _ _ _ => pts_nil) (fun _ _ _ _ _ => (pe_tup (pa_cons (pe_dget (hu_of hr) (pv 1) (pv 2) (fun _ _ => rfl)) (pa_cons (pe_dget (hu_of hr) (pv 1) (pv 3) (fun _ _ => rfl)) pa_nil))))) (pa_cons (pe_dgetN (hu_of hr) (pv 1) (pe_ix ix_tup (pv 0) pe_int (fun _ _ => rfl)) ⟨rfl, rfl, rfl, rfl⟩) pa_nil)))))), ?_⟩)
  obtain ⟨v, wd, r, ns, wv, rfl, ha, hw, hok, few, q⟩ := h
  refine ⟨_, rfl, rfl, _, rfl, ?_⟩
  cases r with
  | none =>
    obtain rfl : v = .non := ha
    rw [decide_eq_true rfl]
    exact iteT (q H _ (Same.refl _) rfl)
  | some r =>
    have few := few r rfl
    obtain ⟨t, g, xs, rfl, h1, h2, h3⟩ := ha
    rw [decide_eq_false (fun z => nomatch z)]
    refine iteF ⟨_, rfl, t, _, _, .ref g, rfl, rfl, .of h1, rfl, g, rfl, ⟨_, .of h2⟩, fun D nD => ?_⟩
    have lx : xs.length = r.1.length := by rw [← Paired.length h3, List.length_map]
    refine lc_gen rl_same walk_list (fun j H acc => Tups H (((r.1.take j).map fun p => (wv p.1, wv p.2)).map prV) acc) (by rw [lx]; exact Nat.lt_of_le_of_lt few (by decide)) nD (same_new nD) .nil (fun j H acc h => ?_) (fun j H acc xs ys e h => h.mono fun t ws q => (upd_ne (ne_of q e (fun z => nomatch z))).trans q) (fun H3 s3 => .of (s3 _ _ h2)) (fun j x H3 H4 acc Kt Kf hj s3 eD hacc y kt kf => ?_) fun H3 acc s3 eD hacc => ?_
    · rw [← Paired.length h, List.length_map, List.length_map]
      exact List.length_take_le _ _
    · obtain ⟨rfl, hx⟩ := y
      obtain ⟨ys, g1, t1, rfl, g2⟩ := paired_at (h3.same s3) j x hx
      rw [List.getElem?_map] at g1
      obtain ⟨p, e1, rfl⟩ := Option.map_eq_some_iff.mp g1
      obtain ⟨m1, m2⟩ := hok.g p (List.mem_of_getElem? e1)
      refine ⟨t1, _, rfl, .of g2, rfl, _, _, rfl, _, _, rfl, rfl, rfl, iteT (B := True) ?_⟩
      have hw4 := s3 _ _ hw
      refine ⟨_, rfl, _, rfl, wd, .str (wv p.1), rfl, .inl ⟨_, Sum.inr p.1, .inl hw4, rfl, (wOf_in m1).symm⟩, _, rfl, _, rfl, wd, .str (wv p.2), rfl, .inl ⟨_, Sum.inr p.2, .inl hw4, rfl, (wOf_in m2).symm⟩, by show 2 ≤ sizeLine; decide, fun t5 nt5 => ?_⟩
      have s5 := same_new (o := .tup [.str (wv p.1), .str (wv p.2)]) nt5
      refine kt _ _ s5 ?_
      rw [List.take_add_one, e1]
      simp only [Option.toList_some, List.map_append, List.map_cons, List.map_nil]
      exact (hacc.same s5).snoc upd_same
    · rw [lx, List.take_length] at hacc
      have hw3 := s3 _ _ hw
      refine ⟨_, rfl, wd, rfl, .inl ⟨_, .inl hw3⟩, _, rfl, t, _, _, outV r.2, rfl, rfl, .of (s3 _ _ h1), rfl, ?_⟩
      have fin : ∀ u, u = outV (r.2.map wv) → (2 ≤ sizeLine ∧ ∀ p, H3 p = none → Q (.ref p) (upd H3 p (.tup [.ref D, u]))) := fun u eu => by
        refine ⟨by decide, fun p np => ?_⟩
        have s4 := same_new (o := .tup [.ref D, u]) np
        refine q _ _ (s3.trans s4) ⟨p, D, acc, rfl, ?_, s4 _ _ eD, hacc.same s4⟩
        rw [upd_same, eu]
      cases ho : r.2 with
      | none => exact .inr ⟨_, rfl, .inl hw3, fin _ (by rw [ho]; rfl)⟩
      | some z =>
        have hz := hok.o z ho
        refine .inl ⟨_, .inl ⟨_, Sum.inr z, .inl hw3, rfl, rfl⟩, ?_⟩
        rw [wOf_in hz]
        exact fin _ (by rw [ho]; rfl)
end
end K66
set_option Elab.async false
set_option linter.all false
set_option maxRecDepth 100000
set_option maxHeartbeats 4000000
namespace K66
open PySem PySem.Spec PyProof.Rows L2
theorem outV_inj {a b : Option Str} (h : outV a = outV b) : a = b := by
  cases a with
  | none =>
    cases b with
    | none => rfl
    | some y => cases h
  | some x =>
    cases b with
    | none => cases h
    | some y => rw [V.str.inj h]
def costN (pt : Str → Int) (l : List (Str × Str)) : Int := (l.map fun p => (pt p.1 - pt p.2) ^ 2).sum
section
variable {P : Program} {w : World} {K : PySem.W.Frag} {mg : Str → Option Value} {base : Heap} {f : Addr} {fd : FuncData}
theorem scCost : FnScope ["_law_found", "_law_score", "_law_one", "_law_other"] ["_law_found", "_law_score"] (defScope (topS 36)) := ⟨rfl, rfl, rfl, by decide +kernel, rfl, by decide +kernel, by decide +kernel⟩
def spCost : Sp := fun vs H Q _ => ∃ (v : V) (d : Addr) (r : Res) (ns : List Str) (pt : Str → Int), vs = [v, .ref d] ∧ ResAt H v r ∧ H d = some (.dK (dOf ns pt)) ∧ ResOk ns r ∧ (∀ z ∈ ns, 0 ≤ pt z ∧ pt z ≤ 100) ∧ r.1.length ≤ 1000 ∧ ∀ H2, Same H H2 → Q (.int (costN pt r.1)) H2
theorem ok_cost (F : Fd K mg "_law_cost" 36 f fd) (B : Bl mg) : Cal P w K mg base CX0 1 "_law_cost" ["_law_found", "_law_score"] spCost := by
  refine F.cal ?_ (fun _ _ _ _ _ _ us hl => match us, hl with | [_, _], _ => rfl)
  refine F.fu.ok scCost (fun vs H Q E h => by obtain ⟨v, d, r, ns, pt, rfl, _⟩ := h; rfl) (fun cdv A outer s H vs Q E hr h => ⟨_, PSs.nox (pss_one (ps_ret (pe_callB (cr_sum rfl) (by rfl) (B.no "sum") (by decide +kernel) (pa_cons (pe_lc (own := [("_law_one", 2), ("_law_other", 3)]) (g := gTup K 2 (gCons (gName 2) (gCons (gName 3) gNil))) rfl scCost.nd (pi_list (pe_ix ix_tup (pv 0) pe_int (fun _ _ => rfl))) (blkOk_by (own := [("_law_one", 2), ("_law_other", 3)]) (N := ["_law_found", "_law_score", "_law_one", "_law_other"]) (sc := defScope (topS 36)) (by decide +kernel))
      (fun _ _ _ _ _ => pg_tup rfl (pgs_cons (pg_name (i := 2) scCost.nd rfl (Or.inl rfl)) (pgs_cons (pg_name (i := 3) scCost.nd rfl (Or.inl rfl)) pgs_nil))) (fun _ _ _ _ _ => pts_nil) (fun _ _ _ _ _ => pe_op op_pow (pe_op op_sub (pe_dget (hu_of hr) (pv 1) (pv 2) (fun _ _ => rfl)) (pe_dget (hu_of hr) (pv 1) (pv 3) (fun _ _ => rfl))) pe_int)) pa_nil)))), ?_⟩)
  obtain ⟨v, d, r, ns, pt, rfl, ⟨t, g, xs, rfl, h1, h2, h3⟩, hd, hok, hb, few, q⟩ := h
  refine ⟨_, rfl, t, _, _, .ref g, rfl, rfl, .of h1, rfl, g, rfl, ⟨_, .of h2⟩, fun D nD => ?_⟩
  have lx : xs.length = r.1.length := by rw [← Paired.length h3, List.length_map]
  refine lc_map rl_same walk_list (L := r.1) lx (fun _ => true) (fun p => V.int ((pt p.1 - pt p.2) ^ 2)) (by rw [lx]; exact Nat.lt_of_le_of_lt few (by decide)) nD (same_new nD) (fun H3 s3 => .of (s3 _ _ h2)) (fun j p x H3 H4 Kt Kf hj s3 y kt kf => ?_) fun H3 s3 e3 => ?_
  · obtain ⟨rfl, hx⟩ := y
    obtain ⟨ys, g1, t1, rfl, g2⟩ := paired_at (h3.same s3) j x hx
    rw [List.getElem?_map, hj] at g1
    obtain rfl : prV p = ys := Option.some.inj g1
    obtain ⟨m1, m2⟩ := hok.g p (List.mem_of_getElem? hj)
    have b1 := hb _ m1
    have b2 := hb _ m2
    have hd4 := s3 _ _ hd
    refine ⟨t1, _, rfl, .of g2, rfl, _, _, rfl, _, _, rfl, rfl, rfl, iteT (B := True) ?_⟩
    exact ⟨_, rfl, _, rfl, d, .int (pt p.1), rfl, .inl ⟨_, Sum.inr p.1, .inl hd4, rfl, (dOf_in m1).symm⟩, _, rfl, _, rfl, d, .int (pt p.2), rfl, .inl ⟨_, Sum.inr p.2, .inl hd4, rfl, (dOf_in m2).symm⟩, _, _, rfl, rfl, _, _, rfl, rfl, ⟨by decide, by decide, by omega⟩, kt rfl _ (Same.refl _)⟩
  · rw [show (r.1.filter fun _ => true) = r.1 from List.filter_eq_self.mpr fun _ _ => rfl] at e3
    refine ⟨D, r.1.map (fun p : Str × Str => (pt p.1 - pt p.2) ^ 2), rfl, .of ?_, q H3 s3⟩
    rw [e3, List.map_map]
    rfl
/-! ### _law_no_better -/
theorem scNob : FnScope ["_law_found", "_law_other", "_law_score"] ["_law_found", "_law_other", "_law_score"] (defScope (topS 37)) := ⟨rfl, rfl, rfl, by decide +kernel, rfl, by decide +kernel, by decide +kernel⟩
def NoBetter (pt : Str → Int) (r : Res) : Option Res → Prop
  | none => True
  | some q => q ≠ r ∧ (∀ a, r.2 = some a → ∃ b, q.2 = some b ∧ pt a ≤ pt b) ∧ (q.2 = r.2 → costN pt r.1 ≤ costN pt q.1)
def spNob : Sp := fun vs H Q _ => ∃ (v u : V) (d : Addr) (r : Res) (o : Option Res) (ns : List Str) (pt : Str → Int), vs = [v, u, .ref d] ∧ ResAt H v r ∧ AnsAt H u o ∧ H d = some (.dK (dOf ns pt)) ∧ ResOk ns r ∧ AnsOk ns o ∧ (∀ z ∈ ns, GoodN z ∧ 0 ≤ pt z ∧ pt z ≤ 100) ∧ r.1.length ≤ 1000 ∧ (∀ q, o = some q → q.1.length ≤ 1000) ∧ NoBetter pt r o ∧
  ∀ H2, Same H H2 → Q (.bl true) H2
theorem ok_nob (F : Fd K mg "_law_no_better" 37 f fd) (Ct : Cal P w K mg base CX0 1 "_law_cost" ["_law_found", "_law_score"] spCost) : Cal P w K mg base CX0 2 "_law_no_better" ["_law_found", "_law_other", "_law_score"] spNob := by
  refine F.cal ?_ (fun _ _ _ _ _ _ us hl => match us, hl with | [_, _, _], _ => rfl)
  refine F.fu.ok scNob (fun vs H Q E h => by obtain ⟨v, u, d, r, o, ns, pt, rfl, _⟩ := h; rfl) (fun cdv A outer s H vs Q E hr h => ?_)
  obtain ⟨v, u, d, r, o, ns, pt, rfl, hr1, ho, hd, hok, hok2, hb, few, few2, nb, q⟩ := h
  obtain ⟨tt, hts, htr⟩ : ∃ tt, PSs (cxOf CX0 P w K mg base ["_law_found", "_law_other", "_law_score"] "_law_no_better" (defScope (topS 37)) f cdv A outer s H E).nox ((defBody (topS 37)).drop 2) tt ∧
      ∀ b, o = some b → tt { nx := fun _ H' => Q .non H', rt := Q } [some v, some u, some (.ref d)] H := by
    refine ⟨_, (pss_one (ps_ret (pe_or (pe_cmpR op_ne (pe_ix ix_tup (pv 1) pe_int (fun _ _ => rfl)) (pe_ix ix_tup (pv 0) pe_int (fun _ _ => rfl)) (nomark _)) (pe_one (pe_cmpR op_ge (pe_cal Ct (hr.mono (by decide)) (pa_cons (pv 1) (pa_cons (pv 2) pa_nil))) (pe_cal Ct (hr.mono (by decide)) (pa_cons (pv 0) (pa_cons (pv 2) pa_nil))) (nomark _)))))), fun b eb => ?_⟩
    subst eb
    obtain ⟨nq, nl, nc⟩ := nb
    have hr2 := hr1
    have ho2 := ho
    obtain ⟨t, g, xs, rfl, h1, h2, h3⟩ := hr2
    obtain ⟨t2, g2, xs2, rfl, k1, k2, k3⟩ := ho2
    refine ⟨_, rfl, t2, _, _, outV b.2, rfl, rfl, .of k1, rfl, _, rfl, t, _, _, outV r.2, rfl, rfl, .of h1, rfl, ?_⟩
    refine ⟨by cases b.2 <;> cases r.2 <;> rfl, _, rfl, ?_⟩
    by_cases e : b.2 = r.2
    · rw [e, decide_eq_true rfl]
      refine iteF ⟨_, rfl, _, rfl, _, d, b, ns, pt, rfl, ho, hd, hok2, fun z hz => (hb z hz).2, few2 b rfl, fun H1 s1 => ?_⟩
      refine ⟨_, rfl, _, rfl, _, d, r, ns, pt, rfl, AnsAt.same (r := some r) hr1 s1, s1 _ _ hd, hok, fun z hz => (hb z hz).2, few, fun H2 s2 => ?_⟩
      exact ⟨_, _, rfl, rfl, bl_dec (decide_eq_true (nc e)) (q H2 (s1.trans s2))⟩
    · have ne : outV b.2 ≠ outV r.2 := fun z => e (outV_inj z)
      rw [decide_eq_false ne]
      exact iteT (q H (Same.refl _))
  refine ⟨_, PSs.nox (pss_cons (ps_if (PW.pt (pw_or (pt_cmpR op_isN (pv 1) pe_non (nomark _)) (pw_or1 (pt_cmpR (op_eqD hr.units) (pv 1) (pv 0) (nomark _))))) (pss_one (ps_ret (pe_cmpR op_isN (pv 1) pe_non (nomark _)))) pss_nil)
    (pss_cons (ps_if (PW.pt (pw_and (pt_cmpR op_notN (pe_ix ix_tup (pv 0) pe_int (fun _ _ => rfl)) pe_non (nomark _)) (pw_and1 (pt_cmpR op_lt (pe_dget (hu_of hr) (pv 2) (pe_ix ix_tup (pv 1) pe_int (fun _ _ => rfl)) (fun _ _ => rfl)) (pe_dget (hu_of hr) (pv 2) (pe_ix ix_tup (pv 0) pe_int (fun _ _ => rfl)) (fun _ _ => rfl)) (nomark _))))) (pss_one (ps_ret pe_bl)) pss_nil) hts)), ?_⟩
  refine ⟨_, rfl, rfl, _, rfl, ?_⟩
  cases o with
  | none =>
    obtain rfl : u = .non := ho
    rw [decide_eq_true rfl]
    refine iteT (iteT ⟨_, rfl, rfl, ?_⟩)
    exact bl_dec (decide_eq_true rfl) (q H (Same.refl _))
  | some b =>
    have fin := htr b rfl
    obtain ⟨nq, nl, nc⟩ := nb
    have hr2 := hr1
    have ho2 := ho
    obtain ⟨t, g, xs, rfl, h1, h2, h3⟩ := hr2
    obtain ⟨t2, g2, xs2, rfl, k1, k2, k3⟩ := ho2
    rw [decide_eq_false (fun z => nomatch z)]
    refine iteF ⟨_, rfl, _, rfl, ansD (some b), ansD (some r), ans_dp ho, ans_dp (r := some r) hr1, ans_shaped (fun z hz => (hb z hz).1) hok2, ans_shaped (r := some r) (fun z hz => (hb z hz).1) hok, _, rfl, ?_⟩
    rw [ansD_eqv, decide_eq_false (fun z => nq (Option.some.inj z))]
    refine iteF ?_
    refine ⟨_, rfl, t, _, _, outV r.2, rfl, rfl, .of h1, rfl, rfl, _, rfl, ?_⟩
    cases hz : r.2 with
    | none =>
      rw [decide_eq_true (show outV none = .non from rfl)]
      exact iteF (iteF fin)
    | some z =>
      obtain ⟨y, ey, le⟩ := nl z hz
      rw [decide_eq_false (show ¬ outV (some z) = .non from fun z => nomatch z)]
      have mz := hok.o z hz
      have my := hok2.o y ey
      rw [ey] at k1
      rw [hz] at h1
      refine iteT ⟨_, rfl, _, rfl, t2, _, _, .str y, rfl, rfl, .of k1, rfl, d, .int (pt y), rfl, .inl ⟨_, Sum.inr y, .inl hd, rfl, (dOf_in my).symm⟩, _, rfl, _, rfl, t, _, _, .str z, rfl, rfl, .of h1, rfl, d, .int (pt z), rfl, .inl ⟨_, Sum.inr z, .inl hd, rfl, (dOf_in mz).symm⟩, _, _, rfl, rfl, _, rfl, ?_⟩
      rw [decide_eq_false (show ¬ pt y < pt z by omega)]
      exact iteF fin
end
end K66
set_option Elab.async false
set_option linter.all false
set_option maxRecDepth 100000
set_option maxHeartbeats 4000000
namespace K66
open PySem PySem.Spec PyProof.Rows L2
/-! ### the plain laws, by names -/
theorem nm_idx {ns : List Str} {z : Str} (h : z ∈ ns) : nm ns (ns.idxOf z) = z := by
  have := idx_at h
  unfold nm
  rw [List.getD_eq_getElem?_getD, this]
  rfl
theorem idx_lt {ns : List Str} {z : Str} (h : z ∈ ns) : ns.idxOf z < ns.length := List.idxOf_lt_length_of_mem h
theorem idx_nm {ns : List Str} (nd : ns.Nodup) {i : Nat} (h : i < ns.length) : ns.idxOf (nm ns i) = i := idx_nodup nd (nm_at h)
theorem nm_inj {ns : List Str} (nd : ns.Nodup) {i j : Nat} (hi : i < ns.length) (hj : j < ns.length) (e : nm ns i = nm ns j) : i = j := by
  rw [← idx_nm nd hi, ← idx_nm nd hj, e]
def sumOf (W : Tk) : Nat → Int := fun i => W.pt (nm W.ns i)
def placed (W : Tk) : Option (List Pr × Option Nat) := pairedP W.ns.length (sumOf W) (barOf W.ns W.met) (fun i => decide (nm W.ns i ∈ W.sat))
def nameR (W : Tk) (r : List Pr × Option Nat) : Res := (r.1.map (named W.ns (fiOf W.ls W.fi)), r.2.map (nm W.ns))
theorem pairedN_eq (W : Tk) : pairedN W = (placed W).map (nameR W) := rfl
theorem named_mem {ns : List Str} {f : Str → Int} {p : Pr} (h1 : p.1 < ns.length) (h2 : p.2 < ns.length) : (named ns f p).1 ∈ ns ∧ (named ns f p).2 ∈ ns := by
  unfold named
  split
  · exact ⟨nm_mem h2, nm_mem h1⟩
  · exact ⟨nm_mem h1, nm_mem h2⟩
theorem pairedN_ok {W : Tk} : AnsOk W.ns (pairedN W) := by
  rw [pairedN_eq]
  cases h : placed W with
  | none => trivial
  | some r =>
    have hm := pairedP_mem h
    refine ⟨fun p hp => ?_, fun z hz => ?_⟩
    · obtain ⟨q, hq, rfl⟩ := List.mem_map.mp hp
      obtain ⟨a, b, _⟩ := hm.1 q hq
      exact named_mem a b
    · obtain ⟨i, hi, rfl⟩ := Option.map_eq_some_iff.mp hz
      exact nm_mem (hm.2 i hi)
theorem placed_len {W : Tk} {r : List Pr × Option Nat} (h : placed W = some r) : r.1.length ≤ W.ns.length := by
  obtain ⟨l1, l2, e1, e2, e3⟩ := pairedP_at h
  obtain ⟨m, m1, m2, m3, m4⟩ := tryOut_lp e2
  have := lp_len m1
  have l := List.length_filter_le (fun p => decide (some p ≠ r.2)) (List.range W.ns.length)
  rw [List.length_range] at l
  rw [← m2]
  exact Nat.le_trans this l
theorem pairedN_len {W : Tk} {r : Res} (h : pairedN W = some r) : r.1.length ≤ W.ns.length := by
  rw [pairedN_eq] at h
  obtain ⟨p, e1, rfl⟩ := Option.map_eq_some_iff.mp h
  show (p.1.map _).length ≤ _
  rw [List.length_map]
  exact placed_len e1
/-! one pair more that has met -/
def withMet (W : Tk) (x y : Str) : Tk := { W with met := W.met ++ [(x, y)] }
theorem barOf_more (ns : List Str) (met : List (Str × Str)) (q : Str × Str) : barOf ns (met ++ [q]) = barE (barOf ns met) (keyOf ns q) := by
  funext i j
  unfold barOf barE
  rw [List.any_append]
  simp only [List.any_cons, List.any_nil, Bool.or_false]
  congr 1
  exact decide_eq_decide.mpr eq_comm
theorem placed_more (W : Tk) (x y : Str) : placed (withMet W x y) = pairedP W.ns.length (sumOf W) (barE (barOf W.ns W.met) (keyOf W.ns (x, y))) (fun i => decide (nm W.ns i ∈ W.sat)) := by
  unfold placed
  show pairedP W.ns.length (sumOf W) (barOf W.ns (W.met ++ [(x, y)])) _ = _
  rw [barOf_more]
  rfl
theorem more_none {W : Tk} {x y : Str} (h : pairedN W = none) : pairedN (withMet W x y) = none := by
  rw [pairedN_eq] at h ⊢
  rw [Option.map_eq_none_iff] at h ⊢
  rw [placed_more]
  exact pairedP_none h
/-- the key's names, one way or the other -/
theorem named_key {ns : List Str} {f : Str → Int} {x y : Str} (hx : x ∈ ns) (hy : y ∈ ns) : named ns f (keyOf ns (x, y)) = (x, y) ∨ named ns f (keyOf ns (x, y)) = (y, x) := by
  unfold keyOf named
  split
  · simp only [nm_idx hx, nm_idx hy]
    split
    · exact .inr rfl
    · exact .inl rfl
  · simp only [nm_idx hx, nm_idx hy]
    split
    · exact .inl rfl
    · exact .inr rfl
theorem key_named {ns : List Str} (nd : ns.Nodup) {f : Str → Int} {x y : Str} {p : Pr} (h1 : p.1 < ns.length) (h2 : p.2 < ns.length) (h3 : p.1 < p.2) (e : named ns f p = (x, y) ∨ named ns f p = (y, x)) : p = keyOf ns (x, y) := by
  have two : (nm ns p.1 = x ∧ nm ns p.2 = y) ∨ (nm ns p.1 = y ∧ nm ns p.2 = x) := by
    unfold named at e
    split at e
    · rcases e with e | e
      · injection e with e1 e2
        exact .inr ⟨e2, e1⟩
      · injection e with e1 e2
        exact .inl ⟨e2, e1⟩
    · rcases e with e | e
      · injection e with e1 e2
        exact .inl ⟨e1, e2⟩
      · injection e with e1 e2
        exact .inr ⟨e1, e2⟩
  unfold keyOf
  rcases two with ⟨a, b⟩ | ⟨a, b⟩
  · rw [← a, ← b]
    simp only [idx_nm nd h1, idx_nm nd h2]
    rw [if_pos (Nat.le_of_lt h3)]
  · rw [← a, ← b]
    simp only [idx_nm nd h1, idx_nm nd h2]
    rw [if_neg (by omega)]
theorem more_same {W : Tk} {x y : Str} {r : Res} (hx : x ∈ W.ns) (hy : y ∈ W.ns) (h : pairedN W = some r) (n1 : (x, y) ∉ r.1) (n2 : (y, x) ∉ r.1) : pairedN (withMet W x y) = some r := by
  rw [pairedN_eq] at h
  obtain ⟨p, e1, rfl⟩ := Option.map_eq_some_iff.mp h
  rw [pairedN_eq, placed_more, pairedP_same e1]
  · rfl
  · intro he
    have hm : named W.ns (fiOf W.ls W.fi) (keyOf W.ns (x, y)) ∈ (nameR W p).1 := List.mem_map_of_mem he
    rcases named_key (f := fiOf W.ls W.fi) hx hy with q | q
    · exact n1 (q ▸ hm)
    · exact n2 (q ▸ hm)
theorem cost_named (W : Tk) : ∀ l : List Pr, costN W.pt (l.map (named W.ns (fiOf W.ls W.fi))) = cost (sumOf W) l
  | [] => rfl
  | p :: l => by
    have ih := cost_named W l
    unfold costN at ih ⊢
    rw [List.map_cons, List.map_cons, List.sum_cons, ih]
    show _ = cost (sumOf W) l + sq (sumOf W p.1 - sumOf W p.2)
    have : (W.pt (named W.ns (fiOf W.ls W.fi) p).1 - W.pt (named W.ns (fiOf W.ls W.fi) p).2) ^ 2 = sq (sumOf W p.1 - sumOf W p.2) := by
      unfold named sq sumOf
      split
      · have e : W.pt (nm W.ns p.2) - W.pt (nm W.ns p.1) = -(W.pt (nm W.ns p.1) - W.pt (nm W.ns p.2)) := by omega
        simp only [e]
        rw [Int.pow_succ, Int.pow_succ, Int.pow_zero, Int.pow_succ, Int.pow_succ, Int.pow_zero, Int.one_mul, Int.one_mul, Int.neg_mul_neg]
      · rfl
    rw [this, Int.add_comm]
theorem more_less {W : Tk} {x y : Str} {r : Res} (nd : W.ns.Nodup) (hx : x ∈ W.ns) (hy : y ∈ W.ns) (h : pairedN W = some r) (he : (x, y) ∈ r.1 ∨ (y, x) ∈ r.1) : NoBetter W.pt r (pairedN (withMet W x y)) := by
  rw [pairedN_eq] at h
  obtain ⟨rp, e1, rfl⟩ := Option.map_eq_some_iff.mp h
  rw [pairedN_eq, placed_more]
  cases hq : pairedP W.ns.length (sumOf W) (barE (barOf W.ns W.met) (keyOf W.ns (x, y))) (fun i => decide (nm W.ns i ∈ W.sat)) with
  | none => trivial
  | some qp =>
    obtain ⟨l1, l2, l3, l4⟩ := pairedP_less e1 hq
    have mr := pairedP_mem e1
    have mq := pairedP_mem hq
    refine ⟨fun z => ?_, fun a ha => ?_, fun z => ?_⟩
    · have z : nameR W qp = nameR W rp := z
      have hin : ∃ u, (u = (x, y) ∨ u = (y, x)) ∧ u ∈ (nameR W qp).1 := by
        rw [z]
        rcases he with he | he
        · exact ⟨_, .inl rfl, he⟩
        · exact ⟨_, .inr rfl, he⟩
      obtain ⟨u, hu, hm⟩ := hin
      obtain ⟨p, hp, rfl⟩ := List.mem_map.mp hm
      obtain ⟨a, b, c⟩ := mq.1 p hp
      exact l1 (key_named nd a b c hu ▸ hp)
    · obtain ⟨i, hi, rfl⟩ := Option.map_eq_some_iff.mp ha
      obtain ⟨j, hj, le⟩ := l3 i hi
      exact ⟨nm W.ns j, by show Option.map _ qp.2 = _; rw [hj]; rfl, le⟩
    · have eo : qp.2 = rp.2 := by
        have z : qp.2.map (nm W.ns) = rp.2.map (nm W.ns) := z
        cases h1 : qp.2 with
        | none =>
          cases h2 : rp.2 with
          | none => rfl
          | some b => rw [h1, h2] at z; cases z
        | some a =>
          cases h2 : rp.2 with
          | none => rw [h1, h2] at z; cases z
          | some b =>
            rw [h1, h2] at z
            rw [nm_inj nd (mq.2 a h1) (mr.2 b h2) (Option.some.inj z)]
      show costN W.pt (rp.1.map (named W.ns (fiOf W.ls W.fi))) ≤ costN W.pt (qp.1.map (named W.ns (fiOf W.ls W.fi)))
      rw [cost_named, cost_named]
      exact l4 eo
/-! other names, all greater by one number, turned about -/
structure Led (W V : Tk) (wv : Str → Str) (c : Int) : Prop where
  ns : V.ns = W.ns.map wv
  nd : W.ns.Nodup
  nd2 : V.ns.Nodup
  pt : ∀ z ∈ W.ns, V.pt (wv z) = W.pt z + c
  met : ∃ m : List (Str × Str), m.Perm W.met ∧ V.met = m.map fun p => (wv p.2, wv p.1)
  mets : ∀ p ∈ W.met, p.1 ∈ W.ns ∧ p.2 ∈ W.ns
  sat : ∃ s : List Str, s.Perm W.sat ∧ V.sat = s.map wv
  sats : ∀ z ∈ W.sat, z ∈ W.ns
  ls : V.ls = W.ls.map wv
  lss : ∀ z ∈ W.ls, z ∈ W.ns
  fi : ∀ z ∈ W.ns, V.fi (wv z) = W.fi z
section
variable {W V : Tk} {wv : Str → Str} {c : Int}
theorem Led.len (L : Led W V wv c) : V.ns.length = W.ns.length := by rw [L.ns, List.length_map]
theorem Led.nm (L : Led W V wv c) {i : Nat} (h : i < W.ns.length) : nm V.ns i = wv (nm W.ns i) := by
  have h2 : i < V.ns.length := by rw [L.len]; exact h
  have e := nm_at h2
  rw [L.ns, List.getElem?_map, nm_at h] at e
  have e2 := Option.some.inj e
  rw [L.ns]
  exact e2.symm
theorem Led.idx (L : Led W V wv c) {z : Str} (h : z ∈ W.ns) : V.ns.idxOf (wv z) = W.ns.idxOf z := by
  refine idx_nodup L.nd2 ?_
  rw [L.ns, List.getElem?_map, idx_at h]
  rfl
theorem Led.inj (L : Led W V wv c) {a b : Str} (ha : a ∈ W.ns) (hb : b ∈ W.ns) (e : wv a = wv b) : a = b := by
  rw [← nm_idx ha, ← nm_idx hb, ← L.idx ha, ← L.idx hb, e]
theorem Led.mem (L : Led W V wv c) {l : List Str} (hl : ∀ z ∈ l, z ∈ W.ns) {z : Str} (hz : z ∈ W.ns) : wv z ∈ l.map wv ↔ z ∈ l := by
  refine ⟨fun h => ?_, fun h => List.mem_map_of_mem h⟩
  obtain ⟨y, hy, e⟩ := List.mem_map.mp h
  rw [← L.inj (hl y hy) hz e]
  exact hy
theorem keyOf_swap (ns : List Str) (a b : Str) : keyOf ns (a, b) = keyOf ns (b, a) := by
  unfold keyOf
  by_cases h : ns.idxOf a = ns.idxOf b
  · simp [h]
  · by_cases g : ns.idxOf a ≤ ns.idxOf b
    · rw [if_pos g, if_neg (by simp only; omega)]
    · rw [if_neg g, if_pos (by simp only; omega)]
theorem Led.key (L : Led W V wv c) {p : Str × Str} (h1 : p.1 ∈ W.ns) (h2 : p.2 ∈ W.ns) : keyOf V.ns (wv p.2, wv p.1) = keyOf W.ns p := by
  rw [keyOf_swap]
  unfold keyOf
  simp only [L.idx h1, L.idx h2]
theorem any_perm {α : Type} {f : α → Bool} {l m : List α} (h : l.Perm m) : l.any f = m.any f := by
  rw [Bool.eq_iff_iff, List.any_eq_true, List.any_eq_true]
  exact ⟨fun ⟨x, a, b⟩ => ⟨x, h.mem_iff.mp a, b⟩, fun ⟨x, a, b⟩ => ⟨x, h.mem_iff.mpr a, b⟩⟩
theorem Led.bar (L : Led W V wv c) (i j : Nat) : barOf V.ns V.met i j = barOf W.ns W.met i j := by
  obtain ⟨m, pm, e⟩ := L.met
  unfold barOf
  rw [e, List.any_map, ← any_perm pm]
  have hm : ∀ p ∈ m, p.1 ∈ W.ns ∧ p.2 ∈ W.ns := fun p hp => L.mets p (pm.mem_iff.mp hp)
  clear pm e
  induction m with
  | nil => rfl
  | cons p m ih =>
    rw [List.any_cons, List.any_cons, ih fun q hq => hm q (List.mem_cons_of_mem _ hq)]
    simp only [Function.comp, L.key (hm p List.mem_cons_self).1 (hm p List.mem_cons_self).2]
theorem Led.out (L : Led W V wv c) {z : Str} (hz : z ∈ W.ns) : wv z ∈ V.sat ↔ z ∈ W.sat := by
  obtain ⟨s, pm, e⟩ := L.sat
  rw [e, L.mem (fun y hy => L.sats y (pm.mem_iff.mp hy)) hz]
  exact pm.mem_iff
theorem Led.first (L : Led W V wv c) {z : Str} (hz : z ∈ W.ns) : fiOf V.ls V.fi (wv z) = fiOf W.ls W.fi z := by
  unfold fiOf
  have e : (wv z ∈ V.ls) = (z ∈ W.ls) := by
    rw [L.ls]
    exact propext (L.mem L.lss hz)
  simp only [e, L.fi z hz]
theorem Led.placed (L : Led W V wv c) : placed V = placed W := by
  unfold K66.placed
  rw [L.len, ← pairedP_shift W.ns.length (sumOf W) (barOf W.ns W.met) (fun i => decide (K66.nm W.ns i ∈ W.sat)) c]
  refine pairedP_congr (fun i hi => ?_) (fun i j _ _ => L.bar i j) (fun i hi => ?_)
  · show V.pt (K66.nm V.ns i) = W.pt (K66.nm W.ns i) + c
    rw [L.nm hi, L.pt _ (nm_mem hi)]
  · show decide (K66.nm V.ns i ∈ V.sat) = decide (K66.nm W.ns i ∈ W.sat)
    rw [L.nm hi]
    exact decide_eq_decide.mpr (L.out (nm_mem hi))
theorem Led.named (L : Led W V wv c) {p : Pr} (h1 : p.1 < W.ns.length) (h2 : p.2 < W.ns.length) : named V.ns (fiOf V.ls V.fi) p = (wv (named W.ns (fiOf W.ls W.fi) p).1, wv (named W.ns (fiOf W.ls W.fi) p).2) := by
  unfold K66.named
  rw [L.nm h1, L.nm h2, L.first (nm_mem h1), L.first (nm_mem h2)]
  split <;> rfl
theorem Led.all (L : Led W V wv c) : pairedN V = ledOver wv (pairedN W) := by
  rw [pairedN_eq, pairedN_eq, L.placed]
  unfold ledOver
  cases h : K66.placed W with
  | none => rfl
  | some r =>
    have hm := pairedP_mem h
    show some (nameR V r) = some _
    congr 1
    unfold nameR
    refine Prod.ext ?_ ?_
    · show r.1.map _ = (r.1.map _).map _
      rw [List.map_map]
      refine List.map_congr_left fun p hp => ?_
      obtain ⟨a, b, _⟩ := hm.1 p hp
      exact L.named a b
    · show r.2.map _ = (r.2.map _).map _
      cases ho : r.2 with
      | none => rfl
      | some i => exact congrArg some (L.nm (hm.2 i ho))
end
theorem paired_perm {α β : Type} {F : α → β → Prop} {l1 : List α} {xs ys : List β} (p : Paired F l1 xs) (h : ys.Perm xs) : ∃ l2, l2.Perm l1 ∧ Paired F l2 ys := by
  induction h generalizing l1 with
  | nil => exact ⟨l1, List.Perm.refl _, p⟩
  | cons x h ih =>
    cases p with
    | cons a r =>
      obtain ⟨l2, h1, h2⟩ := ih r
      exact ⟨_ :: l2, List.Perm.cons _ h1, .cons a h2⟩
  | swap x y l =>
    cases p with
    | cons a r =>
      cases r with
      | cons b r => exact ⟨_ :: _ :: _, List.Perm.swap _ _ _, .cons b (.cons a r)⟩
  | trans h1 h2 ih1 ih2 =>
    obtain ⟨l2, a, b⟩ := ih2 p
    obtain ⟨l3, c, d⟩ := ih1 b
    exact ⟨l3, c.trans a, d⟩
end K66
set_option Elab.async false
set_option linter.all false
set_option maxRecDepth 100000
set_option maxHeartbeats 4000000
namespace K66
open PySem PySem.Spec PyProof.Rows L2 LamX
/-! ### along the law -/
/-- all but the state and the tables is kept -/
def Kp (S : SA) (H H2 : Hp) : Prop := ∀ b o, b ≠ S.st → (∀ ps, o ≠ .tbl ps) → H b = some o → H2 b = some o
structure Now (K : PySem.W.Frag) (S : SA) (T : List (Addr × Str)) (W : Tk) (a d m s l : Addr) (H : Hp) : Prop where
  st : StOk K S H
  tabs : Tabs T H
  at_ : W.AtL H a d m s l
  nd : d ≠ S.st
  nl : l ≠ S.st
section
variable {K : PySem.W.Frag} {S : SA} {T : List (Addr × Str)} {W : Tk} {a d m s l : Addr} {H H1 H2 : Hp}
theorem Kp.trans (x : Kp S H H1) (y : Kp S H1 H2) : Kp S H H2 := fun b o n t e => y b o n t (x b o n t e)
theorem Kp.same (x : Same H H1) : Kp S H H1 := fun b o _ _ e => x b o e
theorem Kp.mv (x : Mv K S H H1) : Kp S H H1 := fun b o n _ e => x.kp b o n e
theorem Kp.ext (x : ExtN H H1) : Kp S H H1 := fun b o _ t e => x b o e t
theorem Kp.lst (x : Kp S H H1) (ok : StOk K S H) {b : Addr} {xs : List V} (e : H b = some (.lst xs)) : H1 b = some (.lst xs) := by
  obtain ⟨k, l, m, q⟩ := ok.st
  exact x b _ (ne_of e q (fun z => nomatch z)) (fun _ z => nomatch z) e
theorem Kp.tup (x : Kp S H H1) (ok : StOk K S H) {b : Addr} {xs : List V} (e : H b = some (.tup xs)) : H1 b = some (.tup xs) := by
  obtain ⟨k, l, m, q⟩ := ok.st
  exact x b _ (ne_of e q (fun z => nomatch z)) (fun _ z => nomatch z) e
theorem Kp.dk (x : Kp S H H1) {b : Addr} (n : b ≠ S.st) {kvs : List (Key × V)} (e : H b = some (.dK kvs)) : H1 b = some (.dK kvs) := x b _ n (fun _ z => nomatch z) e
theorem Kp.tups (x : Kp S H H1) (ok : StOk K S H) {xss : List (List V)} {acc : List V} (h : Tups H xss acc) : Tups H1 xss acc := h.mono fun _ _ e => x.tup ok e
theorem Kp.ans (x : Kp S H H1) (ok : StOk K S H) {v : V} {r : Option Res} (h : AnsAt H v r) : AnsAt H1 v r := h.mono (fun _ _ e => x.tup ok e) fun _ _ e => x.lst ok e
theorem Kp.atl (x : Kp S H H1) (ok : StOk K S H) (nd : d ≠ S.st) (nl : l ≠ S.st) (h : W.AtL H a d m s l) : W.AtL H1 a d m s l where
  ns := x.lst ok h.ns
  pt := x.dk nd h.pt
  met := let ⟨xs, h1, h2⟩ := h.met; ⟨xs, x.lst ok h1, x.tups ok h2⟩
  sat := x.lst ok h.sat
  led := x.dk nl h.led
theorem tabs_mv (h : Tabs T H) (x : Mv K S H H1) : Tabs T H1 := fun p hp => by
  obtain ⟨ps, h1, h2, h3⟩ := h p hp
  obtain ⟨k, l, m, q⟩ := x.a.st
  refine ⟨ps, x.kp _ _ (ne_of h1 q (fun z => nomatch z)) h1, h2, fun pos cv hc => ?_⟩
  obtain ⟨c, e1, e2⟩ := h3 pos cv hc
  refine ⟨c, e1, x.kp _ _ (ne_of e2 q ?_) e2⟩
  intro z
  unfold CodeO at z
  cases z
theorem st_ext (h : StOk K S H) (x : ExtN H H1) : StOk K S H1 := ⟨sq_extn h.cells x, let ⟨k, l, m, q⟩ := h.st; ⟨k, l, m, x _ _ q (fun _ z => nomatch z)⟩⟩
theorem Now.mv (h : Now K S T W a d m s l H) (x : Mv K S H H1) : Now K S T W a d m s l H1 := ⟨x.b, tabs_mv h.tabs x, (Kp.mv x).atl h.st h.nd h.nl h.at_, h.nd, h.nl⟩
theorem Now.ext (h : Now K S T W a d m s l H) (x : ExtN H H1) (t : Tabs T H1) : Now K S T W a d m s l H1 := ⟨st_ext h.st x, t, (Kp.ext x).atl h.st h.nd h.nl h.at_, h.nd, h.nl⟩
theorem Now.same (h : Now K S T W a d m s l H) (x : Same H H1) : Now K S T W a d m s l H1 := h.ext (ExtN.of x) (h.tabs.ext x)
theorem more_ok {x y : Str} (ok : W.Ok) (hx : x ∈ W.ns) (hy : y ∈ W.ns) (ne : x ≠ y) (few : W.met.length < 1000) : (withMet W x y).Ok := by
  refine ⟨ok.names, ok.pts, fun p hp => ?_, ?_, ok.sat, ok.sfew, ok.led⟩
  · rcases List.mem_append.mp (show p ∈ W.met ++ [(x, y)] from hp) with h | h
    · exact ok.met p h
    · rw [List.mem_singleton.mp h]
      exact ⟨hx, hy, ne⟩
  · show (W.met ++ [(x, y)]).length ≤ 1000
    rw [List.length_append]
    exact few
end
theorem cut_last (xs : List V) (v : V) : cutV (xs ++ [v]) none (some (-1)) = xs := by
  unfold cutV
  have e : HT.sIx (xs ++ [v]).length (xs ++ [v]).length (some (-1)) = xs.length := by
    show (if (-1 : Int) < 0 then (-1 + (((xs ++ [v]).length : Nat) : Int)).toNat else min (-1 : Int).toNat (xs ++ [v]).length) = xs.length
    rw [if_pos (by decide), List.length_append]
    simp only [List.length_cons, List.length_nil]
    omega
  rw [e, HT.sIx_none, List.drop_zero, Nat.sub_zero, List.take_left']
  rfl
theorem L2K.app {α β : Type} {F : α → β → Prop} : ∀ {l1 l2 : List α} {m1 m2 : List β}, Paired F l1 m1 → Paired F l2 m2 → Paired F (l1 ++ l2) (m1 ++ m2)
  | _, _, _, _, .nil, h => h
  | _, _, _, _, .cons a r, h => .cons a (L2K.app r h)
theorem any_pairs (p : Str × Str) : ∀ ps : List (Str × Str), ((ps.map pairD).any fun z => PyData.eqv z (pairD p)) = decide (p ∈ ps)
  | [] => by simp
  | q :: ps => by
    rw [List.map_cons, List.any_cons, pairD_eqv, any_pairs p ps]
    by_cases e : q = p
    · subst e
      simp
    · by_cases h : p ∈ ps
      · simp [h]
      · have : p ∉ q :: ps := fun z => (List.mem_cons.mp z).elim (fun y => e y.symm) h
        simp [h, e, this]
theorem pair_shaped {p : Str × Str} (h1 : GoodN p.1) (h2 : GoodN p.2) : SeqAt.shaped (pairD p) = true := by
  unfold SeqAt.shaped
  rw [Bool.and_eq_true, decide_eq_true_eq]
  refine ⟨?_, ?_⟩
  · simp only [pairD, PyData.canLay0, PyData.canLayAll0, good_ok h1, good_ok h2, Bool.and_true]
  · simp [pairD, PyData.depth, PyData.depthAll]
theorem pairs_shaped {ps : List (Str × Str)} (h : ∀ p ∈ ps, GoodN p.1 ∧ GoodN p.2) : SeqAt.shaped (.list (ps.map pairD)) = true := by
  unfold SeqAt.shaped
  rw [Bool.and_eq_true, decide_eq_true_eq]
  have := pairs_deep ps
  refine ⟨pairs_lay h, ?_⟩
  simp only [PyData.depth]
  omega
/-- the task with one pair more, laid in new objects -/
theorem laid_more {K : PySem.W.Frag} {S : SA} {T : List (Addr × Str)} {W : Tk} {a d m s l t l1 m2 tk : Addr} {H : Hp} {x y : Str} {xs : List V} (now : Now K S T W a d m s l H) (hm : H m = some (.lst xs)) (tm : Tups H (W.met.map prV) xs) (nt : H t = none) (n1 : upd H t (.tup [.str x, .str y]) l1 = none)
    (n2 : upd (upd H t (.tup [.str x, .str y])) l1 (.lst [.ref t]) m2 = none) (n3 : upd (upd (upd H t (.tup [.str x, .str y])) l1 (.lst [.ref t])) m2 (.lst (xs ++ [.ref t])) tk = none) :
    ∃ H4, upd (upd (upd (upd H t (.tup [.str x, .str y])) l1 (.lst [.ref t])) m2 (.lst (xs ++ [.ref t]))) tk (.lst [.ref a, .ref d, .ref m2, .ref s, .ref l]) = H4 ∧ Same H H4 ∧ H4 tk = some (.lst [.ref a, .ref d, .ref m2, .ref s, .ref l]) ∧ (withMet W x y).AtL H4 a d m2 s l := by
  have s1 := same_new (o := .tup [.str x, .str y]) nt
  have s2 := same_new (o := .lst [.ref t]) n1
  have s3 := same_new (o := .lst (xs ++ [.ref t])) n2
  have s4 := same_new (o := .lst [.ref a, .ref d, .ref m2, .ref s, .ref l]) n3
  have s24 := s2.trans (s3.trans s4)
  have s14 := s1.trans s24
  refine ⟨_, rfl, s14, upd_same, s14 _ _ now.at_.ns, s14 _ _ now.at_.pt, ⟨xs ++ [.ref t], s4 _ _ upd_same, ?_⟩, s14 _ _ now.at_.sat, s14 _ _ now.at_.led⟩
  show Tups _ ((W.met ++ [(x, y)]).map prV) _
  rw [List.map_append]
  exact (tm.same s14).snoc (s24 _ _ upd_same)
section
variable {P : Program} {w : World} {K : PySem.W.Frag} {mg : Str → Option Value} {base : Heap} {f : Addr} {fd : FuncData}
abbrev nLaw : List Str := ["_law_script", "_law_state", "_law_task_here", "_law_crew_here", "_law_score", "_law_done_here", "_law_rest", "_law_lead", "_law_found", "_law_ways", "_law_more_here", "_law_one", "_law_there", "_law_other", "_law_games", "_law_pair"]
theorem scLaw : FnScope ["_law_script", "_law_state", "_law_task_here", "_law_crew_here", "_law_score", "_law_done_here", "_law_rest", "_law_lead", "_law_found", "_law_ways", "_law_more_here", "_law_one", "_law_there", "_law_other", "_law_games", "_law_pair"] ["_law_script"] (defScope (topS 38)) := ⟨rfl, rfl, rfl, by decide +kernel, rfl, by decide +kernel, by decide +kernel⟩
/-- the law's last part: one pair more that has met -/
theorem law_tail {T : List (Addr × Str)} {cdv : Value} {A : Around} {outer : List Env} {s0 : Shared} {H0 : Hp} {E : XK} {Q : VK} (B : Bl mg) (Pk : Cal P w K mg base CX0 3 "_law_pick" ["_law_state", "_law_some_here"] (spPick K)) (As : Cal P w K mg base CX0 14 "_law_asked" ["_law_task_here", "_law_way"] (spAsk K T))
    (Nb : Cal P w K mg base CX0 2 "_law_no_better" ["_law_found", "_law_other", "_law_score"] spNob) (hr : Room 14 (A.deeper (envOfC "law" (defScope (topS 38)) s0.heap.objs.size f cdv))) :
    ∃ tt, PSs (cxOf CX0 P w K mg base nLaw "law" (defScope (topS 38)) f cdv A outer s0 H0 E).nox ((defBody (topS 38)).drop 10) tt ∧ ∀ (S : SA) (W : Tk) (a d m s l : Addr) (v : V) (y0 y2 y9 y10 y11 y12 : Option V) (H : Hp), Now K S T W a d m s l H → W.Ok → W.met.length ≤ 100 → AnsAt H v (pairedN W) → (∀ H2, Q (.bl true) H2) →
      tt { nx := fun _ H' => Q .non H', rt := Q } [y0, some (.ref S.st), y2, some (.ref a), some (.ref d), some (.ref m), some (.ref s), some (.ref l), some v, y9, y10, y11, y12, none, none, none] H := by
  have hu65 : (A.deeper (envOfC "law" (defScope (topS 38)) s0.heap.objs.size f cdv)).units + 65 < cLine := by have := hr.un; omega
  refine ⟨_, (pss_cons (ps_par (i := 11) (j := 13) (by rfl) scLaw.nd rfl rfl (by decide) rfl rfl (pa_cons (pe_cal Pk (hr.mono (by decide)) (pa_cons (pv 1) (pa_cons (pe_slice sl_list (pv 3) po_none (po_some (pe_un un_neg pe_int))) pa_nil))) (pa_cons (pe_ix ix_list (pv 3) (pe_un un_neg pe_int) (fun _ _ => rfl)) pa_nil)) (by rfl))
    (pss_cons (ps_if (pt_cmpR op_isN (pv 8) pe_non (nomark _)) (pss_one (ps_ret (pe_cmpR op_isN (pe_cal As (hr.mono (by decide)) (pa_cons (pe_lst (pa_cons (pv 3) (pa_cons (pv 4) (pa_cons (pe_op op_cat (pv 5) (pe_lst (pa_cons (pe_tup (pa_cons (pv 11) (pa_cons (pv 13) pa_nil))) pa_nil))) (pa_cons (pv 6) (pa_cons (pv 7) pa_nil)))))) (pa_cons pe_int pa_nil))) pe_non (nomark _)))) pss_nil)
    (pss_cons (ps_set (i := 14) scLaw.nd rfl (.inl rfl) (pe_op op_cat (pe_ix ix_tup (pv 8) pe_int (fun _ _ => rfl)) (pe_lc (own := [("_law_pair", 15)]) (g := gName 15) (te := tRevP K (tVar 15)) rfl scLaw.nd (pi_list (pe_ix ix_tup (pv 8) pe_int (fun _ _ => rfl))) (blkOk_by (own := [("_law_pair", 15)]) (N := nLaw) (sc := defScope (topS 38)) (by decide +kernel))
      (fun _ _ _ _ _ => pg_name (i := 15) scLaw.nd rfl (Or.inl rfl)) (fun _ _ _ _ _ => pts_nil) (fun _ _ _ _ _ => pe_revP (pv 15)))))
    (pss_cons (ps_if (pt_cmpR (op_notInD hu65) (pe_tup (pa_cons (pv 11) (pa_cons (pv 13) pa_nil))) (pv 14) (by rfl)) (pss_one (ps_ret (pe_cmpR (op_eqD hr.units) (pe_cal As (hr.mono (by decide)) (pa_cons (pe_lst (pa_cons (pv 3) (pa_cons (pv 4) (pa_cons (pe_op op_cat (pv 5) (pe_lst (pa_cons (pe_tup (pa_cons (pv 11) (pa_cons (pv 13) pa_nil))) pa_nil))) (pa_cons (pv 6) (pa_cons (pv 7) pa_nil)))))) (pa_cons pe_int pa_nil))) (pv 8) (nomark _)))) pss_nil)
    (pss_one (ps_ret (pe_cal Nb (hr.mono (by decide)) (pa_cons (pv 8) (pa_cons (pe_cal As (hr.mono (by decide)) (pa_cons (pe_lst (pa_cons (pv 3) (pa_cons (pv 4) (pa_cons (pe_op op_cat (pv 5) (pe_lst (pa_cons (pe_tup (pa_cons (pv 11) (pa_cons (pv 13) pa_nil))) pa_nil))) (pa_cons (pv 6) (pa_cons (pv 7) pa_nil)))))) (pa_cons pe_int pa_nil))) (pa_cons (pv 4) pa_nil)))))))))), fun S W a d m s l v y0 y2 y9 y10 y11 y12 H now ok few av q => ?_⟩
  obtain ⟨ini, y, en⟩ : ∃ ini y, W.ns = ini ++ [y] := by
    have h2 := ok.names.lo
    cases h : W.ns.reverse with
    | nil =>
      have := congrArg List.length h
      rw [List.length_reverse, List.length_nil] at this
      omega
    | cons y r =>
      refine ⟨r.reverse, y, ?_⟩
      have := congrArg List.reverse h
      rw [List.reverse_reverse, List.reverse_cons] at this
      exact this
  have lini : 0 < ini.length ∧ ini.length ≤ 10 := by
    have h2 := ok.names.lo
    have h3 := ok.names.hi
    rw [en, List.length_append, List.length_singleton] at h2 h3
    omega
  have hy : y ∈ W.ns := by rw [en]; exact List.mem_append_right _ (List.mem_singleton.mpr rfl)
  have ea : W.ns.map V.str = ini.map V.str ++ [.str y] := by rw [en, List.map_append]; rfl
  refine ⟨_, rfl, _, rfl, 1, rfl, -1, rfl, a, _, rfl, .of now.at_.ns, fun c nc => ?_⟩
  rw [ea, cut_last]
  have s1 := same_new (o := .lst (ini.map V.str)) nc
  have now1 := now.same s1
  refine ⟨S, now1.st, .inl ⟨c, _, rfl, .of upd_same, by rw [List.length_map]; exact lini.1, by rw [List.length_map]; omega, fun H2 vx mv hx => ?_⟩⟩
  obtain ⟨x, hxi, rfl⟩ := List.mem_map.mp hx
  have hx : x ∈ W.ns := by rw [en]; exact List.mem_append_left _ hxi
  have nxy : x ≠ y := fun e => by
    have := ok.names.nd
    rw [en, List.nodup_append] at this
    exact this.2.2 x hxi y (List.mem_singleton.mpr rfl) e
  have now2 := now1.mv mv
  have av2 : AnsAt H2 v (pairedN W) := ((Kp.same s1).trans (Kp.mv mv)).ans now.st av
  have ok2 := more_ok ok hx hy nxy (by omega)
  have ea2 := now2.at_.ns
  rw [ea] at ea2
  refine ⟨_, rfl, 1, rfl, a, _, _, .str y, rfl, rfl, .of ea2, atI_last _ _, ?_⟩
  refine ⟨_, _, rfl, ?_⟩
  clear ea2
  generalize hH2 : H2 = G at now2 av2
  obtain ⟨xs, hm, tm⟩ := now2.at_.met
  have lxs : xs.length = W.met.length := by rw [← Paired.length tm, List.length_map]
  have lsz : xs.length + 1 ≤ sizeLine := Nat.le_trans (show xs.length + 1 ≤ 1000 by omega) (by decide)
  refine ⟨_, rfl, rfl, _, rfl, ?_⟩
  cases hr2 : pairedN W with
  | none =>
    rw [hr2] at av2
    obtain rfl : v = .non := av2
    rw [decide_eq_true rfl]
    refine iteT ?_
    refine ⟨_, rfl, _, rfl, _, rfl, _, rfl, _, rfl, by show 2 ≤ sizeLine; decide, fun t nt => ⟨by show 1 ≤ sizeLine; decide, fun l1 nl1 => ⟨m, l1, xs, _, rfl, rfl, ?_, upd_same, lsz, fun m2 nm2 => ⟨_, rfl, _, rfl, by show 5 ≤ sizeLine; decide, fun tk ntk => ?_⟩⟩⟩⟩
    · exact same_new nl1 _ _ (same_new nt _ _ hm)
    obtain ⟨_, rfl, s4, et4, at4⟩ := laid_more now2 hm tm nt nl1 nm2 ntk
    refine ⟨withMet W x y, tk, a, d, m2, s, l, 1, rfl, et4, ok2, at4, now2.tabs.ext s4, fun H5 u x5 t5 an => ⟨rfl, ?_⟩⟩
    rw [more_none hr2] at an
    obtain rfl : u = .non := an
    exact bl_dec (decide_eq_true rfl) (q H5)
  | some r =>
    rw [hr2] at av2
    have av3 := av2
    obtain ⟨tf, g, gs, rfl, h1, h2, h3⟩ := av3
    have lgs : gs.length = r.1.length := by rw [← Paired.length h3, List.length_map]
    have lr := pairedN_len hr2
    have h10 := ok.names.hi
    have hok : AnsOk W.ns (some r) := by rw [← hr2]; exact pairedN_ok
    rw [decide_eq_false (fun z => nomatch z)]
    refine iteF ?_
    refine ⟨_, rfl, tf, _, _, .ref g, rfl, rfl, .of h1, rfl, ?_⟩
    refine ⟨_, rfl, tf, _, _, .ref g, rfl, rfl, .of h1, rfl, g, rfl, ⟨_, .of h2⟩, fun D nD => ?_⟩
    refine lc_gen rl_same walk_list (fun j H acc => Tups H (((r.1.take j).map fun p => (p.2, p.1)).map prV) acc) (by rw [lgs]; exact Nat.lt_of_le_of_lt (Nat.le_trans lr h10) (by decide)) nD (same_new nD) .nil (fun j H acc h => ?_) (fun j H acc xs ys e h => h.mono fun t ws q => (upd_ne (ne_of q e (fun z => nomatch z))).trans q) (fun H3 s3 => .of (s3 _ _ h2)) (fun j x H3 H4 acc Kt Kf hj s3 eD hacc w kt kf => ?_) fun H3 acc s3 eD hacc => ?_
    · rw [← Paired.length h, List.length_map, List.length_map]
      exact List.length_take_le _ _
    · obtain ⟨rfl, hx⟩ := w
      obtain ⟨ys, g1, t1, rfl, g2⟩ := paired_at (h3.same s3) j x hx
      rw [List.getElem?_map] at g1
      obtain ⟨p, e1, rfl⟩ := Option.map_eq_some_iff.mp g1
      refine ⟨rfl, iteT (B := True) ⟨_, rfl, t1, _, _, rfl, .of g2, fun t5 nt5 => ?_⟩⟩
      have s5 := same_new (o := .tup [.str p.2, .str p.1]) nt5
      refine kt _ _ s5 ?_
      rw [List.take_add_one, e1]
      simp only [Option.toList_some, List.map_append, List.map_cons, List.map_nil]
      exact (hacc.same s5).snoc upd_same
    rw [lgs, List.take_length] at hacc
    have lacc : acc.length = r.1.length := by rw [← Paired.length hacc, List.length_map, List.length_map]
    have g3 := s3 _ _ h2
    refine ⟨g, D, gs, acc, rfl, rfl, g3, eD, by rw [lgs, lacc]; exact Nat.le_trans (show r.1.length + r.1.length ≤ 20 by omega) (by decide), fun ga nga => ?_⟩
    have s4 := same_new (o := .lst (gs ++ acc)) nga
    have ega : upd H3 ga (.lst (gs ++ acc)) ga = some (.lst (gs ++ acc)) := upd_same
    have tga : Tups (upd H3 ga (.lst (gs ++ acc))) ((r.1 ++ r.1.map fun p => (p.2, p.1)).map prV) (gs ++ acc) := by
      rw [List.map_append]
      exact L2K.app ((h3.same s3).same s4) (hacc.same s4)
    have now4 := (now2.same s3).same s4
    have av4 := (AnsAt.same (r := some r) av2 s3).same s4
    have hm4 := s4 _ _ (s3 _ _ hm)
    have tm4 := (tm.same s3).same s4
    generalize upd H3 ga (.lst (gs ++ acc)) = H4 at s4 ega tga now4 av4 hm4 tm4
    refine ⟨_, rfl, _, rfl, by show 2 ≤ sizeLine; decide, fun t5 nt5 => ?_⟩
    have s5 := same_new (o := .tup [.str x, .str y]) nt5
    have et5 : upd H4 t5 (.tup [.str x, .str y]) t5 = some (.tup [.str x, .str y]) := upd_same
    have now5 := now4.same s5
    have av5 := AnsAt.same (r := some r) av4 s5
    have hm5 := s5 _ _ hm4
    have tm5 := tm4.same s5
    have ega5 := s5 _ _ ega
    have tga5 := tga.same s5
    generalize upd H4 t5 (.tup [.str x, .str y]) = H5 at s5 et5 now5 av5 hm5 tm5 ega5 tga5
    have good : ∀ z ∈ W.ns, GoodN z := ok.names.good
    have gall : ∀ p ∈ r.1 ++ r.1.map (fun p => (p.2, p.1)), GoodN p.1 ∧ GoodN p.2 := fun p hp => by
      rcases List.mem_append.mp hp with hp | hp
      · exact ⟨good _ (hok.g p hp).1, good _ (hok.g p hp).2⟩
      · obtain ⟨p2, h2, rfl⟩ := List.mem_map.mp hp
        exact ⟨good _ (hok.g p2 h2).2, good _ (hok.g p2 h2).1⟩
    refine ⟨_, rfl, pairD (x, y), (r.1 ++ r.1.map fun p => (p.2, p.1)).map pairD, .tup (.of et5) (.cons (.str _) (.cons (.str _) .nil)), .lst (.of ega5) (strs_dp tga5), pair_shaped (good x hx) (good y hy), pairs_shaped gall, _, rfl, ?_⟩
    rw [any_pairs]
    by_cases hin : (x, y) ∈ r.1 ++ r.1.map (fun p => (p.2, p.1))
    · rw [decide_eq_true hin]
      have hin2 : (x, y) ∈ r.1 ∨ (y, x) ∈ r.1 := by
        rcases List.mem_append.mp hin with h | h
        · exact .inl h
        · obtain ⟨p, hp, e⟩ := List.mem_map.mp h
          injection e with e1 e2
          exact .inr (by rw [← e1, ← e2]; exact hp)
      refine iteF ⟨_, rfl, ?_⟩
      refine ⟨_, rfl, _, rfl, _, rfl, _, rfl, _, rfl, by show 2 ≤ sizeLine; decide, fun t nt => ⟨by show 1 ≤ sizeLine; decide, fun l1 nl1 => ⟨m, l1, xs, _, rfl, rfl, same_new nl1 _ _ (same_new nt _ _ hm5), upd_same, lsz, fun m2 nm2 => ⟨_, rfl, _, rfl, by show 5 ≤ sizeLine; decide, fun tk ntk => ?_⟩⟩⟩⟩
      obtain ⟨_, rfl, s6, et6, at6⟩ := laid_more now5 hm5 tm5 nt nl1 nm2 ntk
      refine ⟨withMet W x y, tk, a, d, m2, s, l, 0, rfl, et6, ok2, at6, now5.tabs.ext s6, fun H7 u x7 t7 an => ?_⟩
      have now7 := (now5.same s6).ext x7 t7
      have av7 := ((Kp.same s6).trans (Kp.ext x7)).ans now5.st (r := some r) av5
      refine ⟨_, rfl, .ref tf, u, d, r, _, W.ns, W.pt, rfl, av7, an, now7.at_.pt, hok, ?_, fun z hz => ⟨good z hz, (ok.pts.of z hz).2.2⟩, by omega, fun b hb => ?_, more_less ok.names.nd hx hy hr2 hin2, fun H8 _ => q H8⟩
      · exact pairedN_ok (W := withMet W x y)
      · have := pairedN_len hb
        exact Nat.le_trans this (Nat.le_trans h10 (by decide))
    · rw [decide_eq_false hin]
      have h1n : (x, y) ∉ r.1 := fun z => hin (List.mem_append_left _ z)
      have h2n : (y, x) ∉ r.1 := fun z => hin (List.mem_append_right _ (List.mem_map.mpr ⟨(y, x), z, rfl⟩))
      refine iteT ?_
      refine ⟨_, rfl, _, rfl, _, rfl, _, rfl, _, rfl, by show 2 ≤ sizeLine; decide, fun t nt => ⟨by show 1 ≤ sizeLine; decide, fun l1 nl1 => ⟨m, l1, xs, _, rfl, rfl, same_new nl1 _ _ (same_new nt _ _ hm5), upd_same, lsz, fun m2 nm2 => ⟨_, rfl, _, rfl, by show 5 ≤ sizeLine; decide, fun tk ntk => ?_⟩⟩⟩⟩
      obtain ⟨_, rfl, s6, et6, at6⟩ := laid_more now5 hm5 tm5 nt nl1 nm2 ntk
      refine ⟨withMet W x y, tk, a, d, m2, s, l, 0, rfl, et6, ok2, at6, now5.tabs.ext s6, fun H7 u x7 t7 an => ?_⟩
      have av7 := ((Kp.same s6).trans (Kp.ext x7)).ans now5.st (r := some r) av5
      rw [more_same hx hy hr2 h1n h2n] at an
      refine ⟨_, rfl, ansD (some r), ansD (some r), ans_dp an, ans_dp av7, ans_shaped good hok, ans_shaped good hok, ?_⟩
      rw [ansD_eqv, decide_eq_true rfl]
      exact q H7
end
end K66
set_option Elab.async false
set_option linter.all false
set_option maxRecDepth 100000
set_option maxHeartbeats 4000000
namespace K66
open PySem PySem.Spec PyProof.Rows L2 LamX
section
variable {K : PySem.W.Frag} {S : SA} {T : List (Addr × Str)} {W : Tk} {a d m s l th : Addr} {H0 H H1 : Hp}
/-- a list that is new since H0 is written -/
theorem Now.putL (n0 : Now K S T W a d m s l H0) (nt : H0 th = none) (k : Kp S H0 H) (n : Now K S T W a d m s l H) {xs ys : List V} (e : H th = some (.lst xs)) : Now K S T W a d m s l (upd H th (.lst ys)) ∧ Kp S H0 (upd H th (.lst ys)) := by
  have k2 : Kp S H0 (upd H th (.lst ys)) := fun b o h t q => (upd_ne (ne_of_none q nt)).trans (k b o h t q)
  refine ⟨⟨⟨?_, ?_⟩, fun p hp => ?_, k2.atl n0.st n0.nd n0.nl n0.at_, n.nd, n.nl⟩, k2⟩
  · have go : ∀ {u : HO}, H0 S.c = some u → (∀ kvs, u ≠ .dK kvs) → (∀ ps, u ≠ .tbl ps) → upd H th (.lst ys) S.c = some u := fun q nk nt2 => k2 _ _ (let ⟨_, _, _, z⟩ := n0.st.st; ne_of q z (nk _)) nt2 q
    exact n0.st.cells.elim (fun h => .inl (h.elim (fun h => .inl (go h (fun _ z => nomatch z) (fun _ z => nomatch z))) fun ⟨o, h⟩ => .inr ⟨o, go h (fun _ z => nomatch z) (fun _ z => nomatch z)⟩)) fun h => .inr h
  · obtain ⟨kk, ll, mm, est⟩ := n.st.st
    exact ⟨kk, ll, mm, (upd_ne (ne_of est e (fun z => nomatch z))).trans est⟩
  · obtain ⟨ps, h1, h2, h3⟩ := n.tabs p hp
    refine ⟨ps, (upd_ne (ne_of h1 e (fun z => nomatch z))).trans h1, h2, fun pos cv hc => ?_⟩
    obtain ⟨c, e1, e2⟩ := h3 pos cv hc
    refine ⟨c, e1, (upd_ne (ne_of e2 e ?_)).trans e2⟩
    intro z
    unfold CodeO at z
    cases z
end
section
variable {P : Program} {w : World} {K : PySem.W.Frag} {mg : Str → Option Value} {base : Heap} {f : Addr} {fd : FuncData}
/-- what the law knows ahead of its second task -/
structure Mid2 (K : PySem.W.Frag) (S : SA) (T : List (Addr × Str)) (W : Tk) (wv : Str → Str) (ns2 : List Str) (more : Int) (a d m s l wd : Addr) (v : V) (H : Hp) : Prop where
  now : Now K S T W a d m s l H
  ok : W.Ok
  lnd : W.ls.Nodup
  few : W.met.length ≤ 100
  ans : AnsAt H v (pairedN W)
  ways : H wd = some (.dK (wOf W.ns wv))
  nw : wd ≠ S.st
  nwl : wd ≠ l
  n2 : ns2 = W.ns.map wv
  cr : Crew W.ns.length ns2
  m0 : 0 ≤ more
  m1 : ∀ z ∈ W.ns, W.pt z + more ≤ 100
theorem tups_prs {H : Hp} : ∀ {ps : List (Str × Str)} {xs : List V}, Tups H (ps.map prV) xs → Paired (fun p v => ∃ t, v = .ref t ∧ H t = some (.tup (prV p))) ps xs
  | [], _, .nil => .nil
  | _ :: _, _, .cons h r => .cons h (tups_prs r)
theorem prs_tups {H : Hp} : ∀ {ps : List (Str × Str)} {xs : List V}, Paired (fun p v => ∃ t, v = .ref t ∧ H t = some (.tup (prV p))) ps xs → Tups H (ps.map prV) xs
  | _, _, .nil => .nil
  | _, _, .cons h r => .cons h (prs_tups r)
theorem strs_paired : ∀ zs : List Str, Paired (fun z (v : V) => v = .str z) zs (zs.map V.str)
  | [] => .nil
  | z :: zs => .cons rfl (strs_paired zs)
theorem paired_strs : ∀ {zs : List Str} {ys : List V}, Paired (fun z (v : V) => v = .str z) zs ys → ys = zs.map V.str
  | _, _, .nil => rfl
  | _, _, .cons h r => by rw [h, paired_strs r]; rfl
theorem nodup_map {ns : List Str} {wv : Str → Str} (h : ∀ x ∈ ns, ∀ y ∈ ns, wv x = wv y → x = y) : ∀ {ls : List Str}, (∀ z ∈ ls, z ∈ ns) → ls.Nodup → (ls.map wv).Nodup
  | [], _, _ => List.nodup_nil
  | z :: ls, hs, nd => by
    rw [List.nodup_cons] at nd
    rw [List.map_cons, List.nodup_cons]
    refine ⟨fun hm => ?_, nodup_map h (fun y hy => hs y (List.mem_cons_of_mem _ hy)) nd.2⟩
    obtain ⟨y, hy, e⟩ := List.mem_map.mp hm
    exact nd.1 (h _ (hs y (List.mem_cons_of_mem _ hy)) _ (hs z List.mem_cons_self) e ▸ hy)
theorem dOf_map {ls : List Str} {wv : Str → Str} {f g : Str → Int} (h : ∀ z ∈ ls, g (wv z) = f z) : strK (ls.map fun z => (wv z, V.int (f z))) = dOf (ls.map wv) g := by
  unfold strK dOf
  rw [List.map_map, List.map_map]
  refine List.map_congr_left fun z hz => ?_
  show ((Sum.inr (wv z) : Key), V.int (f z)) = (Sum.inr (wv z), V.int (g (wv z)))
  rw [h z hz]
theorem law_mid {T : List (Addr × Str)} {cdv : Value} {A : Around} {outer : List Env} {s0 : Shared} {H0 : Hp} {E : XK} {Q : VK} (B : Bl mg) (Pk : Cal P w K mg base CX0 3 "_law_pick" ["_law_state", "_law_some_here"] (spPick K)) (As : Cal P w K mg base CX0 14 "_law_asked" ["_law_task_here", "_law_way"] (spAsk K T))
    (Nb : Cal P w K mg base CX0 2 "_law_no_better" ["_law_found", "_law_other", "_law_score"] spNob) (Tu : Cal P w K mg base CX0 3 "_law_turned" ["_law_state", "_law_some_here"] (spTurn K)) (Ld : Cal P w K mg base CX0 1 "_law_led_over" ["_law_found", "_law_ways"] spLed) (hr : Room 14 (A.deeper (envOfC "law" (defScope (topS 38)) s0.heap.objs.size f cdv))) :
    ∃ tt, PSs (cxOf CX0 P w K mg base nLaw "law" (defScope (topS 38)) f cdv A outer s0 H0 E).nox ((defBody (topS 38)).drop 6) tt ∧ ∀ (S : SA) (W : Tk) (wv : Str → Str) (ns2 : List Str) (more : Int) (a d m s l wd : Addr) (v : V) (y0 y2 : Option V) (H : Hp), Mid2 K S T W wv ns2 more a d m s l wd v H → (∀ H2, Q (.bl true) H2) →
      tt { nx := fun _ H' => Q .non H', rt := Q } [y0, some (.ref S.st), y2, some (.ref a), some (.ref d), some (.ref m), some (.ref s), some (.ref l), some v, some (.ref wd), some (.int more), none, none, none, none, none] H := by
  obtain ⟨tt, hts, htr⟩ := law_tail (cdv := cdv) (A := A) (outer := outer) (s0 := s0) (H0 := H0) (E := E) (Q := Q) (f := f) B Pk As Nb hr
  refine ⟨_, pss_cons (ps_set (i := 12) scLaw.nd rfl (.inl rfl) (pe_lst (pa_cons (pe_lc (own := [("_law_one", 11)]) (g := gName 11) rfl scLaw.nd (pi_list (pv 3)) (blkOk_by (own := [("_law_one", 11)]) (N := nLaw) (sc := defScope (topS 38)) (by decide +kernel)) (fun _ _ _ _ _ => pg_name (i := 11) scLaw.nd rfl (Or.inl rfl)) (fun _ _ _ _ _ => pts_nil) (fun _ _ _ _ _ => (pe_dget (hu_of hr) (pv 9) (pv 11) (fun _ _ => rfl)))) (pa_cons (pe_callTy (cr_dictP rfl) (by rfl) (B.no "dict") (by decide +kernel) (pa_cons (pe_lc (own := [("_law_one", 11)]) (g := gName 11) rfl scLaw.nd (pi_list (pv 3)) (blkOk_by (own := [("_law_one", 11)]) (N := nLaw) (sc := defScope (topS 38)) (by decide +kernel)) (fun _ _ _ _ _ => pg_name (i := 11) scLaw.nd rfl (Or.inl rfl)) (fun _ _ _ _ _ => pts_nil) (fun _ _ _ _ _ => (pe_tup (pa_cons (pe_dget (hu_of hr) (pv 9) (pv 11) (fun _ _ => rfl)) (pa_cons (pe_op op_add (pe_dget (hu_of hr) (pv 4) (pv 11) (fun _ _ => rfl)) (pv 10)) pa_nil))))) pa_nil)) pa_nil)))) (pss_cons
    (ps_expr (pe_bm PySem.F.plainAttrs_list PySem.F.slot_list_append PySem.F.type_list_append mt_append (pv 12) (pa_cons (pe_lc (own := [("_law_one", 11), ("_law_other", 13)]) (g := gTup K 2 (gCons (gName 11) (gCons (gName 13) gNil))) rfl scLaw.nd (pi_list (pe_cal Tu (hr.mono (by decide)) (pa_cons (pv 1) (pa_cons (pv 5) pa_nil)))) (blkOk_by (own := [("_law_one", 11), ("_law_other", 13)]) (N := nLaw) (sc := defScope (topS 38)) (by decide +kernel)) (fun _ _ _ _ _ => pg_tup rfl (pgs_cons (pg_name (i := 11) scLaw.nd rfl (Or.inl rfl)) (pgs_cons (pg_name (i := 13) scLaw.nd rfl (Or.inl rfl)) pgs_nil))) (fun _ _ _ _ _ => pts_nil) (fun _ _ _ _ _ => (pe_tup (pa_cons (pe_dget (hu_of hr) (pv 9) (pv 13) (fun _ _ => rfl)) (pa_cons (pe_dget (hu_of hr) (pv 9) (pv 11) (fun _ _ => rfl)) pa_nil))))) pa_nil))) (pss_cons
    (ps_set (i := 12) scLaw.nd rfl (.inl rfl) (pe_op op_cat (pv 12) (pe_lst (pa_cons (pe_lc (own := [("_law_one", 11)]) (g := gName 11) rfl scLaw.nd (pi_list (pe_cal Tu (hr.mono (by decide)) (pa_cons (pv 1) (pa_cons (pv 6) pa_nil)))) (blkOk_by (own := [("_law_one", 11)]) (N := nLaw) (sc := defScope (topS 38)) (by decide +kernel)) (fun _ _ _ _ _ => pg_name (i := 11) scLaw.nd rfl (Or.inl rfl)) (fun _ _ _ _ _ => pts_nil) (fun _ _ _ _ _ => (pe_dget (hu_of hr) (pv 9) (pv 11) (fun _ _ => rfl)))) (pa_cons (pe_callTy (cr_dictP rfl) (by rfl) (B.no "dict") (by decide +kernel) (pa_cons (pe_lock (pe_lc (own := [("_law_one", 11)]) (g := gName 11) rfl scLaw.nd (pi_keys (pv 7)) (blkOk_by (own := [("_law_one", 11)]) (N := nLaw) (sc := defScope (topS 38)) (by decide +kernel)) (fun _ _ _ _ _ => pg_name (i := 11) scLaw.nd rfl (Or.inl rfl)) (fun _ _ _ _ _ => pts_nil) (fun _ _ _ _ _ => (pe_tup (pa_cons (pe_dget (hu_of hr) (pv 9) (pv 11) (fun _ _ => rfl)) (pa_cons (pe_dget (hu_of hr) (pv 7) (pv 11) (fun _ _ => rfl)) pa_nil)))))) pa_nil)) pa_nil)))))  (pss_cons
    (ps_if (pt_cmpR (op_neD hr.units) (pe_cal As (hr.mono (by decide)) (pa_cons (pv 12) (pa_cons pe_int pa_nil))) (pe_cal Ld (hr.mono (by decide)) (pa_cons (pv 8) (pa_cons (pv 9) pa_nil))) (nomark _)) (pss_one (ps_ret pe_bl)) pss_nil) hts))), fun S W wv ns2 more a d m s l wd v y0 y2 H mi q => ?_⟩
  obtain ⟨now, ok, lnd, few, ans, ways, nw, nwl, n2, cr, m0, m1⟩ := mi
  have h2 := ok.names.lo
  have h10 := ok.names.hi
  have hlen : (W.ns.map V.str).length = W.ns.length := List.length_map ..
  have big : ∀ n : Nat, n ≤ 1000 → n < sizeLine := fun n h => Nat.lt_of_le_of_lt h (by decide)
  have wget : ∀ {G : Hp} {z : Str}, G wd = some (.dK (wOf W.ns wv)) → z ∈ W.ns → DGet G wd (.str z) (some (.str (wv z))) := fun h hz => .inl ⟨_, Sum.inr _, .inl h, rfl, (wOf_in hz).symm⟩
  have idx2 : ∀ z ∈ W.ns, ns2.idxOf (wv z) = W.ns.idxOf z := fun z hz => idx_nodup cr.nd (by rw [n2, List.getElem?_map, idx_at hz]; rfl)
  have inj : ∀ x ∈ W.ns, ∀ y ∈ W.ns, wv x = wv y → x = y := fun x hx y hy e => by rw [← nm_idx hx, ← nm_idx hy, ← idx2 x hx, ← idx2 y hy, e]
  have hiv : ∀ z ∈ W.ns, nm W.ns (ns2.idxOf (wv z)) = z := fun z hz => by rw [idx2 z hz, nm_idx hz]
  refine ⟨_, rfl, a, rfl, ⟨_, .of now.at_.ns⟩, fun D1 nD1 => ?_⟩
  refine lc_map rl_same walk_list (L := W.ns) hlen (fun _ => true) (fun z => V.str (wv z)) (by rw [hlen]; exact big _ (by omega)) nD1 (same_new nD1) (fun H1 s1 => .of (s1 _ _ now.at_.ns)) (fun i z x H1 H2 Kt Kf hz s1 y kt kf => ?_) fun H1 s1 e1 => ?_
  · obtain ⟨rfl, hx⟩ := y
    rw [List.getElem?_map, hz] at hx
    obtain rfl : V.str z = x := Option.some.inj hx
    exact ⟨rfl, iteT (B := True) ⟨_, rfl, _, rfl, wd, .str (wv z), rfl, wget (s1 _ _ ways) (List.mem_of_getElem? hz), kt rfl _ (Same.refl _)⟩⟩
  have e1 : H1 D1 = some (.lst (ns2.map V.str)) := by
    rw [e1, n2, List.map_map, show (W.ns.filter fun _ => true) = W.ns from List.filter_eq_self.mpr fun _ _ => rfl]
    rfl
  refine ⟨_, rfl, a, rfl, ⟨_, .of (s1 _ _ now.at_.ns)⟩, fun D2 nD2 => ?_⟩
  refine lc_gen rl_same walk_list (fun i H acc => Tups H (((W.ns.take i).map fun z => (wv z, V.int (W.pt z + more))).map fun q => [V.str q.1, q.2]) acc) (by rw [hlen]; exact big _ (by omega)) nD2 (same_new nD2) .nil (fun j H acc h => ?_) (fun j H acc xs ys e h => h.mono fun t ws q => (upd_ne (ne_of q e (fun z => nomatch z))).trans q) (fun H2 s2 => .of (s2 _ _ (s1 _ _ now.at_.ns))) (fun j x H2 H3 acc Kt Kf hj s2 eD hacc y kt kf => ?_) fun H2 acc s2 eD hacc => ?_
  · rw [← Paired.length h, List.length_map, List.length_map]
    exact List.length_take_le _ _
  · obtain ⟨rfl, hx⟩ := y
    obtain ⟨z, hz, rfl, hm⟩ := at_map hx
    have s12 := s1.trans s2
    refine ⟨rfl, iteT (B := True) ⟨_, rfl, _, rfl, wd, .str (wv z), rfl, wget (s12 _ _ ways) hm, _, rfl, _, rfl, d, .int (W.pt z), rfl, .inl ⟨_, Sum.inr z, .inl (s12 _ _ now.at_.pt), rfl, (dOf_in hm).symm⟩, _, rfl, _, _, rfl, rfl, by show 2 ≤ sizeLine; decide, fun t5 nt5 => ?_⟩⟩
    have s5 := same_new (o := .tup [.str (wv z), .int (W.pt z + more)]) nt5
    refine kt _ _ s5 ?_
    rw [List.take_add_one, hz]
    simp only [Option.toList_some, List.map_append, List.map_cons, List.map_nil]
    exact (hacc.same s5).snoc upd_same
  rw [hlen, List.take_length] at hacc
  refine ⟨D2, acc, _, rfl, .of eD, hacc, ?_, fun d2 nd2 => ?_⟩
  · rw [List.map_map]
    show (W.ns.map wv).Nodup
    rw [← n2]
    exact cr.nd
  rw [dOf_map (g := fun z => W.pt (nm W.ns (ns2.idxOf z)) + more) fun z hz => by rw [hiv z hz], ← n2]
  have s3 := same_new (o := .dK (dOf ns2 fun z => W.pt (nm W.ns (ns2.idxOf z)) + more)) nd2
  have ed2 : upd H2 d2 (.dK (dOf ns2 fun z => W.pt (nm W.ns (ns2.idxOf z)) + more)) d2 = some (.dK (dOf ns2 fun z => W.pt (nm W.ns (ns2.idxOf z)) + more)) := upd_same
  have s13 := s1.trans (s2.trans s3)
  have e13 := s3 _ _ (s2 _ _ e1)
  have d2st : d2 ≠ S.st := fun e => by
    obtain ⟨k, l', m', q⟩ := (now.st.same (s1.trans s2)).st
    rw [e, q] at nd2
    cases nd2
  generalize upd H2 d2 (.dK (dOf ns2 fun z => W.pt (nm W.ns (ns2.idxOf z)) + more)) = H3 at s3 ed2 s13 e13
  refine ⟨by show 2 ≤ sizeLine; decide, fun th nth => ?_⟩
  have s4 := same_new (o := .lst [.ref D1, .ref d2]) nth
  have eth : upd H3 th (.lst [.ref D1, .ref d2]) th = some (.lst [.ref D1, .ref d2]) := upd_same
  have nt0 : H th = none := s13.free nth
  have nD1th : D1 ≠ th := ne_of_none e13 nth
  have s14 := s13.trans s4
  have e14 := s4 _ _ e13
  have ed4 := s4 _ _ ed2
  generalize upd H3 th (.lst [.ref D1, .ref d2]) = H4 at s4 eth s14 e14 ed4
  have now4 := now.same s14
  have kp4 : Kp S H H4 := Kp.same s14
  obtain ⟨xs, hm, tm⟩ := now4.at_.met
  have lxs : xs.length = W.met.length := by rw [← Paired.length tm, List.length_map]
  refine ⟨_, rfl, .inl ⟨rfl, _, .of eth⟩, ?_⟩
  refine ⟨_, rfl, _, rfl, S, m, xs, rfl, now4.st, .of hm, by omega, fun H5 p ys mv np ep perm => ⟨p, rfl, ⟨_, .of ep⟩, fun D3 nD3 => ?_⟩⟩
  obtain ⟨m2, pm2, tp2⟩ := paired_perm (tups_prs (mv.tups tm)) perm
  have tp2 := prs_tups tp2
  have lys : ys.length = m2.length := by rw [← Paired.length tp2, List.length_map]
  have lm2 : m2.length = W.met.length := pm2.length_eq
  have now5 := now4.mv mv
  have kp5 : Kp S H H5 := kp4.trans (Kp.mv mv)
  have m2in : ∀ q ∈ m2, q.1 ∈ W.ns ∧ q.2 ∈ W.ns ∧ q.1 ≠ q.2 := fun q hq => ok.met q (pm2.mem_iff.mp hq)
  have wy5 := kp5.dk nw ways
  refine lc_gen rl_same walk_list (fun j H acc => Tups H (((m2.take j).map fun p => (wv p.2, wv p.1)).map prV) acc) (by rw [lys]; exact big _ (by omega)) nD3 (same_new nD3) .nil (fun j H acc h => ?_) (fun j H acc xs ys e h => h.mono fun t ws q => (upd_ne (ne_of q e (fun z => nomatch z))).trans q) (fun H6 s6 => .of (s6 _ _ ep)) (fun j x H6 H7 acc Kt Kf hj s6 eD hacc y kt kf => ?_) fun H6 acc3 s6 eD3 hacc3 => ?_
  · rw [← Paired.length h, List.length_map, List.length_map]
    exact List.length_take_le _ _
  · obtain ⟨rfl, hx⟩ := y
    obtain ⟨zs, g1, t1, rfl, g2⟩ := paired_at (tp2.same s6) j x hx
    rw [List.getElem?_map] at g1
    obtain ⟨q2, e1', rfl⟩ := Option.map_eq_some_iff.mp g1
    obtain ⟨g3, g4, _⟩ := m2in q2 (List.mem_of_getElem? e1')
    refine ⟨t1, _, rfl, .of g2, rfl, _, _, rfl, _, _, rfl, rfl, rfl, iteT (B := True) ⟨_, rfl, _, rfl, wd, .str (wv q2.2), rfl, wget (s6 _ _ wy5) g4, _, rfl, _, rfl, wd, .str (wv q2.1), rfl, wget (s6 _ _ wy5) g3, by show 2 ≤ sizeLine; decide, fun t5 nt5 => ?_⟩⟩
    have s5 := same_new (o := .tup [.str (wv q2.2), .str (wv q2.1)]) nt5
    refine kt _ _ s5 ?_
    rw [List.take_add_one, e1']
    simp only [Option.toList_some, List.map_append, List.map_cons, List.map_nil]
    exact (hacc.same s5).snoc upd_same
  rw [lys, List.take_length] at hacc3
  have eth6 := s6 _ _ (mv.lst eth)
  refine ⟨th, _, _, rfl, rfl, eth6, by show 2 < sizeLine; decide, ?_⟩
  have now6 := now5.same s6
  have kp6 := kp5.trans (Kp.same s6)
  obtain ⟨now7, kp7⟩ := now.putL (ys := [.ref D1, .ref d2] ++ [.ref D3]) nt0 kp6 now6 eth6
  have eth7 : upd H6 th (.lst ([.ref D1, .ref d2] ++ [.ref D3])) th = some (.lst [.ref D1, .ref d2, .ref D3]) := upd_same
  have e17 : upd H6 th (.lst ([.ref D1, .ref d2] ++ [.ref D3])) D1 = some (.lst (ns2.map V.str)) := (upd_ne nD1th).trans (s6 _ _ (mv.lst e14))
  have ed7 : upd H6 th (.lst ([.ref D1, .ref d2] ++ [.ref D3])) d2 = some (.dK (dOf ns2 fun z => W.pt (nm W.ns (ns2.idxOf z)) + more)) := (upd_ne (ne_of ed4 eth (fun z => nomatch z))).trans (s6 _ _ (mv.kp _ _ d2st ed4))
  have nD3th : D3 ≠ th := (ne_of_none (mv.lst eth) nD3).symm
  have e37 : upd H6 th (.lst ([.ref D1, .ref d2] ++ [.ref D3])) D3 = some (.lst acc3) := (upd_ne nD3th).trans eD3
  have t37 : Tups (upd H6 th (.lst ([.ref D1, .ref d2] ++ [.ref D3]))) ((m2.map fun p => (wv p.2, wv p.1)).map prV) acc3 := hacc3.mono fun t zs q => (upd_ne (ne_of q eth6 (fun z => nomatch z))).trans q
  generalize upd H6 th (.lst ([.ref D1, .ref d2] ++ [.ref D3])) = H7 at now7 kp7 eth7 e17 ed7 e37 t37
  refine ⟨_, rfl, ?_⟩
  have lsat : (W.sat.map V.str).length = W.sat.length := List.length_map ..
  have hsf := ok.sfew
  refine ⟨_, rfl, _, rfl, S, s, _, rfl, now7.st, .of now7.at_.sat, by rw [lsat]; exact hsf, fun H8 p2 ys2 mv8 np2 ep2 perm2 => ⟨p2, rfl, ⟨_, .of ep2⟩, fun D4 nD4 => ?_⟩⟩
  obtain ⟨s2', ps2, ts2⟩ := paired_perm (strs_paired W.sat) perm2
  obtain rfl := paired_strs ts2
  have sin : ∀ z ∈ s2', z ∈ W.ns := fun z hz => ok.sat z (ps2.mem_iff.mp hz)
  have ls2 : s2'.length = W.sat.length := ps2.length_eq
  have now8 := now7.mv mv8
  have kp8 := kp7.trans (Kp.mv mv8)
  have wy8 := kp8.dk nw ways
  refine lc_map rl_same walk_list (L := s2') (List.length_map ..) (fun _ => true) (fun z => V.str (wv z)) (by rw [List.length_map, ls2]; exact big _ hsf) nD4 (same_new nD4) (fun H9 s9 => .of (s9 _ _ ep2)) (fun i z x H9 H10 Kt Kf hz s9 y kt kf => ?_) fun H9 s9 e9 => ?_
  · obtain ⟨rfl, hx⟩ := y
    rw [List.getElem?_map, hz] at hx
    obtain rfl : V.str z = x := Option.some.inj hx
    exact ⟨rfl, iteT (B := True) ⟨_, rfl, _, rfl, wd, .str (wv z), rfl, wget (s9 _ _ wy8) (sin z (List.mem_of_getElem? hz)), kt rfl _ (Same.refl _)⟩⟩
  have e9 : H9 D4 = some (.lst ((s2'.map wv).map V.str)) := by
    rw [e9, List.map_map, show (s2'.filter fun _ => true) = s2' from List.filter_eq_self.mpr fun _ _ => rfl]
    rfl
  have now9 := now8.same s9
  have kp9 := kp8.trans (Kp.same s9)
  have wy9 := kp9.dk nw ways
  have hl9 := now9.at_.led
  have llen : (dOf W.ls W.fi).length = W.ls.length := List.length_map ..
  have lls := ok.led.few
  refine ⟨l, _, hl9, trivial, fun od => ⟨_, rfl, l, od, rfl, .inl ⟨_, upd_same, fun D5 nD5 => ?_⟩⟩⟩
  refine lc_gen rl_same walk_keys (fun i H acc => Tups H (((W.ls.take i).map fun z => (wv z, V.int (W.fi z))).map fun q => [V.str q.1, q.2]) acc) (by rw [llen]; exact big _ (by omega)) nD5 (same_new nD5) .nil (fun j H acc h => ?_) (fun j H acc xs ys e h => h.mono fun t ws q => (upd_ne (ne_of q e (fun z => nomatch z))).trans q) (fun H10 s10 => s10 _ _ upd_same) (fun j x H10 H11 acc Kt Kf hj s10 eD hacc y kt kf => ?_) fun H10 acc5 s10 eD5 hacc5 => ?_
  · rw [← Paired.length h, List.length_map, List.length_map]
    exact List.length_take_le _ _
  · obtain ⟨rfl, k, u, hk, rfl⟩ := y
    obtain ⟨z, hz, ez, hm⟩ : ∃ z, W.ls[j]? = some z ∧ (k, u) = (Sum.inr z, V.int (W.fi z)) ∧ z ∈ W.ls := by
      unfold dOf at hk
      rw [List.getElem?_map] at hk
      obtain ⟨z, e1, e2⟩ := Option.map_eq_some_iff.mp hk
      exact ⟨z, e1, e2.symm, List.mem_of_getElem? e1⟩
    cases ez
    have hzn := (ok.led.of z hm).1
    refine ⟨rfl, iteT (B := True) ⟨_, rfl, _, rfl, wd, .str (wv z), rfl, wget (s10 _ _ ((upd_ne nwl).trans wy9)) hzn, _, rfl, _, rfl, l, .int (W.fi z), rfl, .inl ⟨_, Sum.inr z, .inr ⟨od, s10 _ _ upd_same⟩, rfl, (dOf_in hm).symm⟩, by show 2 ≤ sizeLine; decide, fun t5 nt5 => ?_⟩⟩
    have s5 := same_new (o := .tup [.str (wv z), .int (W.fi z)]) nt5
    refine kt _ _ s5 ?_
    rw [List.take_add_one, hz]
    simp only [Option.toList_some, List.map_append, List.map_cons, List.map_nil]
    exact (hacc.same s5).snoc upd_same
  rw [llen, List.take_length] at hacc5
  have hfz : H10 l = some (.frz od (.dK (dOf W.ls W.fi))) := s10 _ _ upd_same
  have s11 : Same H9 (upd H10 l (.dK (dOf W.ls W.fi))) := same_lock hl9 s10
  have e511 : upd H10 l (.dK (dOf W.ls W.fi)) D5 = some (.lst acc5) := (upd_ne (ne_of eD5 hfz (fun z => nomatch z))).trans eD5
  have t511 : Tups (upd H10 l (.dK (dOf W.ls W.fi))) ((W.ls.map fun z => (wv z, V.int (W.fi z))).map fun q => [V.str q.1, q.2]) acc5 := hacc5.mono fun t zs q => (upd_ne (ne_of q hfz (fun z => nomatch z))).trans q
  refine ⟨hfz, ?_⟩
  generalize upd H10 l (.dK (dOf W.ls W.fi)) = H11 at s11 e511 t511
  refine ⟨D5, acc5, _, rfl, .of e511, t511, ?_, fun d6 nd6 => ?_⟩
  · rw [List.map_map]
    show (W.ls.map wv).Nodup
    exact nodup_map inj (fun z hz => (ok.led.of z hz).1) lnd
  rw [dOf_map (g := fun z => W.fi (nm W.ns (ns2.idxOf z))) fun z hz => by rw [hiv z (ok.led.of z hz).1]]
  have s12 := same_new (o := .dK (dOf (W.ls.map wv) fun z => W.fi (nm W.ns (ns2.idxOf z)))) nd6
  have ed12 : upd H11 d6 (.dK (dOf (W.ls.map wv) fun z => W.fi (nm W.ns (ns2.idxOf z)))) d6 = some (.dK (dOf (W.ls.map wv) fun z => W.fi (nm W.ns (ns2.idxOf z)))) := upd_same
  generalize upd H11 d6 (.dK (dOf (W.ls.map wv) fun z => W.fi (nm W.ns (ns2.idxOf z)))) = H12 at s12 ed12
  refine ⟨by show 2 ≤ sizeLine; decide, fun l2 nl2 => ?_⟩
  have s13b := same_new (o := .lst [.ref D4, .ref d6]) nl2
  have s9c := s11.trans (s12.trans s13b)
  have eth13 := s9c _ _ (s9 _ _ (mv8.lst eth7))
  refine ⟨th, l2, _, _, rfl, rfl, eth13, upd_same, by show 5 ≤ sizeLine; decide, fun th2 nth2 => ?_⟩
  have s14b := same_new (o := .lst ([.ref D1, .ref d2, .ref D3] ++ [.ref D4, .ref d6])) nth2
  have eth2 : upd (upd H12 l2 (.lst [.ref D4, .ref d6])) th2 (.lst ([.ref D1, .ref d2, .ref D3] ++ [.ref D4, .ref d6])) th2 = some (.lst [.ref D1, .ref d2, .ref D3, .ref D4, .ref d6]) := upd_same
  have s9d := s9c.trans s14b
  have ed13 := s14b _ _ (s13b _ _ ed12)
  generalize upd (upd H12 l2 (.lst [.ref D4, .ref d6])) th2 (.lst ([.ref D1, .ref d2, .ref D3] ++ [.ref D4, .ref d6])) = H13 at s14b eth2 s9d ed13
  have now13 := now9.same s9d
  have kp13 := kp9.trans (Kp.same s9d)
  have s89 := s9.trans s9d
  have D1_13 := s89 _ _ (mv8.lst e17)
  have D3_13 := s89 _ _ (mv8.lst e37)
  have t3_13 := (mv8.tups t37).same s89
  have d2_13 := s89 _ _ (mv8.kp _ _ d2st ed7)
  have D4_13 := s9d _ _ e9
  let V : Tk := ⟨ns2, fun z => W.pt (nm W.ns (ns2.idxOf z)) + more, m2.map fun p => (wv p.2, wv p.1), s2'.map wv, W.ls.map wv, fun z => W.fi (nm W.ns (ns2.idxOf z))⟩
  have L : Led W V wv more := {
    ns := n2
    nd := ok.names.nd
    nd2 := cr.nd
    pt := fun z hz => by
      show W.pt (nm W.ns (ns2.idxOf (wv z))) + more = _
      rw [hiv z hz]
    met := ⟨m2, pm2, rfl⟩
    mets := fun p hp => ⟨(ok.met p hp).1, (ok.met p hp).2.1⟩
    sat := ⟨s2', ps2, rfl⟩
    sats := ok.sat
    ls := rfl
    lss := fun z hz => (ok.led.of z hz).1
    fi := fun z hz => by
      show W.fi (nm W.ns (ns2.idxOf (wv z))) = _
      rw [hiv z hz] }
  have wmem : ∀ z ∈ W.ns, wv z ∈ ns2 := fun z hz => by rw [n2]; exact List.mem_map_of_mem hz
  have back : ∀ z ∈ ns2, ∃ y ∈ W.ns, z = wv y := fun z hz => by
    rw [n2] at hz
    obtain ⟨y, hy, e⟩ := List.mem_map.mp hz
    exact ⟨y, hy, e.symm⟩
  have okV : V.Ok := {
    names := ⟨by show 2 ≤ ns2.length; rw [cr.len]; exact h2, by show ns2.length ≤ 10; rw [cr.len]; exact h10, cr.nd, cr.good⟩
    pts := ⟨fun z hz => by
      obtain ⟨y, hy, rfl⟩ := back z hz
      refine ⟨hz, cr.good _ hz, ?_⟩
      show 0 ≤ W.pt (nm W.ns (ns2.idxOf (wv y))) + more ∧ W.pt (nm W.ns (ns2.idxOf (wv y))) + more ≤ 100
      rw [hiv y hy]
      have a1 := (ok.pts.of y hy).2.2.1
      exact ⟨by omega, m1 y hy⟩, by show ns2.length ≤ 10; rw [cr.len]; exact h10⟩
    met := fun p hp => by
      obtain ⟨q, hq, rfl⟩ := List.mem_map.mp hp
      obtain ⟨b1, b2, b3⟩ := m2in q hq
      exact ⟨wmem _ b2, wmem _ b1, fun e => b3 (inj _ b2 _ b1 e).symm⟩
    mfew := by
      show (m2.map _).length ≤ 1000
      rw [List.length_map, lm2]
      omega
    sat := fun z hz => by
      obtain ⟨y, hy, rfl⟩ := List.mem_map.mp hz
      exact wmem y (sin y hy)
    sfew := by
      show (s2'.map wv).length ≤ 1000
      rw [List.length_map, ls2]
      exact hsf
    led := ⟨fun z hz => by
      obtain ⟨y, hy, rfl⟩ := List.mem_map.mp hz
      obtain ⟨b1, b2, b3⟩ := ok.led.of y hy
      refine ⟨wmem y b1, cr.good _ (wmem y b1), ?_⟩
      show 0 ≤ W.fi (nm W.ns (ns2.idxOf (wv y))) ∧ W.fi (nm W.ns (ns2.idxOf (wv y))) ≤ 100
      rw [hiv y b1]
      exact b3, by show (W.ls.map wv).length ≤ 10; rw [List.length_map]; exact lls⟩ }
  have atV : V.AtL H13 D1 d2 D3 D4 d6 := ⟨D1_13, d2_13, ⟨acc3, D3_13, t3_13⟩, D4_13, ed13⟩
  refine ⟨_, rfl, V, th2, D1, d2, D3, D4, d6, 1, rfl, eth2, okV, atV, now13.tabs, fun H14 u x14 t14 an => ?_⟩
  have now14 := now13.ext x14 t14
  have kp14 := kp13.trans (Kp.ext x14)
  have av14 := kp14.ans now.st ans
  refine ⟨_, rfl, _, rfl, v, wd, pairedN W, W.ns, wv, rfl, av14, kp14.dk nw ways, pairedN_ok, fun b hb => Nat.le_trans (pairedN_len hb) (Nat.le_trans h10 (by decide)), fun H15 u2 s15 an2 => ?_⟩
  refine ⟨ansD (pairedN V), ansD (ledOver wv (pairedN W)), ans_dp (an.same s15), ans_dp an2, ans_shaped (ns := ns2) cr.good (pairedN_ok (W := V)), ?_, _, rfl, ?_⟩
  · rw [← L.all]
    exact ans_shaped (ns := ns2) cr.good (pairedN_ok (W := V))
  rw [ansD_eqv, decide_eq_true L.all]
  exact iteF (htr S W a d m s l v _ _ _ _ _ _ H15 (now14.same s15) ok few (av14.same s15) q)
end
end K66
set_option Elab.async false
set_option linter.all false
set_option maxRecDepth 100000
set_option maxHeartbeats 4000000
namespace K66
open PySem PySem.Spec PyProof.Rows L2 LamX
/-! ### the law -/
theorem zkv_tups {H : Hp} : ∀ {ns ms : List Str} {ts : List Addr}, Paired (fun (t : Addr) (q : Key × V) => H t = some (.tup [kV q.1, q.2])) ts (zkv ns ms) → Tups H (((ns.zip ms).map fun q => (q.1, V.str q.2)).map fun q => [V.str q.1, q.2]) (ts.map V.ref)
  | [], _, _, .nil => .nil
  | _ :: _, [], _, .nil => .nil
  | _ :: _, _ :: _, _, .cons h r => .cons ⟨_, rfl, h⟩ (zkv_tups r)
def wayOf (ns ms : List Str) : Str → Str := fun z => nm ms (ns.idxOf z)
theorem zip_wOf {ns ms : List Str} (nd : ns.Nodup) (hl : ms.length = ns.length) : strK ((ns.zip ms).map fun p => (p.1, V.str p.2)) = wOf ns (wayOf ns ms) := by
  unfold wOf strK
  rw [List.map_map, List.map_map]
  apply List.ext_getElem?
  intro i
  rw [List.getElem?_map, List.getElem?_map]
  by_cases hi : i < ns.length
  · have hi2 : i < ms.length := by omega
    have ez : ns[i]? = some ns[i] := List.getElem?_eq_getElem hi
    have e : (ns.zip ms)[i]? = some (ns[i], ms[i]) := by
      rw [List.getElem?_zip_eq_some]
      exact ⟨ez, List.getElem?_eq_getElem hi2⟩
    rw [e, ez]
    simp only [Option.map_some, Function.comp]
    congr 3
    unfold wayOf
    rw [idx_nodup nd ez]
    have e2 := nm_at hi2
    rw [List.getElem?_eq_getElem hi2] at e2
    exact Option.some.inj e2
  · rw [List.getElem?_eq_none (show ns.length ≤ i by omega), List.getElem?_eq_none (by rw [List.length_zip]; omega)]
    rfl
theorem zip_fst {ns ms : List Str} (hl : ms.length = ns.length) : ((ns.zip ms).map fun p => (p.1, V.str p.2)).map (·.1) = ns := by
  rw [List.map_map]
  have : ((fun x : Str × V => x.1) ∘ fun p : Str × Str => (p.1, V.str p.2)) = Prod.fst := rfl
  rw [this, List.map_fst_zip (by omega)]
theorem way_map {ns ms : List Str} (nd : ns.Nodup) (hl : ms.length = ns.length) : ms = ns.map (wayOf ns ms) := by
  apply List.ext_getElem?
  intro i
  rw [List.getElem?_map]
  by_cases hi : i < ns.length
  · have hi2 : i < ms.length := by omega
    have ez : ns[i]? = some ns[i] := List.getElem?_eq_getElem hi
    rw [ez, nm_at hi2]
    simp only [Option.map_some]
    unfold wayOf
    rw [idx_nodup nd ez]
  · rw [List.getElem?_eq_none (show ns.length ≤ i by omega), List.getElem?_eq_none (by omega)]
    rfl
section
variable {P : Program} {w : World} {K : PySem.W.Frag} {mg : Str → Option Value} {base : Heap} {f : Addr} {fd : FuncData}
def spLaw (K : PySem.W.Frag) (T : List (Addr × Str)) : Sp := fun vs H Q _ => ∃ (a : Addr) (ns : List Int), vs = [.ref a] ∧ SqL K H a (ns.map V.int) ∧ Tabs T H ∧ ∀ H2, Q (.bl true) H2
theorem ok_law {T : List (Addr × Str)} (F : Fd K mg "law" 38 f fd) (B : Bl mg) (Bg : Cal P w K mg base CX0 1 "_law_begin" ["_law_script"] (spBeg K)) (N : Cal P w K mg base CX0 2 "_law_next" ["_law_state", "_law_many"] (spNext K)) (Tk : Cal P w K mg base CX0 6 "_law_task" ["_law_state", "_law_many"] (spTask K))
    (Cr : Cal P w K mg base CX0 5 "_law_crew" ["_law_state", "_law_many"] (spCrew K)) (Pk : Cal P w K mg base CX0 3 "_law_pick" ["_law_state", "_law_some_here"] (spPick K)) (As : Cal P w K mg base CX0 14 "_law_asked" ["_law_task_here", "_law_way"] (spAsk K T))
    (Nb : Cal P w K mg base CX0 2 "_law_no_better" ["_law_found", "_law_other", "_law_score"] spNob) (Tu : Cal P w K mg base CX0 3 "_law_turned" ["_law_state", "_law_some_here"] (spTurn K)) (Ld : Cal P w K mg base CX0 1 "_law_led_over" ["_law_found", "_law_ways"] spLed) : FnOk P w K mg base CX0 15 f fd ["_law_script"] (spLaw K T) := by
  refine F.fu.ok scLaw (fun vs H Q E h => by obtain ⟨a, ns, rfl, _⟩ := h; rfl) (fun cdv A outer s0 H vs Q E hr h => ?_)
  obtain ⟨tt, hts, htr⟩ := law_mid (cdv := cdv) (A := A) (outer := outer) (s0 := s0) (H0 := H) (E := E) (Q := Q) (f := f) B Pk As Nb Tu Ld hr
  refine ⟨_, PSs.nox (pss_cons (ps_set (i := 1) scLaw.nd rfl (.inl rfl) (pe_cal Bg (hr.mono (by decide)) (pa_cons (pv 0) pa_nil))) (pss_cons
    (ps_set (i := 2) scLaw.nd rfl (.inl rfl) (pe_cal Tk (hr.mono (by decide)) (pa_cons (pv 1) (pa_cons (pe_op op_add pe_int (pe_cal N (hr.mono (by decide)) (pa_cons (pv 1) (pa_cons pe_int pa_nil)))) pa_nil)))) (pss_cons
    (ps_asg (pv 2) (pg_unl rfl (pgs_cons (pg_name (i := 3) scLaw.nd rfl (.inl rfl)) (pgs_cons (pg_name (i := 4) scLaw.nd rfl (.inr rfl)) (pgs_cons (pg_name (i := 5) scLaw.nd rfl (.inl rfl)) (pgs_cons (pg_name (i := 6) scLaw.nd rfl (.inl rfl)) (pgs_cons (pg_name (i := 7) scLaw.nd rfl (.inr rfl)) pgs_nil))))))) (pss_cons
    (ps_set (i := 8) scLaw.nd rfl (.inl rfl) (pe_cal As (hr.mono (by decide)) (pa_cons (pv 2) (pa_cons pe_int pa_nil)))) (pss_cons
    (ps_set (i := 9) scLaw.nd rfl (.inr rfl) (pe_callTy (cr_dictP rfl) (by rfl) (B.no "dict") (by decide +kernel) (pa_cons (pe_listZip rfl (by rfl) (B.no "list") (by rfl) (B.no "zip") (pa_cons (pv 3) (pa_cons (pe_cal Cr (hr.mono (by decide)) (pa_cons (pv 1) (pa_cons (pe_callB call_len_seq (by rfl) (B.no "len") (by decide +kernel) (pa_cons (pv 3) pa_nil)) pa_nil))) pa_nil)) (by decide +kernel)) pa_nil))) (pss_cons
    (ps_set (i := 10) scLaw.nd rfl (.inr rfl) (pe_cal N (hr.mono (by decide)) (pa_cons (pv 1) (pa_cons (pe_op op_sub pe_int (pe_callB (cr_max rfl) (by rfl) (B.no "max") (by decide +kernel) (pa_cons (pe_listVals rfl (pv 4) (by rfl) (B.no "list") (by decide +kernel)) pa_nil))) pa_nil)))) hts)))))), ?_⟩
  obtain ⟨a0, ns0, rfl, hq, tb, q⟩ := h
  refine ⟨_, rfl, a0, ns0, rfl, hq, fun H1 S s1 st1 => ?_⟩
  have tb1 := tb.ext s1
  refine ⟨_, rfl, _, rfl, S, 8, rfl, by decide, by decide, st1, fun H2 r m2 hr8 => ⟨_, _, rfl, rfl, ?_⟩⟩
  have tb2 := tabs_mv tb1 m2
  refine ⟨S, 2 + r, by rw [Int.natCast_add]; rfl, by omega, by omega, m2.b, fun H3 t a d m s l W m3 et ok at3 nd nl lnd few => ?_⟩
  have now3 : Now K S T W a d m s l H3 := ⟨m3.b, tabs_mv tb2 m3, at3, nd, nl⟩
  refine ⟨_, rfl, t, _, rfl, .of et, rfl, _, _, rfl, _, _, rfl, _, _, rfl, _, _, rfl, _, _, rfl, rfl, ?_⟩
  refine ⟨_, rfl, W, t, a, d, m, s, l, 0, rfl, et, ok, at3, now3.tabs, fun H4 v x4 t4 av => ?_⟩
  have now4 := now3.ext x4 t4
  have h2 := ok.names.lo
  have h10 := ok.names.hi
  refine ⟨_, rfl, _, rfl, _, rfl, a, _, rfl, .inl (.of now4.at_.ns), S, W.ns.length, by rw [List.length_map]; rfl, h10, now4.st, fun H5 p ns2 m5 np ep cr => ?_⟩
  have now5 := now4.mv m5
  have av5 := (Kp.mv m5).ans now4.st av
  refine ⟨a, p, W.ns, ns2, rfl, .of now5.at_.ns, .of ep, cr.len.symm, fun H6 z ts s6 nz ez hp => ?_⟩
  have now6 := now5.same s6
  have av6 := av5.same s6
  refine ⟨z, _, _, rfl, .of ez, zkv_tups hp, ?_, fun wd nwd => ?_⟩
  · rw [zip_fst cr.len]
    exact ok.names.nd
  rw [zip_wOf ok.names.nd cr.len]
  have s7 := same_new (o := .dK (wOf W.ns (wayOf W.ns ns2))) nwd
  have e7 : upd H6 wd (.dK (wOf W.ns (wayOf W.ns ns2))) wd = some (.dK (wOf W.ns (wayOf W.ns ns2))) := upd_same
  have nws : wd ≠ S.st := fun e => by
    obtain ⟨k, l', m', q⟩ := now6.st.st
    rw [e, q] at nwd
    cases nwd
  have nwl : wd ≠ l := fun e => by
    rw [e, now6.at_.led] at nwd
    cases nwd
  generalize upd H6 wd (.dK (wOf W.ns (wayOf W.ns ns2))) = H7 at s7 e7
  have now7 := now6.same s7
  have av7 := av6.same s7
  refine ⟨_, rfl, _, rfl, d, _, rfl, now7.at_.pt, fun pv npv => ?_⟩
  have s8 := same_new (o := .lst ((dOf W.ns W.pt).map (·.2))) npv
  have e8 : upd H7 pv (.lst ((dOf W.ns W.pt).map (·.2))) pv = some (.lst ((dOf W.ns W.pt).map (·.2))) := upd_same
  generalize upd H7 pv (.lst ((dOf W.ns W.pt).map (·.2))) = H8 at s8 e8
  have ev : (dOf W.ns W.pt).map (·.2) = (W.ns.map W.pt).map V.int := by
    unfold dOf
    rw [List.map_map, List.map_map]
    rfl
  rw [ev] at e8
  have now8 := now7.same s8
  have av8 := av7.same s8
  refine ⟨pv, W.ns.map W.pt, rfl, .of e8, by rw [List.length_map]; omega, fun M hM hmax => ⟨_, _, rfl, rfl, ?_⟩⟩
  obtain ⟨y, hy, rfl⟩ := List.mem_map.mp hM
  have hy2 := (ok.pts.of y hy).2.2
  refine ⟨S, (101 - W.pt y).toNat, by rw [Int.toNat_of_nonneg (by omega)]; rfl, by omega, by omega, now8.st, fun H9 r9 m9 hr9 => ?_⟩
  have now9 := now8.mv m9
  have av9 := (Kp.mv m9).ans now8.st av8
  refine htr S W (wayOf W.ns ns2) ns2 r9 a d m s l wd v _ _ H9 ⟨now9, ok, lnd, few, av9, m9.kp _ _ nws (s8 _ _ e7), nws, nwl, way_map ok.names.nd cr.len, cr, by omega, fun z hz => ?_⟩ q
  have := hmax (W.pt z) (List.mem_map_of_mem hz)
  omega
end
end K66
set_option Elab.async false
set_option linter.all false
set_option maxRecDepth 100000
set_option maxHeartbeats 4000000
namespace K66
open PySem PySem.Spec PyProof.Rows L2 LamX
section
variable {P : Program} {w : World} {K : PySem.W.Frag} {mg : Str → Option Value} {base h : Heap} {f : Addr}
/-- all defs as they stand, the law's def -/
structure Defs (K : PySem.W.Frag) (mg : Str → Option Value) : Prop where
  d : ∀ (j : Nat) (x : Str) (i : Nat), fnK[j]? = some (mkD x i) → faK[j + 1]? = some (.glo x) → ∃ fd, Fd K mg x i (He.ga K x) fd
  b : Bl mg
  c : Cs mg
  n : NpF K mg (He.ga K "NoPairing")
theorem defs_of (X : K.In h) (G : h.Ns mainGlobals mg) (c : He.SaysX faK fnK [] tfK (fun _ => true) w h K) : Defs K mg where
  d := fun j x i h1 h2 => by
    obtain ⟨fd, F⟩ := c.t.d.def_ j (d := mkD x i) h1
    exact ⟨fd, F, He.glo_ok X G (c.t.d.fact (j + 1) (f := .glo x) h2)⟩
  b := ⟨fun x hx => He.free_ok X G (c.t.d.facts (List.mem_append_left _ (List.mem_append_right _ (List.mem_map_of_mem hx))))⟩
  c := ⟨He.str_ok X G (c.t.d.fact 49 (f := .str "LETTERS" lett) rfl), He.int_ok X G (c.t.d.fact 45 (f := .int "LONGEST" 8) rfl), He.int_ok X G (c.t.d.fact 46 (f := .int "LEAST_NAMES" 2) rfl), He.int_ok X G (c.t.d.fact 47 (f := .int "MOST_NAMES" 10) rfl), He.int_ok X G (c.t.d.fact 48 (f := .int "MOST_SUM" 100) rfl)⟩
  n := by
    obtain ⟨h1, h2, h3, h4⟩ := He.exc_ok (c.t.d.fact 50 (f := .exc "NoPairing") rfl)
    exact ⟨h1, He.glo_ok X G (c.t.d.fact 0 (f := .glo "NoPairing") rfl), h2, h3, h4, He.exm_ok (c.t.d.fact 51 (f := .exm "NoPairing" "NoPairing" true) rfl)⟩
theorem code_of {fd : FuncData} (F : Fd K mg "paired" 20 (He.ga K "paired") fd) : fd.code = .ref (He.codeOf K ("paired", none)) := by
  obtain ⟨oc, od, dV, kV, doc, pm, an, cdv, ct, osl, rfl, lk, hcd, hD, hK⟩ := F.fu.ex
  obtain ⟨c, rfl⟩ := He.codeIn_ref hcd
  have e := He.codeOf_eq (p := ("paired", none)) lk rfl
  rw [e]
/-- the law's def keeps its promise -/
theorem law_ok {Pt : Addr} {fd : FuncData} (D : Defs K mg) (F : Fd K mg "law" 38 f fd) (TB : TabB base mg (He.codeOf K ("paired", none)) Pt) : FnOk P w K mg base CX0 15 f fd ["_law_script"] (spLaw K [(Pt, "paired.<locals>.<lambda>")]) := by
  have B := D.b
  have C := D.c
  have N := D.n
  obtain ⟨_, f1⟩ := D.d 0 "is_name" 6 rfl rfl
  obtain ⟨_, f2⟩ := D.d 1 "is_number" 7 rfl rfl
  obtain ⟨_, f3⟩ := D.d 2 "is_row" 8 rfl rfl
  obtain ⟨_, f4⟩ := D.d 3 "are_entrants" 13 rfl rfl
  obtain ⟨_, f5⟩ := D.d 4 "is_one_of" 14 rfl rfl
  obtain ⟨_, f6⟩ := D.d 5 "are_sums" 15 rfl rfl
  obtain ⟨_, f7⟩ := D.d 6 "is_met" 16 rfl rfl
  obtain ⟨_, f8⟩ := D.d 7 "need_pairable" 17 rfl rfl
  obtain ⟨_, f9⟩ := D.d 8 "least_pairs" 18 rfl rfl
  obtain ⟨_, f10⟩ := D.d 9 "barred_of" 19 rfl rfl
  obtain ⟨_, f11⟩ := D.d 10 "paired" 20 rfl rfl
  obtain ⟨_, f12⟩ := D.d 11 "in_order" 21 rfl rfl
  obtain ⟨_, f13⟩ := D.d 12 "_law_begin" 23 rfl rfl
  obtain ⟨_, f14⟩ := D.d 13 "_law_more" 24 rfl rfl
  obtain ⟨_, f15⟩ := D.d 14 "_law_next" 25 rfl rfl
  obtain ⟨_, f16⟩ := D.d 15 "_law_pick" 26 rfl rfl
  obtain ⟨_, f17⟩ := D.d 16 "_law_word" 27 rfl rfl
  obtain ⟨_, f18⟩ := D.d 17 "_law_crew" 28 rfl rfl
  obtain ⟨_, f19⟩ := D.d 18 "_law_scores" 29 rfl rfl
  obtain ⟨_, f20⟩ := D.d 19 "_law_done" 30 rfl rfl
  obtain ⟨_, f21⟩ := D.d 20 "_law_some" 31 rfl rfl
  obtain ⟨_, f22⟩ := D.d 21 "_law_task" 32 rfl rfl
  obtain ⟨_, f23⟩ := D.d 22 "_law_asked" 33 rfl rfl
  obtain ⟨_, f24⟩ := D.d 23 "_law_turned" 34 rfl rfl
  obtain ⟨_, f25⟩ := D.d 24 "_law_led_over" 35 rfl rfl
  obtain ⟨_, f26⟩ := D.d 25 "_law_cost" 36 rfl rfl
  obtain ⟨_, f27⟩ := D.d 26 "_law_no_better" 37 rfl rfl
  have nm := ok_name (P := P) (w := w) (base := base) f1 B C
  have nu := ok_num (P := P) (w := w) (base := base) f2 B
  have ro := ok_row f3 B nu
  have en := ok_ent f4 B C nm ro
  have on := ok_one f5 nm
  have su := ok_sums f6 B C nu on
  have me := ok_met f7 B on
  have nd := ok_need f8 B en su ro me on
  have lp := ok_lp (P := P) (w := w) (base := base) f9 B
  have ba := ok_bar (P := P) (w := w) (base := base) f10 B
  have od := ok_ord (P := P) (w := w) (base := base) f12
  have pr := ok_paired f11 B N (code_of f11) TB nd lp ba od
  have as := ok_ask f23 B N f11 pr
  have bg := ok_beg (P := P) (w := w) (base := base) f13 B
  have mo := ok_more (P := P) (w := w) (base := base) f14 B
  have nx := ok_next f15 mo
  have pk := ok_pick f16 B nx
  have wd := ok_word f17 B nx pk
  have cr := ok_crew f18 B wd
  have sc := ok_sco f19 B nx
  have dn := ok_done f20 B nx
  have so := ok_some f21 nx
  have tk := ok_task f22 B nx cr sc dn so
  have tu := ok_turn f24 B nx
  have ld := ok_led (P := P) (w := w) (base := base) f25
  have co := ok_cost (P := P) (w := w) (base := base) f26 B
  have nb := ok_nob f27 co
  exact ok_law F B bg nx tk cr pk as nb tu ld
theorem law_facts (X : K.In h) (G : h.Ns mainGlobals mg) (hfa : mg ("law" : Str) = some (.ref f)) (c : He.SaysX faK fnK [] tfK (fun _ => true) w h K) : LawAtS rwK w K CX0 15 63 "_law_script" mg f h := by
  have D := defs_of X G c
  obtain ⟨fd, F⟩ := D.d 27 "law" 38 rfl rfl
  have e := hfa.symm.trans F.gl
  cases e
  have m : ∀ p ∈ [He.cT K ("paired", none)], ∃ q ∈ tfK, p = He.cT K q := fun p hp => ⟨("paired", none), List.mem_cons_self, List.mem_singleton.mp hp⟩
  have b := FunD.bindsA (ps := ["_law_script"]) F.fu fun _ _ _ _ _ _ us hl => match us, hl with | [_], _ => rfl
  refine ⟨fd, [He.cT K ("paired", none)], spLaw K [((He.cT K ("paired", none)).2, "paired.<locals>.<lambda>")], fun p hp => ?_, fun p hp => ?_, fun p hp => ?_, fun s v => b s [v] rfl, fun H a ns hl _ ht hS => ⟨a, ns, rfl, hS, fun p hp => ?_, fun _ => rfl⟩, fun base _ _ tb => ?_⟩
  · obtain ⟨q, hq, rfl⟩ := m p hp
    exact c.empty q hq
  · obtain ⟨q, hq, rfl⟩ := m p hp
    exact c.out q hq
  · obtain ⟨q, hq, rfl⟩ := m p hp
    exact PySem.W.codeHd_of_K X (c.hd q hq)
  · rw [List.mem_singleton.mp hp]
    exact TabS.nil (ht _ List.mem_cons_self)
  · exact law_ok D F (tb _ List.mem_cons_self)
end
end K66
set_option Elab.async false
set_option linter.all false
set_option maxRecDepth 100000
set_option maxHeartbeats 0
open PySem PySem.W PySem.Calls PyProof.Rows
theorem PySem.Challenge.cw_playstead_k66_whole_pairings_led_over_holds : PySem.Challenge.rw_playstead_k66_whole_pairings_led_over.Holds := by
  w_on; o_law
  refine HandSHeadRun.head_any (r := K66.RK) (q := view K66.RK.prog [38]) (H := K66.hkK) (ob := K66.obK) (M := 4000) (loose := K66.looseK) (d := HandSHeadRun.topDef K66.RK.prog 38) (kwd := []) K66.obK_eq
    (by kernel_rfl) (fun s => by kernel_rfl) K66.runK (by kernel_rfl) (by kernel_rfl) (by kernel_rfl) (by rfl) (by first | assumption | decide +kernel) (by decide +kernel) ⟨rfl, rfl, rfl, rfl, rfl, by decide +kernel⟩ ?hw ?hc
  case hw => w_witness2
  case hc =>
    refine LamX.walk_ofTsE (l := PySem.Challenge.rw_playstead_k66_whole_pairings_led_over) (n := 63) (k := 15) (x := "_law_script") (CX := fun _ => L2.CX0) rfl (by decide) (by kernel_rfl) ⟨rfl, by decide, by decide⟩ ?F (fun _ _ _ _ _ z => z)
    intro w mg fa h Y G hmg0
    obtain ⟨K, KX, c⟩ := Y
    have hmg : mg ("law" : PySem.Str) = some (.ref fa) := by
      have e : (HandSHeadRun.topDef K66.RK.prog 38).name = ("law" : PySem.Str) := by kernel_rfl
      rw [← e]
      exact hmg0
    exact ⟨K, KX, K66.law_facts KX G hmg c⟩

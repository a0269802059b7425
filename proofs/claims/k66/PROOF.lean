import PyProof.Rows.All
import Wide.All
import OpenK.AllK
import Wide.FinOn
import KE.KStateDown
import HandS.ForMost
import HandS.Exc
import HandS.ExcInit
import HandS.ExcField
import HandS.Defaults
import HandS.Codes
import HandS.Head0
import HandS.Head1
import HandS.Head2
import HandS.HeadHook1
import HandS.HeadHook2
import HandS.HeadHook3
import HandS.HeadHook4
import HandS.HeadWalk
import PySem.Challenge.RW_narrowahead_k66_whole_never_fewer
import HandS.TupLen
import HandS.Walk
import KE.KDictKeyed
import KE.KDictDisplayH
import KE.KDictWalk
import KE.KPairComp
import HandS.Conv
import HandS.IsInst
import HandS.TupAny
import HandS.TupMul
import HandS.SetFor
import HandS.WordsExc
import HandS.Wide
import PyProof.Rows.StrMeet
import KE.GoesMore
import KE.GoesEnum
import HandS.Style
import HandS.Lambda
import HandS.EndTab
set_option linter.all false
/-! The plain law: pairs of free seats, who is taken, what can be come to. No program in sight. -/
namespace NFM
section
variable {K : Type} [DecidableEq K]
/-- seat s is open to k -/
def opn (ls : List (List K)) (k : K) (s : Nat) : Bool := decide (k ∈ ls.getD s [])
def fsts (ls : List (List K)) (f : List Nat) (k : K) : Option Nat := f.find? (opn ls k)
def drp (f : List Nat) : Option Nat → List Nat
  | none => f
  | some s => f.filter fun o => decide (o ≠ s)
def nxt (ls : List (List K)) (f : List Nat) (k : K) : List Nat := drp f (fsts ls f k)
abbrev Pr := List Nat × List Nat
def nxtP (ls ms : List (List K)) (p : Pr) (k : K) : Pr := (nxt ls p.1 k, nxt ms p.2 k)
def startP (ls ms : List (List K)) : Pr := (List.range ls.length, List.range ms.length)
def runF (ls : List (List K)) (f : List Nat) (r : List K) : List Nat := r.foldl (nxt ls) f
def runP (ls ms : List (List K)) (r : List K) : Pr := r.foldl (nxtP ls ms) (startP ls ms)
def lead (ls ms : List (List K)) (p : Pr) : Int := (ls.length : Int) - p.1.length - ((ms.length : Int) - p.2.length)
def Reach (E : List K) (ls ms : List (List K)) (p : Pr) : Prop := ∃ r : List K, (∀ k ∈ r, k ∈ E) ∧ runP ls ms r = p
/-- all reachable pairs: in a list of at most 3000 -/
def Few (E : List K) (ls ms : List (List K)) : Prop := ∃ F : List Pr, F.length ≤ 3000 ∧ ∀ p, Reach E ls ms p → p ∈ F
def Many (E : List K) (ls ms : List (List K)) : Prop := ∃ F : List Pr, 3000 < F.length ∧ F.Nodup ∧ ∀ p ∈ F, Reach E ls ms p
/-- the one never takes fewer -/
def NF (E : List K) (ls ms : List (List K)) : Prop := ∀ p, Reach E ls ms p → 0 ≤ lead ls ms p

theorem nodup_len {α : Type} [DecidableEq α] : ∀ {l m : List α}, l.Nodup → (∀ x ∈ l, x ∈ m) → l.length ≤ m.length
  | [], _, _, _ => Nat.zero_le _
  | x :: l, m, hn, hs => by
    rw [List.nodup_cons] at hn
    have hx : x ∈ m := hs x List.mem_cons_self
    have ih := nodup_len (l := l) (m := m.erase x) hn.2 fun y hy => by
      have hne : y ≠ x := fun e => hn.1 (e ▸ hy)
      exact (List.mem_erase_of_ne hne).mpr (hs y (List.mem_cons_of_mem _ hy))
    rw [List.length_erase_of_mem hx] at ih
    have hp : 0 < m.length := List.length_pos_of_mem hx
    rw [List.length_cons]
    omega
theorem few_many {E : List K} {ls ms : List (List K)} (h1 : Few E ls ms) (h2 : Many E ls ms) : False := by
  obtain ⟨F, hl, hF⟩ := h1
  obtain ⟨G, hg, hn, hG⟩ := h2
  have := nodup_len hn fun p hp => hF p (hG p hp)
  omega
theorem runP_eq (ls ms : List (List K)) (r : List K) : ∀ p : Pr, r.foldl (nxtP ls ms) p = (runF ls p.1 r, runF ms p.2 r) := by
  unfold runF
  induction r with
  | nil => intro p; rfl
  | cons k r ih => intro p; rw [List.foldl_cons, ih]; rfl
theorem runP_snoc (ls ms : List (List K)) (r : List K) (k : K) : runP ls ms (r ++ [k]) = nxtP ls ms (runP ls ms r) k := by
  unfold runP
  rw [List.foldl_append]
  rfl
theorem reach_start (E : List K) (ls ms : List (List K)) : Reach E ls ms (startP ls ms) := ⟨[], (fun _ h => nomatch h), rfl⟩
theorem reach_step {E : List K} {ls ms : List (List K)} {p : Pr} {k : K} (h : Reach E ls ms p) (hk : k ∈ E) : Reach E ls ms (nxtP ls ms p k) := by
  obtain ⟨r, h1, h2⟩ := h
  refine ⟨r ++ [k], fun j hj => ?_, by rw [runP_snoc, h2]⟩
  rcases List.mem_append.mp hj with z | z
  · exact h1 j z
  · have e : j = k := by simpa using z
    rw [e]; exact hk
/-- closed and the start in it: all that can be come to -/
theorem reach_closed {E : List K} {ls ms : List (List K)} {F : List Pr} (h0 : startP ls ms ∈ F) (hc : ∀ p ∈ F, ∀ k ∈ E, nxtP ls ms p k ∈ F) : ∀ p, Reach E ls ms p → p ∈ F := by
  rintro p ⟨r, hr, rfl⟩
  have all : ∀ (r : List K) (q : Pr), (∀ k ∈ r, k ∈ E) → q ∈ F → r.foldl (nxtP ls ms) q ∈ F := by
    intro r
    induction r with
    | nil => intro q _ hq; exact hq
    | cons k r ih =>
      intro q hk hq
      rw [List.foldl_cons]
      exact ih _ (fun j hj => hk j (List.mem_cons_of_mem _ hj)) (hc q hq k (hk k List.mem_cons_self))
  exact all r _ hr h0
/-! ### free seats -/
theorem nxt_sub (ls : List (List K)) (f : List Nat) (k : K) : (nxt ls f k).Sublist f := by
  unfold nxt drp
  cases fsts ls f k with
  | none => exact List.Sublist.refl _
  | some s => exact List.filter_sublist
theorem runF_sub (ls : List (List K)) : ∀ (r : List K) (f : List Nat), (runF ls f r).Sublist f
  | [], f => List.Sublist.refl _
  | k :: r, f => (runF_sub ls r (nxt ls f k)).trans (nxt_sub ls f k)
theorem fsts_mem {ls : List (List K)} {f : List Nat} {k : K} {s : Nat} (h : fsts ls f k = some s) : s ∈ f := List.mem_of_find?_eq_some h
theorem drop_len : ∀ {f : List Nat} {s : Nat}, f.Nodup → s ∈ f → (f.filter fun o => decide (o ≠ s)).length + 1 = f.length
  | [], _, _, h => nomatch h
  | x :: f, s, hn, hs => by
    rw [List.nodup_cons] at hn
    by_cases e : x = s
    · subst e
      have e2 : (f.filter fun o => decide (o ≠ x)) = f := List.filter_eq_self.mpr fun y hy => decide_eq_true fun z => hn.1 (z ▸ hy)
      rw [List.filter_cons, if_neg (by simp), e2, List.length_cons]
    · rcases List.mem_cons.mp hs with z | z
      · exact absurd z.symm e
      · rw [List.filter_cons, if_pos (decide_eq_true e), List.length_cons, List.length_cons, drop_len hn.2 z]
theorem nxt_len {ls : List (List K)} {f : List Nat} {k : K} (hn : f.Nodup) : nxt ls f k = f ∨ (nxt ls f k).length + 1 = f.length := by
  unfold nxt drp
  cases e : fsts ls f k with
  | none => exact .inl rfl
  | some s => exact .inr (drop_len hn (fsts_mem e))
theorem range_nodup (n : Nat) : (List.range n).Nodup := List.nodup_range
theorem sub_nodup {f g : List Nat} (h : f.Sublist g) (hg : g.Nodup) : f.Nodup := h.nodup hg
/-- how many are taken in a pair -/
def used (ls ms : List (List K)) (p : Pr) : Nat := (ls.length - p.1.length) + (ms.length - p.2.length)
theorem used_step {ls ms : List (List K)} {p : Pr} {k : K} (h1 : p.1.Sublist (List.range ls.length)) (h2 : p.2.Sublist (List.range ms.length)) (hne : nxtP ls ms p k ≠ p) : used ls ms p + 1 ≤ used ls ms (nxtP ls ms p k) := by
  have n1 := sub_nodup h1 (range_nodup _)
  have n2 := sub_nodup h2 (range_nodup _)
  have l1 : p.1.length ≤ ls.length := by have := h1.length_le; rwa [List.length_range] at this
  have l2 : p.2.length ≤ ms.length := by have := h2.length_le; rwa [List.length_range] at this
  obtain ⟨a, b⟩ := p
  unfold used nxtP
  dsimp only at l1 l2 n1 n2 ⊢
  have e1 := nxt_len (ls := ls) (k := k) n1
  have e2 := nxt_len (ls := ms) (k := k) n2
  rcases e1 with e1 | e1 <;> rcases e2 with e2 | e2
  · exact absurd (by unfold nxtP; dsimp only; rw [e1, e2]) hne
  · rw [e1]; omega
  · rw [e2]; omega
  · omega
theorem reach_sub {E : List K} {ls ms : List (List K)} {p : Pr} (h : Reach E ls ms p) : p.1.Sublist (List.range ls.length) ∧ p.2.Sublist (List.range ms.length) := by
  obtain ⟨r, _, rfl⟩ := h
  unfold runP
  rw [runP_eq]
  exact ⟨runF_sub _ _ _, runF_sub _ _ _⟩
theorem used_le (ls ms : List (List K)) (p : Pr) : used ls ms p ≤ ls.length + ms.length := by unfold used; omega
theorem used_start (ls ms : List (List K)) : used ls ms (startP ls ms) = 0 := by unfold used startP; simp
/-! ### who is taken -/
def takes (ls : List (List K)) : List Nat → List K → List (Option Nat)
  | _, [] => []
  | f, k :: r => fsts ls f k :: takes ls (nxt ls f k) r
def many (ls : List (List K)) (r : List K) : Nat := ((takes ls (List.range ls.length) r).filter (·.isSome)).length
theorem takes_count (ls : List (List K)) : ∀ (r : List K) (f : List Nat), f.Nodup → ((takes ls f r).filter (·.isSome)).length + (runF ls f r).length = f.length
  | [], f, _ => by simp [takes, runF]
  | k :: r, f, hn => by
    have ih := takes_count ls r (nxt ls f k) (sub_nodup (nxt_sub ls f k) hn)
    have e : runF ls f (k :: r) = runF ls (nxt ls f k) r := rfl
    rw [e, takes]
    unfold nxt at ih ⊢
    cases q : fsts ls f k with
    | none =>
      rw [q] at ih
      rw [List.filter_cons, if_neg (by simp)]
      exact ih
    | some s =>
      rw [q] at ih
      have d := drop_len hn (fsts_mem q)
      rw [List.filter_cons, if_pos (by rfl), List.length_cons]
      have ih2 : ((takes ls (f.filter fun o => decide (o ≠ s)) r).filter (·.isSome)).length + (runF ls (f.filter fun o => decide (o ≠ s)) r).length = (f.filter fun o => decide (o ≠ s)).length := ih
      show ((takes ls (f.filter fun o => decide (o ≠ s)) r).filter (·.isSome)).length + 1 + (runF ls (f.filter fun o => decide (o ≠ s)) r).length = f.length
      omega
theorem many_run (ls : List (List K)) (r : List K) : many ls r + (runF ls (List.range ls.length) r).length = ls.length := by
  have := takes_count ls r (List.range ls.length) (range_nodup _)
  rw [List.length_range] at this
  exact this
theorem lead_run (ls ms : List (List K)) (r : List K) : lead ls ms (runP ls ms r) = (many ls r : Int) - many ms r := by
  unfold runP
  rw [runP_eq]
  have h1 := many_run ls r
  have h2 := many_run ms r
  unfold lead startP
  dsimp only
  omega
/-! ### small lists never come to too many -/
def subs : List Nat → List (List Nat)
  | [] => [[]]
  | x :: l => subs l ++ (subs l).map (x :: ·)
theorem subs_len : ∀ l : List Nat, (subs l).length = 2 ^ l.length
  | [] => rfl
  | x :: l => by rw [subs, List.length_append, List.length_map, subs_len l, List.length_cons, Nat.pow_succ]; omega
theorem mem_subs : ∀ {f l : List Nat}, f.Sublist l → f ∈ subs l := by
  intro f l h
  induction h with
  | slnil => exact List.mem_singleton.mpr rfl
  | cons x h ih => exact List.mem_append_left _ ih
  | cons_cons x h ih => exact List.mem_append_right _ (List.mem_map.mpr ⟨_, ih, rfl⟩)
def pairsOf (a b : List (List Nat)) : List Pr := a.flatMap fun x => b.map fun y => (x, y)
theorem pairsOf_len : ∀ a b : List (List Nat), (pairsOf a b).length = a.length * b.length
  | [], b => by simp [pairsOf]
  | x :: a, b => by
    have ih := pairsOf_len a b
    unfold pairsOf at ih ⊢
    rw [List.flatMap_cons, List.length_append, ih, List.length_map, List.length_cons, Nat.succ_mul, Nat.add_comm]
theorem not_many {E : List K} {ls ms : List (List K)} (h1 : ls.length ≤ 4) (h2 : ms.length ≤ 4) (h : Many E ls ms) : False := by
  obtain ⟨F, hl, hn, hF⟩ := h
  have := nodup_len (m := pairsOf (subs (List.range ls.length)) (subs (List.range ms.length))) hn fun p hp => by
    obtain ⟨s1, s2⟩ := reach_sub (hF p hp)
    exact List.mem_flatMap.mpr ⟨p.1, mem_subs s1, List.mem_map.mpr ⟨p.2, mem_subs s2, rfl⟩⟩
  rw [pairsOf_len, subs_len, subs_len, List.length_range, List.length_range] at this
  have a : 2 ^ ls.length ≤ 2 ^ 4 := Nat.pow_le_pow_right (by omega) h1
  have b : 2 ^ ms.length ≤ 2 ^ 4 := Nat.pow_le_pow_right (by omega) h2
  have c := Nat.mul_le_mul a b
  omega
/-! ### a list never takes fewer than itself -/
theorem nf_self (E : List K) (ls : List (List K)) : NF E ls ls := by
  rintro p ⟨r, _, rfl⟩
  rw [lead_run]
  omega
/-! ### nor than itself without a seat -/
def shf (a s : Nat) : Nat := if s < a then s else s + 1
theorem shf_inj {a s t : Nat} (h : shf a s = shf a t) : s = t := by unfold shf at h; split at h <;> split at h <;> omega
def cut (ls : List (List K)) (a : Nat) : List (List K) := ls.take a ++ ls.drop (a + 1)
theorem cut_getD {ls : List (List K)} {a : Nat} (ha : a < ls.length) (s : Nat) : (cut ls a).getD s [] = ls.getD (shf a s) [] := by
  unfold cut shf
  rw [List.getD_eq_getElem?_getD, List.getD_eq_getElem?_getD]
  split
  · rename_i h
    rw [List.getElem?_append_left (by rw [List.length_take]; omega), List.getElem?_take_of_lt h]
  · rename_i h
    rw [List.getElem?_append_right (by rw [List.length_take]; omega), List.getElem?_drop, List.length_take]
    have e : a + 1 + (s - min a ls.length) = s + 1 := by omega
    rw [e]
theorem opn_cut {ls : List (List K)} {a : Nat} (ha : a < ls.length) (k : K) (s : Nat) : opn (cut ls a) k s = opn ls k (shf a s) := by
  unfold opn
  rw [cut_getD ha]
theorem find_map {ls : List (List K)} {a : Nat} (ha : a < ls.length) (k : K) : ∀ f : List Nat, (f.map (shf a)).find? (opn ls k) = (f.find? (opn (cut ls a) k)).map (shf a)
  | [] => rfl
  | s :: f => by
    rw [List.map_cons, List.find?_cons, List.find?_cons, opn_cut ha]
    cases opn ls k (shf a s) with
    | true => rfl
    | false => exact find_map ha k f
theorem filter_map {a t : Nat} : ∀ f : List Nat, (f.map (shf a)).filter (fun o => decide (o ≠ shf a t)) = (f.filter fun o => decide (o ≠ t)).map (shf a)
  | [] => rfl
  | s :: f => by
    rw [List.map_cons, List.filter_cons, List.filter_cons]
    have ih := filter_map (a := a) (t := t) f
    by_cases e : s = t
    · subst e
      rw [if_neg (by simp), if_neg (by simp)]
      exact ih
    · have e2 : shf a s ≠ shf a t := fun z => e (shf_inj z)
      rw [if_pos (decide_eq_true e2), if_pos (decide_eq_true e), List.map_cons, ih]
theorem drp_map {a : Nat} (f : List Nat) (o : Option Nat) : drp (f.map (shf a)) (o.map (shf a)) = (drp f o).map (shf a) := by
  cases o with
  | none => rfl
  | some t => exact filter_map f
theorem nxt_map {ls : List (List K)} {a : Nat} (ha : a < ls.length) (k : K) (f : List Nat) : nxt ls (f.map (shf a)) k = (nxt (cut ls a) f k).map (shf a) := by
  unfold nxt fsts
  rw [find_map ha, drp_map]
/-- f is g, or g with one more somewhere -/
def OneMore (f g : List Nat) : Prop := f = g ∨ ∃ u v e, g = u ++ v ∧ f = u ++ e :: v
theorem filter_out {f : List Nat} {e : Nat} (h : e ∉ f) : (f.filter fun o => decide (o ≠ e)) = f := List.filter_eq_self.mpr fun y hy => decide_eq_true fun z => h (z ▸ hy)
theorem oneMore_step {ls : List (List K)} {k : K} {f g : List Nat} (hn : f.Nodup) (h : OneMore f g) : OneMore (nxt ls f k) (nxt ls g k) := by
  rcases h with rfl | ⟨u, v, e, rfl, rfl⟩
  · exact .inl rfl
  · have hu : e ∉ u := fun z => by
      have := (List.nodup_append.mp hn).2.2 e z e List.mem_cons_self
      exact this rfl
    have hv : e ∉ v := (List.nodup_cons.mp (List.nodup_append.mp hn).2.1).1
    unfold nxt fsts
    rw [List.find?_append, List.find?_append, List.find?_cons]
    cases q : u.find? (opn ls k) with
    | some s =>
      have hs : s ∈ u := List.mem_of_find?_eq_some q
      have hes : e ≠ s := fun z => hu (z ▸ hs)
      refine .inr ⟨u.filter fun o => decide (o ≠ s), v.filter fun o => decide (o ≠ s), e, ?_, ?_⟩
      · show ((u ++ v).filter fun o => decide (o ≠ s)) = _
        rw [List.filter_append]
      · show ((u ++ e :: v).filter fun o => decide (o ≠ s)) = _
        rw [List.filter_append, List.filter_cons, if_pos (decide_eq_true hes)]
    | none =>
      cases qe : opn ls k e with
      | true =>
        have e1 : drp (u ++ e :: v) (some e) = u ++ v := by
          show ((u ++ e :: v).filter fun o => decide (o ≠ e)) = _
          rw [List.filter_append, List.filter_cons, if_neg (by simp), filter_out hu, filter_out hv]
        show OneMore (drp (u ++ e :: v) (some e)) (drp (u ++ v) (v.find? (opn ls k)))
        rw [e1]
        cases qv : v.find? (opn ls k) with
        | none => exact .inl rfl
        | some s =>
          obtain ⟨b1, b2, hb⟩ := List.append_of_mem (List.mem_of_find?_eq_some qv)
          subst hb
          have hn2 : (u ++ (b1 ++ s :: b2)).Nodup := (List.Sublist.append (List.Sublist.refl u) (List.sublist_cons_self e _)).nodup hn
          have n1 : s ∉ u := fun z => (List.nodup_append.mp hn2).2.2 s z s (List.mem_append_right _ List.mem_cons_self) rfl
          have n2 := (List.nodup_append.mp hn2).2.1
          have n3 : s ∉ b1 := fun z => (List.nodup_append.mp n2).2.2 s z s List.mem_cons_self rfl
          have n4 : s ∉ b2 := (List.nodup_cons.mp (List.nodup_append.mp n2).2.1).1
          refine .inr ⟨u ++ b1, b2, s, ?_, by rw [List.append_assoc]⟩
          show ((u ++ (b1 ++ s :: b2)).filter fun o => decide (o ≠ s)) = _
          rw [List.filter_append, List.filter_append, List.filter_cons, if_neg (by simp), filter_out n1, filter_out n3, filter_out n4, List.append_assoc]
      | false =>
        show OneMore (drp (u ++ e :: v) (v.find? (opn ls k))) (drp (u ++ v) (v.find? (opn ls k)))
        cases qv : v.find? (opn ls k) with
        | none => exact .inr ⟨u, v, e, rfl, rfl⟩
        | some s =>
          have hs : s ∈ v := List.mem_of_find?_eq_some qv
          have hes : e ≠ s := fun z => hv (z ▸ hs)
          refine .inr ⟨u.filter fun o => decide (o ≠ s), v.filter fun o => decide (o ≠ s), e, ?_, ?_⟩
          · show ((u ++ v).filter fun o => decide (o ≠ s)) = _
            rw [List.filter_append]
          · show ((u ++ e :: v).filter fun o => decide (o ≠ s)) = _
            rw [List.filter_append, List.filter_cons, if_pos (decide_eq_true hes)]
theorem cut_len {ls : List (List K)} {a : Nat} (ha : a < ls.length) : (cut ls a).length + 1 = ls.length := by
  unfold cut
  rw [List.length_append, List.length_take, List.length_drop]
  omega
theorem oneMore_run {ls : List (List K)} {a : Nat} (ha : a < ls.length) : ∀ (r : List K) (f g : List Nat), f.Nodup → OneMore f (g.map (shf a)) → OneMore (runF ls f r) ((runF (cut ls a) g r).map (shf a))
  | [], _, _, _, h => h
  | k :: r, f, g, hn, h => by
    have h1 := oneMore_step (ls := ls) (k := k) hn h
    rw [nxt_map ha] at h1
    exact oneMore_run ha r _ _ (sub_nodup (nxt_sub ls f k) hn) h1
theorem range_cut (n a : Nat) (ha : a < n + 1) : OneMore (List.range (n + 1)) ((List.range n).map (shf a)) := by
  refine .inr ⟨List.range a, (List.range (n - a)).map (fun s => a + 1 + s), a, ?_, ?_⟩
  · apply List.ext_getElem
    · simp; omega
    · intro i h1 h2
      simp only [List.getElem_map, List.getElem_range]
      unfold shf
      by_cases c : i < a
      · rw [if_pos c, List.getElem_append_left (by simpa using c)]
        simp
      · rw [if_neg c, List.getElem_append_right (by simpa using c)]
        simp
        omega
  · apply List.ext_getElem
    · simp; omega
    · intro i h1 h2
      simp only [List.getElem_range]
      by_cases c : i < a
      · rw [List.getElem_append_left (by simpa using c)]
        simp
      · rw [List.getElem_append_right (by simpa using c)]
        simp only [List.length_range]
        by_cases d : i = a
        · subst d
          simp
        · obtain ⟨j, hj⟩ : ∃ j, i - a = j + 1 := ⟨i - a - 1, by omega⟩
          simp only [hj, List.getElem_cons_succ, List.getElem_map, List.getElem_range]
          omega
theorem nf_cut (E : List K) (ls : List (List K)) {a : Nat} (ha : a < ls.length) : NF E ls (cut ls a) := by
  rintro p ⟨r, _, rfl⟩
  unfold runP
  rw [runP_eq]
  unfold startP lead
  dsimp only
  have hl := cut_len ha
  obtain ⟨n, hn⟩ : ∃ n, (cut ls a).length = n := ⟨_, rfl⟩
  rw [hn] at hl ⊢
  have h := oneMore_run ha r (List.range ls.length) (List.range n) (range_nodup _) (by rw [← hl]; exact range_cut n a (by omega))
  have h2 := List.length_map (as := runF (cut ls a) (List.range n) r) (shf a)
  rcases h with h | ⟨u, v, e, h3, h4⟩
  · rw [h]
    rw [h2]
    omega
  · have l3 := congrArg List.length h3
    have l4 := congrArg List.length h4
    rw [List.length_append] at l3 l4
    rw [List.length_cons] at l4
    rw [h2] at l3
    omega
end
end NFM

set_option Elab.async false
set_option linter.all false
set_option maxRecDepth 100000
set_option maxHeartbeats 0
namespace NF
open PySem PySem.Spec PyProof.Rows L2
def top (i : Nat) : Stmt := PySem.Challenge.pw_narrowahead_k66_whole_never_fewer.main.body.getD i (.Pass ⟨0, 0, 0, 0⟩)
abbrev s_TooMany_init : Stmt := inClass (top 4) 0
def d_TooMany_init : He.DefD := ⟨("TooMany", some "__init__"), "__init__", "TooMany.__init__", defArgs s_TooMany_init, defBody s_TooMany_init, defScope s_TooMany_init, [], []⟩
abbrev s_is_ascending : Stmt := top 10
def d_is_ascending : He.DefD := ⟨("is_ascending", none), "is_ascending", "is_ascending", defArgs s_is_ascending, defBody s_is_ascending, defScope s_is_ascending, [], []⟩
abbrev s_is_marks : Stmt := top 11
def d_is_marks : He.DefD := ⟨("is_marks", none), "is_marks", "is_marks", defArgs s_is_marks, defBody s_is_marks, defScope s_is_marks, [], []⟩
abbrev s_is_kind : Stmt := top 12
def d_is_kind : He.DefD := ⟨("is_kind", none), "is_kind", "is_kind", defArgs s_is_kind, defBody s_is_kind, defScope s_is_kind, [], []⟩
abbrev s_is_lot : Stmt := top 13
def d_is_lot : He.DefD := ⟨("is_lot", none), "is_lot", "is_lot", defArgs s_is_lot, defBody s_is_lot, defScope s_is_lot, [], []⟩
abbrev s_is_row : Stmt := top 14
def d_is_row : He.DefD := ⟨("is_row", none), "is_row", "is_row", defArgs s_is_row, defBody s_is_row, defScope s_is_row, [], []⟩
abbrev s_check_same_marks : Stmt := top 15
def d_check_same_marks : He.DefD := ⟨("check_same_marks", none), "check_same_marks", "check_same_marks", defArgs s_check_same_marks, defBody s_check_same_marks, defScope s_check_same_marks, [], []⟩
abbrev s_all_kinds : Stmt := top 17
def d_all_kinds : He.DefD := ⟨("all_kinds", none), "all_kinds", "all_kinds", defArgs s_all_kinds, defBody s_all_kinds, defScope s_all_kinds, [], []⟩
abbrev s_first_no_lot : Stmt := top 19
def d_first_no_lot : He.DefD := ⟨("first_no_lot", none), "first_no_lot", "first_no_lot", defArgs s_first_no_lot, defBody s_first_no_lot, defScope s_first_no_lot, [], []⟩
abbrev s_Seats_init : Stmt := inClass (top 20) 0
def d_Seats_init : He.DefD := ⟨("Seats", some "__init__"), "__init__", "Seats.__init__", defArgs s_Seats_init, defBody s_Seats_init, defScope s_Seats_init, [], []⟩
abbrev s_first_seat : Stmt := top 22
def d_first_seat : He.DefD := ⟨("first_seat", none), "first_seat", "first_seat", defArgs s_first_seat, defBody s_first_seat, defScope s_first_seat, [], []⟩
abbrev s_led : Stmt := top 23
def d_led : He.DefD := ⟨("led", none), "led", "led", defArgs s_led, defBody s_led, defScope s_led, [], []⟩
abbrev s_behind : Stmt := top 26
def d_behind : He.DefD := ⟨("behind", none), "behind", "behind", defArgs s_behind, defBody s_behind, defScope s_behind, [], []⟩
abbrev s_pair_behind : Stmt := top 27
def d_pair_behind : He.DefD := ⟨("pair_behind", none), "pair_behind", "pair_behind", defArgs s_pair_behind, defBody s_pair_behind, defScope s_pair_behind, [], []⟩
abbrev s_start_of : Stmt := top 28
def d_start_of : He.DefD := ⟨("start_of", none), "start_of", "start_of", defArgs s_start_of, defBody s_start_of, defScope s_start_of, [], []⟩
abbrev s_lead_of : Stmt := top 29
def d_lead_of : He.DefD := ⟨("lead_of", none), "lead_of", "lead_of", defArgs s_lead_of, defBody s_lead_of, defScope s_lead_of, [], []⟩
abbrev s_all_pairs : Stmt := top 30
def d_all_pairs : He.DefD := ⟨("all_pairs", none), "all_pairs", "all_pairs", defArgs s_all_pairs, defBody s_all_pairs, defScope s_all_pairs, [], []⟩
abbrev s_row_of_fewer : Stmt := top 31
def d_row_of_fewer : He.DefD := ⟨("row_of_fewer", none), "row_of_fewer", "row_of_fewer", defArgs s_row_of_fewer, defBody s_row_of_fewer, defScope s_row_of_fewer, [], []⟩
abbrev s_never_fewer : Stmt := top 32
def d_never_fewer : He.DefD := ⟨("never_fewer", none), "never_fewer", "never_fewer", defArgs s_never_fewer, defBody s_never_fewer, defScope s_never_fewer, [], []⟩
abbrev s_fewer : Stmt := top 33
def d_fewer : He.DefD := ⟨("fewer", none), "fewer", "fewer", defArgs s_fewer, defBody s_fewer, defScope s_fewer, [], []⟩
abbrev s_many_taken : Stmt := top 34
def d_many_taken : He.DefD := ⟨("many_taken", none), "many_taken", "many_taken", defArgs s_many_taken, defBody s_many_taken, defScope s_many_taken, [], []⟩
abbrev s_is_fewer : Stmt := top 35
def d_is_fewer : He.DefD := ⟨("is_fewer", none), "is_fewer", "is_fewer", defArgs s_is_fewer, defBody s_is_fewer, defScope s_is_fewer, [], []⟩
abbrev s_law_tape : Stmt := top 37
def d_law_tape : He.DefD := ⟨("_law_tape", none), "_law_tape", "_law_tape", defArgs s_law_tape, defBody s_law_tape, defScope s_law_tape, [], []⟩
abbrev s_law_pick : Stmt := top 38
def d_law_pick : He.DefD := ⟨("_law_pick", none), "_law_pick", "_law_pick", defArgs s_law_pick, defBody s_law_pick, defScope s_law_pick, [], []⟩
abbrev s_law_flag : Stmt := top 39
def d_law_flag : He.DefD := ⟨("_law_flag", none), "_law_flag", "_law_flag", defArgs s_law_flag, defBody s_law_flag, defScope s_law_flag, [], []⟩
abbrev s_law_kinds : Stmt := top 40
def d_law_kinds : He.DefD := ⟨("_law_kinds", none), "_law_kinds", "_law_kinds", defArgs s_law_kinds, defBody s_law_kinds, defScope s_law_kinds, [], []⟩
abbrev s_law_marks : Stmt := top 41
def d_law_marks : He.DefD := ⟨("_law_marks", none), "_law_marks", "_law_marks", defArgs s_law_marks, defBody s_law_marks, defScope s_law_marks, [], []⟩
abbrev s_law_lot : Stmt := top 42
def d_law_lot : He.DefD := ⟨("_law_lot", none), "_law_lot", "_law_lot", defArgs s_law_lot, defBody s_law_lot, defScope s_law_lot, [], []⟩
abbrev s_law_lots : Stmt := top 43
def d_law_lots : He.DefD := ⟨("_law_lots", none), "_law_lots", "_law_lots", defArgs s_law_lots, defBody s_law_lots, defScope s_law_lots, [], []⟩
abbrev s_law_row : Stmt := top 44
def d_law_row : He.DefD := ⟨("_law_row", none), "_law_row", "_law_row", defArgs s_law_row, defBody s_law_row, defScope s_law_row, [], []⟩
abbrev s_law_led : Stmt := top 45
def d_law_led : He.DefD := ⟨("_law_led", none), "_law_led", "_law_led", defArgs s_law_led, defBody s_law_led, defScope s_law_led, [], []⟩
abbrev s_law_next : Stmt := top 46
def d_law_next : He.DefD := ⟨("_law_next", none), "_law_next", "_law_next", defArgs s_law_next, defBody s_law_next, defScope s_law_next, [], []⟩
abbrev s_law_pairs : Stmt := top 47
def d_law_pairs : He.DefD := ⟨("_law_pairs", none), "_law_pairs", "_law_pairs", defArgs s_law_pairs, defBody s_law_pairs, defScope s_law_pairs, [], []⟩
abbrev s_law_lead : Stmt := top 48
def d_law_lead : He.DefD := ⟨("_law_lead", none), "_law_lead", "_law_lead", defArgs s_law_lead, defBody s_law_lead, defScope s_law_lead, [], []⟩
abbrev s_law_others : Stmt := top 49
def d_law_others : He.DefD := ⟨("_law_others", none), "_law_others", "_law_others", defArgs s_law_others, defBody s_law_others, defScope s_law_others, [], []⟩
abbrev s_law_copies : Stmt := top 50
def d_law_copies : He.DefD := ⟨("_law_copies", none), "_law_copies", "_law_copies", defArgs s_law_copies, defBody s_law_copies, defScope s_law_copies, [], []⟩
abbrev s_law_near : Stmt := top 51
def d_law_near : He.DefD := ⟨("_law_near", none), "_law_near", "_law_near", defArgs s_law_near, defBody s_law_near, defScope s_law_near, [], []⟩
abbrev s_law_many : Stmt := top 52
def d_law_many : He.DefD := ⟨("_law_many", none), "_law_many", "_law_many", defArgs s_law_many, defBody s_law_many, defScope s_law_many, [], []⟩
abbrev s_law_told : Stmt := top 53
def d_law_told : He.DefD := ⟨("_law_told", none), "_law_told", "_law_told", defArgs s_law_told, defBody s_law_told, defScope s_law_told, [], []⟩
abbrev s_law_is_paper : Stmt := top 54
def d_law_is_paper : He.DefD := ⟨("_law_is_paper", none), "_law_is_paper", "_law_is_paper", defArgs s_law_is_paper, defBody s_law_is_paper, defScope s_law_is_paper, [], []⟩
abbrev s_law_is_right : Stmt := top 55
def d_law_is_right : He.DefD := ⟨("_law_is_right", none), "_law_is_right", "_law_is_right", defArgs s_law_is_right, defBody s_law_is_right, defScope s_law_is_right, [], []⟩
abbrev s_law : Stmt := top 56
def d_law : He.DefD := ⟨("law", none), "law", "law", defArgs s_law, defBody s_law, defScope s_law, [], []⟩
def dfs : List He.DefD := [d_TooMany_init, d_is_ascending, d_is_marks, d_is_kind, d_is_lot, d_is_row, d_check_same_marks, d_all_kinds, d_first_no_lot, d_Seats_init, d_first_seat, d_led, d_behind, d_pair_behind, d_start_of, d_lead_of, d_all_pairs, d_row_of_fewer, d_never_fewer, d_fewer, d_many_taken, d_is_fewer, d_law_tape, d_law_pick, d_law_flag, d_law_kinds, d_law_marks, d_law_lot, d_law_lots, d_law_row, d_law_led, d_law_next, d_law_pairs, d_law_lead, d_law_others, d_law_copies, d_law_near, d_law_many, d_law_told, d_law_is_paper, d_law_is_right, d_law]
def fas : List He.Fa := [.glo "SeatError", .glo "OtherMarks", .glo "BadSeats", .glo "TooMany", .str "SMALL" "abcdefghijklmnopqrstuvwxyz", .int "MOST_MARKS" 5, .int "MOST_SEATS" 40, .int "MOST_COMERS" 200, .glo "is_ascending", .glo "is_marks", .glo "is_kind", .glo "is_lot", .glo "is_row", .glo "check_same_marks", .glo "all_kinds", .glo "first_no_lot", .glo "Seats", .glo "first_seat", .glo "led", .int "MOST_PAIRS" 3000, .glo "behind", .glo "pair_behind", .glo "start_of", .glo "lead_of", .glo "all_pairs", .glo "row_of_fewer", .glo "never_fewer", .glo "fewer", .glo "many_taken", .glo "is_fewer", .glo "_law_tape", .glo "_law_pick", .glo "_law_flag", .glo "_law_kinds", .glo "_law_marks", .glo "_law_lot", .glo "_law_lots", .glo "_law_row", .glo "_law_led", .glo "_law_next", .glo "_law_pairs", .glo "_law_lead", .glo "_law_others", .glo "_law_copies", .glo "_law_near", .glo "_law_many", .glo "_law_told", .glo "_law_is_paper", .glo "_law_is_right", .glo "law", .free "len", .free "all", .free "isinstance", .free "str", .free "tuple", .free "list", .free "int", .free "bool", .free "range", .free "sorted", .free "enumerate", .cls "Seats", .noat "Seats" "marks", .noat "Seats" "lots", .mkr "Seats", .exm "TooMany" "TooMany" true, .keep "TooMany", .noat "TooMany" "most"]
/-- TooMany: an own exception over ValueError with its own __init__ -/
def oexB (K : PySem.W.Frag) (C : Addr) : Bool := (match K.lookup C with
  | some ⟨.type "type", _, .cls cd, sl⟩ => (match cd.mro, sl.toList with
    | .ref C' :: bm, [_, _, _, _, some (.builtin n), _] => C' == C && n == "ValueError.__new__" && !cd.hasDel && cd.hasDict && PySem.HandSPX.refsVE bm
    | _, _ => false)
  | _ => false) && (decide (PySem.W.findIn K (.ref C) "__setattr__" = some (some (.builtin "object.__setattr__"))) && (decide (PySem.W.subIn K (.ref C) (.type "BaseException") = some true) && (decide (PySem.W.typeIn K (.ref C) = some (.type "type")) && PySem.W.keepIn K (.ref C))))
theorem oexB_ok {K : PySem.W.Frag} {C : Addr} (h : oexB K C = true) : OexC K C := by
  obtain ⟨h1, h⟩ := Bool.and_eq_true_iff.mp h
  obtain ⟨h2, h⟩ := Bool.and_eq_true_iff.mp h
  obtain ⟨h3, h⟩ := Bool.and_eq_true_iff.mp h
  obtain ⟨h4, h5⟩ := Bool.and_eq_true_iff.mp h
  refine ⟨?_, of_decide_eq_true h2, of_decide_eq_true h3, of_decide_eq_true h4, h5⟩
  split at h1
  · rename_i dd cd sl ho
    split at h1
    · rename_i C' bm k0 k1 k2 k3 n k5 hm hs
      simp only [Bool.and_eq_true, beq_iff_eq, Bool.not_eq_true'] at h1
      obtain ⟨⟨⟨⟨rfl, rfl⟩, hdel⟩, hd1⟩, ht⟩ := h1
      obtain ⟨nm, bs, mro, ns, qn, hd, sn, sub, ab, col, del⟩ := cd
      dsimp only at hm hdel hd1
      subst hm hdel hd1
      have hsl : sl = #[k0, k1, k2, k3, some (.builtin "ValueError.__new__"), k5] := by
        obtain ⟨l⟩ := sl
        simp only at hs
        rw [hs]
      subst hsl
      exact ⟨nm, qn, ns, bs, bm, sn, sub, ab, col, dd, k0, k1, k2, k3, k5, ho, ht⟩
    · cases h1
  · cases h1
/-- TooMany's own __init__, a function -/
def tmInitB (K : PySem.W.Frag) : Bool := decide (PySem.W.findIn K (.ref (He.ga K "TooMany")) "__init__" = some (some (.ref (He.ma K (He.ga K "TooMany") "__init__")))) && decide (PySem.W.typeIn K (.ref (He.ma K (He.ga K "TooMany") "__init__")) = some (.type "function"))
def ex (K : PySem.W.Frag) : Bool := oexB K (He.ga K "TooMany") && (xfB K (He.ga K "TooMany") && tmInitB K)
abbrev R : PySem.W.OpenRow := PySem.W.OpenLaw.row PySem.Challenge.rw_narrowahead_k66_whole_never_fewer
def tfs : List He.Defn := [("_law_is_right", none)]
abbrev hk : PySem.W.Hook := He.hookX 5 fas dfs [] tfs ex
def ob (s : PySem.W.SharedT) : He.AlX := He.obsX 5 fas dfs [] tfs ex (HandSHeadRun.getT s)
theorem ob_eq (s : PySem.W.SharedT) : ob s = hk.obs s.abs := He.obsX_eq (HandSHeadRun.getT_eq s)
def loose1 : List Str := ["SeatError", "OtherMarks", "BadSeats", "TooMany", "SMALL", "MOST_MARKS", "MOST_SEATS", "MOST_COMERS", "is_ascending", "is_marks", "is_kind", "is_lot", "is_row", "check_same_marks", "all_kinds", "first_no_lot", "Seats", "first_seat", "led", "MOST_PAIRS", "behind", "pair_behind", "start_of", "lead_of", "all_pairs", "row_of_fewer", "never_fewer", "fewer", "many_taken", "is_fewer"]
def loose2 : List Str := ["_law_tape", "_law_pick", "_law_flag", "_law_kinds", "_law_marks", "_law_lot", "_law_lots", "_law_row", "_law_led", "_law_next", "_law_pairs", "_law_lead", "_law_others", "_law_copies", "_law_near", "_law_many", "_law_told", "_law_is_paper", "_law_is_right"]
def loose : List Str := loose1 ++ loose2
theorem run (w : World) : HandSHeadRun.RunEq R (PySem.W.view R.prog [56]) hk ob 4000 loose w := by
  intro os
  kernel_rfl
end NF

set_option Elab.async false
set_option linter.all false
set_option maxRecDepth 100000
set_option maxHeartbeats 4000000
/-! Dicts whose keys are pairs of tuples of whole numbers, over the hand layer: asked, read, stored, displayed, counted, walked. -/
namespace NF
open PySem PySem.Spec PyProof.Rows L2 NFM
def iv (f : List Nat) : List V := f.map fun n => V.int (n : Nat)
def nk1 (f : List Nat) : NestedKey := .tup (f.map fun n => .num (n : Nat))
def nk (p : Pr) : NestedKey := .tup [nk1 p.1, nk1 p.2]
theorem nums_inj : ∀ {f g : List Nat}, (f.map fun n => NestedKey.num (n : Nat)) = (g.map fun n => NestedKey.num (n : Nat)) → f = g
  | [], [], _ => rfl
  | [], _ :: _, e => by simp at e
  | _ :: _, [], e => by simp at e
  | x :: f, y :: g, e => by
    rw [List.map_cons, List.map_cons] at e
    injection e with e1 e2
    injection e1 with e1
    rw [Int.ofNat_inj.mp e1, nums_inj e2]
theorem nk1_inj {f g : List Nat} (e : nk1 f = nk1 g) : f = g := by
  injection e with e
  exact nums_inj e
theorem nk_inj {p q : Pr} (e : nk p = nk q) : p = q := by
  injection e with e
  injection e with e1 e2
  injection e2 with e2 _
  exact Prod.ext (nk1_inj e1) (nk1_inj e2)
theorem nums_depth : ∀ f : List Nat, NestedKey.depthAll (f.map fun n => NestedKey.num (n : Nat)) = 0
  | [] => by simp [NestedKey.depthAll]
  | x :: f => by
    rw [List.map_cons, NestedKey.depthAll, nums_depth f]
    simp [NestedKey.depth]
theorem nk_depth (p : Pr) : (nk p).depth ≤ 8 := by
  unfold nk nk1
  simp only [NestedKey.depth, NestedKey.depthAll, nums_depth]
  decide
def TupI (H : Hp) (a : Addr) (f : List Nat) : Prop := H a = some (.tup (iv f))
/-- the tuple at b is the pair of tuples p -/
def KeyAt (H : Hp) (b : Addr) (p : Pr) : Prop := ∃ x y : Addr, H b = some (.tup [.ref x, .ref y]) ∧ TupI H x p.1 ∧ TupI H y p.2
theorem KeyAt.keep {H H' : Hp} {b : Addr} {p : Pr} (k : KeyAt H b p) (ht : ∀ c xs, H c = some (.tup xs) → H' c = some (.tup xs)) : KeyAt H' b p := by
  obtain ⟨x, y, h1, h2, h3⟩ := k
  exact ⟨x, y, ht _ _ h1, ht _ _ h2, ht _ _ h3⟩
theorem iv_inj : ∀ {f g : List Nat}, iv f = iv g → f = g
  | [], [], _ => rfl
  | [], _ :: _, e => by simp [iv] at e
  | _ :: _, [], e => by simp [iv] at e
  | x :: f, y :: g, e => by
    unfold iv at e
    rw [List.map_cons, List.map_cons] at e
    injection e with e1 e2
    injection e1 with e1
    rw [Int.ofNat_inj.mp e1, iv_inj e2]
theorem KeyAt.inj {H : Hp} {b : Addr} {p q : Pr} (h1 : KeyAt H b p) (h2 : KeyAt H b q) : p = q := by
  obtain ⟨x, y, a1, a2, a3⟩ := h1
  obtain ⟨x', y', b1, b2, b3⟩ := h2
  rw [a1] at b1
  have e := HO.tup.inj (Option.some.inj b1)
  injection e with e1 e
  injection e with e2 _
  injection e1 with e1
  injection e2 with e2
  subst e1 e2
  unfold TupI at *
  rw [a2] at b2
  rw [a3] at b3
  exact Prod.ext (iv_inj (HO.tup.inj (Option.some.inj b2))) (iv_inj (HO.tup.inj (Option.some.inj b3)))
theorem iv_all {h : Heap} : ∀ {f : List Nat} {us : List Value}, Vals (iv f) us → NestedAll h (f.map fun n => NestedKey.num (n : Nat)) us
  | [], _, r => by
    cases r
    exact .nil
  | x :: f, _, r => by
    unfold iv at r
    rw [List.map_cons] at r
    cases r with
    | cons a b =>
      obtain ⟨t, e⟩ := a
      subst e
      exact .cons (.int _ t) (iv_all b)
section
variable {P : Program} {w : World} {H : Hp} {h : Heap} {a b : Addr}
theorem tupI_is {f : List Nat} (ok : HOk P w H h) (e : TupI H a f) : NestedIs h (nk1 f) (.ref a) := by
  obtain ⟨_, its, r, o, h1, h2, n, h3⟩ := (show ObjOk P w H h a (.tup (iv f)) from ok a _ e)
  exact .tup h1 h2 h3 (by simpa using iv_all r)
theorem keyAt_is {p : Pr} (ok : HOk P w H h) (e : KeyAt H b p) : (nestedKind P w).is h (nk p) b := by
  obtain ⟨x, y, h1, h2, h3⟩ := e
  obtain ⟨_, its, r, o, e1, e2, n, e3⟩ := (show ObjOk P w H h b (.tup [.ref x, .ref y]) from ok b _ h1)
  refine ⟨.tup e1 e2 e3 ?_, nk_depth p⟩
  cases r with
  | cons r1 r =>
    cases r with
    | cons r2 r =>
      cases r
      obtain rfl := r1
      obtain rfl := r2
      exact .cons (tupI_is ok h2) (.cons (tupI_is ok h3) .nil)
end
/-- at a stands just the object o -/
def EX (a : Addr) (o : Obj) : HO := .ext fun h => h.get? a = some o
abbrev RelD (H : Hp) : List (Pr × V) → List (NestedKey × Addr × Value) → Prop := Paired fun q x => x.1 = nk q.1 ∧ KeyAt H x.2.1 q.1 ∧ RelV q.2 x.2.2
/-- at a a dict of these keys and values, in order; o: its object -/
structure DO (P : Program) (w : World) (H : Hp) (a : Addr) (o : Obj) (kvs : List (Pr × V)) : Prop where
  ob : H a = some (EX a o)
  ex : o.ExactDict
  low : (a == sysModules) = false
  sz : kvs.length ≤ sizeLine
  dat : ∃ es ep xs, o.data = .dict es ep ∧ es.toList = xs.map (entryOfKey (nestedKind P w)) ∧ (xs.map (·.1)).Nodup ∧ RelD H kvs xs
theorem RelD.keep {H H' : Hp} {kvs : List (Pr × V)} {xs : List (NestedKey × Addr × Value)} (r : RelD H kvs xs) (ht : ∀ c xs, H c = some (.tup xs) → H' c = some (.tup xs)) : RelD H' kvs xs :=
  Paired.mapP r fun _ _ z => ⟨z.1, z.2.1.keep ht, z.2.2⟩
theorem DO.keep {P : Program} {w : World} {H H' : Hp} {a : Addr} {o : Obj} {kvs : List (Pr × V)} (d : DO P w H a o kvs) (ha : H' a = H a) (ht : ∀ c xs, H c = some (.tup xs) → H' c = some (.tup xs)) : DO P w H' a o kvs := by
  obtain ⟨es, ep, xs, h1, h2, h3, h4⟩ := d.dat
  exact ⟨ha.trans d.ob, d.ex, d.low, d.sz, es, ep, xs, h1, h2, h3, h4.keep ht⟩
theorem EX_ne {a : Addr} {o : Obj} {u : HO} (h : ∀ φ, u ≠ .ext φ) : EX a o ≠ u := fun z => h _ z.symm
theorem RelD.val {H : Hp} {kvs : List (Pr × V)} {xs : List (NestedKey × Addr × Value)} (r : RelD H kvs xs) (p : Pr) : RelO (valV kvs p) ((atKey xs (nk p)).map (·.2)) := by
  induction r with
  | nil => exact True.intro
  | @cons q x qs xs h t ih =>
    obtain ⟨h1, _, h2⟩ := h
    by_cases e : q.1 = p
    · have e' : x.1 = nk p := by rw [h1, e]
      have b : atKey (x :: xs) (nk p) = some x.2 := by simp [atKey, List.find?_cons, e']
      rw [valV_pos e, b]
      exact h2
    · have e' : ¬ x.1 = nk p := fun z => e (nk_inj (h1.symm.trans z))
      have b : atKey (x :: xs) (nk p) = atKey xs (nk p) := by simp [atKey, List.find?_cons, e']
      rw [valV_neg e, b]
      exact ih
theorem RelD.keys {H : Hp} {kvs : List (Pr × V)} {xs : List (NestedKey × Addr × Value)} (r : RelD H kvs xs) : xs.map (·.1) = kvs.map fun q => nk q.1 := by
  induction r with
  | nil => rfl
  | cons h t ih => rw [List.map_cons, List.map_cons, ih, h.1]
theorem nodup_map_inj {α β : Type} {f : α → β} : ∀ {l : List α}, (l.map f).Nodup → l.Nodup
  | [], _ => List.nodup_nil
  | x :: l, h => by
    rw [List.map_cons, List.nodup_cons] at h
    exact List.nodup_cons.mpr ⟨fun z => h.1 (List.mem_map.mpr ⟨x, z, rfl⟩), nodup_map_inj h.2⟩
theorem DO.nodup {P : Program} {w : World} {H : Hp} {a : Addr} {o : Obj} {kvs : List (Pr × V)} (d : DO P w H a o kvs) : (kvs.map (·.1)).Nodup := by
  obtain ⟨es, ep, xs, h1, h2, h3, h4⟩ := d.dat
  rw [h4.keys] at h3
  refine nodup_map_inj (f := nk) ?_
  rw [List.map_map]
  exact h3
section
variable {X : Cx} {pins : List (Addr × Obj)} {σ : L2.St} {H : Hp} {s : Shared} {a b : Addr} {o : Obj} {kvs : List (Pr × V)} {p : Pr} {A : Around} {E : Value → Shared → Prop}
theorem ex_at (I : Inv X pins σ H s) (e : H a = some (EX a o)) : s.heap.get? a = some o := by
  have z : ObjOk X.prog X.w H s.heap a (.ext fun h => h.get? a = some o) := I.hok a _ e
  exact z.1
theorem do_h (I : Inv X pins σ H s) (d : DO X.prog X.w H a o kvs) : ∃ xs, s.heap.DictOfH (nestedKind X.prog X.w) a xs ∧ RelD H kvs xs := by
  obtain ⟨es, ep, xs, h1, h2, h3, h4⟩ := d.dat
  refine ⟨xs, ⟨o, es, ep, ex_at I d.ob, d.ex, h1, h2, fun x hx => ?_, h3⟩, h4⟩
  have all : ∀ {l : List (Pr × V)} {m : List (NestedKey × Addr × Value)}, RelD H l m → ∀ x ∈ m, (nestedKind X.prog X.w).is s.heap x.1 x.2.1 := by
    intro l m q
    induction q with
    | nil => intro x hx; exact nomatch hx
    | @cons q x qs xs hq t ih =>
      intro y hy
      rcases List.mem_cons.mp hy with e | hy
      · subst e
        rw [hq.1]
        exact keyAt_is I.hok hq.2.1
      · exact ih y hy
  exact all h4 x hx
theorem do_typeIs (I : Inv X pins σ H s) (d : DO X.prog X.w H a o kvs) : s.TypeIs (.ref a) "dict" := by
  obtain ⟨xs, h, _⟩ := do_h I d
  exact h.typeIs
theorem nd_room (hu : A.units + 16 < cLine) : (nestedKind X.prog X.w).room A.in1 := by
  show A.in1.units + 8 < cLine
  rw [Around.in1_units]
  omega
/-- k not in d -/
theorem nd_notIn {Q : Value → Shared → Prop} (hu : A.units + 16 < cLine) (I : Inv X pins σ H s) (d : DO X.prog X.w H a o kvs) (k : KeyAt H b p) (h : ∀ s', Inv X pins σ H s' → Q (.bool (!(valV kvs p).isSome)) s') :
    wpAny (model X.prog X.w) A (compareOp .NotIn (.ref b) (.ref a)) Q E s := by
  obtain ⟨xs, dd, rel⟩ := do_h I d
  refine wpAny_notIn_heap (nd_room hu) (keyAt_is I.hok k) d.low dd ?_
  have q := (rel.val p).isSome_eq
  rw [Option.isSome_map] at q
  rw [← q]
  exact h _ (I.tok _)
/-- d[k] -/
theorem nd_get {Q : Value → Shared → Prop} {v : V} (hu : A.units + 16 < cLine) (I : Inv X pins σ H s) (d : DO X.prog X.w H a o kvs) (k : KeyAt H b p) (hv : valV kvs p = some v) (h : ∀ w' s', Inv X pins σ H s' → RelV v w' → Q w' s') :
    wpAny (model X.prog X.w) A (getItem (.ref a) (.ref b)) Q E s := by
  obtain ⟨xs, dd, rel⟩ := do_h I d
  obtain ⟨w', hw, rw'⟩ := RelO.some_of (v := v) (o := (atKey xs (nk p)).map (·.2)) (by rw [← hv]; exact rel.val p)
  obtain ⟨q, hp, hp2⟩ := Option.map_eq_some_iff.mp hw
  refine wpAny_getItem_heap (nd_room hu) (keyAt_is I.hok k) dd hp ?_
  rw [hp2]
  exact h w' _ (I.tok _) rw'
/-- d[k] = v, k new -/
theorem nd_put {Q : Unit → Shared → Prop} {v : V} {u : Value} (hu : A.units + 16 < cLine) (I : Inv X pins σ H s) (d : DO X.prog X.w H a o kvs) (k : KeyAt H b p) (hn : valV kvs p = none) (hz : kvs.length < sizeLine) (rv : RelV v u)
    (h : ∀ o' s', Inv X pins σ (upd H a (EX a o')) s' → DO X.prog X.w (upd H a (EX a o')) a o' (kvs ++ [(p, v)]) → Q () s') : wpAny (model X.prog X.w) A (setItem (.ref a) (.ref b) u) Q E s := by
  obtain ⟨xs, dd, rel⟩ := do_h I d
  have hl : kvs.length = xs.length := Paired.length rel
  refine wpAny_setItem_heap (hsz := by rw [← hl]; exact d.sz) (nd_room hu) (keyAt_is I.hok k) dd fun h' dd' hs => ?_
  obtain ⟨o', es, ep, ho, hx, hd, he, _, hnd⟩ := dd'
  have hnone : atKey xs (nk p) = none := by
    have q := (rel.val p).isSome_eq
    rw [hn, Option.isSome_map] at q
    cases z : atKey xs (nk p) with
    | none => rfl
    | some _ =>
      rw [z] at q
      cases q
  rw [storedH_new hnone] at he hnd
  have htup : ∀ c ys, H c = some (.tup ys) → upd H a (EX a o') c = some (.tup ys) := fun c ys e => by
    rw [upd_ne (ne_of e d.ob (fun z => by cases z))]
    exact e
  have ok : ObjOk X.prog X.w (upd H a (EX a o')) h' a (EX a o') := ⟨ho, ⟨o', ho⟩, fun h1 h2 z st => st _ z⟩
  have J := d_write (t' := s.toks + (nestedKind X.prog X.w).draws (nk p)) I (by rw [d.ob]; exact True.intro) hs ⟨o', ho⟩ ok
  refine h o' _ J ⟨upd_same, hx, d.low, ?_, es, ep, _, hd, he, hnd, (rel.keep htup).snoc ⟨rfl, k.keep htup, rv⟩⟩
  rw [List.length_append, List.length_cons, List.length_nil]
  omega
end
/-! ### readings and rules -/
section
variable {X : Cx} {o i e value : Expr} {pos pos' tpos : Pos} {td ty tv : TE}
def tNdNotIn (P : Program) (w : World) (ty td : TE) : TE := fun σ H Q => ty σ H fun y H1 => td σ H1 fun x H2 => ∃ a b o kvs p, x = .ref a ∧ y = .ref b ∧ DO P w H2 a o kvs ∧ KeyAt H2 b p ∧ Q (.bl (!(valV kvs p).isSome)) H2
theorem pc_ndnotin (hu : X.A.units + 16 < cLine) (hi : PE X i ty) (ho : PE X o td) : PC X .NotIn i o (tNdNotIn X.prog X.w ty td) := by
  refine ⟨fun pins s σ H Q I h => ?_⟩
  refine thn (hi.run pins s σ H _ I h) fun iv s1 ⟨y, H1, I1, ry, q1⟩ => thn (ho.run pins s1 σ H1 _ I1 q1) fun u s2 ⟨x, H2, I2, rx, a, b, ob, kvs, p, ex, ey, d, k, q2⟩ => ?_
  subst ex ey
  obtain rfl : u = Value.ref a := rx
  obtain rfl : iv = Value.ref b := ry
  exact nd_notIn hu I2 d k fun s3 I3 => ⟨.bl (!(valV kvs p).isSome), H2, I3, rfl, q2⟩
def tNdGet (P : Program) (w : World) (td ty : TE) : TE := fun σ H Q => td σ H fun x H1 => ty σ H1 fun y H2 => ∃ a b o kvs p v, x = .ref a ∧ y = .ref b ∧ DO P w H2 a o kvs ∧ KeyAt H2 b p ∧ valV kvs p = some v ∧ Q v H2
theorem pe_ndget (hu : X.A.units + 16 < cLine) (ho : PE X o td) (hi : PE X i ty) (hs : NoSl i) : PE X (.Subscript o i pos) (tNdGet X.prog X.w td ty) := by
  refine ⟨fun pins s σ H Q I h => ?_⟩
  refine subD_of PySem.F.slot_dict_getitem.lookup hs (thn (ho.run pins s σ H _ I h) fun u s1 ⟨x, H1, I1, rx, q1⟩ => thn (hi.run pins s1 σ H1 _ I1 q1) fun iv s2 ⟨y, H2, I2, ry, a, b, ob, kvs, p, v, ex, ey, d, k, hv, q2⟩ => ?_)
  subst ex ey
  obtain rfl : u = Value.ref a := rx
  obtain rfl : iv = Value.ref b := ry
  exact ⟨do_typeIs I2 d, nd_get hu I2 d k hv fun w' s3 I3 rw' => ⟨v, H2, I3, rw', q2⟩⟩
/-- d[k] = v, k new -/
def sNdPut (P : Program) (w : World) (td ty tv : TE) : TS := fun D σ H => tv σ H fun v H1 => td σ H1 fun x H2 => ty σ H2 fun y H3 => ∃ a b o kvs p, x = .ref a ∧ y = .ref b ∧ DO P w H3 a o kvs ∧ KeyAt H3 b p ∧ valV kvs p = none ∧ kvs.length < sizeLine ∧
  ∀ o', DO P w (upd H3 a (EX a o')) a o' (kvs ++ [(p, v)]) → D.nx σ (upd H3 a (EX a o'))
theorem ps_ndput (hu : X.A.units + 16 < cLine) (ho : PE X o td) (hi : PE X i ty) (hv : PE X value tv) (hs : swapsWith value (some (.Subscript o i pos')) pos.line X.env = pure false) :
    PS X (.Assign [.Subscript o i pos'] value pos) (sNdPut X.prog X.w td ty tv) := by
  refine ⟨fun pins s σ H D I h => ?_⟩
  refine wpAny_Assign_Subscript (thn (hv.run pins s σ H _ I h) fun r s1 ⟨v, H1, I1, rv, q1⟩ => thn (ho.run pins s1 σ H1 _ I1 q1) fun u s2 ⟨x, H2, I2, rx, q2⟩ => thn (hi.run pins s2 σ H2 _ I2 q2) fun iv s3 ⟨y, H3, I3, ry, a, b, ob, kvs, p, ex, ey, d, k, hn, hz, q3⟩ => ?_) hs
  subst ex ey
  obtain rfl : u = Value.ref a := rx
  obtain rfl : iv = Value.ref b := ry
  exact nd_put hu I3 d k hn hz rv fun o' s4 I4 d' => ⟨σ, _, I4, q3 o' d'⟩
/-- len(d) -/
def rLenNd (P : Program) (w : World) : List V → Hp → VK → Prop := fun xs H Q => ∃ (a : Addr) (o : Obj) (kvs : List (Pr × V)), xs = [.ref a] ∧ DO P w H a o kvs ∧ Q (.int ((kvs.length : Nat) : Int)) H
theorem call_len_nd : CallR X (.builtin "len") (rLenNd X.prog X.w) := by
  intro pins s σ H xs us Q I r h
  obtain ⟨a, ob, kvs, rfl, d, q⟩ := h
  obtain ⟨u, rfl, rx⟩ := vals1 r
  obtain rfl : u = .ref a := rx
  obtain ⟨ys, dd, rel⟩ := do_h I d
  have hl : kvs.length = ys.length := Paired.length rel
  have z := d.sz
  refine call_len_dictH d.low dd (by rw [← hl]; rw [sizeLine_eq] at z; omega) ?_
  rw [← hl]
  exact ⟨.int ((kvs.length : Nat) : Int), H, I.tok _, ⟨_, rfl⟩, q⟩
/-- {k: v}: one pair -/
def tNdDisp (P : Program) (w : World) (tk tv : TE) : TE := fun σ H Q => ∀ p, H p = none → ∀ o0, tPairs [(tk, tv)] σ (upd H p (EX p o0)) fun ps H2 => H2 p = some (EX p o0) ∧ ∃ b k y, ps = [(.ref b, y)] ∧ KeyAt H2 b k ∧
  ∀ o', DO P w (upd H2 p (EX p o')) p o' [(k, y)] → Q (.ref p) (upd H2 p (EX p o'))
theorem pe_nddisp {k v : Expr} {tk tv : TE} (hu : X.A.units + 16 < cLine) (hk : PE X k tk) (hv : PE X v tv) : PE X (.Dict [some k] [v] pos) (tNdDisp X.prog X.w tk tv) := by
  refine ⟨fun pins s σ H Q I q => ?_⟩
  have hn := I.hok.fresh (Nat.le_refl s.heap.objs.size)
  have hnew : (s.heap.push { cls := .type "dict", data := .dict #[] }).get? s.heap.objs.size = some { cls := .type "dict", data := .dict #[] } := Heap.get?_push_size _ rfl
  have I1 := I.laid (a := s.heap.objs.size) (o := EX s.heap.objs.size { cls := .type "dict", data := .dict #[] }) (h' := s.heap.push { cls := .type "dict", data := .dict #[] }) (t' := s.toks) (fun _ _ q => Heap.get?_push_of_some _ q) (Nat.le_refl _)
    ⟨hnew, ⟨_, hnew⟩, fun h1 h2 z st => st _ z⟩
  have room : (nestedKind X.prog X.w).room X.A := by
    show X.A.units + 8 < cLine
    omega
  have hl := pairTrees_length [some k] [v] X.env pos rfl rfl
  have hne : pairTrees [some k] [v] X.env pos ≠ [] := fun z => by
    rw [z] at hl
    cases hl
  have big := I.big
  rw [arm_eval_Dict, zip_pairTrees [some k] [v] X.env pos rfl rfl, dictDisplay_pairs _ hne (by rw [hl]; show 1 < 17; decide)]
  refine wpAny_bind (wpAny_standAt (wpAny_bind (wpAny_subDictH (knd := nestedKind X.prog X.w) room (by rw [hl]; show 1 ≤ 15; decide) ?_)))
  refine thn ((pps_cons (pos := pos) hk hv pps_nil).run pins _ σ _ _ I1 (q _ hn _)) fun ws s2 ⟨ps, H2, I2, rel, eo, b, kk, y, ep, kat, q2⟩ => ?_
  subst ep
  cases rel with
  | @cons _ uv _ _ r1 rel =>
    cases rel
    obtain ⟨u, v'⟩ := uv
    obtain ⟨rk, rv⟩ := r1
    obtain rfl : u = Value.ref b := rk
    have hd : s2.heap.get? s.heap.objs.size = some { cls := .type "dict", data := .dict #[] } := ex_at I2 eo
    refine ⟨[(nk kk, b, v')], ⟨rfl, rfl, keyAt_is I2.hok kat, True.intro⟩, ⟨_, #[], 0, hd, ⟨rfl, rfl, rfl⟩, rfl, rfl, (fun _ hx => nomatch hx), List.nodup_nil⟩, fun h' tk' dd hs => ?_⟩
    obtain ⟨o', es, ep, ho, hx, hdt, he, _, hnd⟩ := dd
    have htup : ∀ c ys, H2 c = some (.tup ys) → upd H2 s.heap.objs.size (EX s.heap.objs.size o') c = some (.tup ys) := fun c ys e => by
      rw [upd_ne (ne_of e eo (fun z => by cases z))]
      exact e
    have J := d_write (t' := tk') (ob := EX s.heap.objs.size o') I2 (by rw [eo]; exact True.intro) hs ⟨o', ho⟩ ⟨ho, ⟨o', ho⟩, fun h1 h2 z st => st _ z⟩
    exact wpAny_pure ⟨.ref s.heap.objs.size, _, J, rfl, q2 o' ⟨upd_same, hx, beq_eq_false_iff_ne.mpr (Ne.symm (Nat.ne_of_lt big)), by show 1 ≤ sizeLine; decide, es, ep, _, hdt, he, hnd, .cons ⟨rfl, kat.keep htup, rv⟩ .nil⟩⟩
/-! ### walks: for k in d; for k, v in d.items() -/
/-- the keys -/
def ItNk (P : Program) (w : World) (a : Addr) (o : Obj) (kvs : List (Pr × V)) : It :=
  ⟨fun i H => DO P w H a o kvs ∧ i < kvs.length, fun i H x H' => H' = H ∧ ∃ b p v, kvs[i]? = some (p, v) ∧ x = .ref b ∧ KeyAt H b p, fun i H => DO P w H a o kvs ∧ kvs.length ≤ i⟩
/-- the pairs of key and value, each a new tuple -/
def ItNi (P : Program) (w : World) (a : Addr) (o : Obj) (kvs : List (Pr × V)) : It :=
  ⟨fun i H => DO P w H a o kvs ∧ i < kvs.length, fun i H x H' => ∃ T b p v, kvs[i]? = some (p, v) ∧ x = .ref T ∧ H T = none ∧ KeyAt H b p ∧ H' = upd H T (.tup [.ref b, v]), fun i H => DO P w H a o kvs ∧ kvs.length ≤ i⟩
theorem walk_nk {P : Program} {w : World} {a : Addr} {ob : Obj} {kvs : List (Pr × V)} : Walk (ItNk P w a ob kvs) kvs.length (fun H => DO P w H a ob kvs) (fun i H x H' => H' = H ∧ ∃ b p v, kvs[i]? = some (p, v) ∧ x = .ref b ∧ KeyAt H b p) :=
  ⟨fun _ _ hi q => ⟨q, hi⟩, fun _ q => ⟨q, Nat.le_refl _⟩, fun _ _ _ _ _ _ y => y⟩
theorem walk_ni {P : Program} {w : World} {a : Addr} {ob : Obj} {kvs : List (Pr × V)} : Walk (ItNi P w a ob kvs) kvs.length (fun H => DO P w H a ob kvs) (fun i H x H' => ∃ T b p v, kvs[i]? = some (p, v) ∧ x = .ref T ∧ H T = none ∧ KeyAt H b p ∧ H' = upd H T (.tup [.ref b, v])) :=
  ⟨fun _ _ hi q => ⟨q, hi⟩, fun _ q => ⟨q, Nat.le_refl _⟩, fun _ _ _ _ _ _ y => y⟩
theorem do_ent {pins : List (Addr × Obj)} {σ : L2.St} {H : Hp} {s : Shared} {a : Addr} {ob : Obj} {kvs : List (Pr × V)} (I : Inv X pins σ H s) (d : DO X.prog X.w H a ob kvs) : s.heap.get? a = some ob ∧ ∃ (es : Array DictEntry) (ep : Nat), ob.data = .dict es ep ∧ es.size = kvs.length ∧ s.heap.DictRaw a es ep ∧
    ∀ (i : Nat) (p : Pr) (v : V), kvs[i]? = some (p, v) → ∃ (en : DictEntry) (b : Addr), es[i]? = some en ∧ en.key = .ref b ∧ KeyAt H b p ∧ RelV v en.val := by
  obtain ⟨es, ep, xs, h1, h2, h3, h4⟩ := d.dat
  have hg := ex_at I d.ob
  have hsz : es.size = kvs.length := by
    have a1 : es.size = xs.length := size_of_entries h2
    have a2 : kvs.length = xs.length := Paired.length h4
    omega
  refine ⟨hg, es, ep, h1, hsz, ⟨ob, hg, d.ex, h1⟩, fun i p v e => ?_⟩
  obtain ⟨x, hx, e1, e2, e3⟩ := paired_get h4 e
  have q := entry_at h2 i
  rw [hx] at q
  exact ⟨_, x.2.1, q, rfl, e2, e3⟩
section
variable {P : Program} {w : World} {K : PySem.W.Frag} {tg : Expr} {d : Addr} {ob : Obj} {es : Array DictEntry} {ep : Nat} {kvs : List (Pr × V)}
theorem turn_nk (it : Addr) (hod : ob.data = .dict es ep) : Turn P w K tg (ItNk P w d ob kvs) [it] it (fun i h => h.IsKeyIter it d i kvs.length ep) where
  mem := by simp
  obj := fun i h st b hb => by
    have e : b = it := by simpa using hb
    subst e
    obtain ⟨oi, e, c, dd⟩ := st
    exact ⟨oi, e, fun v z => by rw [dd] at z; cases z⟩
  keep := fun i h h' st k => st.at fun oi e => k it (by simp) oi e
  item := by
    intro X hP hw hK hc i pins s σ H E I hf st hg
    subst hP hw hK
    obtain ⟨hd, hi⟩ := hg
    obtain ⟨f0, f1, f2, f3, f4, f5⟩ := hf it (by simp)
    obtain ⟨hgd, es', ep', hdt, hsz, raw, ent⟩ := do_ent I hd
    obtain ⟨rfl, rfl⟩ := dict_ep hod hdt
    obtain ⟨⟨k, v⟩, hkv⟩ : ∃ p, kvs[i]? = some p := ⟨kvs[i], List.getElem?_eq_getElem hi⟩
    obtain ⟨en, q, hen, hkey, hq, _⟩ := ent i k v hkv
    refine next_key_item st hgd hdt hsz hen fun h' st' sb => ?_
    have I1 : Inv X pins σ H { s with heap := h' } := I.turned (t' := s.toks) (fun b ob hb e => (sb.2 b hb).trans e) f0 f1 f3 f4 f5
    obtain ⟨oi, e, c, dd⟩ := id st'
    exact ⟨en.key, rfl, go_of (s := { s with heap := h' }) e c dd (by decide) ⟨.ref q, H, I1, hkey, ⟨rfl, q, k, v, hkv, rfl, hq⟩, st', fun b hb => (hf b hb).1⟩⟩
  done := by
    intro X hP hw hK hc i pins s σ H E I hf st hg
    subst hP hw hK
    obtain ⟨hd, hi⟩ := hg
    obtain ⟨f0, f1, f2, f3, f4, f5⟩ := hf it (by simp)
    obtain ⟨hgd, es', ep', hdt, hsz, raw, ent⟩ := do_ent I hd
    obtain ⟨rfl, rfl⟩ := dict_ep hod hdt
    exact next_key_end (I.ok.hd hc) st hgd hdt hsz hi fun h' eb => ⟨rfl, I.turned (t' := s.toks) (fun b ob hb e => eb b ob hb e) f0 f1 f3 f4 f5⟩
  self := fun A i s Q E st h => wpAny_pyIter_keyiter st h
theorem turn_ni {elts : List Expr} {kk : Nat} {tpos : Pos} (it : Addr) (hod : ob.data = .dict es ep) :
    Turn P w K (.Tuple elts kk tpos) (ItNi P w d ob kvs) [it] it (fun i h => ∃ ok ov, IsItemIter h it d i kvs.length ep ok ov) where
  mem := by simp
  obj := fun i h st b hb => by
    have e : b = it := by simpa using hb
    subst e
    obtain ⟨ok, ov, e⟩ := st
    exact ⟨_, e, fun v z => nomatch z⟩
  keep := fun i h h' st k => let ⟨ok, ov, e⟩ := st; ⟨ok, ov, k it (by simp) _ e⟩
  item := by
    intro X hP hw hK hc i pins s σ H E I hf st hg
    subst hP hw hK
    obtain ⟨hd, hi⟩ := hg
    obtain ⟨hgd, es', ep', hdt, hsz, raw, ent⟩ := do_ent I hd
    obtain ⟨rfl, rfl⟩ := dict_ep hod hdt
    obtain ⟨⟨k, v⟩, hkv⟩ : ∃ p, kvs[i]? = some p := ⟨kvs[i], List.getElem?_eq_getElem hi⟩
    obtain ⟨en, q, hen, hkey, hq, ru⟩ := ent i k v hkv
    obtain ⟨ok, ov, he⟩ := st
    rw [← hsz] at he
    have hlt : it < s.heap.objs.size := Heap.lt_size he
    have hi2 : i < es'.size := by omega
    have hen2 : es'[i] = en := by
      rw [Array.getElem?_eq_getElem hi2] at hen
      exact Option.some.inj hen
    refine wpAny_pyNext_items_item_raw he raw hi2 fun h' ho hT hz hk => ?_
    refine ⟨_, rfl, wpAny_letOwnedTupleGo_items (s := { s with heap := h' }) ho fun h'' he' sb => ?_⟩
    have hT2 : h''.get? s.heap.objs.size = some { cls := .type "tuple", data := .seq #[es'[i].key, es'[i].val] } := (sb.2 _ (Nat.ne_of_gt hlt)).trans hT
    rw [hen2] at hT2
    have new : ObjOk X.prog X.w (upd H s.heap.objs.size (.tup [.ref q, v])) h'' s.heap.objs.size (.tup [.ref q, v]) :=
      ⟨by show 2 ≤ sizeLine; decide, [en.key, en.val], .cons (by rw [hkey]; rfl) (.cons ru .nil), ⟨_, hT2, rfl, _, rfl⟩⟩
    have I1 : Inv X pins σ (upd H s.heap.objs.size (.tup [.ref q, v])) { s with heap := h'' } :=
      I.turnedNew (t' := s.toks) (ch := [it]) (fun b ob hb e => (sb.2 b (by simpa using hb)).trans (hk b ob (by simpa using hb) e)) hf (Nat.le_refl _) new
    refine ⟨.ref s.heap.objs.size, _, I1, rfl, ⟨_, q, k, v, hkv, rfl, I.hok.fresh (Nat.le_refl _), hq, rfl⟩, ⟨es'[i].key, es'[i].val, ?_⟩, fun b hb => ?_⟩
    · rw [← hsz]
      exact he'
    · have e : b = it := by simpa using hb
      rw [e, upd_ne (Nat.ne_of_lt hlt)]
      exact (hf it (by simp)).1
  done := by
    intro X hP hw hK hc i pins s σ H E I hf st hg
    subst hP hw hK
    obtain ⟨hd, hi⟩ := hg
    obtain ⟨f0, f1, f2, f3, f4, f5⟩ := hf it (by simp)
    obtain ⟨hgd, es', ep', hdt, hsz, raw, ent⟩ := do_ent I hd
    obtain ⟨rfl, rfl⟩ := dict_ep hod hdt
    obtain ⟨ok, ov, he⟩ := st
    rw [← hsz] at he
    exact wpAny_pyNext_items_end_raw (I.ok.hd hc) he raw (by omega) fun h' eb => ⟨rfl, I.turned (t' := s.toks) (fun b ob hb e => eb b ob hb e) f0 f1 f3 f4 f5⟩
  self := fun A i s Q E st h => let ⟨_, _, e⟩ := st; PySem.W.kcp_self e h
end
/-- for k in d -/
def iNk (P : Program) (w : World) (td : TE) : TI := fun σ H R => td σ H fun x H1 => ∃ a ob kvs, x = .ref a ∧ DO P w H1 a ob kvs ∧ R (ItNk P w a ob kvs) H1
theorem pi_nk {tg e : Expr} {td : TE} (he : PE X e td) : PI X tg e (iNk X.prog X.w td) := by
  refine ⟨fun pins s σ H R I h => ?_⟩
  refine thn (he.run pins s σ H _ I h) fun u s1 ⟨x, H1, I1, rx, d, ob, kvs, ex, hd, q⟩ => ?_
  subst ex
  obtain rfl : u = Value.ref d := rx
  obtain ⟨hgd, es, ep, hdt, hsz, raw, ent⟩ := do_ent I1 hd
  refine iter_keys hd.low hgd hd.ex hdt (pi_one (tk := s1.toks) I1 _ (turn_nk _ hdt) ⟨_, Heap.get?_push_size _ rfl, rfl, ?_⟩ q)
  rw [hsz] <;> rfl
/-- for k, v in d.items() -/
def iNi (P : Program) (w : World) (td : TE) : TI := fun σ H R => td σ H fun x H1 => ∃ a ob kvs, x = .ref a ∧ DO P w H1 a ob kvs ∧ R (ItNi P w a ob kvs) H1
theorem pi_ni {e : Expr} {td : TE} {apos cpos : Pos} {elts : List Expr} {kk : Nat} {tpos : Pos} (he : PE X e td) (hbase : attributeBase e "items" X.env (eval e X.env) = eval e X.env := by rfl) (hline : (apos.endLine == cpos.line) = true := by rfl) :
    PI X (.Tuple elts kk tpos) (.Call (.Attribute e "items" apos) [] [] cpos) (iNi X.prog X.w td) := by
  refine ⟨fun pins s σ H R I h => ?_⟩
  refine wpAny_Call_method (T := "dict") (id := "dict.items") hbase rfl hline F.plainAttrs_dict F.slot_dict_items F.type_dict_items (thn (he.run pins s σ H _ I h) fun u s1 ⟨x, H1, I1, rx, d, ob, kvs, ex, hd, q⟩ => ?_)
  subst ex
  obtain rfl : u = Value.ref d := rx
  obtain ⟨hgd, es, ep, hdt, hsz, raw, ent⟩ := do_ent I1 hd
  refine ⟨raw.typeIs, fun b z => by cases z; exact ⟨ob, hgd, hd.ex.2.1⟩, ?_⟩
  have I2 : Inv X pins σ H1 { s1 with heap := s1.heap.push { cls := .type "dict_items", data := .fields #[.ref d] } } := I1.kept (t' := s1.toks) fun b ob q => Heap.get?_push_of_some _ q
  have raw2 : (s1.heap.push { cls := .type "dict_items", data := .fields #[.ref d] }).DictRaw d es ep := raw.at fun o e => Heap.get?_push_of_some _ e
  have fin : wpAny (model X.prog X.w) X.A (pyIter (.ref s1.heap.objs.size)) (PIE X pins σ (.Tuple elts kk tpos) R) X.xe { s1 with heap := s1.heap.push { cls := .type "dict_items", data := .fields #[.ref d] } } := by
    refine wpAny_pyIter_items_raw (d := d) ⟨_, Heap.get?_push_size _ rfl, rfl, rfl⟩ raw2 (pi_one (tk := s1.toks) I2 _ (turn_ni _ hdt) ⟨.none, .none, ?_⟩ q)
    rw [hsz]
    exact Heap.get?_push_size _ rfl
  show wpAny _ _ (callWith cpos (.builtin "dict.items") [.ref d] [] []) _ X.xe s1
  exact method_meetsIn F.slot_dict_items F.entry_dict_items rfl (PySem.evalArgs_none ⟨rfl, raw.typeIs, F.args_dict_items_1 _, _, meets_dict_items_raw d hd.low, ⟨es, ep, raw⟩, fin⟩)
end
end NF

set_option Elab.async false
set_option linter.all false
set_option maxRecDepth 100000
set_option maxHeartbeats 4000000
namespace NF
open PySem PySem.Spec PyProof.Rows L2 NFM
abbrev FnP (K : PySem.W.Frag) (x : Str) (st : Stmt) (f : Addr) (fd : FuncData) : Prop := FunD K x x (defArgs st) (defBody st) (defScope st) [] [] f fd
/-- what the top has left -/
structure Txt (K : PySem.W.Frag) (mg : Str → Option Value) : Prop where
  c : He.SaysD fas dfs K
  e : ex K = true
  i : ∃ h : Heap, K.In h ∧ h.Ns mainGlobals mg
/-- the module's name x is a def that keeps the promise sp -/
structure Cl (P : Program) (w : World) (K : PySem.W.Frag) (mg : Str → Option Value) (base : Heap) (CX : CXT) (k : Nat) (x : Str) (ps : List Str) (sp : Sp) : Prop where
  ex : ∃ (f : Addr) (fd : FuncData), FnOk P w K mg base CX k f fd ps sp ∧ mg x = some (.ref f) ∧ PySem.W.keepIn K (.ref f) = true ∧ Binds K fd ps []
section
variable {X : Cx} {CX : CXT} {k j : Nat} {x : Str} {ps : List Str} {sp : Sp} {E : XK} {p pos : Pos} {e : Expr} {es : List Expr} {t : TA}
theorem pe_cl (c : Cl X.prog X.w X.K X.mg X.base CX k x ps sp) (hr : Room j X.A) (hk : k ≤ j) (hg : Gl X x) (hx : Passes CX X E) (ha : PA X (e :: es) t)
    (hdb : (x == ("__debug__" : Str)) = false := by decide) (he : starEach (e :: es) X.env = (false, eval e X.env) :: starEach es X.env := by rfl) (hpl : (backTo pos (starEach es X.env)).any (·.1) = false := by rfl) :
    PE X (.Call (.Name x p) (e :: es) [] pos) (tCall sp [] E t) := by
  obtain ⟨f, fd, F, hm, kp, b⟩ := c.ex
  exact pe_call F (hr.mono hk) hg hm kp b .nil hx ha hdb he hpl
end
section
variable {P : Program} {w : World} {K : PySem.W.Frag} {mg : Str → Option Value} {base : Heap}
/-- a def that lets no exception out -/
theorem cl_mk {x : Str} {st : Stmt} {f : Addr} {ps N : List Str} {sp : Sp} {k : Nat} (F : ∃ fd, FnP K x st f fd) (m : mg x = some (.ref f)) (S : FnScope N ps (defScope st))
    (hb : ∀ (kV doc pm : Value) (an : Option Addr) (cdv ct : Value) (us : List Value), us.length = ps.length → bindArgs (PySem.W.fnOf x x (defArgs st) (defBody st) (defScope st) .none kV doc pm an cdv ct) ⟨us, []⟩ = pure (ps.zip us))
    (len : ∀ vs H Q E, sp vs H Q E → vs.length = ps.length)
    (hbody : ∀ (cdv : Value) (A : Around) (outer : List Env) (s : Shared) (H : Hp) (vs : List V) (Q : VK) (E : XK), Room k (A.deeper (envOfC x (defScope st) s.heap.objs.size f cdv)) → sp vs H Q E →
      ∃ t, PSs (cxOf CX0 P w K mg base N x (defScope st) f cdv A outer s H E).nox (defBody st) t ∧ t { nx := fun _ H' => Q .non H', rt := Q } (start N vs) H) : Cl P w K mg base CX0 (k + 1) x ps sp := by
  obtain ⟨fd, F⟩ := F
  refine ⟨f, fd, F.ok S len fun cdv A outer s H vs Q E hr h => ?_, m, F.kp, F.bindsN hb⟩
  obtain ⟨t, h1, h2⟩ := hbody cdv A outer s H vs Q E hr h
  exact ⟨t, h1.nox, h2⟩
/-- a def that may raise -/
theorem cl_mkX {x : Str} {st : Stmt} {f : Addr} {ps N : List Str} {sp : Sp} {k : Nat} (F : ∃ fd, FnP K x st f fd) (m : mg x = some (.ref f)) (S : FnScope N ps (defScope st))
    (hb : ∀ (kV doc pm : Value) (an : Option Addr) (cdv ct : Value) (us : List Value), us.length = ps.length → bindArgs (PySem.W.fnOf x x (defArgs st) (defBody st) (defScope st) .none kV doc pm an cdv ct) ⟨us, []⟩ = pure (ps.zip us))
    (len : ∀ vs H Q E, sp vs H Q E → vs.length = ps.length)
    (hbody : ∀ (cdv : Value) (A : Around) (outer : List Env) (s : Shared) (H : Hp) (vs : List V) (Q : VK) (E : XK), Room k (A.deeper (envOfC x (defScope st) s.heap.objs.size f cdv)) → sp vs H Q E →
      ∃ t, PSs (cxOf (L2.CX P w) P w K mg base N x (defScope st) f cdv A outer s H E) (defBody st) t ∧ t { nx := fun _ H' => Q .non H', rt := Q } (start N vs) H) : Cl P w K mg base (L2.CX P w) (k + 1) x ps sp := by
  obtain ⟨fd, F⟩ := F
  exact ⟨f, fd, F.ok S len fun cdv A outer s H vs Q E hr h => hbody cdv A outer s H vs Q E hr h, m, F.kp, F.bindsN hb⟩
end
section
variable {K : PySem.W.Frag} {mg : Str → Option Value} (T : Txt K mg)
include T
theorem Txt.glo {x : Str} (j : Nat) (h : fas[j]? = some (.glo x)) : mg x = some (.ref (He.ga K x)) := by
  obtain ⟨_, X, G⟩ := T.i
  exact He.glo_ok X G (T.c.fact j h)
theorem Txt.fre {x : Str} (j : Nat) (h : fas[j]? = some (.free x)) : mg x = none := by
  obtain ⟨_, X, G⟩ := T.i
  exact He.free_ok X G (T.c.fact j h)
theorem Txt.int {x : Str} {z : Int} (j : Nat) (h : fas[j]? = some (.int x z)) : ∃ t, mg x = some (.int z t) := by
  obtain ⟨_, X, G⟩ := T.i
  exact He.int_ok X G (T.c.fact j h)
theorem Txt.str {x z : Str} (j : Nat) (h : fas[j]? = some (.str x z)) : ∃ t, mg x = some (.str z t) := by
  obtain ⟨_, X, G⟩ := T.i
  exact He.str_ok X G (T.c.fact j h)
theorem mg_SeatError : mg "SeatError" = some (.ref (He.ga K "SeatError")) := T.glo 0 rfl
theorem mg_OtherMarks : mg "OtherMarks" = some (.ref (He.ga K "OtherMarks")) := T.glo 1 rfl
theorem mg_BadSeats : mg "BadSeats" = some (.ref (He.ga K "BadSeats")) := T.glo 2 rfl
theorem mg_TooMany : mg "TooMany" = some (.ref (He.ga K "TooMany")) := T.glo 3 rfl
theorem ms_SMALL : ∃ t, mg "SMALL" = some (.str "abcdefghijklmnopqrstuvwxyz" t) := T.str 4 rfl
theorem mi_MOST_MARKS : ∃ t, mg "MOST_MARKS" = some (.int 5 t) := T.int 5 rfl
theorem mi_MOST_SEATS : ∃ t, mg "MOST_SEATS" = some (.int 40 t) := T.int 6 rfl
theorem mi_MOST_COMERS : ∃ t, mg "MOST_COMERS" = some (.int 200 t) := T.int 7 rfl
theorem mg_is_ascending : mg "is_ascending" = some (.ref (He.ga K "is_ascending")) := T.glo 8 rfl
theorem mg_is_marks : mg "is_marks" = some (.ref (He.ga K "is_marks")) := T.glo 9 rfl
theorem mg_is_kind : mg "is_kind" = some (.ref (He.ga K "is_kind")) := T.glo 10 rfl
theorem mg_is_lot : mg "is_lot" = some (.ref (He.ga K "is_lot")) := T.glo 11 rfl
theorem mg_is_row : mg "is_row" = some (.ref (He.ga K "is_row")) := T.glo 12 rfl
theorem mg_check_same_marks : mg "check_same_marks" = some (.ref (He.ga K "check_same_marks")) := T.glo 13 rfl
theorem mg_all_kinds : mg "all_kinds" = some (.ref (He.ga K "all_kinds")) := T.glo 14 rfl
theorem mg_first_no_lot : mg "first_no_lot" = some (.ref (He.ga K "first_no_lot")) := T.glo 15 rfl
theorem mg_Seats : mg "Seats" = some (.ref (He.ga K "Seats")) := T.glo 16 rfl
theorem mg_first_seat : mg "first_seat" = some (.ref (He.ga K "first_seat")) := T.glo 17 rfl
theorem mg_led : mg "led" = some (.ref (He.ga K "led")) := T.glo 18 rfl
theorem mi_MOST_PAIRS : ∃ t, mg "MOST_PAIRS" = some (.int 3000 t) := T.int 19 rfl
theorem mg_behind : mg "behind" = some (.ref (He.ga K "behind")) := T.glo 20 rfl
theorem mg_pair_behind : mg "pair_behind" = some (.ref (He.ga K "pair_behind")) := T.glo 21 rfl
theorem mg_start_of : mg "start_of" = some (.ref (He.ga K "start_of")) := T.glo 22 rfl
theorem mg_lead_of : mg "lead_of" = some (.ref (He.ga K "lead_of")) := T.glo 23 rfl
theorem mg_all_pairs : mg "all_pairs" = some (.ref (He.ga K "all_pairs")) := T.glo 24 rfl
theorem mg_row_of_fewer : mg "row_of_fewer" = some (.ref (He.ga K "row_of_fewer")) := T.glo 25 rfl
theorem mg_never_fewer : mg "never_fewer" = some (.ref (He.ga K "never_fewer")) := T.glo 26 rfl
theorem mg_fewer : mg "fewer" = some (.ref (He.ga K "fewer")) := T.glo 27 rfl
theorem mg_many_taken : mg "many_taken" = some (.ref (He.ga K "many_taken")) := T.glo 28 rfl
theorem mg_is_fewer : mg "is_fewer" = some (.ref (He.ga K "is_fewer")) := T.glo 29 rfl
theorem mg_law_tape : mg "_law_tape" = some (.ref (He.ga K "_law_tape")) := T.glo 30 rfl
theorem mg_law_pick : mg "_law_pick" = some (.ref (He.ga K "_law_pick")) := T.glo 31 rfl
theorem mg_law_flag : mg "_law_flag" = some (.ref (He.ga K "_law_flag")) := T.glo 32 rfl
theorem mg_law_kinds : mg "_law_kinds" = some (.ref (He.ga K "_law_kinds")) := T.glo 33 rfl
theorem mg_law_marks : mg "_law_marks" = some (.ref (He.ga K "_law_marks")) := T.glo 34 rfl
theorem mg_law_lot : mg "_law_lot" = some (.ref (He.ga K "_law_lot")) := T.glo 35 rfl
theorem mg_law_lots : mg "_law_lots" = some (.ref (He.ga K "_law_lots")) := T.glo 36 rfl
theorem mg_law_row : mg "_law_row" = some (.ref (He.ga K "_law_row")) := T.glo 37 rfl
theorem mg_law_led : mg "_law_led" = some (.ref (He.ga K "_law_led")) := T.glo 38 rfl
theorem mg_law_next : mg "_law_next" = some (.ref (He.ga K "_law_next")) := T.glo 39 rfl
theorem mg_law_pairs : mg "_law_pairs" = some (.ref (He.ga K "_law_pairs")) := T.glo 40 rfl
theorem mg_law_lead : mg "_law_lead" = some (.ref (He.ga K "_law_lead")) := T.glo 41 rfl
theorem mg_law_others : mg "_law_others" = some (.ref (He.ga K "_law_others")) := T.glo 42 rfl
theorem mg_law_copies : mg "_law_copies" = some (.ref (He.ga K "_law_copies")) := T.glo 43 rfl
theorem mg_law_near : mg "_law_near" = some (.ref (He.ga K "_law_near")) := T.glo 44 rfl
theorem mg_law_many : mg "_law_many" = some (.ref (He.ga K "_law_many")) := T.glo 45 rfl
theorem mg_law_told : mg "_law_told" = some (.ref (He.ga K "_law_told")) := T.glo 46 rfl
theorem mg_law_is_paper : mg "_law_is_paper" = some (.ref (He.ga K "_law_is_paper")) := T.glo 47 rfl
theorem mg_law_is_right : mg "_law_is_right" = some (.ref (He.ga K "_law_is_right")) := T.glo 48 rfl
theorem mg_law : mg "law" = some (.ref (He.ga K "law")) := T.glo 49 rfl
theorem fr_len : mg "len" = none := T.fre 50 rfl
theorem fr_all : mg "all" = none := T.fre 51 rfl
theorem fr_isinstance : mg "isinstance" = none := T.fre 52 rfl
theorem fr_str : mg "str" = none := T.fre 53 rfl
theorem fr_tuple : mg "tuple" = none := T.fre 54 rfl
theorem fr_list : mg "list" = none := T.fre 55 rfl
theorem fr_int : mg "int" = none := T.fre 56 rfl
theorem fr_bool : mg "bool" = none := T.fre 57 rfl
theorem fr_range : mg "range" = none := T.fre 58 rfl
theorem fr_sorted : mg "sorted" = none := T.fre 59 rfl
theorem fr_enumerate : mg "enumerate" = none := T.fre 60 rfl
theorem cls_Seats : Cls K (He.ga K "Seats") := He.cls_ok (T.c.fact 61 rfl)
theorem noat_Seats_marks : NoAttr K (He.ga K "Seats") "marks" := He.noat_ok (T.c.fact 62 rfl)
theorem noat_Seats_lots : NoAttr K (He.ga K "Seats") "lots" := He.noat_ok (T.c.fact 63 rfl)
theorem mkr_Seats : Mk K (He.ga K "Seats") (He.ma K (He.ga K "Seats") "__init__") := He.mkr_ok (T.c.fact 64 rfl)
theorem exm_TooMany : PySem.W.exmOne K (.ref (He.ga K "TooMany")) (.ref (He.ga K "TooMany")) = some true := He.exm_ok (T.c.fact 65 rfl)
theorem keep_TooMany : PySem.W.keepIn K (.ref (He.ga K "TooMany")) = true := He.keep_ok (T.c.fact 66 rfl)
theorem noat_TooMany_most : NoAttr K (He.ga K "TooMany") "most" := He.noat_ok (T.c.fact 67 rfl)
theorem fn_TooMany_init : ∃ fd, FunD K "__init__" "TooMany.__init__" (defArgs s_TooMany_init) (defBody s_TooMany_init) (defScope s_TooMany_init) [] [] (He.ma K (He.ga K "TooMany") "__init__") fd := T.c.def_ 0 (d := d_TooMany_init) rfl
theorem fn_Seats_init : ∃ fd, FunD K "__init__" "Seats.__init__" (defArgs s_Seats_init) (defBody s_Seats_init) (defScope s_Seats_init) [] [] (He.ma K (He.ga K "Seats") "__init__") fd := T.c.def_ 9 (d := d_Seats_init) rfl
omit T in
theorem dummy_ : True := True.intro
theorem fn_is_ascending : ∃ fd, FnP K "is_ascending" s_is_ascending (He.ga K "is_ascending") fd := T.c.def_ 1 (d := d_is_ascending) rfl
theorem fn_is_marks : ∃ fd, FnP K "is_marks" s_is_marks (He.ga K "is_marks") fd := T.c.def_ 2 (d := d_is_marks) rfl
theorem fn_is_kind : ∃ fd, FnP K "is_kind" s_is_kind (He.ga K "is_kind") fd := T.c.def_ 3 (d := d_is_kind) rfl
theorem fn_is_lot : ∃ fd, FnP K "is_lot" s_is_lot (He.ga K "is_lot") fd := T.c.def_ 4 (d := d_is_lot) rfl
theorem fn_is_row : ∃ fd, FnP K "is_row" s_is_row (He.ga K "is_row") fd := T.c.def_ 5 (d := d_is_row) rfl
theorem fn_check_same_marks : ∃ fd, FnP K "check_same_marks" s_check_same_marks (He.ga K "check_same_marks") fd := T.c.def_ 6 (d := d_check_same_marks) rfl
theorem fn_all_kinds : ∃ fd, FnP K "all_kinds" s_all_kinds (He.ga K "all_kinds") fd := T.c.def_ 7 (d := d_all_kinds) rfl
theorem fn_first_no_lot : ∃ fd, FnP K "first_no_lot" s_first_no_lot (He.ga K "first_no_lot") fd := T.c.def_ 8 (d := d_first_no_lot) rfl
theorem fn_first_seat : ∃ fd, FnP K "first_seat" s_first_seat (He.ga K "first_seat") fd := T.c.def_ 10 (d := d_first_seat) rfl
theorem fn_led : ∃ fd, FnP K "led" s_led (He.ga K "led") fd := T.c.def_ 11 (d := d_led) rfl
theorem fn_behind : ∃ fd, FnP K "behind" s_behind (He.ga K "behind") fd := T.c.def_ 12 (d := d_behind) rfl
theorem fn_pair_behind : ∃ fd, FnP K "pair_behind" s_pair_behind (He.ga K "pair_behind") fd := T.c.def_ 13 (d := d_pair_behind) rfl
theorem fn_start_of : ∃ fd, FnP K "start_of" s_start_of (He.ga K "start_of") fd := T.c.def_ 14 (d := d_start_of) rfl
theorem fn_lead_of : ∃ fd, FnP K "lead_of" s_lead_of (He.ga K "lead_of") fd := T.c.def_ 15 (d := d_lead_of) rfl
theorem fn_all_pairs : ∃ fd, FnP K "all_pairs" s_all_pairs (He.ga K "all_pairs") fd := T.c.def_ 16 (d := d_all_pairs) rfl
theorem fn_row_of_fewer : ∃ fd, FnP K "row_of_fewer" s_row_of_fewer (He.ga K "row_of_fewer") fd := T.c.def_ 17 (d := d_row_of_fewer) rfl
theorem fn_never_fewer : ∃ fd, FnP K "never_fewer" s_never_fewer (He.ga K "never_fewer") fd := T.c.def_ 18 (d := d_never_fewer) rfl
theorem fn_fewer : ∃ fd, FnP K "fewer" s_fewer (He.ga K "fewer") fd := T.c.def_ 19 (d := d_fewer) rfl
theorem fn_many_taken : ∃ fd, FnP K "many_taken" s_many_taken (He.ga K "many_taken") fd := T.c.def_ 20 (d := d_many_taken) rfl
theorem fn_is_fewer : ∃ fd, FnP K "is_fewer" s_is_fewer (He.ga K "is_fewer") fd := T.c.def_ 21 (d := d_is_fewer) rfl
theorem fn_law_tape : ∃ fd, FnP K "_law_tape" s_law_tape (He.ga K "_law_tape") fd := T.c.def_ 22 (d := d_law_tape) rfl
theorem fn_law_pick : ∃ fd, FnP K "_law_pick" s_law_pick (He.ga K "_law_pick") fd := T.c.def_ 23 (d := d_law_pick) rfl
theorem fn_law_flag : ∃ fd, FnP K "_law_flag" s_law_flag (He.ga K "_law_flag") fd := T.c.def_ 24 (d := d_law_flag) rfl
theorem fn_law_kinds : ∃ fd, FnP K "_law_kinds" s_law_kinds (He.ga K "_law_kinds") fd := T.c.def_ 25 (d := d_law_kinds) rfl
theorem fn_law_marks : ∃ fd, FnP K "_law_marks" s_law_marks (He.ga K "_law_marks") fd := T.c.def_ 26 (d := d_law_marks) rfl
theorem fn_law_lot : ∃ fd, FnP K "_law_lot" s_law_lot (He.ga K "_law_lot") fd := T.c.def_ 27 (d := d_law_lot) rfl
theorem fn_law_lots : ∃ fd, FnP K "_law_lots" s_law_lots (He.ga K "_law_lots") fd := T.c.def_ 28 (d := d_law_lots) rfl
theorem fn_law_row : ∃ fd, FnP K "_law_row" s_law_row (He.ga K "_law_row") fd := T.c.def_ 29 (d := d_law_row) rfl
theorem fn_law_led : ∃ fd, FnP K "_law_led" s_law_led (He.ga K "_law_led") fd := T.c.def_ 30 (d := d_law_led) rfl
theorem fn_law_next : ∃ fd, FnP K "_law_next" s_law_next (He.ga K "_law_next") fd := T.c.def_ 31 (d := d_law_next) rfl
theorem fn_law_pairs : ∃ fd, FnP K "_law_pairs" s_law_pairs (He.ga K "_law_pairs") fd := T.c.def_ 32 (d := d_law_pairs) rfl
theorem fn_law_lead : ∃ fd, FnP K "_law_lead" s_law_lead (He.ga K "_law_lead") fd := T.c.def_ 33 (d := d_law_lead) rfl
theorem fn_law_others : ∃ fd, FnP K "_law_others" s_law_others (He.ga K "_law_others") fd := T.c.def_ 34 (d := d_law_others) rfl
theorem fn_law_copies : ∃ fd, FnP K "_law_copies" s_law_copies (He.ga K "_law_copies") fd := T.c.def_ 35 (d := d_law_copies) rfl
theorem fn_law_near : ∃ fd, FnP K "_law_near" s_law_near (He.ga K "_law_near") fd := T.c.def_ 36 (d := d_law_near) rfl
theorem fn_law_many : ∃ fd, FnP K "_law_many" s_law_many (He.ga K "_law_many") fd := T.c.def_ 37 (d := d_law_many) rfl
theorem fn_law_told : ∃ fd, FnP K "_law_told" s_law_told (He.ga K "_law_told") fd := T.c.def_ 38 (d := d_law_told) rfl
theorem fn_law_is_paper : ∃ fd, FnP K "_law_is_paper" s_law_is_paper (He.ga K "_law_is_paper") fd := T.c.def_ 39 (d := d_law_is_paper) rfl
theorem fn_law_is_right : ∃ fd, FnP K "_law_is_right" s_law_is_right (He.ga K "_law_is_right") fd := T.c.def_ 40 (d := d_law_is_right) rfl
theorem fn_law : ∃ fd, FnP K "law" s_law (He.ga K "law") fd := T.c.def_ 41 (d := d_law) rfl
end
/-- slots: 0 self, 1 most -/
abbrev N_TooMany_init : List Str := ["self", "most"]
abbrev P_TooMany_init : List Str := ["self", "most"]
theorem sc_TooMany_init : FnScope N_TooMany_init P_TooMany_init (defScope s_TooMany_init) := ⟨rfl, rfl, rfl, by decide +kernel, rfl, by decide +kernel, by decide +kernel⟩
theorem bd_TooMany_init (kV doc pm : Value) (an : Option Addr) (cdv ct : Value) (us : List Value) (hl : us.length = (P_TooMany_init).length) : bindArgs (PySem.W.fnOf "__init__" "TooMany.__init__" (defArgs s_TooMany_init) (defBody s_TooMany_init) (defScope s_TooMany_init) .none kV doc pm an cdv ct) ⟨us, []⟩ = pure ((P_TooMany_init).zip us) := match us, hl with | [_, _], _ => rfl
/-- slots: 0 items, 1 at -/
abbrev N_is_ascending : List Str := ["items", "at"]
abbrev P_is_ascending : List Str := ["items"]
theorem sc_is_ascending : FnScope N_is_ascending P_is_ascending (defScope s_is_ascending) := ⟨rfl, rfl, rfl, by decide +kernel, rfl, by decide +kernel, by decide +kernel⟩
theorem bd_is_ascending (kV doc pm : Value) (an : Option Addr) (cdv ct : Value) (us : List Value) (hl : us.length = (P_is_ascending).length) : bindArgs (PySem.W.fnOf "is_ascending" "is_ascending" (defArgs s_is_ascending) (defBody s_is_ascending) (defScope s_is_ascending) .none kV doc pm an cdv ct) ⟨us, []⟩ = pure ((P_is_ascending).zip us) := match us, hl with | [_], _ => rfl
/-- slots: 0 thing, 1 sign -/
abbrev N_is_marks : List Str := ["thing", "sign"]
abbrev P_is_marks : List Str := ["thing"]
theorem sc_is_marks : FnScope N_is_marks P_is_marks (defScope s_is_marks) := ⟨rfl, rfl, rfl, by decide +kernel, rfl, by decide +kernel, by decide +kernel⟩
theorem bd_is_marks (kV doc pm : Value) (an : Option Addr) (cdv ct : Value) (us : List Value) (hl : us.length = (P_is_marks).length) : bindArgs (PySem.W.fnOf "is_marks" "is_marks" (defArgs s_is_marks) (defBody s_is_marks) (defScope s_is_marks) .none kV doc pm an cdv ct) ⟨us, []⟩ = pure ((P_is_marks).zip us) := match us, hl with | [_], _ => rfl
/-- slots: 0 marks, 1 thing, 2 sign -/
abbrev N_is_kind : List Str := ["marks", "thing", "sign"]
abbrev P_is_kind : List Str := ["marks", "thing"]
theorem sc_is_kind : FnScope N_is_kind P_is_kind (defScope s_is_kind) := ⟨rfl, rfl, rfl, by decide +kernel, rfl, by decide +kernel, by decide +kernel⟩
theorem bd_is_kind (kV doc pm : Value) (an : Option Addr) (cdv ct : Value) (us : List Value) (hl : us.length = (P_is_kind).length) : bindArgs (PySem.W.fnOf "is_kind" "is_kind" (defArgs s_is_kind) (defBody s_is_kind) (defScope s_is_kind) .none kV doc pm an cdv ct) ⟨us, []⟩ = pure ((P_is_kind).zip us) := match us, hl with | [_, _], _ => rfl
/-- slots: 0 marks, 1 thing, 2 kind -/
abbrev N_is_lot : List Str := ["marks", "thing", "kind"]
abbrev P_is_lot : List Str := ["marks", "thing"]
theorem sc_is_lot : FnScope N_is_lot P_is_lot (defScope s_is_lot) := ⟨rfl, rfl, rfl, by decide +kernel, rfl, by decide +kernel, by decide +kernel⟩
theorem bd_is_lot (kV doc pm : Value) (an : Option Addr) (cdv ct : Value) (us : List Value) (hl : us.length = (P_is_lot).length) : bindArgs (PySem.W.fnOf "is_lot" "is_lot" (defArgs s_is_lot) (defBody s_is_lot) (defScope s_is_lot) .none kV doc pm an cdv ct) ⟨us, []⟩ = pure ((P_is_lot).zip us) := match us, hl with | [_, _], _ => rfl
/-- slots: 0 marks, 1 thing, 2 kind -/
abbrev N_is_row : List Str := ["marks", "thing", "kind"]
abbrev P_is_row : List Str := ["marks", "thing"]
theorem sc_is_row : FnScope N_is_row P_is_row (defScope s_is_row) := ⟨rfl, rfl, rfl, by decide +kernel, rfl, by decide +kernel, by decide +kernel⟩
theorem bd_is_row (kV doc pm : Value) (an : Option Addr) (cdv ct : Value) (us : List Value) (hl : us.length = (P_is_row).length) : bindArgs (PySem.W.fnOf "is_row" "is_row" (defArgs s_is_row) (defBody s_is_row) (defScope s_is_row) .none kV doc pm an cdv ct) ⟨us, []⟩ = pure ((P_is_row).zip us) := match us, hl with | [_, _], _ => rfl
/-- slots: 0 one, 1 other -/
abbrev N_check_same_marks : List Str := ["one", "other"]
abbrev P_check_same_marks : List Str := ["one", "other"]
theorem sc_check_same_marks : FnScope N_check_same_marks P_check_same_marks (defScope s_check_same_marks) := ⟨rfl, rfl, rfl, by decide +kernel, rfl, by decide +kernel, by decide +kernel⟩
theorem bd_check_same_marks (kV doc pm : Value) (an : Option Addr) (cdv ct : Value) (us : List Value) (hl : us.length = (P_check_same_marks).length) : bindArgs (PySem.W.fnOf "check_same_marks" "check_same_marks" (defArgs s_check_same_marks) (defBody s_check_same_marks) (defScope s_check_same_marks) .none kV doc pm an cdv ct) ⟨us, []⟩ = pure ((P_check_same_marks).zip us) := match us, hl with | [_, _], _ => rfl
/-- slots: 0 marks, 1 found, 2 mark, 3 kind -/
abbrev N_all_kinds : List Str := ["marks", "found", "mark", "kind"]
abbrev P_all_kinds : List Str := ["marks"]
theorem sc_all_kinds : FnScope N_all_kinds P_all_kinds (defScope s_all_kinds) := ⟨rfl, rfl, rfl, by decide +kernel, rfl, by decide +kernel, by decide +kernel⟩
theorem bd_all_kinds (kV doc pm : Value) (an : Option Addr) (cdv ct : Value) (us : List Value) (hl : us.length = (P_all_kinds).length) : bindArgs (PySem.W.fnOf "all_kinds" "all_kinds" (defArgs s_all_kinds) (defBody s_all_kinds) (defScope s_all_kinds) .none kV doc pm an cdv ct) ⟨us, []⟩ = pure ((P_all_kinds).zip us) := match us, hl with | [_], _ => rfl
/-- slots: 0 marks, 1 lots, 2 at, 3 lot -/
abbrev N_first_no_lot : List Str := ["marks", "lots", "at", "lot"]
abbrev P_first_no_lot : List Str := ["marks", "lots"]
theorem sc_first_no_lot : FnScope N_first_no_lot P_first_no_lot (defScope s_first_no_lot) := ⟨rfl, rfl, rfl, by decide +kernel, rfl, by decide +kernel, by decide +kernel⟩
theorem bd_first_no_lot (kV doc pm : Value) (an : Option Addr) (cdv ct : Value) (us : List Value) (hl : us.length = (P_first_no_lot).length) : bindArgs (PySem.W.fnOf "first_no_lot" "first_no_lot" (defArgs s_first_no_lot) (defBody s_first_no_lot) (defScope s_first_no_lot) .none kV doc pm an cdv ct) ⟨us, []⟩ = pure ((P_first_no_lot).zip us) := match us, hl with | [_, _], _ => rfl
/-- slots: 0 self, 1 marks, 2 lots, 3 at -/
abbrev N_Seats_init : List Str := ["self", "marks", "lots", "at"]
abbrev P_Seats_init : List Str := ["self", "marks", "lots"]
theorem sc_Seats_init : FnScope N_Seats_init P_Seats_init (defScope s_Seats_init) := ⟨rfl, rfl, rfl, by decide +kernel, rfl, by decide +kernel, by decide +kernel⟩
theorem bd_Seats_init (kV doc pm : Value) (an : Option Addr) (cdv ct : Value) (us : List Value) (hl : us.length = (P_Seats_init).length) : bindArgs (PySem.W.fnOf "__init__" "Seats.__init__" (defArgs s_Seats_init) (defBody s_Seats_init) (defScope s_Seats_init) .none kV doc pm an cdv ct) ⟨us, []⟩ = pure ((P_Seats_init).zip us) := match us, hl with | [_, _, _], _ => rfl
/-- slots: 0 lots, 1 free, 2 kind, 3 seat -/
abbrev N_first_seat : List Str := ["lots", "free", "kind", "seat"]
abbrev P_first_seat : List Str := ["lots", "free", "kind"]
theorem sc_first_seat : FnScope N_first_seat P_first_seat (defScope s_first_seat) := ⟨rfl, rfl, rfl, by decide +kernel, rfl, by decide +kernel, by decide +kernel⟩
theorem bd_first_seat (kV doc pm : Value) (an : Option Addr) (cdv ct : Value) (us : List Value) (hl : us.length = (P_first_seat).length) : bindArgs (PySem.W.fnOf "first_seat" "first_seat" (defArgs s_first_seat) (defBody s_first_seat) (defScope s_first_seat) .none kV doc pm an cdv ct) ⟨us, []⟩ = pure ((P_first_seat).zip us) := match us, hl with | [_, _, _], _ => rfl
/-- slots: 0 lots, 1 row, 2 free, 3 found, 4 kind, 5 seat -/
abbrev N_led : List Str := ["lots", "row", "free", "found", "kind", "seat"]
abbrev P_led : List Str := ["lots", "row"]
theorem sc_led : FnScope N_led P_led (defScope s_led) := ⟨rfl, rfl, rfl, by decide +kernel, rfl, by decide +kernel, by decide +kernel⟩
theorem bd_led (kV doc pm : Value) (an : Option Addr) (cdv ct : Value) (us : List Value) (hl : us.length = (P_led).length) : bindArgs (PySem.W.fnOf "led" "led" (defArgs s_led) (defBody s_led) (defScope s_led) .none kV doc pm an cdv ct) ⟨us, []⟩ = pure ((P_led).zip us) := match us, hl with | [_, _], _ => rfl
/-- slots: 0 lots, 1 free, 2 kind, 3 seat, 4 other -/
abbrev N_behind : List Str := ["lots", "free", "kind", "seat", "other"]
abbrev P_behind : List Str := ["lots", "free", "kind"]
theorem sc_behind : FnScope N_behind P_behind (defScope s_behind) := ⟨rfl, rfl, rfl, by decide +kernel, rfl, by decide +kernel, by decide +kernel⟩
theorem bd_behind (kV doc pm : Value) (an : Option Addr) (cdv ct : Value) (us : List Value) (hl : us.length = (P_behind).length) : bindArgs (PySem.W.fnOf "behind" "behind" (defArgs s_behind) (defBody s_behind) (defScope s_behind) .none kV doc pm an cdv ct) ⟨us, []⟩ = pure ((P_behind).zip us) := match us, hl with | [_, _, _], _ => rfl
/-- slots: 0 one, 1 other, 2 pair, 3 kind -/
abbrev N_pair_behind : List Str := ["one", "other", "pair", "kind"]
abbrev P_pair_behind : List Str := ["one", "other", "pair", "kind"]
theorem sc_pair_behind : FnScope N_pair_behind P_pair_behind (defScope s_pair_behind) := ⟨rfl, rfl, rfl, by decide +kernel, rfl, by decide +kernel, by decide +kernel⟩
theorem bd_pair_behind (kV doc pm : Value) (an : Option Addr) (cdv ct : Value) (us : List Value) (hl : us.length = (P_pair_behind).length) : bindArgs (PySem.W.fnOf "pair_behind" "pair_behind" (defArgs s_pair_behind) (defBody s_pair_behind) (defScope s_pair_behind) .none kV doc pm an cdv ct) ⟨us, []⟩ = pure ((P_pair_behind).zip us) := match us, hl with | [_, _, _, _], _ => rfl
/-- slots: 0 one, 1 other -/
abbrev N_start_of : List Str := ["one", "other"]
abbrev P_start_of : List Str := ["one", "other"]
theorem sc_start_of : FnScope N_start_of P_start_of (defScope s_start_of) := ⟨rfl, rfl, rfl, by decide +kernel, rfl, by decide +kernel, by decide +kernel⟩
theorem bd_start_of (kV doc pm : Value) (an : Option Addr) (cdv ct : Value) (us : List Value) (hl : us.length = (P_start_of).length) : bindArgs (PySem.W.fnOf "start_of" "start_of" (defArgs s_start_of) (defBody s_start_of) (defScope s_start_of) .none kV doc pm an cdv ct) ⟨us, []⟩ = pure ((P_start_of).zip us) := match us, hl with | [_, _], _ => rfl
/-- slots: 0 one, 1 other, 2 pair -/
abbrev N_lead_of : List Str := ["one", "other", "pair"]
abbrev P_lead_of : List Str := ["one", "other", "pair"]
theorem sc_lead_of : FnScope N_lead_of P_lead_of (defScope s_lead_of) := ⟨rfl, rfl, rfl, by decide +kernel, rfl, by decide +kernel, by decide +kernel⟩
theorem bd_lead_of (kV doc pm : Value) (an : Option Addr) (cdv ct : Value) (us : List Value) (hl : us.length = (P_lead_of).length) : bindArgs (PySem.W.fnOf "lead_of" "lead_of" (defArgs s_lead_of) (defBody s_lead_of) (defScope s_lead_of) .none kV doc pm an cdv ct) ⟨us, []⟩ = pure ((P_lead_of).zip us) := match us, hl with | [_, _, _], _ => rfl
/-- slots: 0 one, 1 other, 2 every, 3 start, 4 found, 5 waiting, 6 later, 7 pair, 8 kind, 9 goal -/
abbrev N_all_pairs : List Str := ["one", "other", "every", "start", "found", "waiting", "later", "pair", "kind", "goal"]
abbrev P_all_pairs : List Str := ["one", "other"]
theorem sc_all_pairs : FnScope N_all_pairs P_all_pairs (defScope s_all_pairs) := ⟨rfl, rfl, rfl, by decide +kernel, rfl, by decide +kernel, by decide +kernel⟩
theorem bd_all_pairs (kV doc pm : Value) (an : Option Addr) (cdv ct : Value) (us : List Value) (hl : us.length = (P_all_pairs).length) : bindArgs (PySem.W.fnOf "all_pairs" "all_pairs" (defArgs s_all_pairs) (defBody s_all_pairs) (defScope s_all_pairs) .none kV doc pm an cdv ct) ⟨us, []⟩ = pure ((P_all_pairs).zip us) := match us, hl with | [_, _], _ => rfl
/-- slots: 0 one, 1 other, 2 pair, 3 row -/
abbrev N_row_of_fewer : List Str := ["one", "other", "pair", "row"]
abbrev P_row_of_fewer : List Str := ["one", "other"]
theorem sc_row_of_fewer : FnScope N_row_of_fewer P_row_of_fewer (defScope s_row_of_fewer) := ⟨rfl, rfl, rfl, by decide +kernel, rfl, by decide +kernel, by decide +kernel⟩
theorem bd_row_of_fewer (kV doc pm : Value) (an : Option Addr) (cdv ct : Value) (us : List Value) (hl : us.length = (P_row_of_fewer).length) : bindArgs (PySem.W.fnOf "row_of_fewer" "row_of_fewer" (defArgs s_row_of_fewer) (defBody s_row_of_fewer) (defScope s_row_of_fewer) .none kV doc pm an cdv ct) ⟨us, []⟩ = pure ((P_row_of_fewer).zip us) := match us, hl with | [_, _], _ => rfl
/-- slots: 0 one, 1 other -/
abbrev N_never_fewer : List Str := ["one", "other"]
abbrev P_never_fewer : List Str := ["one", "other"]
theorem sc_never_fewer : FnScope N_never_fewer P_never_fewer (defScope s_never_fewer) := ⟨rfl, rfl, rfl, by decide +kernel, rfl, by decide +kernel, by decide +kernel⟩
theorem bd_never_fewer (kV doc pm : Value) (an : Option Addr) (cdv ct : Value) (us : List Value) (hl : us.length = (P_never_fewer).length) : bindArgs (PySem.W.fnOf "never_fewer" "never_fewer" (defArgs s_never_fewer) (defBody s_never_fewer) (defScope s_never_fewer) .none kV doc pm an cdv ct) ⟨us, []⟩ = pure ((P_never_fewer).zip us) := match us, hl with | [_, _], _ => rfl
/-- slots: 0 one, 1 other -/
abbrev N_fewer : List Str := ["one", "other"]
abbrev P_fewer : List Str := ["one", "other"]
theorem sc_fewer : FnScope N_fewer P_fewer (defScope s_fewer) := ⟨rfl, rfl, rfl, by decide +kernel, rfl, by decide +kernel, by decide +kernel⟩
theorem bd_fewer (kV doc pm : Value) (an : Option Addr) (cdv ct : Value) (us : List Value) (hl : us.length = (P_fewer).length) : bindArgs (PySem.W.fnOf "fewer" "fewer" (defArgs s_fewer) (defBody s_fewer) (defScope s_fewer) .none kV doc pm an cdv ct) ⟨us, []⟩ = pure ((P_fewer).zip us) := match us, hl with | [_, _], _ => rfl
/-- slots: 0 seats, 1 row, 2 seat -/
abbrev N_many_taken : List Str := ["seats", "row", "seat"]
abbrev P_many_taken : List Str := ["seats", "row"]
theorem sc_many_taken : FnScope N_many_taken P_many_taken (defScope s_many_taken) := ⟨rfl, rfl, rfl, by decide +kernel, rfl, by decide +kernel, by decide +kernel⟩
theorem bd_many_taken (kV doc pm : Value) (an : Option Addr) (cdv ct : Value) (us : List Value) (hl : us.length = (P_many_taken).length) : bindArgs (PySem.W.fnOf "many_taken" "many_taken" (defArgs s_many_taken) (defBody s_many_taken) (defScope s_many_taken) .none kV doc pm an cdv ct) ⟨us, []⟩ = pure ((P_many_taken).zip us) := match us, hl with | [_, _], _ => rfl
/-- slots: 0 one, 1 other, 2 thing -/
abbrev N_is_fewer : List Str := ["one", "other", "thing"]
abbrev P_is_fewer : List Str := ["one", "other", "thing"]
theorem sc_is_fewer : FnScope N_is_fewer P_is_fewer (defScope s_is_fewer) := ⟨rfl, rfl, rfl, by decide +kernel, rfl, by decide +kernel, by decide +kernel⟩
theorem bd_is_fewer (kV doc pm : Value) (an : Option Addr) (cdv ct : Value) (us : List Value) (hl : us.length = (P_is_fewer).length) : bindArgs (PySem.W.fnOf "is_fewer" "is_fewer" (defArgs s_is_fewer) (defBody s_is_fewer) (defScope s_is_fewer) .none kV doc pm an cdv ct) ⟨us, []⟩ = pure ((P_is_fewer).zip us) := match us, hl with | [_, _, _], _ => rfl
/-- slots: 0 _law_script -/
abbrev N_law_tape : List Str := ["_law_script"]
abbrev P_law_tape : List Str := ["_law_script"]
theorem sc_law_tape : FnScope N_law_tape P_law_tape (defScope s_law_tape) := ⟨rfl, rfl, rfl, by decide +kernel, rfl, by decide +kernel, by decide +kernel⟩
theorem bd_law_tape (kV doc pm : Value) (an : Option Addr) (cdv ct : Value) (us : List Value) (hl : us.length = (P_law_tape).length) : bindArgs (PySem.W.fnOf "_law_tape" "_law_tape" (defArgs s_law_tape) (defBody s_law_tape) (defScope s_law_tape) .none kV doc pm an cdv ct) ⟨us, []⟩ = pure ((P_law_tape).zip us) := match us, hl with | [_], _ => rfl
/-- slots: 0 _law_tape_here, 1 _law_many_here, 2 _law_digit, 3 _law_cell, 4 _law_mixed -/
abbrev N_law_pick : List Str := ["_law_tape_here", "_law_many_here", "_law_digit", "_law_cell", "_law_mixed"]
abbrev P_law_pick : List Str := ["_law_tape_here", "_law_many_here"]
theorem sc_law_pick : FnScope N_law_pick P_law_pick (defScope s_law_pick) := ⟨rfl, rfl, rfl, by decide +kernel, rfl, by decide +kernel, by decide +kernel⟩
theorem bd_law_pick (kV doc pm : Value) (an : Option Addr) (cdv ct : Value) (us : List Value) (hl : us.length = (P_law_pick).length) : bindArgs (PySem.W.fnOf "_law_pick" "_law_pick" (defArgs s_law_pick) (defBody s_law_pick) (defScope s_law_pick) .none kV doc pm an cdv ct) ⟨us, []⟩ = pure ((P_law_pick).zip us) := match us, hl with | [_, _], _ => rfl
/-- slots: 0 _law_told_here, 1 _law_due -/
abbrev N_law_flag : List Str := ["_law_told_here", "_law_due"]
abbrev P_law_flag : List Str := ["_law_told_here", "_law_due"]
theorem sc_law_flag : FnScope N_law_flag P_law_flag (defScope s_law_flag) := ⟨rfl, rfl, rfl, by decide +kernel, rfl, by decide +kernel, by decide +kernel⟩
theorem bd_law_flag (kV doc pm : Value) (an : Option Addr) (cdv ct : Value) (us : List Value) (hl : us.length = (P_law_flag).length) : bindArgs (PySem.W.fnOf "_law_flag" "_law_flag" (defArgs s_law_flag) (defBody s_law_flag) (defScope s_law_flag) .none kV doc pm an cdv ct) ⟨us, []⟩ = pure ((P_law_flag).zip us) := match us, hl with | [_, _], _ => rfl
/-- slots: 0 _law_marks_here, 1 _law_found, 2 _law_mark, 3 _law_kind -/
abbrev N_law_kinds : List Str := ["_law_marks_here", "_law_found", "_law_mark", "_law_kind"]
abbrev P_law_kinds : List Str := ["_law_marks_here"]
theorem sc_law_kinds : FnScope N_law_kinds P_law_kinds (defScope s_law_kinds) := ⟨rfl, rfl, rfl, by decide +kernel, rfl, by decide +kernel, by decide +kernel⟩
theorem bd_law_kinds (kV doc pm : Value) (an : Option Addr) (cdv ct : Value) (us : List Value) (hl : us.length = (P_law_kinds).length) : bindArgs (PySem.W.fnOf "_law_kinds" "_law_kinds" (defArgs s_law_kinds) (defBody s_law_kinds) (defScope s_law_kinds) .none kV doc pm an cdv ct) ⟨us, []⟩ = pure ((P_law_kinds).zip us) := match us, hl with | [_], _ => rfl
/-- slots: 0 _law_tape_here -/
abbrev N_law_marks : List Str := ["_law_tape_here"]
abbrev P_law_marks : List Str := ["_law_tape_here"]
theorem sc_law_marks : FnScope N_law_marks P_law_marks (defScope s_law_marks) := ⟨rfl, rfl, rfl, by decide +kernel, rfl, by decide +kernel, by decide +kernel⟩
theorem bd_law_marks (kV doc pm : Value) (an : Option Addr) (cdv ct : Value) (us : List Value) (hl : us.length = (P_law_marks).length) : bindArgs (PySem.W.fnOf "_law_marks" "_law_marks" (defArgs s_law_marks) (defBody s_law_marks) (defScope s_law_marks) .none kV doc pm an cdv ct) ⟨us, []⟩ = pure ((P_law_marks).zip us) := match us, hl with | [_], _ => rfl
/-- slots: 0 _law_tape_here, 1 _law_every, 2 _law_few, 3 _law_found, 4 _law_kind, 5 _law_k -/
abbrev N_law_lot : List Str := ["_law_tape_here", "_law_every", "_law_few", "_law_found", "_law_kind", "_law_k"]
abbrev P_law_lot : List Str := ["_law_tape_here", "_law_every"]
theorem sc_law_lot : FnScope N_law_lot P_law_lot (defScope s_law_lot) := ⟨rfl, rfl, rfl, by decide +kernel, rfl, by decide +kernel, by decide +kernel⟩
theorem bd_law_lot (kV doc pm : Value) (an : Option Addr) (cdv ct : Value) (us : List Value) (hl : us.length = (P_law_lot).length) : bindArgs (PySem.W.fnOf "_law_lot" "_law_lot" (defArgs s_law_lot) (defBody s_law_lot) (defScope s_law_lot) .none kV doc pm an cdv ct) ⟨us, []⟩ = pure ((P_law_lot).zip us) := match us, hl with | [_, _], _ => rfl
/-- slots: 0 _law_tape_here, 1 _law_every, 2 _law_most, 3 _law_found, 4 _law_k -/
abbrev N_law_lots : List Str := ["_law_tape_here", "_law_every", "_law_most", "_law_found", "_law_k"]
abbrev P_law_lots : List Str := ["_law_tape_here", "_law_every", "_law_most"]
theorem sc_law_lots : FnScope N_law_lots P_law_lots (defScope s_law_lots) := ⟨rfl, rfl, rfl, by decide +kernel, rfl, by decide +kernel, by decide +kernel⟩
theorem bd_law_lots (kV doc pm : Value) (an : Option Addr) (cdv ct : Value) (us : List Value) (hl : us.length = (P_law_lots).length) : bindArgs (PySem.W.fnOf "_law_lots" "_law_lots" (defArgs s_law_lots) (defBody s_law_lots) (defScope s_law_lots) .none kV doc pm an cdv ct) ⟨us, []⟩ = pure ((P_law_lots).zip us) := match us, hl with | [_, _, _], _ => rfl
/-- slots: 0 _law_tape_here, 1 _law_every, 2 _law_most, 3 _law_found, 4 _law_k -/
abbrev N_law_row : List Str := ["_law_tape_here", "_law_every", "_law_most", "_law_found", "_law_k"]
abbrev P_law_row : List Str := ["_law_tape_here", "_law_every", "_law_most"]
theorem sc_law_row : FnScope N_law_row P_law_row (defScope s_law_row) := ⟨rfl, rfl, rfl, by decide +kernel, rfl, by decide +kernel, by decide +kernel⟩
theorem bd_law_row (kV doc pm : Value) (an : Option Addr) (cdv ct : Value) (us : List Value) (hl : us.length = (P_law_row).length) : bindArgs (PySem.W.fnOf "_law_row" "_law_row" (defArgs s_law_row) (defBody s_law_row) (defScope s_law_row) .none kV doc pm an cdv ct) ⟨us, []⟩ = pure ((P_law_row).zip us) := match us, hl with | [_, _, _], _ => rfl
/-- slots: 0 _law_lots_here, 1 _law_row_here, 2 _law_used, 3 _law_found, 4 _law_kind, 5 _law_mine, 6 _law_seat -/
abbrev N_law_led : List Str := ["_law_lots_here", "_law_row_here", "_law_used", "_law_found", "_law_kind", "_law_mine", "_law_seat"]
abbrev P_law_led : List Str := ["_law_lots_here", "_law_row_here"]
theorem sc_law_led : FnScope N_law_led P_law_led (defScope s_law_led) := ⟨rfl, rfl, rfl, by decide +kernel, rfl, by decide +kernel, by decide +kernel⟩
theorem bd_law_led (kV doc pm : Value) (an : Option Addr) (cdv ct : Value) (us : List Value) (hl : us.length = (P_law_led).length) : bindArgs (PySem.W.fnOf "_law_led" "_law_led" (defArgs s_law_led) (defBody s_law_led) (defScope s_law_led) .none kV doc pm an cdv ct) ⟨us, []⟩ = pure ((P_law_led).zip us) := match us, hl with | [_, _], _ => rfl
/-- slots: 0 _law_lots_here, 1 _law_free, 2 _law_kind, 3 _law_open_ones, 4 _law_seat -/
abbrev N_law_next : List Str := ["_law_lots_here", "_law_free", "_law_kind", "_law_open_ones", "_law_seat"]
abbrev P_law_next : List Str := ["_law_lots_here", "_law_free", "_law_kind"]
theorem sc_law_next : FnScope N_law_next P_law_next (defScope s_law_next) := ⟨rfl, rfl, rfl, by decide +kernel, rfl, by decide +kernel, by decide +kernel⟩
theorem bd_law_next (kV doc pm : Value) (an : Option Addr) (cdv ct : Value) (us : List Value) (hl : us.length = (P_law_next).length) : bindArgs (PySem.W.fnOf "_law_next" "_law_next" (defArgs s_law_next) (defBody s_law_next) (defScope s_law_next) .none kV doc pm an cdv ct) ⟨us, []⟩ = pure ((P_law_next).zip us) := match us, hl with | [_, _, _], _ => rfl
/-- slots: 0 _law_every, 1 _law_lots_here, 2 _law_others_here, 3 _law_limit, 4 _law_start, 5 _law_found, 6 _law_row_here, 7 _law_at, 8 _law_kind, 9 _law_goal -/
abbrev N_law_pairs : List Str := ["_law_every", "_law_lots_here", "_law_others_here", "_law_limit", "_law_start", "_law_found", "_law_row_here", "_law_at", "_law_kind", "_law_goal"]
abbrev P_law_pairs : List Str := ["_law_every", "_law_lots_here", "_law_others_here", "_law_limit"]
theorem sc_law_pairs : FnScope N_law_pairs P_law_pairs (defScope s_law_pairs) := ⟨rfl, rfl, rfl, by decide +kernel, rfl, by decide +kernel, by decide +kernel⟩
theorem bd_law_pairs (kV doc pm : Value) (an : Option Addr) (cdv ct : Value) (us : List Value) (hl : us.length = (P_law_pairs).length) : bindArgs (PySem.W.fnOf "_law_pairs" "_law_pairs" (defArgs s_law_pairs) (defBody s_law_pairs) (defScope s_law_pairs) .none kV doc pm an cdv ct) ⟨us, []⟩ = pure ((P_law_pairs).zip us) := match us, hl with | [_, _, _, _], _ => rfl
/-- slots: 0 _law_lots_here, 1 _law_others_here, 2 _law_pair -/
abbrev N_law_lead : List Str := ["_law_lots_here", "_law_others_here", "_law_pair"]
abbrev P_law_lead : List Str := ["_law_lots_here", "_law_others_here", "_law_pair"]
theorem sc_law_lead : FnScope N_law_lead P_law_lead (defScope s_law_lead) := ⟨rfl, rfl, rfl, by decide +kernel, rfl, by decide +kernel, by decide +kernel⟩
theorem bd_law_lead (kV doc pm : Value) (an : Option Addr) (cdv ct : Value) (us : List Value) (hl : us.length = (P_law_lead).length) : bindArgs (PySem.W.fnOf "_law_lead" "_law_lead" (defArgs s_law_lead) (defBody s_law_lead) (defScope s_law_lead) .none kV doc pm an cdv ct) ⟨us, []⟩ = pure ((P_law_lead).zip us) := match us, hl with | [_, _, _], _ => rfl
/-- slots: 0 _law_tape_here, 1 _law_every, 2 _law_lots_here, 3 _law_most, 4 _law_style, 5 _law_at -/
abbrev N_law_others : List Str := ["_law_tape_here", "_law_every", "_law_lots_here", "_law_most", "_law_style", "_law_at"]
abbrev P_law_others : List Str := ["_law_tape_here", "_law_every", "_law_lots_here", "_law_most"]
theorem sc_law_others : FnScope N_law_others P_law_others (defScope s_law_others) := ⟨rfl, rfl, rfl, by decide +kernel, rfl, by decide +kernel, by decide +kernel⟩
theorem bd_law_others (kV doc pm : Value) (an : Option Addr) (cdv ct : Value) (us : List Value) (hl : us.length = (P_law_others).length) : bindArgs (PySem.W.fnOf "_law_others" "_law_others" (defArgs s_law_others) (defBody s_law_others) (defScope s_law_others) .none kV doc pm an cdv ct) ⟨us, []⟩ = pure ((P_law_others).zip us) := match us, hl with | [_, _, _, _], _ => rfl
/-- slots: 0 _law_tape_here, 1 _law_every, 2 _law_found, 3 _law_turn -/
abbrev N_law_copies : List Str := ["_law_tape_here", "_law_every", "_law_found", "_law_turn"]
abbrev P_law_copies : List Str := ["_law_tape_here", "_law_every"]
theorem sc_law_copies : FnScope N_law_copies P_law_copies (defScope s_law_copies) := ⟨rfl, rfl, rfl, by decide +kernel, rfl, by decide +kernel, by decide +kernel⟩
theorem bd_law_copies (kV doc pm : Value) (an : Option Addr) (cdv ct : Value) (us : List Value) (hl : us.length = (P_law_copies).length) : bindArgs (PySem.W.fnOf "_law_copies" "_law_copies" (defArgs s_law_copies) (defBody s_law_copies) (defScope s_law_copies) .none kV doc pm an cdv ct) ⟨us, []⟩ = pure ((P_law_copies).zip us) := match us, hl with | [_, _], _ => rfl
/-- slots: 0 _law_tape_here, 1 _law_lots_here, 2 _law_at, 3 _law_spot -/
abbrev N_law_near : List Str := ["_law_tape_here", "_law_lots_here", "_law_at", "_law_spot"]
abbrev P_law_near : List Str := ["_law_tape_here", "_law_lots_here"]
theorem sc_law_near : FnScope N_law_near P_law_near (defScope s_law_near) := ⟨rfl, rfl, rfl, by decide +kernel, rfl, by decide +kernel, by decide +kernel⟩
theorem bd_law_near (kV doc pm : Value) (an : Option Addr) (cdv ct : Value) (us : List Value) (hl : us.length = (P_law_near).length) : bindArgs (PySem.W.fnOf "_law_near" "_law_near" (defArgs s_law_near) (defBody s_law_near) (defScope s_law_near) .none kV doc pm an cdv ct) ⟨us, []⟩ = pure ((P_law_near).zip us) := match us, hl with | [_, _], _ => rfl
/-- slots: 0 _law_lots_here, 1 _law_row_here, 2 _law_seat -/
abbrev N_law_many : List Str := ["_law_lots_here", "_law_row_here", "_law_seat"]
abbrev P_law_many : List Str := ["_law_lots_here", "_law_row_here"]
theorem sc_law_many : FnScope N_law_many P_law_many (defScope s_law_many) := ⟨rfl, rfl, rfl, by decide +kernel, rfl, by decide +kernel, by decide +kernel⟩
theorem bd_law_many (kV doc pm : Value) (an : Option Addr) (cdv ct : Value) (us : List Value) (hl : us.length = (P_law_many).length) : bindArgs (PySem.W.fnOf "_law_many" "_law_many" (defArgs s_law_many) (defBody s_law_many) (defScope s_law_many) .none kV doc pm an cdv ct) ⟨us, []⟩ = pure ((P_law_many).zip us) := match us, hl with | [_, _], _ => rfl
/-- slots: 0 _law_call, 1 _law_told_here, 2 e -/
abbrev N_law_told : List Str := ["_law_call", "_law_told_here", "e"]
abbrev P_law_told : List Str := ["_law_call"]
theorem sc_law_told : FnScope N_law_told P_law_told (defScope s_law_told) := ⟨rfl, rfl, rfl, by decide +kernel, rfl, by decide +kernel, by decide +kernel⟩
theorem bd_law_told (kV doc pm : Value) (an : Option Addr) (cdv ct : Value) (us : List Value) (hl : us.length = (P_law_told).length) : bindArgs (PySem.W.fnOf "_law_told" "_law_told" (defArgs s_law_told) (defBody s_law_told) (defScope s_law_told) .none kV doc pm an cdv ct) ⟨us, []⟩ = pure ((P_law_told).zip us) := match us, hl with | [_], _ => rfl
/-- slots: 0 _law_marks_here, 1 _law_every, 2 _law_lots_here, 3 _law_others_here, 4 _law_row_here, 5 _law_kind -/
abbrev N_law_is_paper : List Str := ["_law_marks_here", "_law_every", "_law_lots_here", "_law_others_here", "_law_row_here", "_law_kind"]
abbrev P_law_is_paper : List Str := ["_law_marks_here", "_law_every", "_law_lots_here", "_law_others_here", "_law_row_here"]
theorem sc_law_is_paper : FnScope N_law_is_paper P_law_is_paper (defScope s_law_is_paper) := ⟨rfl, rfl, rfl, by decide +kernel, rfl, by decide +kernel, by decide +kernel⟩
theorem bd_law_is_paper (kV doc pm : Value) (an : Option Addr) (cdv ct : Value) (us : List Value) (hl : us.length = (P_law_is_paper).length) : bindArgs (PySem.W.fnOf "_law_is_paper" "_law_is_paper" (defArgs s_law_is_paper) (defBody s_law_is_paper) (defScope s_law_is_paper) .none kV doc pm an cdv ct) ⟨us, []⟩ = pure ((P_law_is_paper).zip us) := match us, hl with | [_, _, _, _, _], _ => rfl
/-- slots: 0 _law_marks_here, 1 _law_every, 2 _law_lots_here, 3 _law_others_here, 4 _law_found, 5 _law_told_here, 6 _law_paper, 7 _law_due, 8 _law_one, 9 _law_other, 10 _law_pair -/
abbrev N_law_is_right : List Str := ["_law_marks_here", "_law_every", "_law_lots_here", "_law_others_here", "_law_found", "_law_told_here", "_law_paper", "_law_due", "_law_one", "_law_other", "_law_pair"]
abbrev P_law_is_right : List Str := ["_law_marks_here", "_law_every", "_law_lots_here", "_law_others_here"]
theorem sc_law_is_right : FnScope N_law_is_right P_law_is_right (defScope s_law_is_right) := ⟨rfl, rfl, rfl, by decide +kernel, rfl, by decide +kernel, by decide +kernel⟩
theorem bd_law_is_right (kV doc pm : Value) (an : Option Addr) (cdv ct : Value) (us : List Value) (hl : us.length = (P_law_is_right).length) : bindArgs (PySem.W.fnOf "_law_is_right" "_law_is_right" (defArgs s_law_is_right) (defBody s_law_is_right) (defScope s_law_is_right) .none kV doc pm an cdv ct) ⟨us, []⟩ = pure ((P_law_is_right).zip us) := match us, hl with | [_, _, _, _], _ => rfl
/-- slots: 0 _law_script, 1 _law_tape_here, 2 _law_style, 3 _law_great, 4 _law_marks_here, 5 _law_every, 6 _law_lots_here, 7 _law_others_here, 8 _law_at, 9 _law_turn, 10 _law_row_here, 11 _law_due, 12 _law_kind -/
abbrev N_law : List Str := ["_law_script", "_law_tape_here", "_law_style", "_law_great", "_law_marks_here", "_law_every", "_law_lots_here", "_law_others_here", "_law_at", "_law_turn", "_law_row_here", "_law_due", "_law_kind"]
abbrev P_law : List Str := ["_law_script"]
theorem sc_law : FnScope N_law P_law (defScope s_law) := ⟨rfl, rfl, rfl, by decide +kernel, rfl, by decide +kernel, by decide +kernel⟩
theorem bd_law (kV doc pm : Value) (an : Option Addr) (cdv ct : Value) (us : List Value) (hl : us.length = (P_law).length) : bindArgs (PySem.W.fnOf "law" "law" (defArgs s_law) (defBody s_law) (defScope s_law) .none kV doc pm an cdv ct) ⟨us, []⟩ = pure ((P_law).zip us) := match us, hl with | [_], _ => rfl
end NF

set_option Elab.async false
set_option linter.all false
set_option maxRecDepth 100000
set_option maxHeartbeats 4000000
/-! The checks: is_ascending, is_marks, is_kind, is_lot, is_row, check_same_marks. -/
namespace NF
open PySem PySem.Spec PyProof.Rows L2 NFM
abbrev cd (z : Str) : List Nat := z.cps.toList
/-- each item is above the one ahead -/
def ascL (cs : List (List Nat)) : Bool := (List.range (cs.length - 1)).all fun i => decide (cs.getD i [] < cs.getD (i + 1) [])
abbrev sgn (z : Str) : List (List Nat) := (cd z).map fun c => [c]
def TupS (H : Hp) (p : Addr) (ks : List Str) : Prop := H p = some (.tup (ks.map V.str))
/-- a text, sign by sign, or a tuple of texts -/
def SeqC (H : Hp) (v : V) (cs : List (List Nat)) : Prop := (∃ z : Str, v = .str z ∧ cs = sgn z) ∨ (∃ p ks, v = .ref p ∧ TupS H p ks ∧ cs = ks.map cd)
theorem SeqC.keep {H H' : Hp} {v : V} {cs : List (List Nat)} (h : SeqC H v cs) (s : Same H H') : SeqC H' v cs := by
  rcases h with h | ⟨p, ks, e, t, e2⟩
  · exact .inl h
  · exact .inr ⟨p, ks, e, s _ _ t, e2⟩
theorem same_new {H : Hp} {D : Addr} {o : HO} (hD : H D = none) : Same H (upd H D o) := fun b u e => by
  rw [upd_ne (ne_of_none e hD)]
  exact e
theorem small_line {n : Nat} (h : n ≤ 1000) : n ≤ sizeLine := Nat.le_of_lt (small1000 h)
theorem SeqC.len {K : PySem.W.Frag} {H : Hp} {v : V} {cs : List (List Nat)} (h : SeqC H v cs) (hs : cs.length ≤ 1000) : LenV K v H cs.length := by
  rcases h with ⟨z, rfl, rfl⟩ | ⟨p, ks, rfl, t, rfl⟩
  · have e : (sgn z).length = z.length := by simp [sgn, Str.length]
    rw [e] at hs ⊢
    exact ⟨small_line hs, rfl⟩
  · refine .inr ⟨_, SqT.of t, ?_⟩
    rw [List.length_map, List.length_map]
/-- the i-th of it -/
theorem SeqC.ix {K : PySem.W.Frag} {H : Hp} {v : V} {cs : List (List Nat)} {i : Int} {j : Nat} {Q : VK} (h : SeqC H v cs) (hs : cs.length ≤ 1000) (e : i = (j : Int)) (hj : j < cs.length) (q : ∀ z : Str, cd z = cs.getD j [] → Q (.str z) H) : rIx K v (.int i) H Q := by
  subst e
  rcases h with ⟨z, rfl, rfl⟩ | ⟨p, ks, rfl, t, rfl⟩
  · have hj2 : j < (cd z).length := by simpa [sgn] using hj
    refine .inr (.inr ⟨z, _, (cd z)[j], rfl, rfl, ?_, atI_nat (by simp [hj2]), q _ ?_⟩)
    · have e : (sgn z).length = z.length := by simp [sgn, Str.length]
      rw [e] at hs
      exact small_line hs
    · rw [List.getD_eq_getElem?_getD, List.getElem?_map, List.getElem?_eq_getElem hj2]
      rfl
  · have hj2 : j < ks.length := by simpa using hj
    refine .inr (.inl ⟨p, _, _, .str ks[j], rfl, rfl, SqT.of t, atI_nat (by simp [hj2]), q _ ?_⟩)
    rw [List.getD_eq_getElem?_getD, List.getElem?_map, List.getElem?_eq_getElem hj2]
    rfl
def spAsc : Sp := fun vs H Q _ => ∃ v cs, vs = [v] ∧ SeqC H v cs ∧ cs.length ≤ 1000 ∧ ∀ H', Same H H' → Q (.bl (ascL cs)) H'
theorem map_snoc_range {α : Type} (f : Nat → α) (i : Nat) : (List.range (i + 1)).map f = (List.range i).map f ++ [f i] := by
  rw [List.range_succ, List.map_append]
  rfl
/-- a comprehension without a test -/
theorem lc_yes {σ : L2.St} {H : Hp} {te : TE} {R : V → Hp → Prop} {N : Hp → Prop} (h : te σ H R) : tYes σ H fun b H3 => if b = true then te σ H3 R else N H3 := h
theorem sgn_len (z : Str) : (sgn z).length = z.length := by simp [sgn, Str.length]
/-- all([sign in other for sign in thing]) over texts: the comprehension's reading -/
theorem signs_in {m z : Str} {σ : L2.St} {H : Hp} {Q : VK} {slot : Nat} {vs : List Nat} {tv to : TE} (hz : z.length ≤ 1000) (h1 : ∀ H Q, Q (.str z) H → tv σ H Q)
    (h2 : ∀ (u : V) H Q, Q (.str m) H → to ((wipe σ vs).set slot (some u)) H Q) (h3 : ∀ u : V, ((wipe σ vs).set slot (some u))[slot]? = some (some u)) (h4 : ∀ u : V, wipe ((wipe σ vs).set slot (some u)) vs = wipe σ vs)
    (k : ∀ D, H D = none → Q (.ref D) (upd H D (.lst (((cd z).map fun c => decide (c ∈ cd m)).map V.bl)))) :
    tLc (iStr tv) (gName slot) tYes (tOp (fun x y H Q => ∃ (c : Nat) (z : Str), x = .str ⟨#[c]⟩ ∧ y = .str z ∧ Q (.bl (decide (c ∈ z.cps.toList))) H) (tVar slot) to) vs σ H Q := by
  refine h1 _ _ ⟨z, rfl, fun D hD => ?_⟩
  have hsz : z.cps.size = (cd z).length := by simp
  rw [show z.length = z.cps.size from rfl, hsz] at hz
  refine lc_it (walk_str (z := z)) (fun i H' => H' = upd H D (.lst ((((cd z).take i).map fun c => decide (c ∈ cd m)).map V.bl))) rfl (fun _ _ _ _ => True.intro) (fun i x H1 H2 hi hP hY => ?_) (fun H1 hP => ?_)
  · obtain ⟨rfl, c, hc, rfl⟩ := hY
    subst hP
    refine ⟨h4 _, lc_yes ?_⟩
    refine ⟨_, h3 _, h2 _ _ _ ⟨c, m, rfl, rfl, _, upd_same, ?_, ?_⟩⟩
    · rw [List.length_map, List.length_map, List.length_take]
      exact small1000 (by omega)
    · have hc2 : (cd z)[i]? = some c := by rw [Array.getElem?_toList]; exact hc
      have e : (cd z).take (i + 1) = (cd z).take i ++ [c] := by rw [List.take_add_one, hc2]; rfl
      rw [upd_upd, e, List.map_append, List.map_append]
      rfl
  · rw [hsz, List.take_length] at hP
    subst hP
    exact k D hD
section
variable {P : Program} {w : World} {K : PySem.W.Frag} {mg : Str → Option Value} {base : Heap} (T : Txt K mg)
include T
theorem cl_is_ascending : Cl P w K mg base CX0 1 "is_ascending" P_is_ascending spAsc := by
  refine cl_mk (fn_is_ascending T) (mg_is_ascending T) sc_is_ascending (bd_is_ascending) (fun vs H Q E h => ?_) (fun cdv A outer s H vs Q E hr h => ?_)
  · obtain ⟨v, cs, rfl, _⟩ := h
    rfl
  · obtain ⟨v, cs, rfl, S, hs, k⟩ := h
    refine ⟨_, pss_one (ps_ret (pe_callB (cr_all rfl) (by rfl) (fr_all T) (by decide +kernel) (pa_cons (pe_lc (own := [("at", 1)]) (g := gName 1) (by rfl) sc_is_ascending.nd
      (pi_range2 (by rfl) (fr_range T) (pa_cons pe_int (pa_cons (pe_callB call_len (by rfl) (fr_len T) PySem.boot_len (pa_cons (pv 0) pa_nil)) pa_nil)))
      (blkOk_by (own := [("at", 1)]) (N := N_is_ascending) (sc := defScope s_is_ascending) (by decide +kernel)) (fun _ _ _ _ _ => pg_name (i := 1) sc_is_ascending.nd rfl (Or.inl rfl)) (fun _ _ _ _ _ => pts_nil)
      (fun _ _ _ _ _ => pe_cmpR op_lt_str (pe_ix (r := rIx K) ix_seq (pv 0) (pe_op op_sub (pv 1) pe_int) (fun _ _ => rfl)) (pe_ix (r := rIx K) ix_seq (pv 0) (pv 1) (fun _ _ => rfl)) (nomark _))) pa_nil))), ?_⟩
    refine ⟨_, rfl, _, cs.length, rfl, S.len hs, _, _, rfl, ⟨by decide, by decide, by omega, by omega⟩, fun D hD => ?_⟩
    have en : ((cs.length : Int) - 1).toNat = cs.length - 1 := by omega
    rw [en]
    refine lc_it (walk_range (lo := 1) (n := cs.length - 1)) (fun i H' => H' = upd H D (.lst (((List.range i).map fun j => decide (cs.getD j [] < cs.getD (j + 1) [])).map V.bl))) rfl (fun _ _ _ _ => True.intro) (fun i x H1 H2 hi hP hY => ?_) (fun H1 hP => ?_)
    · obtain ⟨rfl, rfl⟩ := hY
      subst hP
      have S1 := S.keep (same_new (o := .lst (((List.range i).map fun j => decide (cs.getD j [] < cs.getD (j + 1) [])).map V.bl)) hD)
      refine ⟨rfl, ?_⟩
      refine lc_yes ?_
      refine ⟨_, rfl, _, rfl, _, _, rfl, rfl, S1.ix (j := i) hs (by omega) (by omega) fun z1 e1 => ⟨_, rfl, _, rfl, S1.ix (j := i + 1) hs (by omega) (by omega) fun z2 e2 => ⟨z1, z2, rfl, rfl, _, upd_same, ?_, ?_⟩⟩⟩
      · rw [List.length_map, List.length_map, List.length_range]
        exact small1000 (by omega)
      · rw [upd_upd, map_snoc_range, List.map_append, ← e1, ← e2]
        rfl
    · subst hP
      refine ⟨D, _, rfl, SqL.of upd_same, ?_⟩
      rw [List.all_map]
      exact k _ (same_new hD)
def smallS : Str := "abcdefghijklmnopqrstuvwxyz"
def marksB (m : Str) : Bool := decide (m.length ≤ 5) && ((cd m).all (fun c => decide (c ∈ cd smallS)) && ascL (sgn m))
def kindB (m k : Str) : Bool := (cd k).all (fun c => decide (c ∈ cd m)) && ascL (sgn k)
def spMarks : Sp := fun vs H Q _ => ∃ m : Str, vs = [.str m] ∧ marksB m = true ∧ ∀ H', Same H H' → Q (.bl true) H'
def spKind : Sp := fun vs H Q _ => ∃ m k : Str, vs = [.str m, .str k] ∧ k.length ≤ 1000 ∧ ∀ H', Same H H' → Q (.bl (kindB m k)) H'
theorem cl_is_marks : Cl P w K mg base CX0 2 "is_marks" P_is_marks spMarks := by
  obtain ⟨t1, hM⟩ := mi_MOST_MARKS T
  obtain ⟨t2, hS⟩ := ms_SMALL T
  refine cl_mk (fn_is_marks T) (mg_is_marks T) sc_is_marks (bd_is_marks) (fun vs H Q E h => ?_) (fun cdv A outer s H vs Q E hr h => ?_)
  · obtain ⟨v, rfl, _⟩ := h
    rfl
  · obtain ⟨m, rfl, hm, k⟩ := h
    have hm0 := hm
    unfold marksB at hm
    rw [Bool.and_eq_true, Bool.and_eq_true] at hm
    obtain ⟨h1, h2, h3⟩ := hm
    have h1 : m.length ≤ 5 := of_decide_eq_true h1
    refine ⟨_, pss_cons (ps_if (PW.pt (pw_or (pt_not (pt_val (pe_callB call_isi (by rfl) (fr_isinstance T) (by decide +kernel) (pa_cons (pv 0) (pa_cons (pe_bltn (v := .ty "str") (by rfl) (fr_str T) (by decide +kernel) rfl) pa_nil)))))
        (pw_or1 (pt_cmpR op_gt (pe_callB call_len (by rfl) (fr_len T) PySem.boot_len (pa_cons (pv 0) pa_nil)) (pe_glob (v := .int 5) rfl hM ⟨_, rfl⟩) (nomark _))))) (pss_one (ps_ret pe_bl)) pss_nil)
      (pss_one (ps_ret (pe_and (pe_callB (cr_all rfl) (by rfl) (fr_all T) (by decide +kernel) (pa_cons (pe_lc (own := [("sign", 1)]) (g := gName 1) (by rfl) sc_is_marks.nd (pi_str (pv 0))
          (blkOk_by (own := [("sign", 1)]) (N := N_is_marks) (sc := defScope s_is_marks) (by decide +kernel)) (fun _ _ _ _ _ => pg_name (i := 1) sc_is_marks.nd rfl (Or.inl rfl)) (fun _ _ _ _ _ => pts_nil)
          (fun _ _ _ _ _ => pe_cmpR op_in_sign (pv 1) (pe_glob (v := .str "abcdefghijklmnopqrstuvwxyz") rfl hS ⟨_, rfl⟩) rfl)) pa_nil))
        (pe_one (pe_cl (cl_is_ascending T) hr (by decide) rfl pass0 (pa_cons (pv 0) pa_nil)))))), ?_⟩
    refine ⟨_, rfl, _, _, _, _, true, rfl, .ty _, .base (.str _), kit_ty (by decide +kernel), _, rfl, ?_⟩
    refine iteF ?_
    refine ⟨_, rfl, _, m.length, rfl, ⟨small_line (by omega), rfl⟩, _, _, rfl, rfl, _, rfl, ?_⟩
    rw [decide_eq_false (show ¬ (5 : Int) < m.length by omega)]
    refine iteF ?_
    dsimp only [tNext, tRet, tAndV, tCB, tCons, tNil]
    refine signs_in (m := smallS) (z := m) (by omega) ?_ ?_ ?_ ?_ ?_
    · exact fun _ _ q => ⟨_, rfl, q⟩
    · exact fun _ _ _ q => q
    · exact fun _ => rfl
    · exact fun _ => rfl
    · intro D hD
      refine ⟨D, _, rfl, SqL.of upd_same, _, rfl, ?_⟩
      rw [List.all_map]
      rw [show ((cd m).all (id ∘ fun c => decide (c ∈ cd smallS))) = true from h2]
      refine iteT ?_
      refine ⟨_, rfl, _, _, rfl, .inl ⟨m, rfl, rfl⟩, by rw [sgn_len]; omega, fun H' hH => ?_⟩
      rw [h3]
      exact k H' ((same_new hD).trans hH)
theorem cl_is_kind : Cl P w K mg base CX0 2 "is_kind" P_is_kind spKind := by
  refine cl_mk (fn_is_kind T) (mg_is_kind T) sc_is_kind (bd_is_kind) (fun vs H Q E h => ?_) (fun cdv A outer s H vs Q E hr h => ?_)
  · obtain ⟨_, _, rfl, _⟩ := h
    rfl
  · obtain ⟨m, z, rfl, hz, k⟩ := h
    refine ⟨_, pss_one (ps_ret (pe_and (pe_callB call_isi (by rfl) (fr_isinstance T) (by decide +kernel) (pa_cons (pv 1) (pa_cons (pe_bltn (v := .ty "str") (by rfl) (fr_str T) (by decide +kernel) rfl) pa_nil)))
       (pe_and (pe_callB (cr_all rfl) (by rfl) (fr_all T) (by decide +kernel) (pa_cons (pe_lc (own := [("sign", 2)]) (g := gName 2) (by rfl) sc_is_kind.nd (pi_str (pv 1))
          (blkOk_by (own := [("sign", 2)]) (N := N_is_kind) (sc := defScope s_is_kind) (by decide +kernel)) (fun _ _ _ _ _ => pg_name (i := 2) sc_is_kind.nd rfl (Or.inl rfl)) (fun _ _ _ _ _ => pts_nil)
          (fun _ _ _ _ _ => pe_cmpR op_in_sign (pv 2) (pv 0) rfl)) pa_nil))
        (pe_one (pe_cl (cl_is_ascending T) hr (by decide) rfl pass0 (pa_cons (pv 1) pa_nil)))))), ?_⟩
    refine ⟨_, rfl, _, _, _, _, true, rfl, .ty _, .base (.str _), kit_ty (by decide +kernel), _, rfl, ?_⟩
    refine iteT ?_
    dsimp only [tNext, tRet, tAndV, tCB, tCons, tNil]
    refine signs_in (m := m) (z := z) hz ?_ ?_ ?_ ?_ ?_
    · exact fun _ _ q => ⟨_, rfl, q⟩
    · exact fun _ _ _ q => ⟨_, rfl, q⟩
    · exact fun _ => rfl
    · exact fun _ => rfl
    · intro D hD
      refine ⟨D, _, rfl, SqL.of upd_same, _, rfl, ?_⟩
      rw [List.all_map]
      have e : ((cd z).all (id ∘ fun c => decide (c ∈ cd m))) = (cd z).all (fun c => decide (c ∈ cd m)) := rfl
      rw [e]
      have ek : kindB m z = ((cd z).all (fun c => decide (c ∈ cd m)) && ascL (sgn z)) := rfl
      cases hc : (cd z).all (fun c => decide (c ∈ cd m)) with
      | true =>
        refine iteT ?_
        refine ⟨_, rfl, _, _, rfl, .inl ⟨z, rfl, rfl⟩, by rw [sgn_len]; omega, fun H' hH => ?_⟩
        have q := k H' ((same_new hD).trans hH)
        rw [ek, hc, Bool.true_and] at q
        exact q
      | false =>
        refine iteF ?_
        have ef : kindB m z = false := by rw [ek, hc, Bool.false_and]
        rw [ef] at k
        exact k _ (same_new hD)
/-- ks are kinds of the marks -/
def KindsOk (m : Str) (ks : List Str) : Prop := ∀ k ∈ ks, kindB m k = true ∧ k.length ≤ 1000
def LotB (m : Str) (ks : List Str) : Prop := ks ≠ [] ∧ KindsOk m ks ∧ ascL (ks.map cd) = true ∧ ks.length ≤ 1000
def spLot : Sp := fun vs H Q _ => ∃ (m : Str) (p : Addr) (ks : List Str), vs = [.str m, .ref p] ∧ TupS H p ks ∧ LotB m ks ∧ ∀ H', Same H H' → Q (.bl true) H'
def spRow : Sp := fun vs H Q _ => ∃ (m : Str) (p : Addr) (ks : List Str), vs = [.str m, .ref p] ∧ TupS H p ks ∧ KindsOk m ks ∧ ks.length ≤ 200 ∧ ∀ H', Same H H' → Q (.bl true) H'
omit T in
theorem all_rep (n : Nat) : ((List.replicate n true).all id) = true := by
  rw [List.all_eq_true]
  intro b hb
  rw [(List.mem_replicate.mp hb).2]
  rfl
omit T in
theorem rep_snoc (n : Nat) : (List.replicate (n + 1) true) = List.replicate n true ++ [true] := List.replicate_succ'
theorem cl_is_lot : Cl P w K mg base CX0 3 "is_lot" P_is_lot spLot := by
  refine cl_mk (fn_is_lot T) (mg_is_lot T) sc_is_lot (bd_is_lot) (fun vs H Q E h => ?_) (fun cdv A outer s H vs Q E hr h => ?_)
  · obtain ⟨_, _, _, rfl, _⟩ := h
    rfl
  · obtain ⟨m, p, ks, rfl, tp, ⟨hne, hk, ha, hl⟩, k⟩ := h
    have hpos : 0 < ks.length := List.length_pos_iff.mpr hne
    refine ⟨_, pss_cons (ps_if (PW.pt (pw_or (pt_not (pt_val (pe_callB call_isi (by rfl) (fr_isinstance T) (by decide +kernel) (pa_cons (pv 1) (pa_cons (pe_bltn (v := .ty "tuple") (by rfl) (fr_tuple T) (by decide +kernel) rfl) pa_nil)))))
        (pw_or1 (pt_cmpR op_eq (pe_callB call_len (by rfl) (fr_len T) PySem.boot_len (pa_cons (pv 1) pa_nil)) pe_int (nomark _))))) (pss_one (ps_ret pe_bl)) pss_nil)
      (pss_one (ps_ret (pe_and (pe_callB (cr_all rfl) (by rfl) (fr_all T) (by decide +kernel) (pa_cons (pe_lc (own := [("kind", 2)]) (g := gName 2) (by rfl) sc_is_lot.nd (pi_tup (pv 1))
          (blkOk_by (own := [("kind", 2)]) (N := N_is_lot) (sc := defScope s_is_lot) (by decide +kernel)) (fun _ _ _ _ _ => pg_name (i := 2) sc_is_lot.nd rfl (Or.inl rfl)) (fun _ _ _ _ _ => pts_nil)
          (fun _ _ _ _ _ => pe_cl (E := E0) (cl_is_kind T) hr (by decide) rfl pass0 (pa_cons (pv 0) (pa_cons (pv 2) pa_nil)))) pa_nil))
        (pe_one (pe_cl (cl_is_ascending T) hr (by decide) rfl pass0 (pa_cons (pv 1) pa_nil)))))), ?_⟩
    refine ⟨_, rfl, _, _, _, _, true, rfl, .ty _, .base (.tup tp), kit_ty (by decide +kernel), _, rfl, ?_⟩
    refine iteF ?_
    refine ⟨_, rfl, _, _, rfl, .inr ⟨_, SqT.of tp, rfl⟩, rfl, _, rfl, ?_⟩
    rw [decide_eq_false (show ¬ V.int ((ks.map V.str).length : Nat) = V.int 0 from fun z => by injection z with z; rw [List.length_map] at z; omega)]
    refine iteF ?_
    refine ⟨_, rfl, p, rfl, ⟨_, SqT.of tp⟩, fun D hD => ?_⟩
    refine lc_it (walk_tup (xs := ks.map V.str)) (fun i H' => Same H H' ∧ H' D = some (.lst ((List.replicate i true).map V.bl))) ⟨same_new hD, upd_same⟩ (fun _ _ _ hP => SqT.of (hP.1 _ _ tp)) (fun i x H1 H2 hi hP hY => ?_) (fun H1 hP => ?_)
    · obtain ⟨rfl, hx⟩ := hY
      obtain ⟨s1, hDD⟩ := hP
      rw [List.getElem?_map] at hx
      obtain ⟨z, hz, rfl⟩ := Option.map_eq_some_iff.mp hx
      have hzk := hk z (List.mem_of_getElem? hz)
      refine ⟨rfl, lc_yes ?_⟩
      refine ⟨_, rfl, _, rfl, m, z, rfl, hzk.2, fun H3 s3 => ⟨_, s3 _ _ hDD, ?_, fun b o e => ?_, ?_⟩⟩
      · rw [List.length_map, List.length_replicate]
        rw [List.length_map] at hi
        exact small1000 (by omega)
      · rw [upd_ne (ne_of_none e hD)]
        exact s3 _ _ (s1 _ _ e)
      · rw [upd_same, hzk.1, rep_snoc, List.map_append]
        rfl
    · obtain ⟨s1, hDD⟩ := hP
      refine ⟨D, _, rfl, SqL.of hDD, _, rfl, ?_⟩
      rw [all_rep]
      refine iteT ?_
      refine ⟨_, rfl, _, _, rfl, .inr ⟨p, ks, rfl, s1 _ _ tp, rfl⟩, by rw [List.length_map]; exact hl, fun H' hH => ?_⟩
      rw [ha]
      exact k H' (s1.trans hH)
theorem cl_is_row : Cl P w K mg base CX0 3 "is_row" P_is_row spRow := by
  obtain ⟨t1, hM⟩ := mi_MOST_COMERS T
  refine cl_mk (fn_is_row T) (mg_is_row T) sc_is_row (bd_is_row) (fun vs H Q E h => ?_) (fun cdv A outer s H vs Q E hr h => ?_)
  · obtain ⟨_, _, _, rfl, _⟩ := h
    rfl
  · obtain ⟨m, p, ks, rfl, tp, hk, hl, k⟩ := h
    refine ⟨_, pss_cons (ps_if (PW.pt (pw_or (pt_not (pt_val (pe_callB call_isi (by rfl) (fr_isinstance T) (by decide +kernel) (pa_cons (pv 1) (pa_cons (pe_bltn (v := .ty "tuple") (by rfl) (fr_tuple T) (by decide +kernel) rfl) pa_nil)))))
        (pw_or1 (pt_cmpR op_gt (pe_callB call_len (by rfl) (fr_len T) PySem.boot_len (pa_cons (pv 1) pa_nil)) (pe_glob (v := .int 200) rfl hM ⟨_, rfl⟩) (nomark _))))) (pss_one (ps_ret pe_bl)) pss_nil)
      (pss_one (ps_ret (pe_callB (cr_all rfl) (by rfl) (fr_all T) (by decide +kernel) (pa_cons (pe_lc (own := [("kind", 2)]) (g := gName 2) (by rfl) sc_is_row.nd (pi_tup (pv 1))
          (blkOk_by (own := [("kind", 2)]) (N := N_is_row) (sc := defScope s_is_row) (by decide +kernel)) (fun _ _ _ _ _ => pg_name (i := 2) sc_is_row.nd rfl (Or.inl rfl)) (fun _ _ _ _ _ => pts_nil)
          (fun _ _ _ _ _ => pe_cl (E := E0) (cl_is_kind T) hr (by decide) rfl pass0 (pa_cons (pv 0) (pa_cons (pv 2) pa_nil)))) pa_nil)))), ?_⟩
    refine ⟨_, rfl, _, _, _, _, true, rfl, .ty _, .base (.tup tp), kit_ty (by decide +kernel), _, rfl, ?_⟩
    refine iteF ?_
    refine ⟨_, rfl, _, _, rfl, .inr ⟨_, SqT.of tp, rfl⟩, _, _, rfl, rfl, _, rfl, ?_⟩
    rw [decide_eq_false (show ¬ (200 : Int) < ((ks.map V.str).length : Nat) by rw [List.length_map]; omega)]
    refine iteF ?_
    refine ⟨_, rfl, p, rfl, ⟨_, SqT.of tp⟩, fun D hD => ?_⟩
    refine lc_it (walk_tup (xs := ks.map V.str)) (fun i H' => Same H H' ∧ H' D = some (.lst ((List.replicate i true).map V.bl))) ⟨same_new hD, upd_same⟩ (fun _ _ _ hP => SqT.of (hP.1 _ _ tp)) (fun i x H1 H2 hi hP hY => ?_) (fun H1 hP => ?_)
    · obtain ⟨rfl, hx⟩ := hY
      obtain ⟨s1, hDD⟩ := hP
      rw [List.getElem?_map] at hx
      obtain ⟨z, hz, rfl⟩ := Option.map_eq_some_iff.mp hx
      have hzk := hk z (List.mem_of_getElem? hz)
      refine ⟨rfl, lc_yes ?_⟩
      refine ⟨_, rfl, _, rfl, m, z, rfl, hzk.2, fun H3 s3 => ⟨_, s3 _ _ hDD, ?_, fun b o e => ?_, ?_⟩⟩
      · rw [List.length_map, List.length_replicate]
        rw [List.length_map] at hi
        exact small1000 (by omega)
      · rw [upd_ne (ne_of_none e hD)]
        exact s3 _ _ (s1 _ _ e)
      · rw [upd_same, hzk.1, rep_snoc, List.map_append]
        rfl
    · obtain ⟨s1, hDD⟩ := hP
      refine ⟨D, _, rfl, SqL.of hDD, ?_⟩
      rw [all_rep]
      exact k H1 s1
end
end NF

set_option Elab.async false
set_option linter.all false
set_option maxRecDepth 100000
set_option maxHeartbeats 4000000
/-! The kinds: all_kinds, _law_kinds; what they give is one list. -/
namespace NF
open PySem PySem.Spec PyProof.Rows L2 NFM
/-! ### sorted lists of texts -/
def leS (a b : Str) : Prop := ltCps (cd b) (cd a) = false
def ltS (a b : Str) : Bool := ltCps (cd a) (cd b)
theorem ltS_eq (a b : Str) : ltS a b = decide (cd a < cd b) := PyProof.Rows.ltCps_eq _ _
theorem leS_trans {a b c : Str} (h1 : leS a b) (h2 : leS b c) : leS a c := by
  unfold leS at *
  rw [PyProof.Rows.ltCps_eq] at *
  have h1 := of_decide_eq_false h1
  have h2 := of_decide_eq_false h2
  exact decide_eq_false (List.not_lt.mpr (List.le_trans (List.not_lt.mp h1) (List.not_lt.mp h2)))
theorem leS_antisymm {a b : Str} (h1 : leS a b) (h2 : leS b a) : a = b := by
  unfold leS at *
  rw [PyProof.Rows.ltCps_eq] at *
  have h1 := of_decide_eq_false h1
  have h2 := of_decide_eq_false h2
  have e := List.le_antisymm (List.not_lt.mp h1) (List.not_lt.mp h2)
  obtain ⟨⟨x⟩⟩ := a
  obtain ⟨⟨y⟩⟩ := b
  exact congrArg (fun l : List Nat => (⟨l.toArray⟩ : Str)) e
theorem rising_pw : ∀ (p : Str) (l : List Str), risingS p l = true → (p :: l).Pairwise leS
  | p, [], _ => List.pairwise_singleton _ _
  | p, x :: r, h => by
    have h2 : (!ltCps (cd x) (cd p) && risingS x r) = true := h
    rw [Bool.and_eq_true, Bool.not_eq_true'] at h2
    have ih := rising_pw x r h2.2
    have hx := List.pairwise_cons.mp ih
    refine List.pairwise_cons.mpr ⟨fun y hy => ?_, ih⟩
    rcases List.mem_cons.mp hy with e | hy
    · rw [e]; exact h2.1
    · exact leS_trans h2.1 (hx.1 y hy)
theorem sortedS_pw : ∀ {l : List Str}, sortedS l = true → l.Pairwise leS
  | [], _ => List.Pairwise.nil
  | x :: r, h => rising_pw x r h
theorem same_sorted {ys l : List Str} (hp : ys.Perm l) (hs : sortedS ys = true) (hl : l.Pairwise leS) : ys = l :=
  List.Perm.eq_of_pairwise (fun _ _ _ _ h1 h2 => leS_antisymm h1 h2) (sortedS_pw hs) hl hp
def ins1 (x : Str) : List Str → List Str
  | [] => [x]
  | y :: r => if ltCps (cd y) (cd x) = true then y :: ins1 x r else x :: y :: r
def isort : List Str → List Str
  | [] => []
  | x :: r => ins1 x (isort r)
theorem ins1_perm (x : Str) : ∀ l, (ins1 x l).Perm (x :: l)
  | [] => List.Perm.refl _
  | y :: r => by
    unfold ins1
    split
    · exact ((ins1_perm x r).cons y).trans (List.Perm.swap x y r)
    · exact List.Perm.refl _
theorem isort_perm : ∀ l : List Str, (isort l).Perm l
  | [] => List.Perm.refl _
  | x :: r => (ins1_perm x (isort r)).trans ((isort_perm r).cons x)
theorem lt_le {x y : Str} (h : ltCps (cd y) (cd x) = true) : leS y x := by
  unfold leS
  rw [PyProof.Rows.ltCps_eq] at *
  exact decide_eq_false (List.lt_asymm (of_decide_eq_true h))
theorem ins1_pw (x : Str) : ∀ l : List Str, l.Pairwise leS → (ins1 x l).Pairwise leS
  | [], _ => List.pairwise_singleton _ _
  | y :: r, h => by
    have hc := List.pairwise_cons.mp h
    unfold ins1
    split
    · rename_i c
      refine List.pairwise_cons.mpr ⟨fun z hz => ?_, ins1_pw x r hc.2⟩
      rcases List.mem_cons.mp ((ins1_perm x r).mem_iff.mp hz) with e | hz
      · rw [e]; exact lt_le c
      · exact hc.1 z hz
    · rename_i c
      have c : leS x y := by
        unfold leS
        cases q : ltCps (cd y) (cd x) with
        | true => exact absurd q c
        | false => rfl
      refine List.pairwise_cons.mpr ⟨fun z hz => ?_, h⟩
      rcases List.mem_cons.mp hz with e | hz
      · rw [e]; exact c
      · exact leS_trans c (hc.1 z hz)
theorem isort_pw : ∀ l : List Str, (isort l).Pairwise leS
  | [] => List.Pairwise.nil
  | x :: r => ins1_pw x _ (isort_pw r)
/-! ### the kinds for marks -/
def kstep (acc : List Str) (c : Nat) : List Str := acc ++ acc.map fun k => k ++ (⟨#[c]⟩ : Str)
def kacc (cs : List Nat) : List Str := cs.foldl kstep [""]
def kindsOf (m : Str) : List Str := isort (kacc (cd m))
theorem kacc_snoc (cs : List Nat) (c : Nat) : kacc (cs ++ [c]) = kstep (kacc cs) c := by
  unfold kacc
  rw [List.foldl_append]
  rfl
theorem kstep_len (acc : List Str) (c : Nat) : (kstep acc c).length = acc.length + acc.length := by
  unfold kstep
  rw [List.length_append, List.length_map]
theorem kacc_bnd : ∀ (n : Nat) (cs : List Nat), cs.length = n → (kacc cs).length = 2 ^ n ∧ ∀ k ∈ kacc cs, k.length ≤ n
  | 0, [], _ => ⟨rfl, fun k hk => by
    have e : k = "" := by simpa [kacc] using hk
    rw [e]
    decide +kernel⟩
  | 0, _ :: _, h => by simp at h
  | n + 1, cs, h => by
    have hne : cs ≠ [] := by
      intro e
      rw [e] at h
      simp at h
    obtain ⟨ds, c, rfl⟩ : ∃ ds c, cs = ds ++ [c] := ⟨cs.dropLast, cs.getLast hne, (List.dropLast_concat_getLast hne).symm⟩
    rw [List.length_append, List.length_cons, List.length_nil] at h
    obtain ⟨i1, i2⟩ := kacc_bnd n ds (by omega)
    rw [kacc_snoc]
    refine ⟨by rw [kstep_len, i1, Nat.pow_succ]; omega, fun k hk => ?_⟩
    unfold kstep at hk
    rcases List.mem_append.mp hk with z | z
    · exact Nat.le_succ_of_le (i2 k z)
    · obtain ⟨j, hj, rfl⟩ := List.mem_map.mp z
      have e : (j ++ (⟨#[c]⟩ : Str)).length = j.length + 1 := by
        show (j.cps ++ #[c]).size = j.cps.size + 1
        simp
      rw [e]
      exact Nat.succ_le_succ (i2 j hj)
/-- every kind for m is made anew: a new list at p -/
def spKinds : Sp := fun vs H Q _ => ∃ m : Str, vs = [.str m] ∧ m.length ≤ 5 ∧ ∀ p H', H p = none → Same H H' → H' p = some (.lst ((kindsOf m).map V.str)) → Q (.ref p) H'
section
variable {P : Program} {w : World} {K : PySem.W.Frag} {mg : Str → Option Value} {base : Heap} (T : Txt K mg)
include T
theorem cl_all_kinds : Cl P w K mg base CX0 1 "all_kinds" P_all_kinds spKinds := by
  refine cl_mk (fn_all_kinds T) (mg_all_kinds T) sc_all_kinds (bd_all_kinds) (fun vs H Q E h => ?_) (fun cdv A outer s H vs Q E hr h => ?_)
  · obtain ⟨_, rfl, _⟩ := h
    rfl
  · obtain ⟨m, rfl, hm, k⟩ := h
    refine ⟨_, pss_cons (ps_set (i := 1) sc_all_kinds.nd rfl (Or.inl rfl) (pe_lst (pa_cons pe_str pa_nil)))
      (pss_cons (ps_for PassesOwn.never rfl (pi_str (pv 0)) (pg_name (i := 2) sc_all_kinds.nd rfl (Or.inr rfl))
        (pss_one (ps_set (i := 1) sc_all_kinds.nd rfl (Or.inl rfl) (pe_op op_cat (pv 1) (pe_lc (own := [("kind", 3)]) (g := gName 3) (by rfl) sc_all_kinds.nd (pi_list (pv 1))
          (blkOk_by (own := [("kind", 3)]) (N := N_all_kinds) (sc := defScope s_all_kinds) (by decide +kernel)) (fun _ _ _ _ _ => pg_name (i := 3) sc_all_kinds.nd rfl (Or.inl rfl)) (fun _ _ _ _ _ => pts_nil)
          (fun _ _ _ _ _ => pe_op op_add_str (pv 3) (pv 2)))))))
      (pss_one (ps_ret (pe_callB cr_sortedS (by rfl) (fr_sorted T) (by decide +kernel) (pa_cons (pv 1) pa_nil))))), ?_⟩
    refine ⟨by show 1 ≤ sizeLine; decide, fun l hl => ?_⟩
    have lenm : (cd m).length ≤ 5 := by simpa [cd, Str.length] using hm
    have hsz : m.cps.size = (cd m).length := by simp
    have bnd : ∀ i, i ≤ (cd m).length → (kacc ((cd m).take i)).length ≤ 32 ∧ ∀ k ∈ kacc ((cd m).take i), k.length ≤ 5 := fun i hi => by
      obtain ⟨b1, b2⟩ := kacc_bnd i ((cd m).take i) (by rw [List.length_take]; omega)
      have : 2 ^ i ≤ 2 ^ 5 := Nat.pow_le_pow_right (by omega) (by omega)
      exact ⟨by omega, fun k hk => Nat.le_trans (b2 k hk) (by omega)⟩
    refine ⟨_, rfl, m, rfl, for_it (walk_str (z := m)) (fun i σ H' => ∃ q v, σ = [some (.str m), some (.ref q), v, none] ∧ Same H H' ∧ H q = none ∧ H' q = some (.lst ((kacc ((cd m).take i)).map V.str)))
      ⟨l, none, rfl, same_new hl, hl, upd_same⟩ (fun _ _ _ _ _ => True.intro) (fun i x σ H1 H2 hi hP hY => ?_) (fun σ H1 hP => ?_)⟩
    · obtain ⟨rfl, c, hc, rfl⟩ := hY
      obtain ⟨q, v, rfl, s1, hq0, hq⟩ := hP
      rw [hsz] at hi
      obtain ⟨b1, b2⟩ := bnd i (by omega)
      have hc2 : (cd m)[i]? = some c := by rw [Array.getElem?_toList]; exact hc
      have e1 : kacc ((cd m).take (i + 1)) = kstep (kacc ((cd m).take i)) c := by rw [List.take_add_one, hc2, ← kacc_snoc]; rfl
      refine ⟨_, rfl, _, rfl, q, rfl, ⟨_, SqL.of hq⟩, fun D hD => ?_⟩
      have qD : q ≠ D := ne_of_none hq hD
      refine lc_it (walk_list (xs := (kacc ((cd m).take i)).map V.str)) (fun j H' => H' = upd H2 D (.lst (((kacc ((cd m).take i)).take j |>.map fun k => k ++ (⟨#[c]⟩ : Str)).map V.str))) rfl (fun _ H' _ hP => by rw [hP]; exact SqL.of (by rw [upd_ne qD]; exact hq)) (fun j x H1 H3 hj hP hY => ?_) (fun H1 hP => ?_)
      · obtain ⟨rfl, hx⟩ := hY
        subst hP
        rw [List.getElem?_map] at hx
        obtain ⟨z, hz, rfl⟩ := Option.map_eq_some_iff.mp hx
        have hz5 := b2 z (List.mem_of_getElem? hz)
        refine ⟨rfl, lc_yes ?_⟩
        refine ⟨_, rfl, _, rfl, z, ⟨#[c]⟩, rfl, rfl, ?_, _, upd_same, ?_, ?_⟩
        · exact small_line (by show z.length + 1 ≤ 1000; omega)
        · rw [List.length_map, List.length_map, List.length_take]
          exact small1000 (by omega)
        · have e2 : (kacc ((cd m).take i)).take (j + 1) = (kacc ((cd m).take i)).take j ++ [z] := by rw [List.take_add_one, hz]; rfl
          rw [upd_upd, e2, List.map_append, List.map_append]
          rfl
      · rw [List.length_map, List.take_length] at hP
        subst hP
        refine ⟨q, D, _, _, rfl, rfl, by rw [upd_ne qD]; exact hq, upd_same, ?_, fun p hp => ?_⟩
        · rw [List.length_map, List.length_map, List.length_map]
          exact small_line (by omega)
        · have hp1 : H2 p = none := (same_new hD).free hp
          refine ⟨p, _, rfl, (s1.trans (same_new hD)).trans (same_new hp), s1.free hp1, ?_⟩
          rw [upd_same, e1]
          unfold kstep
          rw [List.map_append]
    · obtain ⟨q, v, rfl, s1, hq0, hq⟩ := hP
      rw [hsz, List.take_length] at hq
      obtain ⟨b1, b2⟩ := bnd (cd m).length (Nat.le_refl _)
      rw [List.take_length] at b1
      refine ⟨_, rfl, q, _, rfl, SqL.of hq, by omega, fun ys p hp hs hn => ?_⟩
      have e : ys = kindsOf m := same_sorted (hp.trans (isort_perm _).symm) hs (isort_pw _)
      refine k p _ (s1.free hn) (s1.trans (same_new hn)) ?_
      rw [upd_same, e]
theorem cl_law_kinds : Cl P w K mg base CX0 1 "_law_kinds" P_law_kinds spKinds := by
  refine cl_mk (fn_law_kinds T) (mg_law_kinds T) sc_law_kinds (bd_law_kinds) (fun vs H Q E h => ?_) (fun cdv A outer s H vs Q E hr h => ?_)
  · obtain ⟨_, rfl, _⟩ := h
    rfl
  · obtain ⟨m, rfl, hm, k⟩ := h
    refine ⟨_, pss_cons (ps_set (i := 1) sc_law_kinds.nd rfl (Or.inl rfl) (pe_lst (pa_cons pe_str pa_nil)))
      (pss_cons (ps_for PassesOwn.never rfl (pi_str (pv 0)) (pg_name (i := 2) sc_law_kinds.nd rfl (Or.inr rfl))
        (pss_one (ps_set (i := 1) sc_law_kinds.nd rfl (Or.inl rfl) (pe_op op_cat (pv 1) (pe_lc (own := [("_law_kind", 3)]) (g := gName 3) (by rfl) sc_law_kinds.nd (pi_list (pv 1))
          (blkOk_by (own := [("_law_kind", 3)]) (N := N_law_kinds) (sc := defScope s_law_kinds) (by decide +kernel)) (fun _ _ _ _ _ => pg_name (i := 3) sc_law_kinds.nd rfl (Or.inl rfl)) (fun _ _ _ _ _ => pts_nil)
          (fun _ _ _ _ _ => pe_op op_add_str (pv 3) (pv 2)))))))
      (pss_one (ps_ret (pe_callB cr_sortedS (by rfl) (fr_sorted T) (by decide +kernel) (pa_cons (pv 1) pa_nil))))), ?_⟩
    refine ⟨by show 1 ≤ sizeLine; decide, fun l hl => ?_⟩
    have lenm : (cd m).length ≤ 5 := by simpa [cd, Str.length] using hm
    have hsz : m.cps.size = (cd m).length := by simp
    have bnd : ∀ i, i ≤ (cd m).length → (kacc ((cd m).take i)).length ≤ 32 ∧ ∀ k ∈ kacc ((cd m).take i), k.length ≤ 5 := fun i hi => by
      obtain ⟨b1, b2⟩ := kacc_bnd i ((cd m).take i) (by rw [List.length_take]; omega)
      have : 2 ^ i ≤ 2 ^ 5 := Nat.pow_le_pow_right (by omega) (by omega)
      exact ⟨by omega, fun k hk => Nat.le_trans (b2 k hk) (by omega)⟩
    refine ⟨_, rfl, m, rfl, for_it (walk_str (z := m)) (fun i σ H' => ∃ q v, σ = [some (.str m), some (.ref q), v, none] ∧ Same H H' ∧ H q = none ∧ H' q = some (.lst ((kacc ((cd m).take i)).map V.str)))
      ⟨l, none, rfl, same_new hl, hl, upd_same⟩ (fun _ _ _ _ _ => True.intro) (fun i x σ H1 H2 hi hP hY => ?_) (fun σ H1 hP => ?_)⟩
    · obtain ⟨rfl, c, hc, rfl⟩ := hY
      obtain ⟨q, v, rfl, s1, hq0, hq⟩ := hP
      rw [hsz] at hi
      obtain ⟨b1, b2⟩ := bnd i (by omega)
      have hc2 : (cd m)[i]? = some c := by rw [Array.getElem?_toList]; exact hc
      have e1 : kacc ((cd m).take (i + 1)) = kstep (kacc ((cd m).take i)) c := by rw [List.take_add_one, hc2, ← kacc_snoc]; rfl
      refine ⟨_, rfl, _, rfl, q, rfl, ⟨_, SqL.of hq⟩, fun D hD => ?_⟩
      have qD : q ≠ D := ne_of_none hq hD
      refine lc_it (walk_list (xs := (kacc ((cd m).take i)).map V.str)) (fun j H' => H' = upd H2 D (.lst (((kacc ((cd m).take i)).take j |>.map fun k => k ++ (⟨#[c]⟩ : Str)).map V.str))) rfl (fun _ H' _ hP => by rw [hP]; exact SqL.of (by rw [upd_ne qD]; exact hq)) (fun j x H1 H3 hj hP hY => ?_) (fun H1 hP => ?_)
      · obtain ⟨rfl, hx⟩ := hY
        subst hP
        rw [List.getElem?_map] at hx
        obtain ⟨z, hz, rfl⟩ := Option.map_eq_some_iff.mp hx
        have hz5 := b2 z (List.mem_of_getElem? hz)
        refine ⟨rfl, lc_yes ?_⟩
        refine ⟨_, rfl, _, rfl, z, ⟨#[c]⟩, rfl, rfl, ?_, _, upd_same, ?_, ?_⟩
        · exact small_line (by show z.length + 1 ≤ 1000; omega)
        · rw [List.length_map, List.length_map, List.length_take]
          exact small1000 (by omega)
        · have e2 : (kacc ((cd m).take i)).take (j + 1) = (kacc ((cd m).take i)).take j ++ [z] := by rw [List.take_add_one, hz]; rfl
          rw [upd_upd, e2, List.map_append, List.map_append]
          rfl
      · rw [List.length_map, List.take_length] at hP
        subst hP
        refine ⟨q, D, _, _, rfl, rfl, by rw [upd_ne qD]; exact hq, upd_same, ?_, fun p hp => ?_⟩
        · rw [List.length_map, List.length_map, List.length_map]
          exact small_line (by omega)
        · have hp1 : H2 p = none := (same_new hD).free hp
          refine ⟨p, _, rfl, (s1.trans (same_new hD)).trans (same_new hp), s1.free hp1, ?_⟩
          rw [upd_same, e1]
          unfold kstep
          rw [List.map_append]
    · obtain ⟨q, v, rfl, s1, hq0, hq⟩ := hP
      rw [hsz, List.take_length] at hq
      obtain ⟨b1, b2⟩ := bnd (cd m).length (Nat.le_refl _)
      rw [List.take_length] at b1
      refine ⟨_, rfl, q, _, rfl, SqL.of hq, by omega, fun ys p hp hs hn => ?_⟩
      have e : ys = kindsOf m := same_sorted (hp.trans (isort_perm _).symm) hs (isort_pw _)
      refine k p _ (s1.free hn) (s1.trans (same_new hn)) ?_
      rw [upd_same, e]
end
end NF

set_option Elab.async false
set_option linter.all false
set_option maxRecDepth 100000
set_option maxHeartbeats 4000000
/-! Three words more for tuples: t[::-1], t * 1, for i, x in enumerate(t). -/
namespace NFW
open PySem PySem.Spec PyProof.Rows L2
/-! ### t[::-1] -/
theorem fm_congr {α β : Type} {f g : α → Option β} : ∀ {l : List α}, (∀ x ∈ l, f x = g x) → l.filterMap f = l.filterMap g
  | [], _ => rfl
  | x :: l, h => by
    rw [List.filterMap_cons, List.filterMap_cons, h x List.mem_cons_self, fm_congr fun y hy => h y (List.mem_cons_of_mem _ hy)]
theorem adjust_rev (n : Nat) : Builtin.Slice.sliceAdjust none none (-1) (n : Int) = ((n : Int) - 1, -1) := by
  unfold Builtin.Slice.sliceAdjust
  rfl
theorem places_rev (n : Nat) : Builtin.Slice.slicePlaces ((n : Int) - 1) (-1) (-1) = n := by
  unfold Builtin.Slice.slicePlaces
  rw [if_neg (by decide)]
  have e : (-(-1) : Int) = 1 := rfl
  rw [e, Int.ediv_one]
  split <;> omega
section
variable {prog : Program} {w : World} {A : Around} {E : Value → Shared → Prop} {s : Shared}
theorem applied_rev {sl : Addr} {vl vu vs : Value} {n : Nat} {Q : Int × Int × Nat → Shared → Prop} (hs : s.heap.IsSliceOf sl vl vu vs) (pl : IsPart vl none) (pu : IsPart vu none) (ps : IsPart vs (some (-1)))
    (h : Q ((n : Int) - 1, -1, n) s) : wpAny (model prog w) A (Builtin.Slice.sliceApplied (.ref sl) (pure (n : Int))) Q E s := by
  obtain ⟨os, hos, hcs, hds⟩ := id hs
  unfold Builtin.Slice.sliceApplied Builtin.Slice.sliceFields
  refine wpAny_bind (wpAny_bind (wpAny_field hos hds (x := vl) rfl (wpAny_bind (wpAny_field hos hds (x := vu) rfl (wpAny_bind (wpAny_field hos hds (x := vs) rfl (wpAny_pure ?_)))))))
  refine wpAny_bind (HT.slicePart_ ps ?_)
  show wpAny _ _ (if ((-1 : Int) == 0) = true then _ else _) _ _ s
  rw [if_neg (by decide)]
  refine wpAny_bind (HT.slicePart_ pl (wpAny_bind (HT.slicePart_ pu (wpAny_bind (wpAny_pure ?_)))))
  show wpAny _ _ (match Builtin.Slice.sliceAdjust none none (-1) (n : Int) with | (lo, hi) => pure (lo, (-1 : Int), Builtin.Slice.slicePlaces lo hi (-1))) _ _ s
  rw [adjust_rev]
  show wpAny _ _ (pure ((n : Int) - 1, (-1 : Int), Builtin.Slice.slicePlaces ((n : Int) - 1) (-1) (-1))) _ _ s
  rw [places_rev]
  exact wpAny_pure h
theorem pick_rev (xs : Array Value) : ((List.range xs.size).filterMap fun (m : Nat) => xs[((xs.size : Int) - 1 + (m : Int) * (-1)).toNat]?).toArray = xs.toList.reverse.toArray := by
  have e : (List.range xs.size).filterMap (fun (m : Nat) => xs[((xs.size : Int) - 1 + (m : Int) * (-1)).toNat]?) = ((List.range xs.size).map fun k => xs.size - 1 - k).filterMap (xs[·]?) := by
    rw [List.filterMap_map]
    refine fm_congr fun m hm => ?_
    have hm := List.mem_range.mp hm
    have e : ((xs.size : Int) - 1 + (m : Int) * (-1)).toNat = xs.size - 1 - m := by omega
    rw [e]
    rfl
  rw [e, PySem.W.krv_range, List.filterMap_reverse, PySem.W.krv_all]
theorem getItem_tuple_rev {t sl : Addr} {items : Array Value} {vl vu vs : Value} {Q : Value → Shared → Prop} (ht : IsTup s.heap t items) (hs : s.heap.IsSliceOf sl vl vu vs) (pl : IsPart vl none) (pu : IsPart vu none) (ps : IsPart vs (some (-1)))
    (h : Q (.ref s.heap.objs.size) { s with heap := s.heap.push { cls := .type "tuple", data := .seq items.toList.reverse.toArray } }) (hsz : items.size ≤ sizeLine) : wpAny (model prog w) A (getItem (.ref t) (.ref sl)) Q E s := by
  have htake : sizeOk (.seq items.toList.reverse.toArray) := by
    show items.toList.reverse.toArray.size ≤ sizeLine
    rw [List.size_toArray, List.length_reverse, Array.length_toList]
    exact hsz
  obtain ⟨os, hos, hcs, hds⟩ := id hs
  have hTs : s.TypeIs (.ref sl) "slice" := ⟨os, hos, hcs⟩
  unfold getItem
  try with_reducible refine wpAny_holding ?_
  first | refine wpAny_bind (wpAny_pure ?_) | skip
  refine wpAny_bind (wpAny_sequenceKey ht.typeIs (by decide) ?_)
  refine wpAny_bind (wpAny_callSpecial?_slot (name := Str.ofString "__getitem__") ht.typeIs PyProof.Rows.slot_tuple_getitem
    (wpAny_call_entry PyProof.Rows.slot_tuple_getitem ht.typeIs PyProof.Rows.entry_tuple_getitem ?_ (PyProof.Rows.args_tuple_getitem _ _)))
  show wpAny _ _ (Builtin.Tuple.tupleItemsOf (.ref t) >>= _) _ _ s
  refine wpAny_bind (PyProof.Rows.tupleItemsOf_ ht ?_)
  refine wpAny_bind (wpAny_typeOf hTs ?_)
  rw [if_pos (by decide)]
  refine wpAny_bind (applied_rev hs pl pu ps ?_)
  have hno : ¬ ((((items.size : Int) - 1) == 0 && (-1 : Int) == 1 && items.size == items.size) = true) := by
    intro q
    rw [Bool.and_eq_true, Bool.and_eq_true] at q
    exact absurd q.1.2 (by decide)
  show wpAny _ _ (if (((items.size : Int) - 1) == 0 && (-1 : Int) == 1 && items.size == items.size) = true then _ else _) _ _ s
  rw [if_neg hno, pick_rev]
  first
    | exact wpAny_bind (m := Builtin.Tuple.tupleExact _) (wpAny_newObj_type (wpAny_pure ⟨_, rfl, wpAny_pure h⟩) htake)
    | exact wpAny_bind (m := Builtin.Tuple.tupleExact _) (wpAny_newObj_type (wpAny_bind (wpAny_pure (wpAny_pure ⟨_, rfl, wpAny_pure h⟩))) htake)
    | exact wpAny_bind (wpAny_bind (m := Builtin.Tuple.tupleExact _) (wpAny_newObj_type (wpAny_pure (wpAny_pure ⟨_, rfl, wpAny_pure h⟩)) htake))
    | exact wpAny_bind (wpAny_bind (m := Builtin.Tuple.tupleExact _) (wpAny_newObj_type (wpAny_pure ⟨_, rfl, wpAny_pure h⟩) htake))
/-! ### t * 1 -/
theorem mul_one_meets (l : Addr) (items : Array Value) (n : Nat) (dd : Option Addr) (sl : Array (Option Value)) (u : Tok) :
    Meets (Builtin.«tuple.__mul__» ⟨[.ref l, .int 1 u], []⟩) (fun _ R s => s.heap.get? l = some { cls := .type "tuple", dict := dd, data := .seq items n, slots := sl } ∧ R (.ok (.ret (Value.ref l))) s) :=
  .of_wp fun prog w A R s h => by
    obtain ⟨hp, g, d, tk, os⟩ := s
    obtain ⟨hl, h⟩ := h
    have f1 := AutoSeq1.idx_int
    have c1 : (items.isEmpty || (1 : Int) == 1) = true := by simp
    wp_walk using wpAny_loadPart' hl
    repeat (first
      | (refine wpAny_ite_false (decide_eq_false (by decide)) ?_; wp_walk using wpAny_loadPart' hl)
      | (refine wpAny_ite_true (decide_eq_true c1) ?_; wp_walk using wpAny_loadPart' hl))
    exact ⟨_, rfl, h⟩
end
section
variable {X : Cx}
def tRevT (K : PySem.W.Frag) (te : TE) : TE := fun σ H Q => te σ H fun x H1 => ∃ a xs, x = .ref a ∧ SqT K H1 a xs ∧ ∀ p, H1 p = none → Q (.ref p) (upd H1 p (.tup xs.reverse))
theorem pe_revT {e : Expr} {te : TE} {k : Nat} {p1 p2 p3 pos : Pos} (he : PE X e te) : PE X (.Subscript e (.Slice none none (some (.UnaryOp .USub (.Constant (.int 1) k p1) p2)) p3) pos) (tRevT X.K te) := by
  refine ⟨fun pins s σ H Q I h => ?_⟩
  refine Subscript_ (thn (he.run pins s σ H _ I h) fun v s1 ⟨x, H1, I1, r1, q1⟩ => ?_)
  obtain ⟨a, xs, ex, hx, q⟩ := q1
  subst ex
  cases r1
  have hst : PO X (some (.UnaryOp .USub (.Constant (.int 1) k p1) p2)) (tPart (tUn (rU fun i => .int (-i)) (tC (.int 1)))) := po_some (pe_un un_neg pe_int)
  refine wpAny_Slice (thn (po_none.run pins s1 σ H1 (fun o H2 => o = none ∧ H2 = H1) I1 ⟨rfl, rfl⟩) fun vl s2 ⟨l, H2, I2, pl, el, e2⟩ => ?_)
  subst el e2
  refine thn (po_none.run pins s2 σ H2 (fun o H3 => o = none ∧ H3 = H2) I2 ⟨rfl, rfl⟩) fun vu s3 ⟨u, H3, I3, pu, eu, e3⟩ => ?_
  subst eu e3
  refine thn (hst.run pins s3 σ H3 (fun o H4 => o = some (-1) ∧ H4 = H3) I3 ⟨1, rfl, -1, rfl, rfl, rfl⟩) fun vs s4 ⟨o, H4, I4, ps, eo, e4⟩ => ?_
  subst eo e4
  have I5 : Inv X pins σ H4 { s4 with heap := s4.heap.push { cls := .type "slice", data := .fields #[vl, vu, vs] } } := I4.kept (t' := s4.toks) fun b ob q => Heap.get?_push_of_some _ q
  obtain ⟨its, r, ht, hz⟩ := I5.tuple hx
  have hlen := r.length
  show wpAny (model X.prog X.w) X.A (subscriptTail e (.Slice none none (some (.UnaryOp .USub (.Constant (.int 1) k p1) p2)) p3) (.ref a) (.ref s4.heap.objs.size)) (EP X pins σ Q) X.xe { s4 with heap := s4.heap.push { cls := .type "slice", data := .fields #[vl, vu, vs] } }
  refine tail_any (ops := [.ref a, .ref s4.heap.objs.size]) ht.typeIs (PyProof.Rows.slot_tuple_getitem.lookup) ?_ (by with_unfolding_all rfl)
  refine getItem_tuple_rev ht (Heap.IsSliceOf.new _ vl vu vs) pl pu ps ?_ (by rw [List.size_toArray]; omega)
  refine ⟨.ref _, _, I5.laid (t' := s4.toks) (o := .tup xs.reverse) (fun b ob q => Heap.get?_push_of_some _ q) (Nat.le_refl _) ?_, rfl, q _ (I5.hok.fresh (Nat.le_refl _))⟩
  exact ⟨by rw [List.length_reverse]; exact hz, _, r.reverse, IsTup.new _ _⟩
/-- t * k, 1 ≤ k: once it is itself -/
def rRepA (K : PySem.W.Frag) : R2 := fun x y H Q => ∃ l k xs, x = .ref l ∧ y = .int k ∧ SqT K H l xs ∧ xs ≠ [] ∧ 1 ≤ k ∧ k ≤ 1000 ∧ xs.length ≤ 1000 ∧ (k = 1 → Q (.ref l) H) ∧ (2 ≤ k → ∀ p, H p = none → Q (.ref p) (upd H p (.tup (List.replicate k.toNat xs).flatten)))
theorem op_repA : OpR X (binaryOp .Mult) (rRepA X.K) := by
  intro pins s σ H x y v u Q I rx ry h
  obtain ⟨l, k, xs, rfl, rfl, hT, hne, h1, h2, hz, q1, q2⟩ := h
  by_cases hk : k = 1
  · subst hk
    cases rx
    obtain ⟨t, rfl⟩ := ry
    obtain ⟨its, r, ⟨⟨cls, dd, data, sl⟩, ho, hc, n, hd⟩, hs⟩ := I.tuple hT
    simp only at hc hd
    subst hc hd
    exact wpAny_binaryOp_repeat_ref (T := "tuple") (U := "int") (by decide) ⟨_, ho, rfl⟩ (fun s' => typeIs_int s' 1 t) noFill_tuple_mul F.fills_int_mul F.slot_int_rmul repeat_tuple F.slot_int_index.lookup
      (call_meets F.slot_int_rmul (typeIs_int s 1 t) F.entry_int_rmul (F.args_int_rmul_2 _ _) (int_rmul_tuple 1 t l its.toArray n dd sl)
        ⟨ho, rfl, ⟨_, ho, rfl⟩, call_meets F.slot_tuple_mul ⟨_, ho, rfl⟩ F.entry_tuple_mul (F.args_tuple_mul_2 _ _) (mul_one_meets l its.toArray n dd sl t) ⟨ho, .ref l, H, I, rfl, q1 rfl⟩⟩)
  · exact op_repT pins s σ H _ _ v u Q I rx ry ⟨l, k, xs, rfl, rfl, hT, hne, by omega, h2, hz, q2 (by omega)⟩
end
/-! ### enumerate(t) -/
section
set_option maxHeartbeats 8000000 in
theorem meets_enum1 {v : Value} {o : Obj} {G : Heap → Prop} (B : Begins v o G) :
    Meets (Builtin.«enumerate.__new__» ⟨[.type "enumerate", v], []⟩) (fun _ R s => G s.heap ∧
      R (.ok (.ret (.ref (s.heap.push o).objs.size))) { s with heap := (s.heap.push o).push { cls := .type "enumerate", data := .fields #[.none, .bool false, .ref s.heap.objs.size, rawInt 0, .none, .none] } }) :=
  .of_wp fun prog w A R s h => by
    obtain ⟨hp, g, d, tk, os⟩ := s
    obtain ⟨h1, h⟩ := h
    have hsub := sub_enumerate
    have q1 : ∀ {A' : Around} {E : Value → Shared → Prop} {Q : Value → Shared → Prop}, Q (.ref hp.objs.size) ⟨hp.push o, g, d, tk, os⟩ → wpAny (model prog w) A' (pyIter v) Q E ⟨hp, g, d, tk, os⟩ :=
      fun q => B.iter prog w _ _ ⟨hp, g, d, tk, os⟩ _ h1 q
    wp_walk using q1
    refine wpAny_stack_any fun st => wpAny_pure ?_
    split
    · rename_i c _ _ _ _ _
      cases (c == Value.type "enumerate")
      · wp_walk using q1
        exact ⟨_, rfl, h⟩
      · wp_walk using q1
        exact ⟨_, rfl, h⟩
    · wp_walk using q1
      exact ⟨_, rfl, h⟩
theorem enum_tuple {prog : Program} {w : World} {A : Around} {E : Value → Shared → Prop} {s : Shared} {t : Addr} {items : Array Value} {Q : Value → Shared → Prop} (ht : s.heap.IsTuple t items)
    (h : ∀ h', IsEnum h' (s.heap.objs.size + 1) s.heap.objs.size 0 .none → h'.IsTupleIter s.heap.objs.size t 0 → h'.objs.size = s.heap.objs.size + 2 →
      (∀ b o, s.heap.get? b = some o → h'.get? b = some o) → Q (.ref (s.heap.objs.size + 1)) { s with heap := h' }) : wpAny (model prog w) A (call (.type "enumerate") [.ref t]) Q E s := by
  refine callType_new F.called_enumerate (by decide) (F.typeCall_enumerate_1 _) (F.newCall_enumerate_1 _) (fun obj => F.args_object_init_2 obj _) F.entry_enumerate_new (meets_enum1 (begins_tuple t items)) ⟨ht, ?_⟩
  have hz : (s.heap.push { cls := .type "tuple_iterator", data := .fields #[.ref t, .int 0 0] }).objs.size = s.heap.objs.size + 1 := Heap.size_push ..
  show _ ∧ _
  rw [hz]
  have he : IsEnum ((s.heap.push { cls := .type "tuple_iterator", data := .fields #[.ref t, .int 0 0] }).push { cls := .type "enumerate", data := .fields #[.none, .bool false, .ref s.heap.objs.size, rawInt 0, .none, .none] }) (s.heap.objs.size + 1) s.heap.objs.size 0 .none := by
    have := Heap.get?_push_size (s.heap.push { cls := .type "tuple_iterator", data := .fields #[.ref t, .int 0 0] }) (o := { cls := .type "enumerate", data := .fields #[.none, .bool false, .ref s.heap.objs.size, rawInt 0, .none, .none] }) rfl
    rw [hz] at this
    exact this
  exact ⟨⟨_, he, rfl⟩, h _ he ⟨_, Heap.get?_push_of_some _ (Heap.get?_push_size _ rfl), rfl, rfl⟩ (by rw [Heap.size_push, hz]) fun b o x => Heap.get?_push_of_some _ (Heap.get?_push_of_some _ x)⟩
end
theorem enum_endT {prog : Program} {w : World} {A : Around} {E : Value → Shared → Prop} {s : Shared} {e it t : Addr} {i : Int} {j : Nat} {items : Array Value} {old : Value} {Q : Option Value → Shared → Prop} (hh : A.handled = none)
    (he : IsEnum s.heap e it i old) (hit : s.heap.IsTupleIter it t j) (hl : s.heap.IsTuple t items) (hx : items[j]? = none) (hQ : ∀ h', Heap.ExtBut it s.heap h' → Q none { s with heap := h' }) : wpAny (model prog w) A (pyNext (.ref e)) Q E s := by
  have hT : s.TypeIs (.ref e) "enumerate" := ⟨_, he, rfl⟩
  unfold pyNext
  refine wpAny_bind (wpAny_attempt (wpAny_callSpecial?_slot (name := Str.ofString "__next__") hT F.slot_enumerate_next
    (wpAny_call_entry F.slot_enumerate_next hT F.entry_enumerate_next ?_ (F.args_enumerate_next_1 _))))
  show wpAny _ _ (field (.ref e) 2 >>= _) _ _ _
  refine wpAny_bind (wpAny_field he rfl (x := .ref it) rfl ?_)
  refine wpAny_bind (wpAny_nextOf_tuple_end hh hit hl hx fun h' x he' hx' => ?_)
  obtain ⟨o, ho, hc⟩ := hx'
  refine wpAny_bind (wpAny_isInstance (T := "StopIteration") (b := true) ⟨o, ho, hc⟩ isSubtype_stop ?_)
  exact wpAny_pure (hQ _ he')
/-- the tuple at a, each item in a new pair -/
def ItE (K : PySem.W.Frag) (a : Addr) : It :=
  ⟨fun i H => ∃ (xs : List V) (x : V), SqT K H a xs ∧ xs[i]? = some x, fun i H v H' => ∃ T x, v = .ref T ∧ H T = none ∧ H' = upd H T (.tup [.int (i : Nat), x]) ∧ ∀ xs, SqT K H a xs → xs[i]? = some x, fun i H => ∃ xs : List V, SqT K H a xs ∧ xs.length ≤ i⟩
theorem walk_enumT {K : PySem.W.Frag} {a : Addr} {xs : List V} : Walk (ItE K a) xs.length (fun H => SqT K H a xs) (YPair (fun i => some (.int (i : Nat))) (fun i => xs[i]?)) := by
  refine ⟨fun i _ hi q => ⟨xs, xs[i], q, by simp [hi]⟩, fun _ q => ⟨xs, q, Nat.le_refl _⟩, fun i H v H' _ q y => ?_⟩
  obtain ⟨T, x, h1, h2, h3, h4⟩ := y
  exact ⟨T, .int (i : Nat), x, h1, h2, h3, rfl, h4 xs q⟩
theorem turn_enumT {P : Program} {w : World} {K : PySem.W.Frag} {elts : List Expr} {kk : Nat} {tpos : Pos} (a e it : Addr) :
    Turn P w K (.Tuple elts kk tpos) (ItE K a) [e, it] e (fun i h => (∃ old, IsEnum h e it ((i : Nat) : Int) old) ∧ h.IsTupleIter it a i ∧ e ≠ it) where
  mem := by simp
  obj := fun i h st b hb => by
    obtain ⟨⟨old, he⟩, ⟨o, ho, hc, hd⟩, _⟩ := st
    have e' : b = e ∨ b = it := by simpa using hb
    rcases e' with z | z
    · rw [z]; exact ⟨_, he, fun v q => nomatch q⟩
    · rw [z]; exact ⟨o, ho, fun v q => by rw [hd] at q; cases q⟩
  keep := fun i h h' st k => let ⟨⟨old, he⟩, hi, hne⟩ := st; ⟨⟨old, k e (by simp) _ he⟩, hi.at fun o q => k it (by simp) o q, hne⟩
  item := by
    intro X hP hw hK hc i pins s σ H E I hf st hg
    subst hP hw hK
    obtain ⟨⟨old, he⟩, hit, hne⟩ := st
    obtain ⟨xs, x, hq, hx⟩ := hg
    obtain ⟨its, rv, p, hz⟩ := I.tuple hq
    obtain ⟨u, hu, ru⟩ := rv.get hx
    have hel : e < s.heap.objs.size := Heap.lt_size he
    have hil : it < s.heap.objs.size := by obtain ⟨_, q, _⟩ := hit; exact Heap.lt_size q
    have hau : ∃ o, s.heap.get? a = some o ∧ o.cls = .type "tuple" := by obtain ⟨o, h1, h2, _⟩ := p; exact ⟨o, h1, h2⟩
    have nai : a ≠ it := fun z => by
      obtain ⟨o, h1, h2⟩ := hau
      obtain ⟨o2, h3, h4, _⟩ := hit
      rw [z, h3] at h1
      cases h1
      rw [h4] at h2
      exact absurd h2 (by decide)
    have nae : e ∉ [it, a] := fun z => by
      have z : e = it ∨ e = a := by simpa using z
      rcases z with z | z
      · exact hne z
      · obtain ⟨o, h1, h2⟩ := hau
        rw [← z, he] at h1
        cases h1
        exact absurd (Value.type.inj h2) (by decide)
    have D := Draws.tuple (prog := X.prog) (w := X.w) (A := X.A.in1) (I.ok.hd hc) it a nai its.toArray
    have hi2 : i < its.toArray.size := by
      obtain ⟨h1, _⟩ := List.getElem?_eq_some_iff.mp hu
      simpa using h1
    refine wpAny_pyNext_enum_itemD D he ⟨hit, (show s.heap.IsTuple a its.toArray from p)⟩ hi2 hne nae fun y h' tk hy ho hst hT hsz hk => ?_
    have ey : y = u := by
      rw [List.getElem?_toArray, hu] at hy
      exact (Option.some.inj hy).symm
    subst ey
    refine ⟨_, rfl, wpAny_letOwnedTupleGo_enum (s := { s with heap := h', toks := tk + 1 }) ho fun h'' he' sb => ?_⟩
    have hT2 : h''.get? s.heap.objs.size = some { cls := .type "tuple", data := .seq #[.int i tk, y] } := (sb.2 _ (Nat.ne_of_gt hel)).trans hT
    have new : ObjOk X.prog X.w (upd H s.heap.objs.size (.tup [.int (i : Nat), x])) h'' s.heap.objs.size (.tup [.int (i : Nat), x]) :=
      ⟨by show 2 ≤ sizeLine; decide, [.int i tk, y], .cons ⟨_, rfl⟩ (.cons ru .nil), ⟨_, hT2, rfl, _, rfl⟩⟩
    have I1 : Inv X pins σ (upd H s.heap.objs.size (.tup [.int (i : Nat), x])) { s with heap := h'', toks := tk + 1 } :=
      I.turnedNew (ch := [e, it]) (fun b ob hb q => (sb.2 b (fun z => hb (by simp [z]))).trans (hk b ob (fun z => hb (by simp [z])) (fun z => hb (by simp [z])) q)) hf (Nat.le_refl _) new
    refine ⟨.ref s.heap.objs.size, _, I1, rfl, ⟨_, x, rfl, I.hok.fresh (Nat.le_refl _), rfl, fun ys hy => by rw [I.tuple_inj hy hq]; exact hx⟩, ⟨⟨y, ?_⟩, hst.1.at fun o q => (sb.2 it (Ne.symm hne)).trans q, hne⟩, fun b hb => ?_⟩
    · have e1 : ((i + 1 : Nat) : Int) = (i : Int) + 1 := by omega
      rw [e1]; exact he'
    · have hb' : b < s.heap.objs.size := by
        have e' : b = e ∨ b = it := by simpa using hb
        rcases e' with z | z
        · rw [z]; exact hel
        · rw [z]; exact hil
      rw [upd_ne (Nat.ne_of_lt hb')]
      exact (hf b hb).1
  done := by
    intro X hP hw hK hc i pins s σ H E I hf st hg
    subst hP hw hK
    obtain ⟨⟨old, he⟩, hit, hne⟩ := st
    obtain ⟨xs, hq, hx⟩ := hg
    obtain ⟨its, rv, p, hz⟩ := I.tuple hq
    obtain ⟨f0, f1, f2, f3, f4, f5⟩ := hf it (by simp)
    have hl := rv.length
    have nai : a ≠ it := fun z => by
      obtain ⟨o, h1, h2, _⟩ := p
      obtain ⟨o2, h3, h4, _⟩ := hit
      rw [z, h3] at h1
      cases h1
      rw [h4] at h2
      exact absurd h2 (by decide)
    exact enum_endT (I.ok.hd hc) he hit (show s.heap.IsTuple a its.toArray from p) (by rw [List.getElem?_toArray]; exact List.getElem?_eq_none (by omega)) fun h' eb => ⟨rfl, I.turned (t' := s.toks) (fun b o hb q => eb b o hb q) f0 f1 f3 f4 f5⟩
  self := fun A i s Q E st h => let ⟨⟨_, he⟩, _⟩ := st; wpAny_pyIter_enum he h
def iEnumT (K : PySem.W.Frag) (ta : TA) : TI := fun σ H R => ta σ H fun vs H1 => ∃ a xs, vs = [.ref a] ∧ SqT K H1 a xs ∧ R (ItE K a) H1
theorem pi_enumT {X : Cx} {e : Expr} {ta : TA} {p pos tpos : Pos} {elts : List Expr} {kk : Nat} (hg : Gl X "enumerate") (hm : X.mg "enumerate" = none) (ha : PA X [e] ta) (hs : starEach [e] X.env = [(false, eval e X.env)] := by rfl) :
    PI X (.Tuple elts kk tpos) (.Call (.Name "enumerate" p) [e] [] pos) (iEnumT X.K ta) := by
  refine ⟨fun pins s σ H R I h => ?_⟩
  refine Call_ (ld_blt I hg hm boot_enumerate (PyProof.Rows.callWith_type1 (thn (ha.run pos pins s σ H _ I h) fun us s1 ⟨vs, H1, I1, r1, q1⟩ => ?_) hs rfl))
  obtain ⟨a, xs, ex, hq, q⟩ := q1
  subst ex
  cases r1 with
  | cons r rr =>
    cases rr
    cases r
    obtain ⟨its, rv, p', hz⟩ := I1.tuple hq
    refine enum_tuple (show s1.heap.IsTuple a its.toArray from p') fun h' he hit hsz hk => wpAny_pyIter_enum he ?_
    have I2 : Inv X pins σ H1 { s1 with heap := h' } := I1.kept (t' := s1.toks) hk
    refine ⟨s1.heap.objs.size + 1, [s1.heap.objs.size + 1, s1.heap.objs.size], _, _, H1, rfl, I2, turn_enumT a (s1.heap.objs.size + 1) s1.heap.objs.size, ⟨⟨.none, he⟩, hit, Nat.succ_ne_self _⟩, fun b hb => ?_, q⟩
    have e' : b = s1.heap.objs.size + 1 ∨ b = s1.heap.objs.size := by simpa using hb
    have hle : s1.heap.objs.size ≤ b := by
      rcases e' with z | z
      · rw [z]; exact Nat.le_add_right _ _
      · rw [z]; exact Nat.le_refl _
    exact I1.fpOk hle (I1.hok.fresh hle)
end NFW

set_option Elab.async false
set_option linter.all false
set_option maxRecDepth 100000
set_option maxHeartbeats 4000000
/-! Lists of seats: what stands, check_same_marks, first_no_lot, Seats(..). -/
namespace NF
open PySem PySem.Spec PyProof.Rows L2 NFM NFW
theorem kml : ¬ (("marks" : Str) = "lots") := by decide +kernel
def flds (m : Str) (L : Addr) : List (Str × V) := putF "lots" (.ref L) (putF "marks" (.str m) [])
theorem flds_marks (m : Str) (L : Addr) : (flds m L).lookup ("marks" : Str) = some (.str m) := by
  unfold flds
  rw [lookup_putF, if_neg kml, lookup_putF, if_pos rfl]
theorem flds_lots (m : Str) (L : Addr) : (flds m L).lookup ("lots" : Str) = some (.ref L) := by
  unfold flds
  rw [lookup_putF, if_pos rfl]
/-- at L a tuple of lots -/
def Lots (H : Hp) (L : Addr) (ls : List (List Str)) : Prop := ∃ as : List Addr, H L = some (.tup (as.map V.ref)) ∧ Paired (fun a l => TupS H a l) as ls
theorem Lots.keep {H H' : Hp} {L : Addr} {ls : List (List Str)} (h : Lots H L ls) (ht : ∀ b xs, H b = some (.tup xs) → H' b = some (.tup xs)) : Lots H' L ls := by
  obtain ⟨as, h1, h2⟩ := h
  exact ⟨as, ht _ _ h1, Paired.mapP h2 fun _ _ z => ht _ _ z⟩
theorem Lots.same {H H' : Hp} {L : Addr} {ls : List (List Str)} (h : Lots H L ls) (s : Same H H') : Lots H' L ls := h.keep fun b xs e => s b _ e
theorem Lots.len {H : Hp} {L : Addr} {ls : List (List Str)} (h : Lots H L ls) : ∃ as : List Addr, H L = some (.tup (as.map V.ref)) ∧ as.length = ls.length := by
  obtain ⟨as, h1, h2⟩ := h
  exact ⟨as, h1, Paired.length h2⟩
theorem paired_at {α β : Type} {R : α → β → Prop} {l : List α} {m : List β} (h : Paired R l m) : ∀ {i : Nat} {b : β}, m[i]? = some b → ∃ a, l[i]? = some a ∧ R a b := by
  induction h with
  | nil => intro i b e; simp at e
  | @cons a b l m r t ih =>
    intro i b' e
    cases i with
    | zero =>
      simp only [List.getElem?_cons_zero, Option.some.injEq] at e
      subst e
      exact ⟨a, rfl, r⟩
    | succ j =>
      simp only [List.getElem?_cons_succ] at e ⊢
      exact ih e
/-- the s-th lot -/
theorem Lots.at_ {H : Hp} {L : Addr} {ls : List (List Str)} (h : Lots H L ls) {s : Nat} (hs : s < ls.length) : ∃ (as : List Addr) (a : Addr), H L = some (.tup (as.map V.ref)) ∧ (as.map V.ref)[s]? = some (.ref a) ∧ TupS H a (ls.getD s []) := by
  obtain ⟨as, h1, h2⟩ := h
  obtain ⟨a, e1, e2⟩ := paired_at h2 (List.getElem?_eq_getElem hs)
  refine ⟨as, a, h1, by rw [List.getElem?_map, e1]; rfl, ?_⟩
  rw [List.getD_eq_getElem?_getD, List.getElem?_eq_getElem hs]
  exact e2
/-- at p an object Seats(m, ls) -/
def SeatsAt (K : PySem.W.Frag) (H : Hp) (p : Addr) (m : Str) (ls : List (List Str)) : Prop := ∃ dx L, H p = some (.ins (He.ga K "Seats") dx (flds m L)) ∧ Lots H L ls
theorem SeatsAt.same {K : PySem.W.Frag} {H H' : Hp} {p : Addr} {m : Str} {ls : List (List Str)} (h : SeatsAt K H p m ls) (s : Same H H') : SeatsAt K H' p m ls := by
  obtain ⟨dx, L, h1, h2⟩ := h
  exact ⟨dx, L, s _ _ h1, h2.same s⟩
def LotsB (m : Str) (ls : List (List Str)) : Prop := marksB m = true ∧ (∀ l ∈ ls, LotB m l) ∧ ls.length ≤ 40
def spNoLot : Sp := fun vs H Q _ => ∃ (m : Str) (L : Addr) (ls : List (List Str)), vs = [.str m, .ref L] ∧ Lots H L ls ∧ LotsB m ls ∧ ∀ H', Same H H' → Q .non H'
def spSame (K : PySem.W.Frag) : Sp := fun vs H Q _ => ∃ (p q : Addr) (m : Str) (ls ms : List (List Str)), vs = [.ref p, .ref q] ∧ SeatsAt K H p m ls ∧ SeatsAt K H q m ms ∧ Q .non H
def spSeatsInit (C : Addr) : Sp := fun vs H Q _ => ∃ (p dx : Addr) (m : Str) (L : Addr) (ls : List (List Str)), vs = [.ref p, .str m, .ref L] ∧ H p = some (.ins C dx []) ∧ Lots H L ls ∧ LotsB m ls ∧
  ∀ H', (∀ b o, H b = some o → b ≠ p → H' b = some o) → H' p = some (.ins C dx (flds m L)) → Q .non H'
section
variable {P : Program} {w : World} {K : PySem.W.Frag} {mg : Str → Option Value} {base : Heap} (T : Txt K mg)
include T
theorem cl_check_same_marks : Cl P w K mg base CX0 1 "check_same_marks" P_check_same_marks (spSame K) := by
  refine cl_mk (fn_check_same_marks T) (mg_check_same_marks T) sc_check_same_marks (bd_check_same_marks) (fun vs H Q E h => ?_) (fun cdv A outer s H vs Q E hr h => ?_)
  · obtain ⟨_, _, _, _, _, rfl, _⟩ := h
    rfl
  · obtain ⟨p, q, m, ls, ms, rfl, ⟨dx, L, hp, _⟩, ⟨dy, M, hq, _⟩, k⟩ := h
    refine ⟨_, pss_one (ps_if (pt_cmpR op_ne (pe_fld (pv 0) rfl) (pe_fld (pv 1) rfl) (nomark _)) (pss_one ps_never) pss_nil), ?_⟩
    refine ⟨_, rfl, p, _, dx, _, _, rfl, hp, cls_Seats T, noat_Seats_marks T, flds_marks _ _, _, rfl, q, _, dy, _, _, rfl, hq, cls_Seats T, noat_Seats_marks T, flds_marks _ _, rfl, _, rfl, ?_⟩
    exact iteNS rfl k
theorem cl_first_no_lot : Cl P w K mg base CX0 4 "first_no_lot" P_first_no_lot spNoLot := by
  refine cl_mk (fn_first_no_lot T) (mg_first_no_lot T) sc_first_no_lot (bd_first_no_lot) (fun vs H Q E h => ?_) (fun cdv A outer s H vs Q E hr h => ?_)
  · obtain ⟨_, _, _, rfl, _⟩ := h
    rfl
  · obtain ⟨m, L, ls, rfl, hL, ⟨hm, hB, h40⟩, k⟩ := h
    have hL0 := hL
    obtain ⟨as, hLa, hp⟩ := hL0
    have hlen := Paired.length hp
    refine ⟨_, pss_cons (ps_for PassesOwn.never rfl (pi_enumT (by rfl) (fr_enumerate T) (pa_cons (pv 1) pa_nil))
        (pg_tup rfl (pgs_cons (pg_name (i := 2) sc_first_no_lot.nd rfl (Or.inl rfl)) (pgs_cons (pg_name (i := 3) sc_first_no_lot.nd rfl (Or.inl rfl)) pgs_nil)))
        (pss_one (ps_if (pt_not (pt_val (pe_cl (E := E0) (cl_is_lot T) hr (by decide) rfl pass0 (pa_cons (pv 0) (pa_cons (pv 3) pa_nil))))) (pss_one (ps_ret (pv 2))) pss_nil)))
      (pss_one (ps_ret pe_non)), ?_⟩
    refine ⟨_, rfl, L, _, rfl, SqT.of hLa, for_it (walk_enumT (xs := as.map V.ref)) (fun i σ H' => ∃ v2 v3, σ = [some (.str m), some (.ref L), v2, v3] ∧ Same H H') ⟨none, none, rfl, Same.refl H⟩ (fun _ _ _ _ hP => by obtain ⟨_, _, _, s⟩ := hP; exact SqT.of (s _ _ hLa)) (fun i x σ H1 H2 hi hP hY => ?_) (fun σ H1 hP => ?_)⟩
    · obtain ⟨v2, v3, rfl, s1⟩ := hP
      obtain ⟨t, y, z, rfl, ht, rfl, e1, e2⟩ := hY
      cases e1
      have e2 : (as.map V.ref)[i]? = some z := e2
      rw [List.getElem?_map] at e2
      obtain ⟨a, ha, rfl⟩ := Option.map_eq_some_iff.mp e2
      obtain ⟨l, hl, hal⟩ := paired_get hp ha
      have s2 := s1.trans (same_new (o := .tup [.int (i : Nat), .ref a]) ht)
      refine ⟨t, _, rfl, SqT.of upd_same, rfl, _, _, rfl, _, _, rfl, rfl, ?_⟩
      refine ⟨_, rfl, _, rfl, m, a, l, rfl, s2 _ _ hal, hB l (List.mem_of_getElem? hl), fun H3 s3 => ⟨true, rfl, ?_⟩⟩
      refine iteF ?_
      exact ⟨_, _, rfl, s2.trans s3⟩
    · obtain ⟨v2, v3, rfl, s1⟩ := hP
      exact k H1 s1
theorem ok_seats_init : ∃ fd, FnOk P w K mg base CX0 5 (He.ma K (He.ga K "Seats") "__init__") fd P_Seats_init (spSeatsInit (He.ga K "Seats")) ∧ Binds K fd P_Seats_init [] := by
  obtain ⟨fd, F⟩ := fn_Seats_init T
  obtain ⟨t1, hM⟩ := mi_MOST_SEATS T
  refine ⟨fd, F.ok sc_Seats_init (fun vs H Q E h => ?_) (fun cdv A outer s H vs Q E hr h => ?_), F.bindsN bd_Seats_init⟩
  · obtain ⟨_, _, _, _, _, rfl, _⟩ := h
    rfl
  · obtain ⟨p, dx, m, L, ls, rfl, hp, hL, hB, k⟩ := h
    obtain ⟨as, hLa, hal⟩ := hL.len
    refine ⟨_, PSs.nox (pss_cons (ps_if (pt_not (pt_val (pe_cl (E := E0) (cl_is_marks T) hr (by decide) rfl pass0 (pa_cons (pv 1) pa_nil)))) (pss_one ps_never) pss_nil)
      (pss_cons (ps_if (PW.pt (pw_or (pt_not (pt_val (pe_callB call_isi (by rfl) (fr_isinstance T) (by decide +kernel) (pa_cons (pv 2) (pa_cons (pe_bltn (v := .ty "tuple") (by rfl) (fr_tuple T) (by decide +kernel) rfl) pa_nil)))))
        (pw_or1 (pt_cmpR op_gt (pe_callB call_len (by rfl) (fr_len T) PySem.boot_len (pa_cons (pv 2) pa_nil)) (pe_glob (v := .int 40) rfl hM ⟨_, rfl⟩) (nomark _))))) (pss_one ps_never) pss_nil)
      (pss_cons (ps_set (i := 3) sc_Seats_init.nd rfl (Or.inl rfl) (pe_cl (E := E0) (cl_first_no_lot T) hr (by decide) rfl pass0 (pa_cons (pv 1) (pa_cons (pv 2) pa_nil))))
      (pss_cons (ps_if (pt_cmpR op_notN (pv 3) pe_non (nomark _)) (pss_one ps_never) pss_nil)
      (pss_cons (ps_fld (pv 0) (pv 1) rfl) (pss_one (ps_fld (pv 0) (pv 2) rfl))))))), ?_⟩
    refine ⟨_, rfl, m, rfl, hB.1, fun H1 s1 => ⟨true, rfl, ?_⟩⟩
    refine iteF ?_
    refine ⟨_, rfl, _, _, _, _, true, rfl, .ty _, .base (.tup (s1 _ _ hLa)), kit_ty (by decide +kernel), _, rfl, ?_⟩
    refine iteF ?_
    refine ⟨_, rfl, _, _, rfl, .inr ⟨_, SqT.of (s1 _ _ hLa), rfl⟩, _, _, rfl, rfl, _, rfl, ?_⟩
    have h40 := hB.2.2
    rw [decide_eq_false (show ¬ (40 : Int) < ((as.map V.ref).length : Nat) by rw [List.length_map]; omega)]
    refine iteF ?_
    refine ⟨_, rfl, _, rfl, m, L, ls, rfl, hL.same s1, hB, fun H2 s2 => ?_⟩
    refine ⟨_, rfl, rfl, _, rfl, ?_⟩
    refine iteF ?_
    have hp2 := (s1.trans s2) _ _ hp
    refine ⟨_, rfl, _, rfl, p, _, dx, _, rfl, hp2, cls_Seats T, noat_Seats_marks T, by show 0 < 1000; decide, _, rfl, _, rfl, p, _, dx, _, rfl, upd_same, cls_Seats T, noat_Seats_lots T, by show 1 < 1000; decide, ?_⟩
    refine k _ (fun b o e hb => ?_) upd_same
    rw [upd_ne hb, upd_ne hb]
    exact (s1.trans s2) _ _ e
omit T in
/-- what a caller gets -/
theorem seats_made {H1 : Hp} {m : Str} {L : Addr} {ls : List (List Str)} {Q : VK} (hL : Lots H1 L ls) (hB : LotsB m ls) (k : ∀ p H2, H1 p = none → Same H1 H2 → SeatsAt K H2 p m ls → Q (.ref p) H2) :
    ∀ x dx, H1 x = none → H1 dx = none → dx ≠ x → spSeatsInit (He.ga K "Seats") (V.ref x :: ([V.str m, V.ref L] ++ [])) (upd (upd H1 dx (.own x)) x (.ins (He.ga K "Seats") dx [])) (fun v H2 => v = .non ∧ Q (.ref x) H2) E0 := by
  intro x dx nx nd ne
  have s0 : Same H1 (upd (upd H1 dx (.own x)) x (.ins (He.ga K "Seats") dx [])) := fun b o e => by
    rw [upd_ne (ne_of_none e nx), upd_ne (ne_of_none e nd)]
    exact e
  refine ⟨x, dx, m, L, ls, rfl, upd_same, hL.same s0, hB, fun H' kp hx => ⟨rfl, ?_⟩⟩
  have s1 : Same H1 H' := fun b o e => kp b o (s0 b o e) (ne_of_none e nx)
  exact k x H' nx s1 ⟨dx, L, hx, hL.same s1⟩
end
/-- Seats(m, lots) -/
def tSeats (K : PySem.W.Frag) (t : TA) : TE := tMake (He.ga K "Seats") (spSeatsInit (He.ga K "Seats")) [] E0 t
theorem pe_seats {X : Cx} (T : Txt X.K X.mg) {j : Nat} {p pos : Pos} {e : Expr} {es : List Expr} {t : TA} (hr : Room j X.A) (hj : 6 ≤ j) (hg : Gl X "Seats") (ha : PA X (e :: es) t)
    (he : starEach (e :: es) X.env = (false, eval e X.env) :: starEach es X.env := by rfl) (hpl : (backTo pos (starEach es X.env)).any (·.1) = false := by rfl) : PE X (.Call (.Name "Seats" p) (e :: es) [] pos) (tSeats X.K t) := by
  obtain ⟨fd, F, b⟩ := ok_seats_init (P := X.prog) (w := X.w) (base := X.base) T
  exact pe_make (mkr_Seats T) F (hr.mono hj) hg (mg_Seats T) b .nil pass0 ha (by decide) he hpl
end NF

set_option Elab.async false
set_option linter.all false
set_option maxRecDepth 100000
set_option maxHeartbeats 4000000
/-! Taking: first_seat, led, behind, pair_behind, start_of, lead_of. -/
namespace NF
open PySem PySem.Spec PyProof.Rows L2 NFM NFW
def optV : Option Nat → V
  | none => .non
  | some s => .int (s : Nat)
theorem ndec_t {p : Prop} [Decidable p] (h : ¬ p) : (!decide p) = true := by rw [decide_eq_false h]; rfl
theorem ndec_f {p : Prop} [Decidable p] (h : p) : (!decide p) = false := by rw [decide_eq_true h]; rfl
theorem flat_strs (l : List Str) : (l.map V.str).all flatV = true := by
  rw [List.all_eq_true]
  intro v hv
  obtain ⟨z, _, rfl⟩ := List.mem_map.mp hv
  rfl
theorem inV_strs (k : Str) (l : List Str) : inV (.str k) (l.map V.str) = decide (k ∈ l) := by
  unfold inV
  rw [List.any_map]
  cases h : l.any ((fun y => eqV y (V.str k)) ∘ V.str) with
  | true =>
    obtain ⟨x, hx, e⟩ := List.any_eq_true.mp h
    have e2 : (x == k) = true := e
    rw [eq_of_beq e2] at hx
    exact (decide_eq_true hx).symm
  | false =>
    refine (decide_eq_false fun hk => ?_).symm
    have := List.any_eq_false.mp h k hk
    exact this (show (k == k) = true from beq_self_eq_true k)
theorem find_snoc_none {p : Nat → Bool} {f : List Nat} {i s : Nat} (h : f[i]? = some s) (h0 : (f.take i).find? p = none) (hp : p s = false) : (f.take (i + 1)).find? p = none := by
  rw [List.take_add_one, h, List.find?_append, h0]
  show (some s).toList.find? p = none
  simp [hp]
theorem find_here {p : Nat → Bool} {f : List Nat} {i s : Nat} (h : f[i]? = some s) (h0 : (f.take i).find? p = none) (hp : p s = true) : f.find? p = some s := by
  obtain ⟨hi, e⟩ := List.getElem?_eq_some_iff.mp h
  have e2 : f = f.take i ++ (s :: f.drop (i + 1)) := by
    rw [← e, ← List.drop_eq_getElem_cons hi, List.take_append_drop]
  rw [e2, List.find?_append, h0]
  show (s :: f.drop (i + 1)).find? p = some s
  rw [List.find?_cons, hp]
def spFirstT : Sp := fun vs H Q _ => ∃ (L F : Addr) (k : Str) (ls : List (List Str)) (f : List Nat), vs = [.ref L, .ref F, .str k] ∧ Lots H L ls ∧ H F = some (.tup (iv f)) ∧ (∀ s ∈ f, s < ls.length) ∧ Q (optV (fsts ls f k)) H
def spFirstL : Sp := fun vs H Q _ => ∃ (L F : Addr) (k : Str) (ls : List (List Str)) (f : List Nat), vs = [.ref L, .ref F, .str k] ∧ Lots H L ls ∧ H F = some (.lst (iv f)) ∧ (∀ s ∈ f, s < ls.length) ∧ Q (optV (fsts ls f k)) H
theorem iv_at {f : List Nat} {i : Nat} {x : V} (h : (iv f)[i]? = some x) : ∃ s, f[i]? = some s ∧ x = .int (s : Nat) := by
  unfold iv at h
  rw [List.getElem?_map] at h
  obtain ⟨s, h1, h2⟩ := Option.map_eq_some_iff.mp h
  exact ⟨s, h1, h2.symm⟩
theorem iv_len (f : List Nat) : (iv f).length = f.length := List.length_map _
theorem iv_z (f : List Nat) : iv f = (f.map fun n => ((n : Nat) : Int)).map V.int := by
  unfold iv
  rw [List.map_map]
  rfl
theorem rg_iv (n : Nat) : rgV 0 (n : Nat) = iv (List.range n) := by
  unfold rgV iv
  have e : ((n : Int) - 0).toNat = n := by omega
  rw [e]
  refine List.map_congr_left fun i _ => ?_
  rw [Int.zero_add]
theorem takes_snoc (ls : List (List Str)) : ∀ (r : List Str) (f : List Nat) (k : Str), takes ls f (r ++ [k]) = takes ls f r ++ [fsts ls (runF ls f r) k]
  | [], _, _ => rfl
  | j :: r, f, k => by
    rw [List.cons_append, takes, takes, takes_snoc ls r (nxt ls f j) k]
    rfl
theorem takes_len (ls : List (List Str)) : ∀ (r : List Str) (f : List Nat), (takes ls f r).length = r.length
  | [], _ => rfl
  | _ :: r, f => by rw [takes, List.length_cons, List.length_cons, takes_len ls r]
theorem erase_map {α β : Type} (g : α → β) : ∀ (l : List α) (j : Nat), (l.map g).eraseIdx j = (l.eraseIdx j).map g
  | [], _ => rfl
  | _ :: _, 0 => rfl
  | x :: l, j + 1 => by rw [List.map_cons, List.eraseIdx_cons_succ, List.eraseIdx_cons_succ, List.map_cons, erase_map g l j]
/-- the first place of s in f, taken out -/
theorem erase_first : ∀ {f : List Nat} {s : Nat}, f.Nodup → s ∈ f → ∃ j, f[j]? = some s ∧ (∀ m, m < j → f[m]? ≠ some s) ∧ f.eraseIdx j = f.filter fun o => decide (o ≠ s)
  | [], _, _, h => nomatch h
  | x :: f, s, hn, hs => by
    rw [List.nodup_cons] at hn
    by_cases e : x = s
    · subst e
      refine ⟨0, rfl, fun m hm => absurd hm (Nat.not_lt_zero _), ?_⟩
      rw [List.eraseIdx_cons_zero, List.filter_cons, if_neg (by simp), filter_out hn.1]
    · rcases List.mem_cons.mp hs with z | z
      · exact absurd z.symm e
      · obtain ⟨j, h1, h2, h3⟩ := erase_first hn.2 z
        refine ⟨j + 1, h1, fun m hm => ?_, ?_⟩
        · cases m with
          | zero => intro q; exact e (Option.some.inj q)
          | succ m => exact h2 m (by omega)
        · rw [List.eraseIdx_cons_succ, List.filter_cons, if_pos (decide_eq_true e), h3]
def spLed : Sp := fun vs H Q _ => ∃ (L R : Addr) (ls : List (List Str)) (row : List Str), vs = [.ref L, .ref R] ∧ Lots H L ls ∧ ls.length ≤ 40 ∧ TupS H R row ∧ row.length ≤ 200 ∧
  ∀ (p a b : Addr) (H' : Hp), Same H H' → H' p = some (.tup [.ref a, .ref b]) → H' a = some (.lst ((takes ls (List.range ls.length) row).map optV)) → Q (.ref p) H'
/-- the seats free behind a comer: the same tuple, or a new one -/
def spBehind : Sp := fun vs H Q _ => ∃ (L F : Addr) (k : Str) (ls : List (List Str)) (f : List Nat), vs = [.ref L, .ref F, .str k] ∧ Lots H L ls ∧ ls.length ≤ 40 ∧ TupI H F f ∧ f.Sublist (List.range ls.length) ∧
  ∀ (p : Addr) (H' : Hp), Same H H' → TupI H' p (nxt ls f k) → Q (.ref p) H'
def spPairBehind (K : PySem.W.Frag) : Sp := fun vs H Q _ => ∃ (a b p : Addr) (k m : Str) (ls ms : List (List Str)) (q : Pr), vs = [.ref a, .ref b, .ref p, .str k] ∧ SeatsAt K H a m ls ∧ SeatsAt K H b m ms ∧ ls.length ≤ 40 ∧ ms.length ≤ 40 ∧ KeyAt H p q ∧
  q.1.Sublist (List.range ls.length) ∧ q.2.Sublist (List.range ms.length) ∧ ∀ (g : Addr) (H' : Hp), Same H H' → KeyAt H' g (nxtP ls ms q k) → Q (.ref g) H'
def spStart (K : PySem.W.Frag) : Sp := fun vs H Q _ => ∃ (a b : Addr) (m : Str) (ls ms : List (List Str)), vs = [.ref a, .ref b] ∧ SeatsAt K H a m ls ∧ SeatsAt K H b m ms ∧ ls.length ≤ 40 ∧ ms.length ≤ 40 ∧
  ∀ (g : Addr) (H' : Hp), Same H H' → KeyAt H' g (startP ls ms) → Q (.ref g) H'
def spLead (K : PySem.W.Frag) : Sp := fun vs H Q _ => ∃ (a b p : Addr) (m : Str) (ls ms : List (List Str)) (q : Pr), vs = [.ref a, .ref b, .ref p] ∧ SeatsAt K H a m ls ∧ SeatsAt K H b m ms ∧ KeyAt H p q ∧ Q (.int (lead ls ms q)) H
theorem sub_lt {f : List Nat} {n : Nat} (h : f.Sublist (List.range n)) : ∀ s ∈ f, s < n := fun s hs => List.mem_range.mp (h.subset hs)
section
variable {P : Program} {w : World} {K : PySem.W.Frag} {mg : Str → Option Value} {base : Heap} (T : Txt K mg)
include T
theorem cl_first_seat_t : Cl P w K mg base CX0 1 "first_seat" P_first_seat spFirstT := by
  refine cl_mk (fn_first_seat T) (mg_first_seat T) sc_first_seat (bd_first_seat) (fun vs H Q E h => ?_) (fun cdv A outer s H vs Q E hr h => ?_)
  · obtain ⟨_, _, _, _, _, rfl, _⟩ := h
    rfl
  · obtain ⟨L, F, k, ls, f, rfl, hL, hF, hlt, q⟩ := h
    refine ⟨_, pss_cons (ps_for PassesOwn.never rfl (pi_tup (pv 1)) (pg_name (i := 3) sc_first_seat.nd rfl (Or.inl rfl))
        (pss_one (ps_if (pt_cmpR op_in_seq (pv 2) (pe_ix ix_tup (pv 0) (pv 3) (fun _ _ => rfl)) (by rfl)) (pss_one (ps_ret (pv 3))) pss_nil)))
      (pss_one (ps_ret pe_non)), ?_⟩
    refine ⟨_, rfl, F, rfl, ⟨_, SqT.of hF⟩, for_it (walk_tup (xs := iv f)) (fun i σ H' => ∃ v3, σ = [some (.ref L), some (.ref F), some (.str k), v3] ∧ H' = H ∧ (f.take i).find? (opn ls k) = none)
      ⟨none, rfl, rfl, rfl⟩ (fun _ _ _ _ hP => by obtain ⟨_, _, rfl, _⟩ := hP; exact SqT.of hF) (fun i x σ H1 H2 hi hP hY => ?_) (fun σ H1 hP => ?_)⟩
    · obtain ⟨v3, rfl, rfl, hn⟩ := hP
      obtain ⟨rfl, hx⟩ := hY
      obtain ⟨sx, hs, rfl⟩ := iv_at hx
      obtain ⟨as, a, h1, h2, h3⟩ := hL.at_ (hlt sx (List.mem_of_getElem? hs))
      refine ⟨_, rfl, _, rfl, _, rfl, L, _, _, .ref a, rfl, rfl, SqT.of h1, atI_nat h2, a, _, rfl, .inr (SqT.of h3), rfl, flat_strs _, _, rfl, ?_⟩
      show if inV (.str k) ((ls.getD sx []).map V.str) = true then _ else _
      rw [inV_strs]
      cases ho : opn ls k sx with
      | true =>
        have e : decide (k ∈ ls.getD sx []) = true := ho
        rw [e]
        refine iteT ⟨_, rfl, ?_⟩
        have ef : fsts ls f k = some sx := find_here hs hn ho
        rw [ef] at q
        exact q
      | false =>
        have e : decide (k ∈ ls.getD sx []) = false := ho
        rw [e]
        refine iteF ?_
        exact ⟨_, rfl, rfl, find_snoc_none hs hn ho⟩
    · obtain ⟨v3, rfl, rfl, hn⟩ := hP
      rw [iv_len, List.take_length] at hn
      have ef : fsts ls f k = none := hn
      rw [ef] at q
      exact q
theorem cl_first_seat_l : Cl P w K mg base CX0 1 "first_seat" P_first_seat spFirstL := by
  refine cl_mk (fn_first_seat T) (mg_first_seat T) sc_first_seat (bd_first_seat) (fun vs H Q E h => ?_) (fun cdv A outer s H vs Q E hr h => ?_)
  · obtain ⟨_, _, _, _, _, rfl, _⟩ := h
    rfl
  · obtain ⟨L, F, k, ls, f, rfl, hL, hF, hlt, q⟩ := h
    refine ⟨_, pss_cons (ps_for PassesOwn.never rfl (pi_list (pv 1)) (pg_name (i := 3) sc_first_seat.nd rfl (Or.inl rfl))
        (pss_one (ps_if (pt_cmpR op_in_seq (pv 2) (pe_ix ix_tup (pv 0) (pv 3) (fun _ _ => rfl)) (by rfl)) (pss_one (ps_ret (pv 3))) pss_nil)))
      (pss_one (ps_ret pe_non)), ?_⟩
    refine ⟨_, rfl, F, rfl, ⟨_, SqL.of hF⟩, for_it (walk_list (xs := iv f)) (fun i σ H' => ∃ v3, σ = [some (.ref L), some (.ref F), some (.str k), v3] ∧ H' = H ∧ (f.take i).find? (opn ls k) = none)
      ⟨none, rfl, rfl, rfl⟩ (fun _ _ _ _ hP => by obtain ⟨_, _, rfl, _⟩ := hP; exact SqL.of hF) (fun i x σ H1 H2 hi hP hY => ?_) (fun σ H1 hP => ?_)⟩
    · obtain ⟨v3, rfl, rfl, hn⟩ := hP
      obtain ⟨rfl, hx⟩ := hY
      obtain ⟨sx, hs, rfl⟩ := iv_at hx
      obtain ⟨as, a, h1, h2, h3⟩ := hL.at_ (hlt sx (List.mem_of_getElem? hs))
      refine ⟨_, rfl, _, rfl, _, rfl, L, _, _, .ref a, rfl, rfl, SqT.of h1, atI_nat h2, a, _, rfl, .inr (SqT.of h3), rfl, flat_strs _, _, rfl, ?_⟩
      show if inV (.str k) ((ls.getD sx []).map V.str) = true then _ else _
      rw [inV_strs]
      cases ho : opn ls k sx with
      | true =>
        have e : decide (k ∈ ls.getD sx []) = true := ho
        rw [e]
        refine iteT ⟨_, rfl, ?_⟩
        have ef : fsts ls f k = some sx := find_here hs hn ho
        rw [ef] at q
        exact q
      | false =>
        have e : decide (k ∈ ls.getD sx []) = false := ho
        rw [e]
        refine iteF ?_
        exact ⟨_, rfl, rfl, find_snoc_none hs hn ho⟩
    · obtain ⟨v3, rfl, rfl, hn⟩ := hP
      rw [iv_len, List.take_length] at hn
      have ef : fsts ls f k = none := hn
      rw [ef] at q
      exact q
theorem cl_led : Cl P w K mg base CX0 2 "led" P_led spLed := by
  refine cl_mk (fn_led T) (mg_led T) sc_led (bd_led) (fun vs H Q E h => ?_) (fun cdv A outer s H vs Q E hr h => ?_)
  · obtain ⟨_, _, _, _, rfl, _⟩ := h
    rfl
  · obtain ⟨L, R, ls, row, rfl, hL, h40, hR, h200, k⟩ := h
    obtain ⟨as, hLa, hal⟩ := hL.len
    refine ⟨_, pss_cons (ps_set (i := 2) sc_led.nd rfl (Or.inl rfl) (pe_listRg rfl (by rfl) (fr_list T) (prg_1 (by rfl) (fr_range T) (pe_callB call_len (by rfl) (fr_len T) PySem.boot_len (pa_cons (pv 0) pa_nil)))))
      (pss_cons (ps_set (i := 3) sc_led.nd rfl (Or.inl rfl) (pe_lst pa_nil))
      (pss_cons (ps_for PassesOwn.never rfl (pi_tup (pv 1)) (pg_name (i := 4) sc_led.nd rfl (Or.inl rfl))
        (pss_cons (ps_set (i := 5) sc_led.nd rfl (Or.inl rfl) (pe_cl (E := E0) (cl_first_seat_l T) hr (by decide) rfl pass0 (pa_cons (pv 0) (pa_cons (pv 2) (pa_cons (pv 4) pa_nil)))))
        (pss_cons (ps_if (pt_cmpR op_notN (pv 5) pe_non (nomark _)) (pss_one (ps_expr (pe_bm PySem.F.plainAttrs_list PySem.F.slot_list_remove PySem.F.type_list_remove mt_remove (pv 2) (pa_cons (pv 5) pa_nil)))) pss_nil)
        (pss_one (ps_expr (pe_bm PySem.F.plainAttrs_list PySem.F.slot_list_append PySem.F.type_list_append mt_append (pv 3) (pa_cons (pv 5) pa_nil)))))))
      (pss_one (ps_ret (pe_tup (pa_cons (pv 3) (pa_cons (pv 2) pa_nil))))))), ?_⟩
    refine ⟨_, rfl, _, _, rfl, .inr ⟨_, SqT.of hLa, rfl⟩, _, rfl, RgOk.of_le (by omega) (by rw [List.length_map]; omega) (by omega) (by omega), fun F hF => ?_⟩
    rw [List.length_map, hal, rg_iv]
    refine ⟨by show 0 ≤ sizeLine; decide, fun W hW => ?_⟩
    have nFW : F ≠ W := ne_of_none (upd_same (H := H) (o := .lst (iv (List.range ls.length)))) hW
    have nWH : H W = none := (same_new (o := .lst (iv (List.range ls.length))) hF).free hW
    have s0 : Same H (upd (upd H F (.lst (iv (List.range ls.length)))) W (.lst [])) := (same_new hF).trans (same_new hW)
    refine ⟨_, rfl, R, rfl, ⟨_, SqT.of (s0 _ _ hR)⟩, for_it (walk_tup (xs := row.map V.str)) (fun i σ H' => ∃ v4 v5, σ = [some (.ref L), some (.ref R), some (.ref F), some (.ref W), v4, v5] ∧ Same H H' ∧
        H' F = some (.lst (iv (runF ls (List.range ls.length) (row.take i)))) ∧ H' W = some (.lst ((takes ls (List.range ls.length) (row.take i)).map optV)))
      ⟨none, none, rfl, s0, by rw [upd_ne nFW, upd_same]; rfl, upd_same⟩ (fun _ _ _ _ hP => by obtain ⟨_, _, _, s, _⟩ := hP; exact SqT.of (s _ _ hR)) (fun i x σ H1 H2 hi hP hY => ?_) (fun σ H1 hP => ?_)⟩
    · obtain ⟨v4, v5, rfl, s1, hF1, hW1⟩ := hP
      obtain ⟨rfl, hx⟩ := hY
      rw [List.getElem?_map] at hx
      obtain ⟨z, hz, rfl⟩ := Option.map_eq_some_iff.mp hx
      rw [List.length_map] at hi
      have hsub := runF_sub ls (row.take i) (List.range ls.length)
      have hnd := sub_nodup hsub (range_nodup _)
      have et : row.take (i + 1) = row.take i ++ [z] := by rw [List.take_add_one, hz]; rfl
      have eR : runF ls (List.range ls.length) (row.take (i + 1)) = nxt ls (runF ls (List.range ls.length) (row.take i)) z := by rw [et]; unfold runF; rw [List.foldl_append]; rfl
      have eT : takes ls (List.range ls.length) (row.take (i + 1)) = takes ls (List.range ls.length) (row.take i) ++ [fsts ls (runF ls (List.range ls.length) (row.take i)) z] := by rw [et, takes_snoc]
      have hlenT : (takes ls (List.range ls.length) (row.take i)).length ≤ 200 := by rw [takes_len, List.length_take]; omega
      refine ⟨_, rfl, _, rfl, _, rfl, L, F, z, ls, _, rfl, hL.same s1, hF1, sub_lt hsub, ?_⟩
      cases hq : fsts ls (runF ls (List.range ls.length) (row.take i)) z with
      | none =>
        refine ⟨_, rfl, rfl, _, rfl, iteF ?_⟩
        refine ⟨_, rfl, .inl ⟨rfl, _, SqL.of hW1⟩, _, rfl, W, _, _, rfl, rfl, hW1, by rw [List.length_map]; exact small1000 (by omega), ?_⟩
        refine ⟨_, _, rfl, fun b o e => ?_, ?_, ?_⟩
        · rw [upd_ne (ne_of_none e nWH)]
          exact s1 _ _ e
        · rw [upd_ne nFW, hF1, eR]
          unfold nxt
          rw [hq]
          rfl
        · rw [upd_same, eT, hq, List.map_append]
          rfl
      | some sx =>
        obtain ⟨j, j1, j2, j3⟩ := erase_first hnd (fsts_mem hq)
        refine ⟨_, rfl, rfl, _, rfl, iteT ?_⟩
        refine ⟨_, rfl, .inl ⟨rfl, _, SqL.of hF1⟩, _, rfl, F, _, (sx : Nat), j, rfl, rfl, by rw [hF1, iv_z], by rw [List.getElem?_map, j1]; rfl, fun m hm q => ?_, ?_⟩
        · rw [List.getElem?_map] at q
          obtain ⟨y, y1, y2⟩ := Option.map_eq_some_iff.mp q
          rw [Int.ofNat_inj.mp y2] at y1
          exact j2 m hm y1
        · have hW2 : upd H2 F (.lst (List.map V.int ((List.map (fun n => ((n : Nat) : Int)) (runF ls (List.range ls.length) (row.take i))).eraseIdx j))) W = some (.lst ((takes ls (List.range ls.length) (row.take i)).map optV)) := by rw [upd_ne (Ne.symm nFW)]; exact hW1
          refine ⟨_, rfl, .inl ⟨rfl, _, SqL.of hW2⟩, _, rfl, W, _, _, rfl, rfl, hW2, by rw [List.length_map]; exact small1000 (by omega), ?_⟩
          refine ⟨_, _, rfl, fun b o e => ?_, ?_, ?_⟩
          · have hbW : b ≠ W := ne_of_none e (nWH)
            have hbF : b ≠ F := ne_of_none e hF
            rw [upd_ne hbW, upd_ne hbF]
            exact s1 _ _ e
          · rw [upd_ne nFW, upd_same, eR, erase_map, j3, ← iv_z]
            unfold nxt
            rw [hq]
            rfl
          · rw [upd_same, eT, hq, List.map_append]
            rfl
    · obtain ⟨v4, v5, rfl, s1, hF1, hW1⟩ := hP
      rw [List.length_map, List.take_length] at hW1
      refine ⟨_, rfl, _, rfl, by show 2 ≤ sizeLine; decide, fun p hp => ?_⟩
      refine k p W F _ (s1.trans (same_new hp)) upd_same ?_
      rw [upd_ne (ne_of_none hW1 hp)]
      exact hW1
theorem cl_behind : Cl P w K mg base CX0 2 "behind" P_behind spBehind := by
  refine cl_mk (fn_behind T) (mg_behind T) sc_behind (bd_behind) (fun vs H Q E h => ?_) (fun cdv A outer s H vs Q E hr h => ?_)
  · obtain ⟨_, _, _, _, _, rfl, _⟩ := h
    rfl
  · obtain ⟨L, F, k, ls, f, rfl, hL, h40, hF, hsub, q⟩ := h
    have hlt := sub_lt hsub
    have hlen : f.length ≤ 40 := by
      have := hsub.length_le
      rw [List.length_range] at this
      omega
    refine ⟨_, pss_cons (ps_set (i := 3) sc_behind.nd rfl (Or.inr rfl) (pe_cl (E := E0) (cl_first_seat_t T) hr (by decide) rfl pass0 (pa_cons (pv 0) (pa_cons (pv 1) (pa_cons (pv 2) pa_nil)))))
      (pss_cons (ps_if (pt_cmpR op_isN (pv 3) pe_non (nomark _)) (pss_one (ps_ret (pv 1))) pss_nil)
      (pss_one (ps_ret (pe_tupleOf rfl (fr_tuple T) (pe_lc (own := [("other", 4)]) (g := gName 4) (by rfl) sc_behind.nd (pi_tup (pv 1)) (blkOk_by (own := [("other", 4)]) (N := N_behind) (sc := defScope s_behind) (by decide +kernel))
        (fun _ _ _ _ _ => pg_name (i := 4) sc_behind.nd rfl (Or.inl rfl)) (fun _ _ _ _ _ => pts_one (pt_cmpR op_ne (pv 4) (pv 3) (nomark _))) (fun _ _ _ _ _ => pv 4)))))), ?_⟩
    refine ⟨_, rfl, _, rfl, _, rfl, L, F, k, ls, f, rfl, hL, hF, hlt, ?_⟩
    cases hq : fsts ls f k with
    | none =>
      refine ⟨_, rfl, rfl, _, rfl, iteT ?_⟩
      refine ⟨_, rfl, q F H (Same.refl H) ?_⟩
      unfold nxt
      rw [hq]
      exact hF
    | some sx =>
      refine ⟨_, rfl, rfl, _, rfl, iteF ?_⟩
      refine ⟨_, rfl, F, rfl, ⟨_, SqT.of hF⟩, fun D hD => ?_⟩
      refine lc_it (walk_tup (xs := iv f)) (fun i H' => H' = upd H D (.lst (iv ((f.take i).filter fun o => decide (o ≠ sx))))) rfl (fun i H' _ e => by subst e; exact SqT.of (same_new hD _ _ hF)) (fun i x H1 H2 hi hP hY => ?_) (fun H1 hP => ?_)
      · obtain ⟨rfl, hx⟩ := hY
        obtain ⟨z, hz, rfl⟩ := iv_at hx
        subst hP
        have et : f.take (i + 1) = f.take i ++ [z] := by rw [List.take_add_one, hz]; rfl
        refine ⟨rfl, _, rfl, _, rfl, rfl, _, rfl, ?_⟩
        have hsm : (iv ((f.take i).filter fun o => decide (o ≠ sx))).length < sizeLine := by
          rw [iv_len]
          have l1 := List.length_filter_le (fun o => decide (o ≠ sx)) (f.take i)
          rw [List.length_take] at l1
          exact small1000 (by omega)
        by_cases e : z = sx
        · subst e
          rw [ndec_f (show V.int (z : Nat) = optV (some z) from rfl)]
          refine iteF ?_
          rw [et, List.filter_append, List.filter_cons, if_neg (by simp)]
          simp
        · rw [ndec_t (show ¬ V.int (z : Nat) = optV (some sx) from fun y => e (Int.ofNat_inj.mp (by injection y)))]
          refine iteT ?_
          refine ⟨_, rfl, _, upd_same, hsm, ?_⟩
          rw [upd_upd, et, List.filter_append, List.filter_cons, if_pos (decide_eq_true e)]
          unfold iv
          rw [List.map_append]
          rfl
      · rw [iv_len, List.take_length] at hP
        subst hP
        refine .inl ⟨D, _, rfl, SqL.of upd_same, fun t ht => ?_⟩
        refine q t _ ((same_new hD).trans (same_new ht)) ?_
        unfold nxt
        rw [hq]
        exact upd_same
theorem cl_pair_behind : Cl P w K mg base CX0 3 "pair_behind" P_pair_behind (spPairBehind K) := by
  refine cl_mk (fn_pair_behind T) (mg_pair_behind T) sc_pair_behind (bd_pair_behind) (fun vs H Q E h => ?_) (fun cdv A outer s H vs Q E hr h => ?_)
  · obtain ⟨_, _, _, _, _, _, _, _, rfl, _⟩ := h
    rfl
  · obtain ⟨a, b, p, k, m, ls, ms, q, rfl, ⟨dx, L, ha, hL⟩, ⟨dy, M, hb, hM⟩, h40, h41, ⟨x, y, hp, hx, hy⟩, s1, s2, kk⟩ := h
    refine ⟨_, pss_one (ps_ret (pe_tup (pa_cons (pe_cl (E := E0) (cl_behind T) hr (by decide) rfl pass0 (pa_cons (pe_fld (pv 0) rfl) (pa_cons (pe_ix ix_tup (pv 2) pe_int (fun _ _ => rfl)) (pa_cons (pv 3) pa_nil))))
      (pa_cons (pe_cl (E := E0) (cl_behind T) hr (by decide) rfl pass0 (pa_cons (pe_fld (pv 1) rfl) (pa_cons (pe_ix ix_tup (pv 2) pe_int (fun _ _ => rfl)) (pa_cons (pv 3) pa_nil)))) pa_nil)))), ?_⟩
    refine ⟨_, rfl, a, _, dx, _, _, rfl, ha, cls_Seats T, noat_Seats_lots T, flds_lots _ _, _, rfl, p, _, _, .ref x, rfl, rfl, SqT.of hp, rfl, _, rfl, L, x, k, ls, q.1, rfl, hL, h40, hx, s1, fun f1 H1 e1 t1 => ?_⟩
    refine ⟨_, rfl, b, _, dy, _, _, rfl, e1 _ _ hb, cls_Seats T, noat_Seats_lots T, flds_lots _ _, _, rfl, p, _, _, .ref y, rfl, rfl, SqT.of (e1 _ _ hp), rfl, _, rfl, M, y, k, ms, q.2, rfl, hM.same e1, h41, e1 _ _ hy, s2, fun f2 H2 e2 t2 => ?_⟩
    refine ⟨by show 2 ≤ sizeLine; decide, fun g hg => ?_⟩
    refine kk g _ ((e1.trans e2).trans (same_new hg)) ⟨f1, f2, upd_same, ?_, ?_⟩
    · exact same_new hg _ _ (e2 _ _ t1)
    · exact same_new hg _ _ t2
theorem cl_start_of : Cl P w K mg base CX0 1 "start_of" P_start_of (spStart K) := by
  refine cl_mk (fn_start_of T) (mg_start_of T) sc_start_of (bd_start_of) (fun vs H Q E h => ?_) (fun cdv A outer s H vs Q E hr h => ?_)
  · obtain ⟨_, _, _, _, _, rfl, _⟩ := h
    rfl
  · obtain ⟨a, b, m, ls, ms, rfl, ⟨dx, L, ha, hL⟩, ⟨dy, M, hb, hM⟩, h40, h41, kk⟩ := h
    obtain ⟨as, hLa, hal⟩ := hL.len
    obtain ⟨bs, hMb, hbl⟩ := hM.len
    refine ⟨_, pss_one (ps_ret (pe_tup (pa_cons (pe_tupRg rfl (by rfl) (fr_tuple T) (prg_1 (by rfl) (fr_range T) (pe_callB call_len (by rfl) (fr_len T) PySem.boot_len (pa_cons (pe_fld (pv 0) rfl) pa_nil))))
      (pa_cons (pe_tupRg rfl (by rfl) (fr_tuple T) (prg_1 (by rfl) (fr_range T) (pe_callB call_len (by rfl) (fr_len T) PySem.boot_len (pa_cons (pe_fld (pv 1) rfl) pa_nil)))) pa_nil)))), ?_⟩
    refine ⟨_, rfl, a, _, dx, _, _, rfl, ha, cls_Seats T, noat_Seats_lots T, flds_lots _ _, _, _, rfl, .inr ⟨_, SqT.of hLa, rfl⟩, _, rfl, RgOk.of_le (by omega) (by rw [List.length_map]; omega) (by omega) (by omega), fun f1 hf1 => ?_⟩
    have e1 := same_new (o := HO.tup (rgV 0 ((as.map V.ref).length : Nat))) hf1
    refine ⟨_, rfl, b, _, dy, _, _, rfl, e1 _ _ hb, cls_Seats T, noat_Seats_lots T, flds_lots _ _, _, _, rfl, .inr ⟨_, SqT.of (e1 _ _ hMb), rfl⟩, _, rfl, RgOk.of_le (by omega) (by rw [List.length_map]; omega) (by omega) (by omega), fun f2 hf2 => ?_⟩
    refine ⟨by show 2 ≤ sizeLine; decide, fun g hg => ?_⟩
    refine kk g _ ((e1.trans (same_new hf2)).trans (same_new hg)) ⟨f1, f2, upd_same, ?_, ?_⟩
    · refine same_new hg _ _ (same_new hf2 _ _ ?_)
      rw [upd_same, List.length_map, hal, rg_iv]
      rfl
    · refine same_new hg _ _ ?_
      rw [upd_same, List.length_map, hbl, rg_iv]
      rfl
theorem cl_lead_of : Cl P w K mg base CX0 1 "lead_of" P_lead_of (spLead K) := by
  refine cl_mk (fn_lead_of T) (mg_lead_of T) sc_lead_of (bd_lead_of) (fun vs H Q E h => ?_) (fun cdv A outer s H vs Q E hr h => ?_)
  · obtain ⟨_, _, _, _, _, _, _, rfl, _⟩ := h
    rfl
  · obtain ⟨a, b, p, m, ls, ms, q, rfl, ⟨dx, L, ha, hL⟩, ⟨dy, M, hb, hM⟩, ⟨x, y, hp, hx, hy⟩, kk⟩ := h
    obtain ⟨as, hLa, hal⟩ := hL.len
    obtain ⟨bs, hMb, hbl⟩ := hM.len
    refine ⟨_, pss_one (ps_ret (pe_op op_sub (pe_op op_sub (pe_callB call_len (by rfl) (fr_len T) PySem.boot_len (pa_cons (pe_fld (pv 0) rfl) pa_nil)) (pe_callB call_len (by rfl) (fr_len T) PySem.boot_len (pa_cons (pe_ix ix_tup (pv 2) pe_int (fun _ _ => rfl)) pa_nil)))
      (pe_op op_sub (pe_callB call_len (by rfl) (fr_len T) PySem.boot_len (pa_cons (pe_fld (pv 1) rfl) pa_nil)) (pe_callB call_len (by rfl) (fr_len T) PySem.boot_len (pa_cons (pe_ix ix_tup (pv 2) pe_int (fun _ _ => rfl)) pa_nil))))), ?_⟩
    refine ⟨_, rfl, a, _, dx, _, _, rfl, ha, cls_Seats T, noat_Seats_lots T, flds_lots _ _, _, _, rfl, .inr ⟨_, SqT.of hLa, rfl⟩, _, rfl, p, _, _, .ref x, rfl, rfl, SqT.of hp, rfl, _, _, rfl, .inr ⟨_, SqT.of hx, rfl⟩, _, _, rfl, rfl, ?_⟩
    refine ⟨_, rfl, b, _, dy, _, _, rfl, hb, cls_Seats T, noat_Seats_lots T, flds_lots _ _, _, _, rfl, .inr ⟨_, SqT.of hMb, rfl⟩, _, rfl, p, _, _, .ref y, rfl, rfl, SqT.of hp, rfl, _, _, rfl, .inr ⟨_, SqT.of hy, rfl⟩, _, _, rfl, rfl, ?_⟩
    refine ⟨_, _, rfl, rfl, ?_⟩
    rw [List.length_map, List.length_map, hal, hbl, iv_len, iv_len]
    exact kk
end
end NF

set_option Elab.async false
set_option linter.all false
set_option maxRecDepth 100000
set_option maxHeartbeats 4000000
/-! many_taken, is_fewer; all_pairs, row_of_fewer, never_fewer, fewer. -/
namespace NF
open PySem PySem.Spec PyProof.Rows L2 NFM NFW
abbrev Tk (H H' : Hp) : Prop := ∀ c xs, H c = some (.tup xs) → H' c = some (.tup xs)
theorem stk {H H' : Hp} (s : Same H H') : Tk H H' := fun c xs e => s c _ e
theorem son {H H' : Hp} {a : Addr} {o : HO} (s : Same H H') (e : H a = some o) : H' a = H a := (s _ _ e).trans e.symm
theorem tk_upd {H : Hp} {a : Addr} {o u : HO} (ha : H a = some u) (hu : ∀ xs, u ≠ .tup xs) : Tk H (upd H a o) := fun c xs e => by
  rw [upd_ne (ne_of e ha (fun z => hu xs z.symm))]
  exact e
/-! ### the state of the walk -/
section
variable {E : List Str} {ls ms : List (List Str)}
/-- v is a row that comes to p -/
def RowAt (E : List Str) (ls ms : List (List Str)) (H : Hp) (p : Pr) (v : V) : Prop := ∃ q r, v = .ref q ∧ TupS H q r ∧ (∀ k ∈ r, k ∈ E) ∧ runP ls ms r = p ∧ r.length ≤ used ls ms p
theorem RowAt.keep {H H' : Hp} {p : Pr} {v : V} (h : RowAt E ls ms H p v) (t : Tk H H') : RowAt E ls ms H' p v := by
  obtain ⟨q, r, e, h1, h2⟩ := h
  exact ⟨q, r, e, t _ _ h1, h2⟩
structure Fnd (P : Program) (w : World) (E : List Str) (ls ms : List (List Str)) (H : Hp) (a : Addr) (o : Obj) (kvs : List (Pr × V)) : Prop where
  d : DO P w H a o kvs
  r : ∀ x ∈ kvs, RowAt E ls ms H x.1 x.2
  s : startP ls ms ∈ kvs.map (·.1)
variable {P : Program} {w : World}
theorem Fnd.keep {H H' : Hp} {a : Addr} {o : Obj} {kvs : List (Pr × V)} (h : Fnd P w E ls ms H a o kvs) (ha : H' a = H a) (t : Tk H H') : Fnd P w E ls ms H' a o kvs :=
  ⟨h.d.keep ha t, fun x hx => (h.r x hx).keep t, h.s⟩
theorem Fnd.reach {H : Hp} {a : Addr} {o : Obj} {kvs : List (Pr × V)} (h : Fnd P w E ls ms H a o kvs) {p : Pr} (hp : p ∈ kvs.map (·.1)) : Reach E ls ms p := by
  obtain ⟨x, hx, rfl⟩ := List.mem_map.mp hp
  obtain ⟨q, r, _, _, h1, h2, _⟩ := h.r x hx
  exact ⟨r, h1, h2⟩
theorem Fnd.at_ {H : Hp} {a : Addr} {o : Obj} {kvs : List (Pr × V)} (h : Fnd P w E ls ms H a o kvs) {p : Pr} (hp : p ∈ kvs.map (·.1)) : ∃ v, valV kvs p = some v ∧ RowAt E ls ms H p v := by
  have all : ∀ l : List (Pr × V), (∀ x ∈ l, RowAt E ls ms H x.1 x.2) → p ∈ l.map (·.1) → ∃ v, valV l p = some v ∧ RowAt E ls ms H p v := by
    intro l
    induction l with
    | nil => intro _ z; exact nomatch z
    | cons y l ih =>
      intro hr hp
      by_cases e : y.1 = p
      · exact ⟨y.2, valV_pos e, e ▸ hr y List.mem_cons_self⟩
      · rw [valV_neg e]
        refine ih (fun x hx => hr x (List.mem_cons_of_mem _ hx)) ?_
        rw [List.map_cons] at hp
        rcases List.mem_cons.mp hp with z | z
        · exact absurd z.symm e
        · exact z
  exact all kvs h.r hp
theorem Fnd.many {H : Hp} {a : Addr} {o : Obj} {kvs : List (Pr × V)} (h : Fnd P w E ls ms H a o kvs) (hl : 3000 < kvs.length) : Many E ls ms :=
  ⟨kvs.map (·.1), by rw [List.length_map]; exact hl, h.d.nodup, fun p hp => h.reach hp⟩
/-- all but those to do are closed -/
def Cov (E : List Str) (ls ms : List (List Str)) (ks : List Pr) (todo : Pr → Prop) : Prop := ∀ p ∈ ks, todo p ∨ ∀ k ∈ E, nxtP ls ms p k ∈ ks
theorem Cov.grow {ks : List Pr} {todo todo' : Pr → Prop} {g : Pr} (h : Cov E ls ms ks todo) (h1 : ∀ p, todo p → todo' p) (h2 : todo' g) : Cov E ls ms (ks ++ [g]) todo' := by
  intro p hp
  rcases List.mem_append.mp hp with z | z
  · rcases h p z with y | y
    · exact .inl (h1 p y)
    · exact .inr fun k hk => List.mem_append_left _ (y k hk)
  · have e : p = g := by simpa using z
    rw [e]
    exact .inl h2
theorem Fnd.few {H : Hp} {a : Addr} {o : Obj} {kvs : List (Pr × V)} (h : Fnd P w E ls ms H a o kvs) (hc : Cov E ls ms (kvs.map (·.1)) (fun _ => False)) (hl : kvs.length ≤ 3000) : Few E ls ms :=
  ⟨kvs.map (·.1), by rw [List.length_map]; exact hl, reach_closed h.s fun p hp k hk => by
    rcases hc p hp with z | z
    · exact z.elim
    · exact z k hk⟩
theorem Fnd.all {H : Hp} {a : Addr} {o : Obj} {kvs : List (Pr × V)} (h : Fnd P w E ls ms H a o kvs) (hc : Cov E ls ms (kvs.map (·.1)) (fun _ => False)) : ∀ p, Reach E ls ms p → p ∈ kvs.map (·.1) :=
  reach_closed h.s fun p hp k hk => by
    rcases hc p hp with z | z
    · exact z.elim
    · exact z k hk
/-- a list of pairs -/
def KL (H : Hp) (x : Addr) (ps : List Pr) : Prop := ∃ as : List Addr, H x = some (.lst (as.map V.ref)) ∧ Paired (fun a p => KeyAt H a p) as ps
theorem KL.keep {H H' : Hp} {x : Addr} {ps : List Pr} (h : KL H x ps) (hx : H' x = H x) (t : Tk H H') : KL H' x ps := by
  obtain ⟨as, h1, h2⟩ := h
  exact ⟨as, hx.trans h1, Paired.mapP h2 fun _ _ z => z.keep t⟩
end
theorem hu16 {A : Around} {k : Nat} (hr : Room k A) : A.units + 16 < cLine := by
  have := hr.un
  omega
/-! ### many_taken, is_fewer -/
def spMany (K : PySem.W.Frag) : Sp := fun vs H Q _ => ∃ (p R : Addr) (m : Str) (ls : List (List Str)) (row : List Str), vs = [.ref p, .ref R] ∧ SeatsAt K H p m ls ∧ ls.length ≤ 40 ∧ TupS H R row ∧ row.length ≤ 200 ∧
  ∀ H', Same H H' → Q (.int (many ls row : Nat)) H'
def spIsFewer (K : PySem.W.Frag) : Sp := fun vs H Q _ => ∃ (p q R : Addr) (m : Str) (ls ms : List (List Str)) (row : List Str), vs = [.ref p, .ref q, .ref R] ∧ SeatsAt K H p m ls ∧ SeatsAt K H q m ms ∧ ls.length ≤ 40 ∧ ms.length ≤ 40 ∧ TupS H R row ∧ KindsOk m row ∧ row.length ≤ 200 ∧
  ∀ H', Same H H' → Q (.bl (decide (many ls row < many ms row))) H'
theorem optV_non (o : Option Nat) : (decide (optV o = V.non)) = !o.isSome := by cases o <;> rfl
section
variable {P : Program} {w : World} {K : PySem.W.Frag} {mg : Str → Option Value} {base : Heap} (T : Txt K mg)
include T
theorem cl_many_taken : Cl P w K mg base CX0 3 "many_taken" P_many_taken (spMany K) := by
  refine cl_mk (fn_many_taken T) (mg_many_taken T) sc_many_taken (bd_many_taken) (fun vs H Q E h => ?_) (fun cdv A outer s H vs Q E hr h => ?_)
  · obtain ⟨_, _, _, _, _, rfl, _⟩ := h
    rfl
  · obtain ⟨p, R, m, ls, row, rfl, ⟨dx, L, hp, hL⟩, h40, hR, h200, k⟩ := h
    refine ⟨_, pss_one (ps_ret (pe_callB call_len (by rfl) (fr_len T) PySem.boot_len (pa_cons (pe_lc (own := [("seat", 2)]) (g := gName 2) (by rfl) sc_many_taken.nd
      (pi_list (pe_ix ix_tup (pe_cl (E := E0) (cl_led T) hr (by decide) rfl pass0 (pa_cons (pe_fld (pv 0) rfl) (pa_cons (pv 1) pa_nil))) pe_int (fun _ _ => rfl)))
      (blkOk_by (own := [("seat", 2)]) (N := N_many_taken) (sc := defScope s_many_taken) (by decide +kernel)) (fun _ _ _ _ _ => pg_name (i := 2) sc_many_taken.nd rfl (Or.inl rfl)) (fun _ _ _ _ _ => pts_one (pt_cmpR op_notN (pv 2) pe_non (nomark _))) (fun _ _ _ _ _ => pv 2)) pa_nil))), ?_⟩
    refine ⟨_, rfl, p, _, dx, _, _, rfl, hp, cls_Seats T, noat_Seats_lots T, flds_lots _ _, _, rfl, L, R, ls, row, rfl, hL, h40, hR, h200, fun t a b H1 s1 ht ha => ?_⟩
    refine ⟨t, _, _, .ref a, rfl, rfl, SqT.of ht, rfl, a, rfl, ⟨_, SqL.of ha⟩, fun D hD => ?_⟩
    refine lc_it (walk_list (xs := (takes ls (List.range ls.length) row).map optV)) (fun i H' => H' = upd H1 D (.lst ((((takes ls (List.range ls.length) row).take i).filter (·.isSome)).map optV))) rfl
      (fun i H' _ e => by subst e; exact SqL.of (same_new hD _ _ ha)) (fun i x H2 H3 hi hP hY => ?_) (fun H2 hP => ?_)
    · obtain ⟨rfl, hx⟩ := hY
      rw [List.getElem?_map] at hx
      obtain ⟨z, hz, rfl⟩ := Option.map_eq_some_iff.mp hx
      subst hP
      have et : (takes ls (List.range ls.length) row).take (i + 1) = (takes ls (List.range ls.length) row).take i ++ [z] := by rw [List.take_add_one, hz]; rfl
      refine ⟨rfl, _, rfl, rfl, _, rfl, ?_⟩
      have hsm : ((((takes ls (List.range ls.length) row).take i).filter (·.isSome)).map optV).length < sizeLine := by
        rw [List.length_map]
        have l1 := List.length_filter_le (·.isSome) ((takes ls (List.range ls.length) row).take i)
        rw [List.length_take, takes_len] at l1
        exact small1000 (by omega)
      cases z with
      | none =>
        refine iteF ?_
        rw [et, List.filter_append]
        simp
      | some z =>
        refine iteT ?_
        refine ⟨_, rfl, _, upd_same, hsm, ?_⟩
        rw [upd_upd, et, List.filter_append, List.map_append]
        rfl
    · rw [List.length_map, List.take_length] at hP
      subst hP
      refine ⟨_, _, rfl, .inl ⟨_, SqL.of upd_same, rfl⟩, ?_⟩
      rw [List.length_map]
      exact k _ (s1.trans (same_new hD))
theorem cl_is_fewer : Cl P w K mg base CX0 4 "is_fewer" P_is_fewer (spIsFewer K) := by
  refine cl_mk (fn_is_fewer T) (mg_is_fewer T) sc_is_fewer (bd_is_fewer) (fun vs H Q E h => ?_) (fun cdv A outer s H vs Q E hr h => ?_)
  · obtain ⟨_, _, _, _, _, _, _, rfl, _⟩ := h
    rfl
  · obtain ⟨p, q, R, m, ls, ms, row, rfl, hp, hq, h40, h41, hR, hk, h200, k⟩ := h
    obtain ⟨dx, L, hp1, hL⟩ := id hp
    refine ⟨_, pss_cons (ps_expr (pe_cl (E := E0) (cl_check_same_marks T) hr (by decide) rfl pass0 (pa_cons (pv 0) (pa_cons (pv 1) pa_nil))))
      (pss_one (ps_ret (pe_and (pe_cl (E := E0) (cl_is_row T) hr (by decide) rfl pass0 (pa_cons (pe_fld (pv 0) rfl) (pa_cons (pv 2) pa_nil)))
        (pe_one (pe_cmpR op_lt (pe_cl (E := E0) (cl_many_taken T) hr (by decide) rfl pass0 (pa_cons (pv 0) (pa_cons (pv 2) pa_nil))) (pe_cl (E := E0) (cl_many_taken T) hr (by decide) rfl pass0 (pa_cons (pv 1) (pa_cons (pv 2) pa_nil))) (nomark _)))))), ?_⟩
    refine ⟨_, rfl, _, rfl, p, q, m, ls, ms, rfl, hp, hq, ?_⟩
    refine ⟨_, rfl, p, _, dx, _, _, rfl, hp1, cls_Seats T, noat_Seats_marks T, flds_marks _ _, _, rfl, m, R, row, rfl, hR, hk, h200, fun H1 s1 => ⟨_, rfl, ?_⟩⟩
    refine iteT ?_
    refine ⟨_, rfl, _, rfl, p, R, m, ls, row, rfl, hp.same s1, h40, s1 _ _ hR, h200, fun H2 s2 => ?_⟩
    refine ⟨_, rfl, _, rfl, q, R, m, ms, row, rfl, hq.same (s1.trans s2), h41, (s1.trans s2) _ _ hR, h200, fun H3 s3 => ?_⟩
    refine ⟨_, _, rfl, rfl, ?_⟩
    have e : decide ((many ls row : Int) < (many ms row : Int)) = decide (many ls row < many ms row) := decide_eq_decide.mpr Int.ofNat_lt
    show Q (.bl (decide ((many ls row : Int) < (many ms row : Int)))) H3
    rw [e]
    exact k H3 ((s1.trans s2).trans s3)
omit T in
/-- t + u of tuples, whatever their lengths -/
def rCatN : R2 := fun x y H Q => ∃ a b xs ys, x = .ref a ∧ y = .ref b ∧ H a = some (.tup xs) ∧ H b = some (.tup ys) ∧ xs.length + ys.length ≤ sizeLine ∧ ∀ p H', Same H H' → H' p = some (.tup (xs ++ ys)) → Q (.ref p) H'
omit T in
theorem op_catN {X : Cx} : OpR X (binaryOp .Add) rCatN := by
  intro pins s σ H x y v u Q I rx ry h
  obtain ⟨a, b, xs, ys, rfl, rfl, ha, hb, hz, q⟩ := h
  refine op_catA pins s σ H _ _ v u Q I rx ry ⟨a, b, xs, ys, rfl, rfl, SqT.of ha, SqT.of hb, hz, fun e => ?_, fun _ e => ?_, fun _ _ p hp => ?_⟩
  · subst e
    exact q b H (Same.refl H) hb
  · subst e
    exact q a H (Same.refl H) (by rw [List.append_nil]; exact ha)
  · exact q p _ (same_new hp) upd_same
theorem oex_TooMany : OexC K (He.ga K "TooMany") := by
  have h := T.e
  unfold ex at h
  exact oexB_ok (Bool.and_eq_true_iff.mp h).1
theorem init_TooMany : PySem.W.findIn K (.ref (He.ga K "TooMany")) "__init__" = some (some (.ref (He.ma K (He.ga K "TooMany") "__init__"))) ∧ PySem.W.typeIn K (.ref (He.ma K (He.ga K "TooMany") "__init__")) = some (.type "function") := by
  have h := T.e
  unfold ex tmInitB at h
  have h2 := (Bool.and_eq_true_iff.mp (Bool.and_eq_true_iff.mp h).2).2
  have h3 := Bool.and_eq_true_iff.mp h2
  exact ⟨of_decide_eq_true h3.1, of_decide_eq_true h3.2⟩
omit T in
def spTMInit (K : PySem.W.Frag) : Sp := fun vs H Q _ => ∃ (a : Addr) (v : V), vs = [.ref a, v] ∧ H a = some (exo a (He.ga K "TooMany") none) ∧
  ∀ dx, H dx = none → dx ≠ a → Q .non (upd (upd H dx (exd dx [("most", v)])) a (exo a (He.ga K "TooMany") (some dx)))
theorem ok_TooMany_init : ∃ fd, FnOk P w K mg base CX0 1 (He.ma K (He.ga K "TooMany") "__init__") fd P_TooMany_init (spTMInit K) ∧ Binds K fd P_TooMany_init [] := by
  obtain ⟨fd, F⟩ := fn_TooMany_init T
  refine ⟨fd, F.ok sc_TooMany_init (fun vs H Q E h => ?_) (fun cdv A outer s H vs Q E hr h => ?_), F.bindsN bd_TooMany_init⟩
  · obtain ⟨_, _, rfl, _⟩ := h
    rfl
  · obtain ⟨a, v, rfl, ha, k⟩ := h
    refine ⟨_, PSs.nox (pss_one (ps_ost (pv 0) (pv 1))), ?_⟩
    exact ⟨_, rfl, _, rfl, a, _, rfl, oex_TooMany T, noat_TooMany_most T, .inl ⟨ha, fun dx hd hn => k dx hd hn⟩⟩
omit T in
/-- what is raised -/
theorem too_many_made {H1 : Hp} {Q : XK} (k : ∀ d H', H1 d = none → Same H1 H' → H' d = some (.xd [("most", .int 3000)]) → Q (.ref (He.ga K "TooMany")) (some d) H') :
    ∀ a, H1 a = none → spTMInit K (.ref a :: ([V.int 3000] ++ [])) (upd H1 a (exo a (He.ga K "TooMany") none)) (fun v H2 => v = .non ∧ ∃ (d : Addr) (fs : List (Str × V)), H2 a = some (exo a (He.ga K "TooMany") (some d)) ∧ H2 d = some (exd d fs) ∧ H1 d = none ∧ Q (.ref (He.ga K "TooMany")) (some d) (upd (del H2 a) d (.xd fs))) (fun _ _ _ => False) := by
  intro a na
  refine ⟨a, .int 3000, rfl, upd_same, fun dx hd hn => ?_⟩
  rw [upd_ne hn] at hd
  refine ⟨rfl, dx, [(("most" : Str), V.int 3000)], upd_same, ?_, hd, ?_⟩
  · rw [upd_ne hn, upd_same]
  · refine k dx _ hd (fun b o e => ?_) upd_same
    have h1 := ne_of_none e hd
    have h2 := ne_of_none e na
    rw [upd_ne h1, del_ne h2, upd_ne h2, upd_ne h1, upd_ne h2]
    exact e
omit T in
def spAll (P : Program) (w : World) (K : PySem.W.Frag) : Sp := fun vs H Q X => ∃ (a b : Addr) (m : Str) (ls ms : List (List Str)), vs = [.ref a, .ref b] ∧ SeatsAt K H a m ls ∧ SeatsAt K H b m ms ∧ m.length ≤ 5 ∧ ls.length ≤ 40 ∧ ms.length ≤ 40 ∧
  (∀ (d : Addr) (o : Obj) (kvs : List (Pr × V)) (H' : Hp), Same H H' → Fnd P w (kindsOf m) ls ms H' d o kvs → Cov (kindsOf m) ls ms (kvs.map (·.1)) (fun _ => False) → kvs.length ≤ 3000 → Q (.ref d) H') ∧
  (Many (kindsOf m) ls ms → ∀ (dd : Addr) (H' : Hp), Same H H' → H' dd = some (.xd [("most", .int 3000)]) → X (.ref (He.ga K "TooMany")) (some dd) H')
omit T in
theorem xd_len {n : Nat} (h : n ≤ 100000) : n < sizeLine := Nat.lt_of_le_of_lt h (by decide)
theorem cl_all_pairs : Cl P w K mg base (L2.CX P w) 4 "all_pairs" P_all_pairs (spAll P w K) := by
  obtain ⟨t1, hM⟩ := mi_MOST_PAIRS T
  obtain ⟨fdT, FT, bT⟩ := ok_TooMany_init (P := P) (w := w) (base := base) T
  refine cl_mkX (fn_all_pairs T) (mg_all_pairs T) sc_all_pairs (bd_all_pairs) (fun vs H Q E h => ?_) (fun cdv A outer s H vs Q E hr h => ?_)
  · obtain ⟨_, _, _, _, _, rfl, _⟩ := h
    rfl
  · obtain ⟨a, b, m, ls, ms, rfl, ha, hb, h5, h40, h41, kQ, kX⟩ := h
    obtain ⟨dxa, La, ha1, hLa⟩ := id ha
    refine ⟨_, pss_cons (ps_set (i := 2) sc_all_pairs.nd rfl (Or.inl rfl) (pe_cl (E := E0) (cl_all_kinds T) hr (by decide) rfl pass0 (pa_cons (pe_fld (pv 0) rfl) pa_nil)))
      (pss_cons (ps_set (i := 3) sc_all_pairs.nd rfl (Or.inl rfl) (pe_cl (E := E0) (cl_start_of T) hr (by decide) rfl pass0 (pa_cons (pv 0) (pa_cons (pv 1) pa_nil))))
      (pss_cons (ps_set (i := 4) sc_all_pairs.nd rfl (Or.inl rfl) (pe_nddisp (hu16 hr) (pv 3) (pe_tup pa_nil)))
      (pss_cons (ps_set (i := 5) sc_all_pairs.nd rfl (Or.inl rfl) (pe_lst (pa_cons (pv 3) pa_nil)))
      (pss_cons (ps_while (passes_of rfl) (pt_cmpR op_gt (pe_callB call_len (by rfl) (fr_len T) PySem.boot_len (pa_cons (pv 5) pa_nil)) pe_int (nomark _))
        (pss_cons (ps_set (i := 6) sc_all_pairs.nd rfl (Or.inl rfl) (pe_lst pa_nil))
        (pss_cons (ps_for (passes_of rfl) rfl (pi_list (pv 5)) (pg_name (i := 7) sc_all_pairs.nd rfl (Or.inl rfl))
          (pss_one (ps_for (passes_of rfl) rfl (pi_list (pv 2)) (pg_name (i := 8) sc_all_pairs.nd rfl (Or.inl rfl))
            (pss_cons (ps_set (i := 9) sc_all_pairs.nd rfl (Or.inl rfl) (pe_cl (E := E0) (cl_pair_behind T) hr (by decide) rfl pass0 (pa_cons (pv 0) (pa_cons (pv 1) (pa_cons (pv 7) (pa_cons (pv 8) pa_nil))))))
            (pss_one (ps_if (pt_cmp (pc_ndnotin (hu16 hr) (pv 9) (pv 4)))
              (pss_cons (ps_ndput (hu16 hr) (pv 4) (pv 9) (pe_op op_catN (pe_ndget (hu16 hr) (pv 4) (pv 7) (fun _ _ => rfl)) (pe_tup (pa_cons (pv 8) pa_nil))) rfl)
              (pss_cons (ps_expr (pe_bm PySem.F.plainAttrs_list PySem.F.slot_list_append PySem.F.type_list_append mt_append (pv 6) (pa_cons (pv 9) pa_nil)))
              (pss_one (ps_if (pt_cmpR op_gt (pe_callB call_len_nd (by rfl) (fr_len T) PySem.boot_len (pa_cons (pv 4) pa_nil)) (pe_glob (v := .int 3000) rfl hM ⟨_, rfl⟩) (nomark _))
                (pss_one (ps_raise rfl (takes_of rfl rfl rfl rfl) (pmk_oex (oex_TooMany T) (init_TooMany T).1 (init_TooMany T).2 FT (hr.mono (by decide)) bT .nil pass0 rfl (mg_TooMany T) (pa_cons (pe_glob (v := .int 3000) rfl hM ⟨_, rfl⟩) pa_nil))))
                pss_nil)))) pss_nil))))))
        (pss_one (ps_set (i := 5) sc_all_pairs.nd rfl (Or.inl rfl) (pv 6))))))
      (pss_one (ps_ret (pv 4))))))), ?_⟩
    refine ⟨_, rfl, a, _, dxa, _, _, rfl, ha1, cls_Seats T, noat_Seats_marks T, flds_marks _ _, m, rfl, h5, fun ev H1 nev s1 hev => ?_⟩
    refine ⟨_, rfl, _, rfl, a, b, m, ls, ms, rfl, ha.same s1, hb.same s1, h40, h41, fun st H2 s2 kst => ?_⟩
    refine fun d nd o0 => ⟨_, rfl, by show 0 ≤ sizeLine; decide, fun e ne => ?_⟩
    have nde : d ≠ e := ne_of_none upd_same ne
    have ne2 : H2 e = none := by rw [upd_ne (Ne.symm nde)] at ne; exact ne
    have s3 : Same H2 (upd (upd H2 d (EX d o0)) e (.tup [])) := fun c o q => by
      rw [upd_ne (ne_of_none q ne2), upd_ne (ne_of_none q nd)]
      exact q
    have tkX : ∀ (o1 : Obj), Tk (upd (upd H2 d (EX d o0)) e (.tup [])) (upd (upd (upd H2 d (EX d o0)) e (.tup [])) d (EX d o1)) := fun o1 => tk_upd (u := EX d o0) (by rw [upd_ne nde, upd_same]) (fun xs z => by cases z)
    refine ⟨by rw [upd_ne nde, upd_same], st, startP ls ms, .ref e, rfl, kst.keep (stk s3), fun o1 hdo => ?_⟩
    refine ⟨_, rfl, by show 1 ≤ sizeLine; decide, fun w0 nw0 => ?_⟩
    have s4 : Same H2 (upd (upd (upd H2 d (EX d o0)) e (.tup [])) d (EX d o1)) := fun c o q => by
      rw [upd_ne (ne_of_none q nd)]
      exact s3 c o q
    have s5 : Same H (upd (upd (upd (upd H2 d (EX d o0)) e (.tup [])) d (EX d o1)) w0 (.lst [.ref st])) := ((s1.trans s2).trans s4).trans (same_new nw0)
    have nHd : H d = none := (s1.trans s2).free nd
    have nH1d : H1 d = none := s2.free nd
    have ndw : d ≠ w0 := ne_of_none upd_same nw0
    have F0 : Fnd P w (kindsOf m) ls ms (upd (upd (upd (upd H2 d (EX d o0)) e (.tup [])) d (EX d o1)) w0 (.lst [.ref st])) d o1 [(startP ls ms, .ref e)] := by
      refine Fnd.keep ⟨hdo, fun x hx => ?_, List.mem_cons_self⟩ (upd_ne ndw) (stk (same_new nw0))
      have ex : x = (startP ls ms, .ref e) := by simpa using hx
      subst ex
      refine ⟨e, [], rfl, ?_, (fun _ z => nomatch z), rfl, Nat.zero_le _⟩
      show _ = some (HO.tup [])
      rw [upd_ne (Ne.symm nde), upd_same]
    refine ⟨fun mm σ H' => ∃ o kvs x as ps v6 v7 v8 v9, σ = [some (.ref a), some (.ref b), some (.ref ev), some (.ref st), some (.ref d), some (.ref x), v6, v7, v8, v9] ∧ Same H H' ∧ H' ev = some (.lst ((kindsOf m).map V.str)) ∧
        Fnd P w (kindsOf m) ls ms H' d o kvs ∧ H' x = some (.lst (as.map V.ref)) ∧ Paired (fun a p => KeyAt H' a p) as ps ∧ (∀ p ∈ ps, p ∈ kvs.map (·.1)) ∧ Cov (kindsOf m) ls ms (kvs.map (·.1)) (fun p => p ∈ ps) ∧ kvs.length ≤ 3000 ∧ mm = 2 * (3001 - kvs.length) + (if ps = [] then 0 else 1), ⟨_, o1, _, w0, [st], [startP ls ms], none, none, none, none, rfl, s5, ?_, F0, upd_same, ?_, ?_, ?_, by show 1 ≤ 3000; decide, rfl⟩, ?_⟩
    · rw [upd_ne (ne_of_none ((s2.trans s4) _ _ hev) nw0)]
      exact (s2.trans s4) _ _ hev
    · exact .cons (kst.keep (stk (s4.trans (same_new nw0)))) .nil
    · intro p hp
      exact hp
    · intro p hp
      exact .inl hp
    rintro mm σ H4 ⟨o, kvs, x, as, ps, v6, v7, v8, v9, rfl, sH, hev4, hF, hx, hps, hin, hcov, hlen, hmm⟩
    have hpl := Paired.length hps
    refine ⟨_, rfl, _, _, rfl, .inl ⟨_, SqL.of hx, rfl⟩, _, _, rfl, rfl, _, rfl, ?_⟩
    by_cases hz : ps = []
    · subst hz
      have ea : as = [] := List.length_eq_zero_iff.mp hpl
      subst ea
      refine iteF ?_
      refine ⟨_, rfl, kQ d o kvs H4 sH hF (fun p hp => ?_) hlen⟩
      rcases hcov p hp with z | z
      · exact nomatch z
      · exact .inr z
    have hpos : 0 < ps.length := List.length_pos_iff.mpr hz
    rw [decide_eq_true (show (0 : Int) < ((as.map V.ref).length : Nat) by rw [List.length_map]; omega)]
    refine iteT ⟨_, fun _ _ z => z, ?_⟩
    refine ⟨by show 0 ≤ sizeLine; decide, fun lt nlt => ?_⟩
    have nHlt : H lt = none := sH.free nlt
    have nev : ev ≠ lt := ne_of_none hev4 nlt
    have nxl : x ≠ lt := ne_of_none hx nlt
    have sN := same_new (o := HO.lst []) nlt
    refine ⟨_, rfl, x, rfl, ⟨_, SqL.of (sN _ _ hx)⟩, for_it (walk_list (xs := as.map V.ref)) (fun i σ H' => ∃ o' kvs' bs qs v7 v8 v9, σ = [some (.ref a), some (.ref b), some (.ref ev), some (.ref st), some (.ref d), some (.ref x), some (.ref lt), v7, v8, v9] ∧ Same H H' ∧ H' ev = some (.lst ((kindsOf m).map V.str)) ∧
        H' x = some (.lst (as.map V.ref)) ∧ Paired (fun a p => KeyAt H' a p) as ps ∧ Fnd P w (kindsOf m) ls ms H' d o' kvs' ∧ H' lt = some (.lst (bs.map V.ref)) ∧ Paired (fun a p => KeyAt H' a p) bs qs ∧ (∀ p, p ∈ ps ∨ p ∈ qs → p ∈ kvs'.map (·.1)) ∧
        Cov (kindsOf m) ls ms (kvs'.map (·.1)) (fun p => p ∈ ps.drop i ∨ p ∈ qs) ∧ kvs'.length ≤ 3000 ∧ kvs'.length = kvs.length + qs.length)
      ⟨o, kvs, [], [], v7, v8, v9, rfl, sH.trans sN, sN _ _ hev4, sN _ _ hx, Paired.mapP hps fun _ _ z => z.keep (stk sN), hF.keep (upd_ne (ne_of_none hF.d.ob nlt)) (stk sN), upd_same, .nil, fun p hp => hp.elim (hin p) (fun z => nomatch z), fun p hp => (hcov p hp).imp .inl id, hlen, rfl⟩
      (fun i σ H' _ hP => by obtain ⟨_, _, _, _, _, _, _, _, _, _, z, _⟩ := hP; exact SqL.of z) (fun i x0 σ H5 H6 hi hP hY => ?_) (fun σ H5 hP => ?_)⟩
    · obtain ⟨o', kvs', bs, qs, v7', v8', v9', rfl, sH5, hev5, hx5, hps5, hF5, hlt5, hqs5, hin5, hcov5, hl5, hl5e⟩ := hP
      obtain ⟨rfl, hx0⟩ := hY
      rw [List.getElem?_map] at hx0
      obtain ⟨ai, hai, rfl⟩ := Option.map_eq_some_iff.mp hx0
      obtain ⟨p, hp, -⟩ := paired_get hps5 hai
      have hpm : p ∈ ps := List.mem_of_getElem? hp
      refine ⟨_, rfl, ev, rfl, ⟨_, SqL.of hev5⟩, for_it (walk_list (xs := (kindsOf m).map V.str)) (fun j σ H' => ∃ o' kvs' bs qs v8 v9, σ = [some (.ref a), some (.ref b), some (.ref ev), some (.ref st), some (.ref d), some (.ref x), some (.ref lt), some (.ref ai), v8, v9] ∧ Same H H' ∧ H' ev = some (.lst ((kindsOf m).map V.str)) ∧
          H' x = some (.lst (as.map V.ref)) ∧ Paired (fun a p => KeyAt H' a p) as ps ∧ Fnd P w (kindsOf m) ls ms H' d o' kvs' ∧ H' lt = some (.lst (bs.map V.ref)) ∧ Paired (fun a p => KeyAt H' a p) bs qs ∧ (∀ p, p ∈ ps ∨ p ∈ qs → p ∈ kvs'.map (·.1)) ∧
          Cov (kindsOf m) ls ms (kvs'.map (·.1)) (fun p => p ∈ ps.drop i ∨ p ∈ qs) ∧ kvs'.length ≤ 3000 ∧ kvs'.length = kvs.length + qs.length ∧ ∀ k ∈ (kindsOf m).take j, nxtP ls ms p k ∈ kvs'.map (·.1))
        ⟨o', kvs', bs, qs, v8', v9', rfl, sH5, hev5, hx5, hps5, hF5, hlt5, hqs5, hin5, hcov5, hl5, hl5e, fun k hk => nomatch hk⟩
        (fun i σ H' _ hP => by obtain ⟨_, _, _, _, _, _, _, _, z, _⟩ := hP; exact SqL.of z) (fun j x1 σ H7 H8 hj hP hY => ?_) (fun σ H7 hP => ?_)⟩
      · obtain ⟨o2, kvs2, bs2, qs2, v8, v9, rfl, sH7, hev7, hx7, hps7, hF7, hlt7, hqs7, hin7, hcov7, hl7, hl7e, hk7⟩ := hP
        obtain ⟨rfl, hx1⟩ := hY
        rw [List.getElem?_map] at hx1
        obtain ⟨k, hk, rfl⟩ := Option.map_eq_some_iff.mp hx1
        have hkm : k ∈ kindsOf m := List.mem_of_getElem? hk
        have ekt : (kindsOf m).take (j + 1) = (kindsOf m).take j ++ [k] := by rw [List.take_add_one, hk]; rfl
        obtain ⟨p', hp', hkat⟩ := paired_get hps7 hai
        obtain rfl : p = p' := Option.some.inj (hp.symm.trans hp')
        have hpk : p ∈ kvs2.map (·.1) := hin7 p (.inl hpm)
        have hre := hF7.reach hpk
        have hsub := reach_sub hre
        refine ⟨_, rfl, _, rfl, _, rfl, _, rfl, a, b, ai, k, m, ls, ms, p, rfl, ha.same sH7, hb.same sH7, h40, h41, hkat, hsub.1, hsub.2, fun g H9 s9 kg => ?_⟩
        have hd9 := hF7.d.keep (son s9 hF7.d.ob) (stk s9)
        refine ⟨_, rfl, _, rfl, d, g, o2, kvs2, nxtP ls ms p k, rfl, rfl, hd9, kg, _, rfl, ?_⟩
        cases hv : valV kvs2 (nxtP ls ms p k) with
        | some v =>
          refine iteF ?_
          refine ⟨o2, kvs2, bs2, qs2, _, _, rfl, sH7.trans s9, s9 _ _ hev7, s9 _ _ hx7, Paired.mapP hps7 fun _ _ z => z.keep (stk s9), hF7.keep (son s9 hF7.d.ob) (stk s9), s9 _ _ hlt7, Paired.mapP hqs7 fun _ _ z => z.keep (stk s9), hin7, hcov7, hl7, hl7e, fun c hc => ?_⟩
          rw [ekt] at hc
          rcases List.mem_append.mp hc with z | z
          · exact hk7 c z
          · obtain rfl : c = k := by simpa using z
            exact valV_in hv
        | none =>
          refine iteT ?_
          obtain ⟨v2, hv2, q, r, rfl, hq, hr1, hr2, hr3⟩ := hF7.at_ hpk
          have hrl : r.length ≤ 80 := by
            have := used_le ls ms p
            omega
          have hnek : nxtP ls ms p k ≠ p := fun z => by
            rw [z, hv2] at hv
            cases hv
          have hus := used_step (k := k) hsub.1 hsub.2 hnek
          refine ⟨_, rfl, _, rfl, d, ai, o2, kvs2, p, .ref q, rfl, rfl, hd9, hkat.keep (stk s9), hv2, _, rfl, by show 1 ≤ sizeLine; decide, fun t nt => ?_⟩
          have st9 := same_new (o := HO.tup [.str k]) nt
          refine ⟨q, t, r.map V.str, [.str k], rfl, rfl, st9 _ _ (s9 _ _ hq), upd_same, small_line (by rw [List.length_map]; show r.length + 1 ≤ 1000; omega), fun n H10 s10 hn => ?_⟩
          have sA := (s9.trans st9).trans s10
          have hdA := hF7.d.keep (son sA hF7.d.ob) (stk sA)
          have hn2 : TupS H10 n (r ++ [k]) := by
            show _ = some (HO.tup ((r ++ [k]).map V.str))
            rw [List.map_append]
            exact hn
          refine ⟨_, rfl, _, rfl, d, g, o2, kvs2, nxtP ls ms p k, rfl, rfl, hdA, (kg.keep (stk st9)).keep (stk s10), hv, xd_len (by omega), fun o3 hd3 => ?_⟩
          have tk3 : Tk H10 (upd H10 d (EX d o3)) := tk_upd hdA.ob (fun xs z => by cases z)
          have hltA := sA _ _ hlt7
          have ltd : lt ≠ d := ne_of hltA hdA.ob (fun z => by cases z)
          have hlt3 : upd H10 d (EX d o3) lt = some (.lst (bs2.map V.ref)) := by
            rw [upd_ne ltd]
            exact hltA
          have hql := Paired.length hqs7
          refine ⟨_, rfl, .inl ⟨rfl, _, SqL.of hlt3⟩, _, rfl, lt, _, _, rfl, rfl, hlt3, xd_len (by rw [List.length_map]; omega), ?_⟩
          have tk4 : Tk (upd H10 d (EX d o3)) (upd (upd H10 d (EX d o3)) lt (.lst (bs2.map V.ref ++ [.ref g]))) := tk_upd hlt3 (fun xs z => by cases z)
          have tkA : Tk H8 (upd (upd H10 d (EX d o3)) lt (.lst (bs2.map V.ref ++ [.ref g]))) := fun c xs z => tk4 _ _ (tk3 _ _ (stk sA _ _ z))
          have sF : Same H (upd (upd H10 d (EX d o3)) lt (.lst (bs2.map V.ref ++ [.ref g]))) := fun c o z => by
            rw [upd_ne (ne_of_none z nHlt), upd_ne (ne_of_none z nHd)]
            exact (sH7.trans sA) _ _ z
          have hFF : Fnd P w (kindsOf m) ls ms (upd (upd H10 d (EX d o3)) lt (.lst (bs2.map V.ref ++ [.ref g]))) d o3 (kvs2 ++ [(nxtP ls ms p k, .ref n)]) := by
            refine Fnd.keep ⟨hd3, fun y hy => ?_, ?_⟩ (upd_ne (Ne.symm ltd)) tk4
            · rcases List.mem_append.mp hy with z | z
              · exact ((hF7.r y z).keep (stk sA)).keep tk3
              · have ey : y = (nxtP ls ms p k, .ref n) := by simpa using z
                subst ey
                refine ⟨n, r ++ [k], rfl, tk3 _ _ hn2, fun c hc => ?_, by rw [runP_snoc, hr2], by rw [List.length_append]; show r.length + 1 ≤ used ls ms (nxtP ls ms p k); omega⟩
                rcases List.mem_append.mp hc with z | z
                · exact hr1 c z
                · obtain rfl : c = k := by simpa using z
                  exact hkm
            · rw [List.map_append]
              exact List.mem_append_left _ hF7.s
          have hll : (kvs2 ++ [(nxtP ls ms p k, V.ref n)]).length = kvs2.length + 1 := by rw [List.length_append]; rfl
          refine ⟨_, rfl, d, o3, _, rfl, hFF.d, _, _, rfl, rfl, _, rfl, ?_⟩
          by_cases hbig : 3000 < kvs2.length + 1
          · rw [decide_eq_true (show (3000 : Int) < ((kvs2 ++ [(nxtP ls ms p k, V.ref n)]).length : Nat) by rw [hll]; omega)]
            refine iteT ?_
            refine ⟨by show 1 ≤ 1000; decide, too_many_made fun dd H11 nd sd hdd => ?_⟩
            exact kX (hFF.many (by rw [hll]; exact hbig)) dd H11 (sF.trans sd) hdd
          · rw [decide_eq_false (show ¬ (3000 : Int) < ((kvs2 ++ [(nxtP ls ms p k, V.ref n)]).length : Nat) by rw [hll]; omega)]
            refine iteF ?_
            have ekm : (kvs2 ++ [(nxtP ls ms p k, V.ref n)]).map (·.1) = kvs2.map (·.1) ++ [nxtP ls ms p k] := by rw [List.map_append]; rfl
            refine ⟨o3, _, bs2 ++ [g], qs2 ++ [nxtP ls ms p k], _, _, rfl, sF, ?_, ?_, Paired.mapP hps7 fun _ _ z => z.keep tkA, hFF, by rw [upd_same, List.map_append]; rfl, (Paired.mapP hqs7 fun _ _ z => z.keep tkA).snoc ((((kg.keep (stk st9)).keep (stk s10)).keep tk3).keep tk4), fun p1 hp1 => ?_, ?_, by rw [hll]; omega, by rw [hll, List.length_append]; show _ = _ + (_ + 1); omega, fun c hc => ?_⟩
            · rw [upd_ne nev, upd_ne (ne_of (sA _ _ hev7) hdA.ob (fun z => by cases z))]
              exact sA _ _ hev7
            · rw [upd_ne nxl, upd_ne (ne_of (sA _ _ hx7) hdA.ob (fun z => by cases z))]
              exact sA _ _ hx7
            · rw [ekm]
              rcases hp1 with z | z
              · exact List.mem_append_left _ (hin7 p1 (.inl z))
              · rcases List.mem_append.mp z with z | z
                · exact List.mem_append_left _ (hin7 p1 (.inr z))
                · exact List.mem_append_right _ z
            · rw [ekm]
              exact hcov7.grow (fun p1 z => z.imp id (List.mem_append_left _)) (.inr (List.mem_append_right _ List.mem_cons_self))
            · rw [ekm]
              rw [ekt] at hc
              rcases List.mem_append.mp hc with z | z
              · exact List.mem_append_left _ (hk7 c z)
              · obtain rfl : c = k := by simpa using z
                exact List.mem_append_right _ List.mem_cons_self
      · obtain ⟨o2, kvs2, bs2, qs2, v8, v9, rfl, sH7, hev7, hx7, hps7, hF7, hlt7, hqs7, hin7, hcov7, hl7, hl7e, hk7⟩ := hP
        rw [List.length_map, List.take_length] at hk7
        refine ⟨o2, kvs2, bs2, qs2, _, _, _, rfl, sH7, hev7, hx7, hps7, hF7, hlt7, hqs7, hin7, fun p1 hp1 => ?_, hl7, hl7e⟩
        rcases hcov7 p1 hp1 with (z | z) | z
        · have hi2 : i < ps.length := by rw [List.length_map] at hi; omega
          rw [List.drop_eq_getElem_cons hi2] at z
          rcases List.mem_cons.mp z with z | z
          · have e : ps[i] = p := by
              rw [List.getElem?_eq_getElem hi2] at hp
              exact Option.some.inj hp
            rw [z, e]
            exact .inr hk7
          · exact .inl (.inl z)
        · exact .inl (.inr z)
        · exact .inr z
    · obtain ⟨o', kvs', bs, qs, v7', v8', v9', rfl, sH5, hev5, hx5, hps5, hF5, hlt5, hqs5, hin5, hcov5, hl5, hl5e⟩ := hP
      rw [List.length_map, hpl, List.drop_length] at hcov5
      refine ⟨_, rfl, _, ?_, o', kvs', lt, bs, qs, _, _, _, _, rfl, sH5, hev5, hF5, hlt5, hqs5, fun p1 hp1 => hin5 p1 (.inr hp1), fun p1 hp1 => ?_, hl5, rfl⟩
      · rw [hmm, if_neg hz]
        by_cases hq : qs = []
        · rw [if_pos hq]
          omega
        · rw [if_neg hq]
          have := List.length_pos_iff.mpr hq
          omega
      · rcases hcov5 p1 hp1 with (z | z) | z
        · exact nomatch z
        · exact .inl z
        · exact .inr z
omit T in
theorem pe_clX {X : Cx} {W : WX} {k j : Nat} {x : Str} {ps : List Str} {sp : Sp} {p pos : Pos} {e : Expr} {es : List Expr} {t : TA} (c : Cl X.prog X.w X.K X.mg X.base (L2.CX X.prog X.w) k x ps sp) (tk : Takes X W) (hr : Room j X.A) (hk : k ≤ j) (hg : Gl X x) (ha : PA X (e :: es) t)
    (hdb : (x == ("__debug__" : Str)) = false := by decide) (he : starEach (e :: es) X.env = (false, eval e X.env) :: starEach es X.env := by rfl) (hpl : (backTo pos (starEach es X.env)).any (·.1) = false := by rfl) :
    PE X (.Call (.Name x p) (e :: es) [] pos) (tCallS sp (WE W) t) := by
  obtain ⟨f, fd, F, hm, kp, b⟩ := c.ex
  exact pe_callS F (hr.mono hk) hg hm kp b (fun σ => passAt tk σ) ha hdb he hpl
omit T in
/-- a row of which the one takes fewer, or None -/
def spRowF (K : PySem.W.Frag) : Sp := fun vs H Q X => ∃ (a b : Addr) (m : Str) (ls ms : List (List Str)), vs = [.ref a, .ref b] ∧ SeatsAt K H a m ls ∧ SeatsAt K H b m ms ∧ m.length ≤ 5 ∧ ls.length ≤ 40 ∧ ms.length ≤ 40 ∧
  (Few (kindsOf m) ls ms → NFM.NF (kindsOf m) ls ms → ∀ H', Same H H' → Q .non H') ∧
  (Few (kindsOf m) ls ms → ∀ (R : Addr) (r : List Str) (H' : Hp), Same H H' → TupS H' R r → (∀ k ∈ r, k ∈ kindsOf m) → r.length ≤ 80 → many ls r < many ms r → Q (.ref R) H') ∧
  (Many (kindsOf m) ls ms → ∀ (dd : Addr) (H' : Hp), Same H H' → H' dd = some (.xd [("most", .int 3000)]) → X (.ref (He.ga K "TooMany")) (some dd) H')
omit T in
theorem not_nf {E : List Str} {ls ms : List (List Str)} {r : List Str} (hr : ∀ k ∈ r, k ∈ E) (h : many ls r < many ms r) : ¬ NFM.NF E ls ms := fun z => by
  have q := z _ ⟨r, hr, rfl⟩
  rw [lead_run] at q
  omega
omit T in
def spNever (K : PySem.W.Frag) : Sp := fun vs H Q X => ∃ (a b : Addr) (m : Str) (ls ms : List (List Str)), vs = [.ref a, .ref b] ∧ SeatsAt K H a m ls ∧ SeatsAt K H b m ms ∧ m.length ≤ 5 ∧ ls.length ≤ 40 ∧ ms.length ≤ 40 ∧
  (Few (kindsOf m) ls ms → NFM.NF (kindsOf m) ls ms → ∀ H', Same H H' → Q (.bl true) H') ∧
  (Few (kindsOf m) ls ms → ¬ NFM.NF (kindsOf m) ls ms → ∀ H', Same H H' → Q (.bl false) H') ∧
  (Many (kindsOf m) ls ms → ∀ (dd : Addr) (H' : Hp), Same H H' → H' dd = some (.xd [("most", .int 3000)]) → X (.ref (He.ga K "TooMany")) (some dd) H')
theorem cl_row_of_fewer : Cl P w K mg base (L2.CX P w) 5 "row_of_fewer" P_row_of_fewer (spRowF K) := by
  refine cl_mkX (fn_row_of_fewer T) (mg_row_of_fewer T) sc_row_of_fewer (bd_row_of_fewer) (fun vs H Q E h => ?_) (fun cdv A outer s H vs Q E hr h => ?_)
  · obtain ⟨_, _, _, _, _, rfl, _⟩ := h
    rfl
  · obtain ⟨a, b, m, ls, ms, rfl, ha, hb, h5, h40, h41, kN, kR, kX⟩ := h
    refine ⟨_, pss_cons (ps_for (passes_of rfl) rfl (pi_ni (pe_clX (cl_all_pairs T) (takes_of rfl rfl rfl rfl) hr (by decide) rfl (pa_cons (pv 0) (pa_cons (pv 1) pa_nil))))
        (pg_tup rfl (pgs_cons (pg_name (i := 2) sc_row_of_fewer.nd rfl (Or.inl rfl)) (pgs_cons (pg_name (i := 3) sc_row_of_fewer.nd rfl (Or.inl rfl)) pgs_nil)))
        (pss_one (ps_if (pt_cmpR op_lt (pe_cl (E := E0) (cl_lead_of T) hr (by decide) rfl pass0 (pa_cons (pv 0) (pa_cons (pv 1) (pa_cons (pv 2) pa_nil)))) pe_int (nomark _)) (pss_one (ps_ret (pv 3))) pss_nil)))
      (pss_one (ps_ret pe_non)), ?_⟩
    refine ⟨_, rfl, _, rfl, a, b, m, ls, ms, rfl, ha, hb, h5, h40, h41, fun d o kvs H1 s1 F cov len => ⟨d, o, kvs, rfl, F.d, ?_⟩, kX⟩
    have few := F.few cov len
    refine for_it walk_ni (fun i σ H' => ∃ v2 v3, σ = [some (.ref a), some (.ref b), v2, v3] ∧ Same H1 H' ∧ ∀ x ∈ kvs.take i, 0 ≤ lead ls ms x.1) ⟨none, none, rfl, Same.refl H1, fun _ z => nomatch z⟩
      (fun _ _ _ _ hP => by obtain ⟨_, _, _, s, _⟩ := hP; exact F.d.keep (son s F.d.ob) (stk s)) (fun i x σ H2 H3 hi hP hY => ?_) (fun σ H2 hP => ?_)
    · obtain ⟨v2, v3, rfl, s2, hl⟩ := hP
      obtain ⟨t, bb, p, v, hv, rfl, nt, hk, rfl⟩ := hY
      have s3 : Same H1 (upd H2 t (.tup [.ref bb, v])) := s2.trans (same_new nt)
      have et : kvs.take (i + 1) = kvs.take i ++ [(p, v)] := by rw [List.take_add_one, hv]; rfl
      refine ⟨t, _, rfl, SqT.of upd_same, rfl, _, _, rfl, _, _, rfl, rfl, ?_⟩
      refine ⟨_, rfl, _, rfl, _, rfl, a, b, bb, m, ls, ms, p, rfl, ha.same (s1.trans s3), hb.same (s1.trans s3), hk.keep (stk (same_new nt)), _, _, rfl, rfl, _, rfl, ?_⟩
      by_cases c : lead ls ms p < 0
      · rw [decide_eq_true c]
        refine iteT ⟨_, rfl, ?_⟩
        obtain ⟨q, r, e, hq, hr1, hr2, hr3⟩ := F.r (p, v) (List.mem_of_getElem? hv)
        have e : v = .ref q := e
        subst e
        have hr2 : runP ls ms r = p := hr2
        have hr3 : r.length ≤ used ls ms p := hr3
        have hu := used_le ls ms p
        rw [← hr2, lead_run] at c
        exact kR few q r _ (s1.trans s3) (s3 _ _ hq) hr1 (by omega) (by omega)
      · rw [decide_eq_false c]
        refine iteF ?_
        refine ⟨_, _, rfl, s3, fun x hx => ?_⟩
        rw [et] at hx
        rcases List.mem_append.mp hx with z | z
        · exact hl x z
        · have ex : x = (p, v) := by simpa using z
          rw [ex]
          show 0 ≤ lead ls ms p
          omega
    · obtain ⟨v2, v3, rfl, s2, hl⟩ := hP
      rw [List.take_length] at hl
      refine kN few (fun p hp => ?_) H2 (s1.trans s2)
      obtain ⟨x, hx, rfl⟩ := List.mem_map.mp (F.all cov p hp)
      exact hl x hx
theorem cl_fewer : Cl P w K mg base (L2.CX P w) 6 "fewer" P_fewer (spRowF K) := by
  refine cl_mkX (fn_fewer T) (mg_fewer T) sc_fewer (bd_fewer) (fun vs H Q E h => ?_) (fun cdv A outer s H vs Q E hr h => ?_)
  · obtain ⟨_, _, _, _, _, rfl, _⟩ := h
    rfl
  · obtain ⟨a, b, m, ls, ms, rfl, ha, hb, k⟩ := h
    refine ⟨_, pss_cons (ps_expr (pe_cl (E := E0) (cl_check_same_marks T) hr (by decide) rfl pass0 (pa_cons (pv 0) (pa_cons (pv 1) pa_nil))))
      (pss_one (ps_ret (pe_clX (cl_row_of_fewer T) (takes_of rfl rfl rfl rfl) hr (by decide) rfl (pa_cons (pv 0) (pa_cons (pv 1) pa_nil))))), ?_⟩
    exact ⟨_, rfl, _, rfl, a, b, m, ls, ms, rfl, ha, hb, _, rfl, _, rfl, a, b, m, ls, ms, rfl, ha, hb, k⟩
theorem cl_never_fewer : Cl P w K mg base (L2.CX P w) 6 "never_fewer" P_never_fewer (spNever K) := by
  refine cl_mkX (fn_never_fewer T) (mg_never_fewer T) sc_never_fewer (bd_never_fewer) (fun vs H Q E h => ?_) (fun cdv A outer s H vs Q E hr h => ?_)
  · obtain ⟨_, _, _, _, _, rfl, _⟩ := h
    rfl
  · obtain ⟨a, b, m, ls, ms, rfl, ha, hb, h5, h40, h41, kT, kF, kX⟩ := h
    refine ⟨_, pss_cons (ps_expr (pe_cl (E := E0) (cl_check_same_marks T) hr (by decide) rfl pass0 (pa_cons (pv 0) (pa_cons (pv 1) pa_nil))))
      (pss_one (ps_ret (pe_cmpR op_isN (pe_clX (cl_row_of_fewer T) (takes_of rfl rfl rfl rfl) hr (by decide) rfl (pa_cons (pv 0) (pa_cons (pv 1) pa_nil))) pe_non (nomark _)))), ?_⟩
    refine ⟨_, rfl, _, rfl, a, b, m, ls, ms, rfl, ha, hb, _, rfl, _, rfl, a, b, m, ls, ms, rfl, ha, hb, h5, h40, h41, fun few nf H' s' => ⟨rfl, kT few nf H' s'⟩, fun few R r H' s' _ hr1 _ hlt => ⟨rfl, kF few (not_nf hr1 hlt) H' s'⟩, kX⟩
end
end NF

set_option Elab.async false
set_option linter.all false
set_option maxRecDepth 100000
set_option maxHeartbeats 4000000
/-! The tape and what is picked from it: nothing is told of the picks but their bounds. -/
namespace NF
open PySem PySem.Spec PyProof.Rows L2 NFM NFW
/-- at T the tape, at L the script's own list -/
def TapeOk (H : Hp) (T L : Addr) : Prop := L ≠ T ∧ ∃ (ns : List Int) (pos : Nat) (a b c : Int), H T = some (.lst [.ref L, .int (pos : Nat), .int a, .int b, .int c]) ∧ H L = some (.lst (ns.map V.int))
/-- all but T is kept -/
def Kp (T : Addr) (H H' : Hp) : Prop := ∀ b o, H b = some o → b ≠ T → H' b = some o
theorem Kp.refl (T : Addr) (H : Hp) : Kp T H H := fun _ _ e _ => e
theorem Kp.trans {T : Addr} {H H1 H2 : Hp} (h : Kp T H H1) (k : Kp T H1 H2) : Kp T H H2 := fun b o e n => k b o (h b o e n) n
theorem kp_same {T : Addr} {H H' : Hp} (s : Same H H') : Kp T H H' := fun b o e _ => s b o e
theorem kp_new {T : Addr} {H H' : Hp} {D : Addr} {o : HO} (h : Kp T H H') (hD : H D = none) : Kp T H (upd H' D o) := fun b u e n => by
  rw [upd_ne (ne_of_none e hD)]
  exact h b u e n
theorem TapeOk.same {H H' : Hp} {T L : Addr} (h : TapeOk H T L) (s : Same H H') : TapeOk H' T L := by
  obtain ⟨hn, ns, pos, a, b, c, h1, h2⟩ := h
  exact ⟨hn, ns, pos, a, b, c, s _ _ h1, s _ _ h2⟩
theorem TapeOk.ne {H : Hp} {T L D : Addr} (h : TapeOk H T L) (hD : H D = none) : D ≠ T ∧ D ≠ L := by
  obtain ⟨hn, ns, pos, a, b, c, h1, h2⟩ := h
  exact ⟨Ne.symm (ne_of_none h1 hD), Ne.symm (ne_of_none h2 hD)⟩
theorem TapeOk.put {H : Hp} {T L D : Addr} {o : HO} (h : TapeOk H T L) (n : D ≠ T ∧ D ≠ L) : TapeOk (upd H D o) T L := by
  obtain ⟨hn, ns, pos, a, b, c, h1, h2⟩ := h
  exact ⟨hn, ns, pos, a, b, c, by rw [upd_ne (Ne.symm n.1)]; exact h1, by rw [upd_ne (Ne.symm n.2)]; exact h2⟩
theorem Kp.tk {H H' : Hp} {T L : Addr} (k : Kp T H H') (h : TapeOk H T L) : Tk H H' := fun c xs e => by
  obtain ⟨hn, ns, pos, a, b, d, h1, h2⟩ := h
  exact k c _ e (ne_of e h1 (fun z => by cases z))
def spTape (K : PySem.W.Frag) : Sp := fun vs H Q _ => ∃ (S : Addr) (ns : List Int), vs = [.ref S] ∧ SqL K H S (ns.map V.int) ∧ ∀ (T L : Addr) (H' : Hp), Same H H' → TapeOk H' T L → Q (.ref T) H'
def spPick : Sp := fun vs H Q _ => ∃ (T L : Addr) (many : Int), vs = [.ref T, .int many] ∧ TapeOk H T L ∧ 0 < many ∧ many ≤ 1000 ∧ ∀ (d : Nat) (H' : Hp), (d : Int) < many → Kp T H H' → TapeOk H' T L → Q (.int (d : Nat)) H'
theorem fmod_nat {a m : Int} (hm : 0 < m) : ∃ d : Nat, a.fmod m = (d : Int) ∧ (d : Int) < m := by
  have h1 : 0 ≤ a.fmod m := Int.fmod_nonneg_of_pos a hm
  have h2 := Int.fmod_lt_of_pos a hm
  exact ⟨(a.fmod m).toNat, by omega, by omega⟩
theorem iteD {c A B : Prop} [Decidable c] (h1 : c → A) (h2 : ¬ c → B) : if decide c = true then A else B := by
  by_cases h : c
  · rw [decide_eq_true h]
    exact h1 h
  · rw [decide_eq_false h]
    exact h2 h
theorem pick_end {T L : Addr} {H H' : Hp} {Q : VK} {many : Int} (k : ∀ (d : Nat) (H' : Hp), (d : Int) < many → Kp T H H' → TapeOk H' T L → Q (.int (d : Nat)) H') (h0 : 0 < many) (x : Int) (h1 : Kp T H H') (h2 : TapeOk H' T L) : Q (.int (x.fmod many)) H' := by
  obtain ⟨d, ed, hd⟩ := fmod_nat (a := x) h0
  rw [ed]
  exact k d H' hd h1 h2
theorem fmod_in (x : Int) : -(2 ^ 64) < x.fmod 2147483647 ∧ x.fmod 2147483647 < 2 ^ 64 := by
  have h1 : 0 ≤ x.fmod 2147483647 := Int.fmod_nonneg_of_pos _ (by decide)
  have h2 : x.fmod 2147483647 < 2147483647 := Int.fmod_lt_of_pos _ (by decide)
  omega
section
variable {P : Program} {w : World} {K : PySem.W.Frag} {mg : Str → Option Value} {base : Heap} (T : Txt K mg)
include T
theorem cl_law_tape : Cl P w K mg base CX0 1 "_law_tape" P_law_tape (spTape K) := by
  refine cl_mk (fn_law_tape T) (mg_law_tape T) sc_law_tape (bd_law_tape) (fun vs H Q E h => ?_) (fun cdv A outer s H vs Q E hr h => ?_)
  · obtain ⟨_, _, rfl, _⟩ := h
    rfl
  · obtain ⟨S, ns, rfl, hS, k⟩ := h
    refine ⟨_, pss_one (ps_ret (pe_lst (pa_cons (pe_callTy call_list_of (by rfl) (fr_list T) (by decide +kernel) (pa_cons (pv 0) pa_nil)) (pa_cons pe_int (pa_cons pe_int (pa_cons pe_int (pa_cons pe_int pa_nil))))))), ?_⟩
    refine ⟨_, rfl, S, _, rfl, .inl hS, fun L nL => ?_⟩
    refine ⟨by show 5 ≤ sizeLine; decide, fun t nt => ?_⟩
    refine k t L _ ((same_new nL).trans (same_new nt)) ⟨ne_of_none upd_same nt, ns, 0, 0, 1, 0, upd_same, ?_⟩
    rw [upd_ne (ne_of_none upd_same nt), upd_same]
omit T in
theorem TapeOk.store {H : Hp} {t L : Addr} {ns : List Int} {pos : Nat} {a b c : Int} (hn : L ≠ t) (hL : H L = some (.lst (ns.map V.int))) (e : H t = some (.lst [.ref L, .int (pos : Nat), .int a, .int b, .int c])) : TapeOk H t L := ⟨hn, ns, pos, a, b, c, e, hL⟩
theorem cl_law_pick : Cl P w K mg base CX0 1 "_law_pick" P_law_pick spPick := by
  refine cl_mk (fn_law_pick T) (mg_law_pick T) sc_law_pick (bd_law_pick) (fun vs H Q E h => ?_) (fun cdv A outer s H vs Q E hr h => ?_)
  · obtain ⟨_, _, _, rfl, _⟩ := h
    rfl
  · obtain ⟨t, L, many, rfl, ⟨hn, ns, pos, a, b, c, ht, hL⟩, h0, h1000, k⟩ := h
    refine ⟨_, pss_cons (ps_if (pt_cmpR op_gt (pe_ix ix_list (pv 0) pe_int (fun _ _ => rfl)) pe_int (nomark _))
        (pss_cons (ps_set (i := 2) sc_law_pick.nd rfl (Or.inl rfl) (pe_op op_modN (pe_callTy call_int1 (by rfl) (fr_int T) (by decide +kernel) (pa_cons (pe_ix ix_list (pv 0) pe_int (fun _ _ => rfl)) pa_nil)) (pv 1)))
        (pss_cons (ps_asg (pe_op op_fdivN (pe_ix ix_list (pv 0) pe_int (fun _ _ => rfl)) (pv 1)) (pg_sub (pv 0) pe_int set_list))
        (pss_one (ps_ret (pv 2))))) pss_nil)
      (pss_cons (ps_asg (pe_op op_add (pe_ix ix_list (pv 0) pe_int (fun _ _ => rfl)) pe_int) (pg_sub (pv 0) pe_int set_list))
      (pss_cons (ps_set (i := 3) sc_law_pick.nd rfl (Or.inl rfl) pe_int)
      (pss_cons (ps_if (pt_cmpR op_lt (pe_ix ix_list (pv 0) pe_int (fun _ _ => rfl)) (pe_callB call_len (by rfl) (fr_len T) PySem.boot_len (pa_cons (pe_ix ix_list (pv 0) pe_int (fun _ _ => rfl)) pa_nil)) (nomark _))
        (pss_cons (ps_set (i := 3) sc_law_pick.nd rfl (Or.inl rfl) (pe_ix ix_list (pe_ix ix_list (pv 0) pe_int (fun _ _ => rfl)) (pe_ix ix_list (pv 0) pe_int (fun _ _ => rfl)) (fun _ _ => rfl)))
        (pss_one (ps_asg (pe_op op_add (pe_ix ix_list (pv 0) pe_int (fun _ _ => rfl)) pe_int) (pg_sub (pv 0) pe_int set_list)))) pss_nil)
      (pss_cons (ps_if (pt_cmpR op_ge (pv 3) (pe_op op_pow pe_int pe_int) (nomark _))
        (pss_cons (ps_asg (pe_op op_fdivN (pv 3) (pv 1)) (pg_sub (pv 0) pe_int set_list))
        (pss_one (ps_ret (pe_op op_modN (pe_callTy call_int1 (by rfl) (fr_int T) (by decide +kernel) (pa_cons (pv 3) pa_nil)) (pv 1))))) pss_nil)
      (pss_cons (ps_set (i := 4) sc_law_pick.nd rfl (Or.inl rfl) (pe_op op_modN (pe_callTy call_int1 (by rfl) (fr_int T) (by decide +kernel) (pa_cons
          (pe_op op_add (pe_op op_add (pe_op op_mul (pe_ix ix_list (pv 0) pe_int (fun _ _ => rfl)) pe_int) (pe_op op_modN (pe_callTy call_int1 (by rfl) (fr_int T) (by decide +kernel) (pa_cons (pv 3) pa_nil)) pe_int))
            (pe_op op_mul (pe_ix ix_list (pv 0) pe_int (fun _ _ => rfl)) pe_int)) pa_nil)) pe_int))
      (pss_cons (ps_set (i := 4) sc_law_pick.nd rfl (Or.inl rfl) (pe_op op_modN (pe_callTy call_int1 (by rfl) (fr_int T) (by decide +kernel) (pa_cons
          (pe_op op_mul (pv 4) (pe_op op_add (pe_op op_fdivN (pv 4) pe_int) pe_int)) pa_nil)) pe_int))
      (pss_cons (ps_asg (pv 4) (pg_sub (pv 0) pe_int set_list))
      (pss_one (ps_ret (pe_op op_modN (pe_callTy call_int1 (by rfl) (fr_int T) (by decide +kernel) (pa_cons (pe_op op_fdivN (pv 4) pe_int) pa_nil)) (pv 1))))))))))), ?_⟩
    have kput : ∀ (H0 : Hp) (o : HO), Kp t H0 (upd H0 t o) := fun H0 o b u e n => by
      rw [upd_ne n]
      exact e
    refine ⟨_, rfl, t, _, _, .int a, rfl, rfl, SqL.of ht, rfl, _, _, rfl, rfl, _, rfl, ?_⟩
    by_cases ha : (1 : Int) < a
    · rw [decide_eq_true ha]
      refine iteT ?_
      obtain ⟨d, ed, hd⟩ := fmod_nat (a := a) h0
      refine ⟨_, rfl, t, _, _, .int a, rfl, rfl, SqL.of ht, rfl, .inl ⟨_, rfl, _, rfl, _, _, rfl, rfl, by omega, ?_⟩⟩
      refine ⟨_, rfl, t, _, _, .int a, rfl, rfl, SqL.of ht, rfl, _, rfl, _, _, rfl, rfl, ⟨by omega, by omega⟩, ?_⟩
      refine ⟨_, rfl, t, _, _, 2, rfl, rfl, ht, rfl, ?_⟩
      have q := k d (upd H t (.lst [.ref L, .int (pos : Nat), .int (a.fdiv many), .int b, .int c])) hd (kput _ _) ⟨hn, ns, pos, a.fdiv many, b, c, upd_same, by rw [upd_ne hn]; exact hL⟩
      rw [← ed] at q
      exact ⟨_, rfl, q⟩
    rw [decide_eq_false ha]
    refine iteF ?_
    refine ⟨_, rfl, t, _, _, .int c, rfl, rfl, SqL.of ht, rfl, _, _, rfl, rfl, ?_⟩
    refine ⟨_, rfl, t, _, _, 4, rfl, rfl, ht, rfl, ?_⟩
    have ht1 : upd H t (.lst [.ref L, .int (pos : Nat), .int a, .int b, .int (c + 1)]) t = some (.lst [.ref L, .int (pos : Nat), .int a, .int b, .int (c + 1)]) := upd_same
    have hL1 : upd H t (.lst [.ref L, .int (pos : Nat), .int a, .int b, .int (c + 1)]) L = some (.lst (ns.map V.int)) := by rw [upd_ne hn]; exact hL
    have kp1 : Kp t H (upd H t (.lst [.ref L, .int (pos : Nat), .int a, .int b, .int (c + 1)])) := kput _ _
    generalize hH1 : upd H t (.lst [.ref L, .int (pos : Nat), .int a, .int b, .int (c + 1)]) = H1 at ht1 hL1 kp1
    have hH1' : upd H t (.lst (List.set [V.ref L, V.int (pos : Nat), V.int a, V.int b, V.int c] 4 (V.int (c + 1)))) = H1 := hH1
    rw [hH1']
    refine ⟨_, rfl, t, _, _, .int (pos : Nat), rfl, rfl, SqL.of ht1, rfl, _, rfl, t, _, _, .ref L, rfl, rfl, SqL.of ht1, rfl, _, _, rfl, .inl ⟨_, SqL.of hL1, rfl⟩, _, _, rfl, rfl, _, rfl, ?_⟩
    by_cases hp : pos < ns.length
    case' pos =>
      rw [decide_eq_true (show (pos : Int) < ((ns.map V.int).length : Nat) by rw [List.length_map]; omega)]
      refine iteT ?_
      obtain ⟨cell, hcell⟩ : ∃ z, ns[pos]? = some z := ⟨_, List.getElem?_eq_getElem hp⟩
      refine ⟨_, rfl, t, _, _, .ref L, rfl, rfl, SqL.of ht1, rfl, _, rfl, t, _, _, .int (pos : Nat), rfl, rfl, SqL.of ht1, rfl, L, _, _, .int cell, rfl, rfl, SqL.of hL1, atI_nat (by rw [List.getElem?_map, hcell]; rfl), ?_⟩
      refine ⟨_, rfl, t, _, _, .int (pos : Nat), rfl, rfl, SqL.of ht1, rfl, _, _, rfl, rfl, ?_⟩
      refine ⟨_, rfl, t, _, _, 1, rfl, rfl, ht1, rfl, ?_⟩
      have ht2 : upd H1 t (.lst [.ref L, .int ((pos + 1 : Nat) : Int), .int a, .int b, .int (c + 1)]) t = some (.lst [.ref L, .int ((pos + 1 : Nat) : Int), .int a, .int b, .int (c + 1)]) := upd_same
      have hL2 : upd H1 t (.lst [.ref L, .int ((pos + 1 : Nat) : Int), .int a, .int b, .int (c + 1)]) L = some (.lst (ns.map V.int)) := by rw [upd_ne hn]; exact hL1
      have kp2 : Kp t H (upd H1 t (.lst [.ref L, .int ((pos + 1 : Nat) : Int), .int a, .int b, .int (c + 1)])) := kp1.trans (kput _ _)
      generalize hH2 : upd H1 t (.lst [.ref L, .int ((pos + 1 : Nat) : Int), .int a, .int b, .int (c + 1)]) = H2 at ht2 hL2 kp2
      have hH2' : upd H1 t (.lst (List.set [V.ref L, V.int (pos : Nat), V.int a, V.int b, V.int (c + 1)] 1 (V.int ((pos : Int) + 1)))) = H2 := hH2
      rw [hH2']
      generalize pos + 1 = pos2 at ht2
    case' neg =>
      rw [decide_eq_false (show ¬ (pos : Int) < ((ns.map V.int).length : Nat) by rw [List.length_map]; omega)]
      refine iteF ?_
      obtain ⟨H2, hH2⟩ : ∃ z, z = H1 := ⟨_, rfl⟩
      obtain ⟨pos2, hpos2⟩ : ∃ z, z = pos := ⟨_, rfl⟩
      have ht2 := ht1
      have hL2 := hL1
      have kp2 := kp1
      rw [← hpos2] at ht2
      rw [← hH2] at ht2 hL2 kp2 ⊢
    all_goals
      refine ⟨_, rfl, _, _, rfl, rfl, ⟨by decide, by decide, by decide⟩, _, _, rfl, rfl, _, rfl, ?_⟩
      refine iteD (fun hb => ?_) (fun hb => ?_)
      · refine ⟨_, rfl, _, rfl, _, _, rfl, rfl, ⟨by omega, by omega⟩, ?_⟩
        refine ⟨_, rfl, t, _, _, 2, rfl, rfl, ht2, rfl, ?_⟩
        refine ⟨_, rfl, .inl ⟨_, rfl, _, rfl, _, _, rfl, rfl, by omega, ?_⟩⟩
        exact pick_end k h0 _ (kp2.trans (kput _ _)) ⟨hn, ns, pos2, _, b, c + 1, upd_same, by rw [upd_ne hn]; exact hL2⟩
      · refine ⟨_, rfl, t, _, _, .int b, rfl, rfl, SqL.of ht2, rfl, _, _, rfl, rfl, .inr ⟨by decide, by decide⟩, ?_⟩
        refine ⟨_, rfl, .inl ⟨_, rfl, _, _, rfl, rfl, by show (2147483629 : Int) ≠ 0; decide, ?_⟩⟩
        refine ⟨_, _, rfl, rfl, ?_⟩
        refine ⟨_, rfl, t, _, _, .int (c + 1), rfl, rfl, SqL.of ht2, rfl, _, _, rfl, rfl, .inr ⟨by decide, by decide⟩, ?_⟩
        refine ⟨_, _, rfl, rfl, .inl ⟨_, rfl, _, _, rfl, rfl, by show (2147483647 : Int) ≠ 0; decide, ?_⟩⟩
        refine ⟨_, rfl, _, rfl, _, _, rfl, rfl, ⟨by show (1009 : Int) ≠ 0; decide, by show (1009 : Nat) < 1073741824; decide⟩, ?_⟩
        refine ⟨_, _, rfl, rfl, ?_⟩
        refine ⟨_, _, rfl, rfl, .inl (fmod_in _), .inl ⟨_, rfl, _, _, rfl, rfl, by show (2147483399 : Int) ≠ 0; decide, ?_⟩⟩
        refine ⟨_, rfl, _, rfl, t, _, _, 3, rfl, rfl, ht2, rfl, ?_⟩
        refine ⟨_, rfl, _, _, rfl, rfl, ⟨by show (16 : Int) ≠ 0; decide, by show (16 : Nat) < 1073741824; decide⟩, .inl ⟨_, rfl, _, rfl, _, _, rfl, rfl, by omega, ?_⟩⟩
        exact pick_end k h0 _ (kp2.trans (kput _ _)) ⟨hn, ns, pos2, a, _, c + 1, upd_same, by rw [upd_ne hn]; exact hL2⟩
end
end NF

set_option Elab.async false
set_option linter.all false
set_option maxRecDepth 100000
set_option maxHeartbeats 4000000
/-! What is drawn: marks, lots, rows. -/
namespace NF
open PySem PySem.Spec PyProof.Rows L2 NFM NFW
def marks9 : List Str := ["ab", "abc", "abc", "ab", "x", "", "bdy", "abcd", "aeioz"]
def eokB (m : Str) : Bool := marksB m && (decide ((kindsOf m).Pairwise fun a b => cd a < cd b) && ((kindsOf m).all (fun k => kindB m k && decide (k.length ≤ 1000)) && (!(kindsOf m).isEmpty && decide ((kindsOf m).length ≤ 32))))
/-- what the marks that are drawn bring -/
structure EOk (m : Str) : Prop where
  mks : marksB m = true
  pw : (kindsOf m).Pairwise fun a b => cd a < cd b
  ks : KindsOk m (kindsOf m)
  ne : kindsOf m ≠ []
  ln : (kindsOf m).length ≤ 32
theorem eok_of {m : Str} (h : eokB m = true) : EOk m := by
  unfold eokB at h
  simp only [Bool.and_eq_true, decide_eq_true_eq] at h
  obtain ⟨h1, h2, h3, h4, h5⟩ := h
  refine ⟨h1, h2, fun k hk => ?_, fun z => ?_, h5⟩
  · have := List.all_eq_true.mp h3 k hk
    simp only [Bool.and_eq_true, decide_eq_true_eq] at this
    exact this
  · rw [z] at h4
    cases h4
theorem eok9 : marks9.all eokB = true := by decide +kernel
theorem eok_in {m : Str} (h : m ∈ marks9) : EOk m := eok_of (List.all_eq_true.mp eok9 m h)
theorem EOk.m5 {m : Str} (h : EOk m) : m.length ≤ 5 := by
  have := h.mks
  unfold marksB at this
  rw [Bool.and_eq_true] at this
  exact of_decide_eq_true this.1
def LotE (E l : List Str) : Prop := l ≠ [] ∧ l.Sublist E
theorem asc_of_pw {l : List Str} (h : l.Pairwise fun a b => cd a < cd b) : ascL (l.map cd) = true := by
  unfold ascL
  rw [List.all_eq_true]
  intro i hi
  rw [List.mem_range, List.length_map] at hi
  have h1 : i < l.length := by omega
  have h2 : i + 1 < l.length := by omega
  rw [List.getD_eq_getElem?_getD, List.getD_eq_getElem?_getD, List.getElem?_map, List.getElem?_map, List.getElem?_eq_getElem h1, List.getElem?_eq_getElem h2]
  exact decide_eq_true (List.pairwise_iff_getElem.mp h i (i + 1) h1 h2 (by omega))
theorem lot_b {m : Str} {l : List Str} (e : EOk m) (h : LotE (kindsOf m) l) : LotB m l :=
  ⟨h.1, fun k hk => e.ks k (h.2.subset hk), asc_of_pw (e.pw.sublist h.2), by have := h.2.length_le; have := e.ln; omega⟩
theorem lots_b {m : Str} {ls : List (List Str)} (e : EOk m) (h : ∀ l ∈ ls, LotE (kindsOf m) l) (hl : ls.length ≤ 40) : LotsB m ls := ⟨e.mks, fun l hl => lot_b e (h l hl), hl⟩
theorem row_b {m : Str} {r : List Str} (e : EOk m) (h : ∀ k ∈ r, k ∈ kindsOf m) : KindsOk m r := fun k hk => e.ks k (h k hk)
theorem le_of_lt {a b : Str} (h : cd a < cd b) : leS a b := by
  unfold leS
  rw [PyProof.Rows.ltCps_eq]
  exact decide_eq_false (List.lt_asymm h)
theorem pw_le {l : List Str} (h : l.Pairwise fun a b => cd a < cd b) : l.Pairwise leS := h.imp le_of_lt
/-- the list of all kinds, at ev -/
structure Ev (H : Hp) (T ev : Addr) (m : Str) : Prop where
  at_ : H ev = some (.lst ((kindsOf m).map V.str))
  ne : ev ≠ T
  ok : EOk m
theorem Ev.kp {H H' : Hp} {T ev : Addr} {m : Str} (h : Ev H T ev m) (k : Kp T H H') : Ev H' T ev m := ⟨k _ _ h.at_ h.ne, h.ne, h.ok⟩
theorem str_at {E : List Str} {d : Nat} (h : d < E.length) : (E.map V.str)[d]? = some (.str E[d]) := by rw [List.getElem?_map, List.getElem?_eq_getElem h]; rfl
def spLotL : Sp := fun vs H Q _ => ∃ (t L ev : Addr) (m : Str), vs = [.ref t, .ref ev] ∧ TapeOk H t L ∧ Ev H t ev m ∧ ∀ (p : Addr) (l : List Str) (H' : Hp), LotE (kindsOf m) l → Kp t H H' → TapeOk H' t L → TupS H' p l → Q (.ref p) H'
theorem int0 (d : Nat) : (V.int (d : Nat) = V.int 0) ↔ d = 0 := ⟨fun z => by injection z with z; omega, fun z => by rw [z]; rfl⟩
abbrev rLen (K : PySem.W.Frag) : List V → Hp → VK → Prop := fun xs H Q => ∃ x n, xs = [x] ∧ LenV K x H n ∧ Q (.int n) H
theorem kp_free {t D : Addr} {H H' : Hp} (k : Kp t H H') (hD : H' D = none) (hne : D ≠ t) : H D = none := by
  cases e : H D with
  | none => rfl
  | some o =>
    have := k _ _ e hne
    rw [hD] at this
    cases this
--PURE
section
variable {P : Program} {w : World} {K : PySem.W.Frag} {mg : Str → Option Value} {base : Heap} (T : Txt K mg)
include T
omit T in
def spFlag : Sp := fun vs H Q _ => ∃ b d : Bool, vs = [.bl b, .bl d] ∧ Q (.bl (decide (b = d))) H
theorem cl_law_flag : Cl P w K mg base CX0 1 "_law_flag" P_law_flag spFlag := by
  refine cl_mk (fn_law_flag T) (mg_law_flag T) sc_law_flag (bd_law_flag) (fun vs H Q E h => ?_) (fun cdv A outer s H vs Q E hr h => ?_)
  · obtain ⟨_, _, rfl, _⟩ := h
    rfl
  · obtain ⟨b, d, rfl, k⟩ := h
    refine ⟨_, pss_one (ps_ret (pe_and (pe_callB call_isi (by rfl) (fr_isinstance T) (by decide +kernel) (pa_cons (pv 0) (pa_cons (pe_bltn (v := .ty "bool") (by rfl) (fr_bool T) (by decide +kernel) rfl) pa_nil)))
      (pe_one (pe_cmpR op_eq (pv 0) (pv 1) (nomark _))))), ?_⟩
    refine ⟨_, rfl, _, _, _, _, true, rfl, .ty _, .base (.bl _), kit_ty (by decide +kernel), _, rfl, ?_⟩
    refine iteT ?_
    refine ⟨_, rfl, _, rfl, rfl, ?_⟩
    have e : decide (V.bl b = V.bl d) = decide (b = d) := decide_eq_decide.mpr ⟨fun z => by injection z, fun z => by rw [z]⟩
    show Q (.bl (decide (V.bl b = V.bl d))) H
    rw [e]
    exact k
omit T in
def spMarksL : Sp := fun vs H Q _ => ∃ (t L : Addr), vs = [.ref t] ∧ TapeOk H t L ∧ ∀ (m : Str) (H' : Hp), m ∈ marks9 → Kp t H H' → TapeOk H' t L → Q (.str m) H'
theorem cl_law_marks : Cl P w K mg base CX0 2 "_law_marks" P_law_marks spMarksL := by
  refine cl_mk (fn_law_marks T) (mg_law_marks T) sc_law_marks (bd_law_marks) (fun vs H Q E h => ?_) (fun cdv A outer s H vs Q E hr h => ?_)
  · obtain ⟨_, _, rfl, _⟩ := h
    rfl
  · obtain ⟨t, L, rfl, tok, k⟩ := h
    refine ⟨_, pss_one (ps_ret (pe_ix ix_list (pe_lst (pa_cons pe_str (pa_cons pe_str (pa_cons pe_str (pa_cons pe_str (pa_cons pe_str (pa_cons pe_str (pa_cons pe_str (pa_cons pe_str (pa_cons pe_str pa_nil))))))))))
      (pe_cl (E := E0) (cl_law_pick T) hr (by decide) rfl pass0 (pa_cons (pv 0) (pa_cons pe_int pa_nil))) (fun _ _ => rfl))), ?_⟩
    refine ⟨by show 9 ≤ sizeLine; decide, fun D nD => ?_⟩
    refine ⟨_, rfl, t, L, 9, rfl, tok.same (same_new nD), by decide, by decide, fun d H' hd kp tk => ?_⟩
    have hd9 : d < marks9.length := by show d < 9; omega
    have hDt : D ≠ t := (tok.ne nD).1
    have hl : H' D = some (.lst (marks9.map V.str)) := kp D _ upd_same hDt
    refine ⟨D, _, _, .str marks9[d], rfl, rfl, SqL.of hl, atI_nat (by rw [List.getElem?_map, List.getElem?_eq_getElem hd9]; rfl), ?_⟩
    exact k _ H' (List.getElem_mem hd9) ((kp_same (same_new nD)).trans kp) tk
theorem cl_law_lot : Cl P w K mg base CX0 2 "_law_lot" P_law_lot spLotL := by
  refine cl_mk (fn_law_lot T) (mg_law_lot T) sc_law_lot (bd_law_lot) (fun vs H Q E h => ?_) (fun cdv A outer s H vs Q E hr h => ?_)
  · obtain ⟨_, _, _, _, rfl, _⟩ := h
    rfl
  · obtain ⟨t, L, ev, m, rfl, tok, hev, k⟩ := h
    have hpos : 0 < (kindsOf m).length := List.length_pos_iff.mpr hev.ok.ne
    have h32 := hev.ok.ln
    refine ⟨_, pss_cons (ps_if (PW.pt (pw_and (pt_cmpR op_gt (pe_callB call_len (by rfl) (fr_len T) PySem.boot_len (pa_cons (pv 1) pa_nil)) pe_int (nomark _)) (pw_and1 (pt_cmpR op_eq (pe_cl (E := E0) (cl_law_pick T) hr (by decide) rfl pass0 (pa_cons (pv 0) (pa_cons pe_int pa_nil))) pe_int (nomark _)))))
        (pss_cons (ps_set (i := 2) sc_law_lot.nd rfl (Or.inr rfl) (pe_lc (own := [("_law_k", 5)]) (g := gName 5) (by rfl) sc_law_lot.nd (pi_range1 (by rfl) (fr_range T) (pa_cons (pe_op op_add pe_int (pe_cl (E := E0) (cl_law_pick T) hr (by decide) rfl pass0 (pa_cons (pv 0) (pa_cons pe_int pa_nil)))) pa_nil))
            (blkOk_by (own := [("_law_k", 5)]) (N := N_law_lot) (sc := defScope s_law_lot) (by decide +kernel)) (fun _ _ _ _ _ => pg_name (i := 5) sc_law_lot.nd rfl (Or.inl rfl)) (fun _ _ _ _ _ => pts_nil)
            (fun _ _ _ _ _ => pe_ix (r := rIxL K) ix_list (pv 1) (pe_cl (E := E0) (cl_law_pick T) hr (by decide) rfl pass0 (pa_cons (pv 0) (pa_cons (pe_callB (r := rLen K) call_len (by rfl) (fr_len T) PySem.boot_len (pa_cons (pv 1) pa_nil)) pa_nil))) (fun _ _ => rfl))))
        (pss_one (ps_ret (pe_tupleOf rfl (fr_tuple T) (pe_callB cr_sortedS (by rfl) (fr_sorted T) (by decide +kernel) (pa_cons (pe_lc (own := [("_law_kind", 4)]) (g := gName 4) (by rfl) sc_law_lot.nd (pi_list (pv 1))
            (blkOk_by (own := [("_law_kind", 4)]) (N := N_law_lot) (sc := defScope s_law_lot) (by decide +kernel)) (fun _ _ _ _ _ => pg_name (i := 4) sc_law_lot.nd rfl (Or.inl rfl)) (fun _ _ _ _ _ => pts_one (pt_cmpR (r := rIn K false) op_in_seq (pv 4) (pv 2) (by rfl))) (fun _ _ _ _ _ => pv 4)) pa_nil)))))) pss_nil)
      (pss_cons (ps_setLc (i := 3) (own := [("_law_kind", 4)]) (g := gName 4) (by rfl) sc_law_lot.nd rfl rfl (sw_true rfl rfl rfl (by decide +kernel)) (pi_list (pv 1))
            (blkOk_by (own := [("_law_kind", 4)]) (N := N_law_lot) (sc := defScope s_law_lot) (by decide +kernel)) (fun _ _ _ _ _ => pg_name (i := 4) sc_law_lot.nd rfl (Or.inl rfl))
            (fun _ _ _ _ _ => pts_one (pt_cmpR op_eq (pe_cl (E := E0) (cl_law_pick T) hr (by decide) rfl pass0 (pa_cons (pv 0) (pa_cons pe_int pa_nil))) pe_int (nomark _))) (fun _ _ _ _ _ => pv 4))
      (pss_cons (ps_if (pt_cmpR op_eq (pe_callB call_len (by rfl) (fr_len T) PySem.boot_len (pa_cons (pv 3) pa_nil)) pe_int (nomark _))
          (pss_one (ps_set (i := 3) sc_law_lot.nd rfl (Or.inl rfl) (pe_lst (pa_cons (pe_ix ix_list (pv 1) (pe_cl (E := E0) (cl_law_pick T) hr (by decide) rfl pass0 (pa_cons (pv 0) (pa_cons (pe_callB call_len (by rfl) (fr_len T) PySem.boot_len (pa_cons (pv 1) pa_nil)) pa_nil))) (fun _ _ => rfl)) pa_nil)))) pss_nil)
      (pss_one (ps_ret (pe_tupleOf rfl (fr_tuple T) (pv 3)))))), ?_⟩
    have evl : ∀ {H' : Hp}, Ev H' t ev m → SqL K H' ev ((kindsOf m).map V.str) := fun h => SqL.of h.at_
    have el : ((kindsOf m).map V.str).length = (kindsOf m).length := List.length_map _
    refine ⟨_, rfl, _, _, rfl, .inl ⟨_, evl hev, rfl⟩, _, _, rfl, rfl, _, rfl, ?_⟩
    by_cases h8 : (8 : Int) < (((kindsOf m).map V.str).length : Nat)
    case' pos =>
      rw [decide_eq_true h8]
      refine iteT ?_
      refine ⟨_, rfl, t, L, 2, rfl, tok, by decide, by decide, fun d H0 hd kp0 tk0 => ?_⟩
      have ev0 := hev.kp kp0
      refine ⟨rfl, _, rfl, ?_⟩
      rcases Nat.eq_zero_or_pos d with hd0 | hd0
      · rw [decide_eq_true ((int0 d).mpr hd0)]
        refine iteT ?_
        refine ⟨_, rfl, t, L, 4, rfl, tk0, by decide, by decide, fun n H1 hn kp1 tk1 => ⟨_, _, rfl, rfl, _, rfl, by omega, by omega, fun D nD => ?_⟩⟩
        have kpH1 := kp0.trans kp1
        have nDt := tk1.ne nD
        have nHD := kp_free kpH1 nD nDt.1
        refine lc_it (walk_range (lo := 0) (n := ((1 : Int) + (n : Nat)).toNat)) (fun i H' => ∃ fs : List Str, Kp t H H' ∧ TapeOk H' t L ∧ H' D = some (.lst (fs.map V.str)) ∧ fs.length = i ∧ ∀ f ∈ fs, f ∈ kindsOf m)
          ⟨[], kp_new kpH1 nHD, tk1.put nDt, upd_same, rfl, fun _ z => nomatch z⟩ (fun _ _ _ _ => True.intro) (fun i x H2 H3 hi hP hY => ?_) (fun H2 hP => ?_)
        · obtain ⟨rfl, rfl⟩ := hY
          obtain ⟨fs, kp2, tk2, hD2, hfl, hfe⟩ := hP
          have ev2 := hev.kp kp2
          refine ⟨rfl, lc_yes ?_⟩
          refine ⟨_, rfl, _, rfl, _, rfl, _, _, rfl, .inl ⟨_, evl ev2, rfl⟩, t, L, _, rfl, tk2, by rw [el]; omega, by rw [el]; omega, fun j H4 hj kp4 tk4 => ?_⟩
          rw [el] at hj
          have hj2 : j < (kindsOf m).length := by omega
          refine ⟨ev, _, _, .str _, rfl, rfl, evl (ev2.kp kp4), atI_nat (str_at hj2), _, kp4 _ _ hD2 nDt.1, by rw [List.length_map]; exact small1000 (by omega), fs ++ [(kindsOf m)[j]], kp_new (kp2.trans kp4) nHD, tk4.put nDt, by rw [upd_same, List.map_append]; rfl, by rw [List.length_append, hfl]; rfl, fun f hf => ?_⟩
          rcases List.mem_append.mp hf with z | z
          · exact hfe f z
          · have e : f = (kindsOf m)[j] := by simpa using z
            rw [e]
            exact List.getElem_mem hj2
        · obtain ⟨fs, kp2, tk2, hD2, hfl, hfe⟩ := hP
          have ev2 := hev.kp kp2
          refine ⟨_, rfl, ev, rfl, ⟨_, evl ev2⟩, fun D2 nD2 => ?_⟩
          have s2 := fun o => same_new (o := o) nD2
          refine lc_it (walk_list (xs := (kindsOf m).map V.str)) (fun i H' => H' = upd H2 D2 (.lst ((((kindsOf m).take i).filter fun z => decide (z ∈ fs)).map V.str))) rfl (fun i H' _ e => by subst e; exact SqL.of (s2 _ _ _ ev2.at_)) (fun i x H3 H4 hi hP hY => ?_) (fun H3 hP => ?_)
          · obtain ⟨rfl, hx⟩ := hY
            rw [List.getElem?_map] at hx
            obtain ⟨z, hz, rfl⟩ := Option.map_eq_some_iff.mp hx
            subst hP
            have et : (kindsOf m).take (i + 1) = (kindsOf m).take i ++ [z] := by rw [List.take_add_one, hz]; rfl
            refine ⟨rfl, _, rfl, _, rfl, D, _, rfl, .inl (SqL.of (s2 _ _ _ hD2)), rfl, flat_strs _, _, rfl, ?_⟩
            show if inV (.str z) (fs.map V.str) = true then _ else _
            rw [inV_strs]
            have hsm : ((((kindsOf m).take i).filter fun z => decide (z ∈ fs)).map V.str).length < sizeLine := by
              rw [List.length_map]
              have l1 := List.length_filter_le (fun z => decide (z ∈ fs)) ((kindsOf m).take i)
              rw [List.length_take] at l1
              exact small1000 (by omega)
            by_cases c : z ∈ fs
            · rw [decide_eq_true c]
              refine iteT ⟨_, rfl, _, upd_same, hsm, ?_⟩
              rw [upd_upd, et, List.filter_append, List.filter_cons, if_pos (decide_eq_true c), List.map_append]
              rfl
            · rw [decide_eq_false c]
              refine iteF ?_
              rw [et, List.filter_append, List.filter_cons, if_neg (by simpa using c)]
              simp
          · rw [el, List.take_length] at hP
            subst hP
            have hsub : ((kindsOf m).filter fun z => decide (z ∈ fs)).Sublist (kindsOf m) := List.filter_sublist
            refine ⟨D2, _, rfl, SqL.of upd_same, by have := hsub.length_le; omega, fun ys p1 perm srt np1 => .inl ⟨p1, _, rfl, SqL.of upd_same, fun q nq => ?_⟩⟩
            have e := same_sorted perm srt (pw_le (hev.ok.pw.sublist hsub))
            subst e
            refine k q _ _ ⟨fun z => ?_, hsub⟩ ?_ ?_ upd_same
            · have hf0 : 0 < fs.length := by omega
              have h1 : fs[0] ∈ (kindsOf m).filter fun z => decide (z ∈ fs) := List.mem_filter.mpr ⟨hfe _ (List.getElem_mem hf0), decide_eq_true (List.getElem_mem hf0)⟩
              rw [z] at h1
              exact nomatch h1
            · exact kp2.trans (kp_same (((s2 _).trans (same_new np1)).trans (same_new nq)))
            · exact tk2.same (((s2 _).trans (same_new np1)).trans (same_new nq))
      rw [decide_eq_false (fun z => by have := (int0 d).mp z; omega)]
      refine iteF ?_
    case' neg =>
      rw [decide_eq_false h8]
      refine iteF ?_
      have kp0 : Kp t H H := Kp.refl t H
      have tk0 := tok
      have ev0 := hev
    all_goals
      refine ⟨_, rfl, ev, rfl, ⟨_, evl ev0⟩, fun D nD => ?_⟩
      have nDt := tk0.ne nD
      have nHD := kp_free kp0 nD nDt.1
      refine lc_it (walk_list (xs := (kindsOf m).map V.str)) (fun i H' => ∃ fs : List Str, Kp t H H' ∧ TapeOk H' t L ∧ H' D = some (.lst (fs.map V.str)) ∧ fs.Sublist ((kindsOf m).take i))
        ⟨[], kp_new kp0 nHD, tk0.put nDt, upd_same, List.nil_sublist _⟩ (fun i H' _ hP => by obtain ⟨_, z, _⟩ := hP; exact evl (hev.kp z)) (fun i x H2 H3 hi hP hY => ?_) (fun H2 hP => ?_)
      · obtain ⟨rfl, hx⟩ := hY
        obtain ⟨fs, kp2, tk2, hD2, hsub⟩ := hP
        rw [List.getElem?_map] at hx
        obtain ⟨z, hz, rfl⟩ := Option.map_eq_some_iff.mp hx
        have et : (kindsOf m).take (i + 1) = (kindsOf m).take i ++ [z] := by rw [List.take_add_one, hz]; rfl
        refine ⟨rfl, _, rfl, t, L, 2, rfl, tk2, by decide, by decide, fun d H4 hd kp4 tk4 => ⟨rfl, _, rfl, ?_⟩⟩
        have hD4 := kp4 _ _ hD2 nDt.1
        have hll := hsub.length_le
        rw [List.length_take] at hll
        refine iteD (fun c => ?_) (fun c => ?_)
        · refine ⟨_, rfl, _, hD4, by rw [List.length_map]; exact small1000 (by omega), fs ++ [z], kp_new (kp2.trans kp4) nHD, tk4.put nDt, by rw [upd_same, List.map_append]; rfl, ?_⟩
          rw [et]
          exact hsub.append (List.Sublist.refl _)
        · refine ⟨fs, kp2.trans kp4, tk4, hD4, ?_⟩
          rw [et]
          exact hsub.trans (List.sublist_append_left _ _)
      · obtain ⟨fs, kp2, tk2, hD2, hsub⟩ := hP
        rw [el, List.take_length] at hsub
        have ev2 := hev.kp kp2
        refine ⟨_, rfl, _, _, rfl, .inl ⟨_, SqL.of hD2, rfl⟩, rfl, _, rfl, ?_⟩
        refine iteD (fun c => ?_) (fun c => ?_)
        · refine ⟨_, rfl, _, rfl, _, rfl, _, _, rfl, .inl ⟨_, evl ev2, rfl⟩, t, L, _, rfl, tk2, by rw [el]; omega, by rw [el]; omega, fun j H4 hj kp4 tk4 => ?_⟩
          rw [el] at hj
          have hj2 : j < (kindsOf m).length := by omega
          refine ⟨ev, _, _, .str _, rfl, rfl, evl (ev2.kp kp4), atI_nat (str_at hj2), by show 1 ≤ sizeLine; decide, fun D2 nD2 => ?_⟩
          refine ⟨_, rfl, .inl ⟨D2, _, rfl, SqL.of upd_same, fun q nq => ?_⟩⟩
          exact k q [(kindsOf m)[j]] _ ⟨by simp, List.singleton_sublist.mpr (List.getElem_mem hj2)⟩ ((kp2.trans kp4).trans (kp_same ((same_new nD2).trans (same_new nq)))) (tk4.same ((same_new nD2).trans (same_new nq))) upd_same
        · refine ⟨_, rfl, .inl ⟨D, _, rfl, SqL.of hD2, fun q nq => ?_⟩⟩
          refine k q fs _ ⟨fun z => c ?_, hsub⟩ (kp2.trans (kp_same (same_new nq))) (tk2.same (same_new nq)) upd_same
          rw [z]
          rfl
end
end NF

set_option Elab.async false
set_option linter.all false
set_option maxRecDepth 100000
set_option maxHeartbeats 4000000
/-! What is drawn: lists of lots, rows of comers, and the other list. -/
namespace NF
open PySem PySem.Spec PyProof.Rows L2 NFM NFW
/-! ### tuples cut, joined, repeated: one way out -/
def rSlN : V → Option Int → Option Int → Hp → VK → Prop := fun x lo hi H Q => ∃ a xs, x = .ref a ∧ H a = some (.tup xs) ∧ ∀ p H', Same H H' → H' p = some (.tup (cutV xs lo hi)) → Q (.ref p) H'
theorem sl_tupN {X : Cx} : SlR X rSlN := by
  intro pins s σ H x v vl vu lo hi sl Q I rx hs pl pu h
  obtain ⟨a, xs, rfl, hx, q⟩ := h
  refine sl_tupA pins s σ H _ v vl vu lo hi sl Q I rx hs pl pu ⟨a, xs, rfl, SqT.of hx, fun hw => q a H (Same.refl H) ?_, fun _ p hp => q p _ (same_new hp) upd_same⟩
  have e : cutV xs lo hi = xs := by
    unfold cutV
    rw [hw.1, hw.2]
    simp
  rw [e]
  exact hx
def rRepN : R2 := fun x y H Q => ∃ l k xs, x = .ref l ∧ y = .int k ∧ H l = some (.tup xs) ∧ xs ≠ [] ∧ 1 ≤ k ∧ k ≤ 1000 ∧ xs.length ≤ 1000 ∧ ∀ p H', Same H H' → H' p = some (.tup (List.replicate k.toNat xs).flatten) → Q (.ref p) H'
theorem op_repN {X : Cx} : OpR X (binaryOp .Mult) rRepN := by
  intro pins s σ H x y v u Q I rx ry h
  obtain ⟨l, k, xs, rfl, rfl, hl, hne, h1, h2, hz, q⟩ := h
  refine op_repA pins s σ H _ _ v u Q I rx ry ⟨l, k, xs, rfl, rfl, SqT.of hl, hne, h1, h2, hz, fun e => q l H (Same.refl H) ?_, fun _ p hp => q p _ (same_new hp) upd_same⟩
  subst e
  rw [hl]
  show some (HO.tup xs) = some (.tup (List.replicate 1 xs).flatten)
  simp
theorem cutV_take (xs : List V) (a : Nat) : cutV xs none (some (a : Nat)) = xs.take a := by
  unfold cutV
  rw [HT.sIx_none, HT.sIx_nat, List.drop_zero, Nat.sub_zero]
  by_cases h : a ≤ xs.length
  · rw [Nat.min_eq_left h]
  · rw [Nat.min_eq_right (by omega), List.take_length, List.take_of_length_le (by omega)]
theorem cutV_drop (xs : List V) (a : Nat) : cutV xs (some (a : Nat)) none = xs.drop a := by
  unfold cutV
  rw [HT.sIx_none, HT.sIx_nat]
  by_cases h : a ≤ xs.length
  · rw [Nat.min_eq_left h, ← List.length_drop, List.take_length]
  · rw [Nat.min_eq_right (by omega), List.drop_length, List.drop_of_length_le (by omega), List.take_nil]
section
variable {α β : Type} {R : α → β → Prop}
theorem prd_take {l : List α} {m : List β} (h : Paired R l m) : ∀ n, Paired R (l.take n) (m.take n) := by
  induction h with
  | nil => intro n; rw [List.take_nil, List.take_nil]; exact .nil
  | cons r t ih =>
    intro n
    cases n with
    | zero => exact .nil
    | succ n => exact .cons r (ih n)
theorem prd_drop {l : List α} {m : List β} (h : Paired R l m) : ∀ n, Paired R (l.drop n) (m.drop n) := by
  induction h with
  | nil => intro n; rw [List.drop_nil, List.drop_nil]; exact .nil
  | cons r t ih =>
    intro n
    cases n with
    | zero => exact .cons r t
    | succ n => exact ih n
theorem prd_app {l l' : List α} {m m' : List β} (h : Paired R l m) (k : Paired R l' m') : Paired R (l ++ l') (m ++ m') := by
  induction h with
  | nil => exact k
  | cons r t ih => exact .cons r ih
theorem prd_rev {l : List α} {m : List β} (h : Paired R l m) : Paired R l.reverse m.reverse := by
  induction h with
  | nil => exact .nil
  | cons r t ih =>
    rw [List.reverse_cons, List.reverse_cons]
    exact prd_app ih (.cons r .nil)
theorem prd_rep {a : α} {b : β} (r : R a b) : ∀ n, Paired R (List.replicate n a) (List.replicate n b)
  | 0 => .nil
  | n + 1 => .cons r (prd_rep r n)
end
theorem lots_mk {H : Hp} {p : Addr} {xs : List V} {as : List Addr} {ls : List (List Str)} (h : H p = some (.tup xs)) (e : xs = as.map V.ref) (r : Paired (fun a l => TupS H a l) as ls) : Lots H p ls := ⟨as, by rw [← e]; exact h, r⟩
theorem flat_rep (a : V) : ∀ n, (List.replicate n [a]).flatten = List.replicate n a
  | 0 => rfl
  | n + 1 => by rw [List.replicate_succ, List.flatten_cons, flat_rep a n]; rfl
/-- lots of E, at most n of them -/
structure LtE (m : Str) (ls : List (List Str)) (n : Nat) : Prop where
  each : ∀ l ∈ ls, LotE (kindsOf m) l
  most : ls.length ≤ n
def spLotsL : Sp := fun vs H Q _ => ∃ (t L ev : Addr) (m : Str) (most : Nat), vs = [.ref t, .ref ev, .int (most : Nat)] ∧ most ≤ 40 ∧ TapeOk H t L ∧ Ev H t ev m ∧ ∀ (p : Addr) (ls : List (List Str)) (H' : Hp), LtE m ls most → Kp t H H' → TapeOk H' t L → Lots H' p ls → Q (.ref p) H'
def spRowL : Sp := fun vs H Q _ => ∃ (t L ev : Addr) (m : Str) (most : Nat), vs = [.ref t, .ref ev, .int (most : Nat)] ∧ most ≤ 40 ∧ TapeOk H t L ∧ Ev H t ev m ∧ ∀ (p : Addr) (r : List Str) (H' : Hp), (∀ k ∈ r, k ∈ kindsOf m) → r.length ≤ most → Kp t H H' → TapeOk H' t L → TupS H' p r → Q (.ref p) H'
def spOthers : Sp := fun vs H Q _ => ∃ (t L ev g : Addr) (m : Str) (ls : List (List Str)) (most : Nat), vs = [.ref t, .ref ev, .ref g, .int (most : Nat)] ∧ most ≤ 40 ∧ TapeOk H t L ∧ Ev H t ev m ∧ Lots H g ls ∧ LtE m ls most ∧
  ∀ (p : Addr) (ms : List (List Str)) (H' : Hp), LtE m ms most → Kp t H H' → TapeOk H' t L → Lots H' p ms → Q (.ref p) H'
def spCopies : Sp := fun vs H Q _ => ∃ (t L ev : Addr) (m : Str), vs = [.ref t, .ref ev] ∧ TapeOk H t L ∧ Ev H t ev m ∧ ∀ (p : Addr) (ls : List (List Str)) (H' : Hp), LtE m ls 18 → 0 < ls.length → Kp t H H' → TapeOk H' t L → Lots H' p ls → Q (.ref p) H'
def spNear : Sp := fun vs H Q _ => ∃ (t L g : Addr) (m : Str) (ls : List (List Str)), vs = [.ref t, .ref g] ∧ TapeOk H t L ∧ Lots H g ls ∧ LtE m ls 18 ∧ 0 < ls.length ∧
  ∀ (p : Addr) (ms : List (List Str)) (H' : Hp), LtE m ms 19 → Kp t H H' → TapeOk H' t L → Lots H' p ms → Q (.ref p) H'
section
variable {P : Program} {w : World} {K : PySem.W.Frag} {mg : Str → Option Value} {base : Heap} (T : Txt K mg)
include T
theorem cl_law_lots : Cl P w K mg base CX0 3 "_law_lots" P_law_lots spLotsL := by
  refine cl_mk (fn_law_lots T) (mg_law_lots T) sc_law_lots (bd_law_lots) (fun vs H Q E h => ?_) (fun cdv A outer s H vs Q E hr h => ?_)
  · obtain ⟨_, _, _, _, _, rfl, _⟩ := h
    rfl
  · obtain ⟨t, L, ev, m, most, rfl, h40, tok, hev, k⟩ := h
    refine ⟨_, pss_cons (ps_set (i := 3) sc_law_lots.nd rfl (Or.inl rfl) (pe_lst pa_nil))
      (pss_cons (ps_for PassesOwn.never rfl (pi_range1 (by rfl) (fr_range T) (pa_cons (pe_cl (E := E0) (cl_law_pick T) hr (by decide) rfl pass0 (pa_cons (pv 0) (pa_cons (pe_op op_add (pv 2) pe_int) pa_nil))) pa_nil)) (pg_name (i := 4) sc_law_lots.nd rfl (Or.inl rfl))
        (pss_one (ps_if (PW.pt (pw_and (pt_cmpR op_gt (pe_callB call_len (by rfl) (fr_len T) PySem.boot_len (pa_cons (pv 3) pa_nil)) pe_int (nomark _)) (pw_and1 (pt_cmpR op_eq (pe_cl (E := E0) (cl_law_pick T) hr (by decide) rfl pass0 (pa_cons (pv 0) (pa_cons pe_int pa_nil))) pe_int (nomark _)))))
          (pss_one (ps_expr (pe_bm PySem.F.plainAttrs_list PySem.F.slot_list_append PySem.F.type_list_append mt_append (pv 3) (pa_cons (pe_ix ix_list (pv 3) (pe_cl (E := E0) (cl_law_pick T) hr (by decide) rfl pass0 (pa_cons (pv 0) (pa_cons (pe_callB call_len (by rfl) (fr_len T) PySem.boot_len (pa_cons (pv 3) pa_nil)) pa_nil))) (fun _ _ => rfl)) pa_nil))))
          (pss_one (ps_expr (pe_bm PySem.F.plainAttrs_list PySem.F.slot_list_append PySem.F.type_list_append mt_append (pv 3) (pa_cons (pe_cl (E := E0) (cl_law_lot T) hr (by decide) rfl pass0 (pa_cons (pv 0) (pa_cons (pv 1) pa_nil))) pa_nil)))))))
      (pss_one (ps_ret (pe_tupleOf rfl (fr_tuple T) (pv 3))))), ?_⟩
    refine ⟨by show 0 ≤ sizeLine; decide, fun D nD => ?_⟩
    have nDt := tok.ne nD
    have tk0 : TapeOk (upd H D (.lst [])) t L := tok.put nDt
    refine ⟨_, rfl, _, rfl, _, _, rfl, rfl, t, L, _, rfl, tk0, by omega, by omega, fun n H1 hn kp1 tk1 => ⟨_, rfl, by omega, by omega, ?_⟩⟩
    have kpA : Kp t H H1 := (kp_same (same_new nD)).trans kp1
    refine for_it (walk_range (lo := 0) (n := ((n : Nat) : Int).toNat)) (fun i σ H' => ∃ v4 as ls, σ = [some (.ref t), some (.ref ev), some (.int (most : Nat)), some (.ref D), v4] ∧ Kp t H H' ∧ TapeOk H' t L ∧ H' D = some (.lst (as.map V.ref)) ∧ Paired (fun a l => TupS H' a l) as ls ∧ (∀ l ∈ ls, LotE (kindsOf m) l) ∧ ls.length = i)
      ⟨none, [], [], rfl, kpA, tk1, kp1 _ _ upd_same nDt.1, .nil, (fun _ z => nomatch z), rfl⟩ (fun _ _ _ _ _ => True.intro) (fun i x σ H2 H3 hi hP hY => ?_) (fun σ H2 hP => ?_)
    · obtain ⟨v4, as, ls, rfl, kp2, tk2, hD2, hp2, hl2, hi2⟩ := hP
      obtain ⟨rfl, rfl⟩ := hY
      have hal := Paired.length hp2
      have el : (as.map V.ref).length = ls.length := by rw [List.length_map, hal]
      refine ⟨_, rfl, _, _, rfl, .inl ⟨_, SqL.of hD2, rfl⟩, _, _, rfl, rfl, _, rfl, ?_⟩
      by_cases h0 : (0 : Int) < ((as.map V.ref).length : Nat)
      case' pos =>
        rw [decide_eq_true h0]
        refine iteT ?_
        refine ⟨_, rfl, t, L, 5, rfl, tk2, by decide, by decide, fun d H4 hd kp4 tk4 => ⟨rfl, _, rfl, ?_⟩⟩
        have hD4 := kp4 _ _ hD2 nDt.1
        have hp4 := Paired.mapP hp2 fun _ _ z => kp4.tk tk2 _ _ z
        rcases Nat.eq_zero_or_pos d with hd0 | hd0
        · rw [decide_eq_true ((int0 d).mpr hd0)]
          refine iteT ?_
          refine ⟨_, rfl, .inl ⟨rfl, _, SqL.of hD4⟩, _, rfl, _, rfl, _, rfl, _, _, rfl, .inl ⟨_, SqL.of hD4, rfl⟩, t, L, _, rfl, tk4, h0, by rw [el]; omega, fun j H5 hj kp5 tk5 => ?_⟩
          have hj2 : j < as.length := by rw [List.length_map] at hj; omega
          have hD5 := kp5 _ _ hD4 nDt.1
          have hp5 := Paired.mapP hp4 fun _ _ z => kp5.tk tk4 _ _ z
          obtain ⟨l, hl, hal5⟩ := paired_get hp5 (List.getElem?_eq_getElem hj2)
          refine ⟨D, _, _, .ref as[j], rfl, rfl, SqL.of hD5, atI_nat (by rw [List.getElem?_map, List.getElem?_eq_getElem hj2]; rfl), D, _, _, rfl, rfl, hD5, by rw [el]; exact small1000 (by omega), ?_⟩
          have tkS : Tk H5 (upd H5 D (.lst (as.map V.ref ++ [.ref as[j]]))) := tk_upd hD5 (fun xs z => by cases z)
          refine ⟨_, as ++ [as[j]], ls ++ [l], rfl, kp_new ((kp2.trans kp4).trans kp5) nD, tk5.put nDt, by rw [upd_same, List.map_append]; rfl, (Paired.mapP hp5 fun _ _ z => tkS _ _ z).snoc (tkS _ _ hal5), fun y hy => ?_, by rw [List.length_append, hi2]; rfl⟩
          rcases List.mem_append.mp hy with z | z
          · exact hl2 y z
          · have e : y = l := by simpa using z
            rw [e]
            exact hl2 l (List.mem_of_getElem? hl)
        rw [decide_eq_false (fun z => by have := (int0 d).mp z; omega)]
        refine iteF ?_
        have kp6 := kp2.trans kp4
      case' neg =>
        rw [decide_eq_false h0]
        refine iteF ?_
        have hD4 := hD2
        have tk4 := tk2
        have hp4 := hp2
        have kp6 := kp2
      all_goals
        refine ⟨_, rfl, .inl ⟨rfl, _, SqL.of hD4⟩, _, rfl, _, rfl, t, L, ev, m, rfl, tk4, hev.kp kp6, fun p l H5 hl kp5 tk5 hp => ?_⟩
        have hD5 := kp5 _ _ hD4 nDt.1
        have hp5 := Paired.mapP hp4 fun _ _ z => kp5.tk tk4 _ _ z
        refine ⟨D, _, _, rfl, rfl, hD5, by rw [el]; exact small1000 (by omega), ?_⟩
        have tkS : Tk H5 (upd H5 D (.lst (as.map V.ref ++ [.ref p]))) := tk_upd hD5 (fun xs z => by cases z)
        refine ⟨_, as ++ [p], ls ++ [l], rfl, kp_new (kp6.trans kp5) nD, tk5.put nDt, by rw [upd_same, List.map_append]; rfl, (Paired.mapP hp5 fun _ _ z => tkS _ _ z).snoc (tkS _ _ hp), fun y hy => ?_, by rw [List.length_append, hi2]; rfl⟩
        rcases List.mem_append.mp hy with z | z
        · exact hl2 y z
        · have e : y = l := by simpa using z
          rw [e]
          exact hl
    · obtain ⟨v4, as, ls, rfl, kp2, tk2, hD2, hp2, hl2, hi2⟩ := hP
      refine ⟨_, rfl, .inl ⟨D, _, rfl, SqL.of hD2, fun q nq => ?_⟩⟩
      exact k q ls _ ⟨hl2, by omega⟩ (kp2.trans (kp_same (same_new nq))) (tk2.same (same_new nq)) (lots_mk upd_same rfl (Paired.mapP hp2 fun _ _ z => same_new nq _ _ z))
theorem cl_law_row : Cl P w K mg base CX0 2 "_law_row" P_law_row spRowL := by
  refine cl_mk (fn_law_row T) (mg_law_row T) sc_law_row (bd_law_row) (fun vs H Q E h => ?_) (fun cdv A outer s H vs Q E hr h => ?_)
  · obtain ⟨_, _, _, _, _, rfl, _⟩ := h
    rfl
  · obtain ⟨t, L, ev, m, most, rfl, h40, tok, hev, k⟩ := h
    have hpos : 0 < (kindsOf m).length := List.length_pos_iff.mpr hev.ok.ne
    have h32 := hev.ok.ln
    have ek : ((kindsOf m).map V.str).length = (kindsOf m).length := List.length_map _
    refine ⟨_, pss_cons (ps_set (i := 3) sc_law_row.nd rfl (Or.inl rfl) (pe_lst pa_nil))
      (pss_cons (ps_for PassesOwn.never rfl (pi_range1 (by rfl) (fr_range T) (pa_cons (pe_cl (E := E0) (cl_law_pick T) hr (by decide) rfl pass0 (pa_cons (pv 0) (pa_cons (pe_op op_add (pv 2) pe_int) pa_nil))) pa_nil)) (pg_name (i := 4) sc_law_row.nd rfl (Or.inl rfl))
        (pss_one (ps_if (PW.pt (pw_and (pt_cmpR op_gt (pe_callB call_len (by rfl) (fr_len T) PySem.boot_len (pa_cons (pv 3) pa_nil)) pe_int (nomark _)) (pw_and1 (pt_cmpR op_eq (pe_cl (E := E0) (cl_law_pick T) hr (by decide) rfl pass0 (pa_cons (pv 0) (pa_cons pe_int pa_nil))) pe_int (nomark _)))))
          (pss_one (ps_expr (pe_bm PySem.F.plainAttrs_list PySem.F.slot_list_append PySem.F.type_list_append mt_append (pv 3) (pa_cons (pe_ix ix_list (pv 3) (pe_un un_neg pe_int) (fun _ _ => rfl)) pa_nil))))
          (pss_one (ps_expr (pe_bm PySem.F.plainAttrs_list PySem.F.slot_list_append PySem.F.type_list_append mt_append (pv 3) (pa_cons (pe_ix ix_list (pv 1) (pe_cl (E := E0) (cl_law_pick T) hr (by decide) rfl pass0 (pa_cons (pv 0) (pa_cons (pe_callB call_len (by rfl) (fr_len T) PySem.boot_len (pa_cons (pv 1) pa_nil)) pa_nil))) (fun _ _ => rfl)) pa_nil)))))))
      (pss_one (ps_ret (pe_tupleOf rfl (fr_tuple T) (pv 3))))), ?_⟩
    refine ⟨by show 0 ≤ sizeLine; decide, fun D nD => ?_⟩
    have nDt := tok.ne nD
    have tk0 : TapeOk (upd H D (.lst [])) t L := tok.put nDt
    refine ⟨_, rfl, _, rfl, _, _, rfl, rfl, t, L, _, rfl, tk0, by omega, by omega, fun n H1 hn kp1 tk1 => ⟨_, rfl, by omega, by omega, ?_⟩⟩
    have kpA : Kp t H H1 := (kp_same (same_new nD)).trans kp1
    refine for_it (walk_range (lo := 0) (n := ((n : Nat) : Int).toNat)) (fun i σ H' => ∃ v4 ks, σ = [some (.ref t), some (.ref ev), some (.int (most : Nat)), some (.ref D), v4] ∧ Kp t H H' ∧ TapeOk H' t L ∧ H' D = some (.lst (ks.map V.str)) ∧ (∀ k ∈ ks, k ∈ kindsOf m) ∧ ks.length = i)
      ⟨none, [], rfl, kpA, tk1, kp1 _ _ upd_same nDt.1, (fun _ z => nomatch z), rfl⟩ (fun _ _ _ _ _ => True.intro) (fun i x σ H2 H3 hi hP hY => ?_) (fun σ H2 hP => ?_)
    · obtain ⟨v4, ks, rfl, kp2, tk2, hD2, hl2, hi2⟩ := hP
      obtain ⟨rfl, rfl⟩ := hY
      have el : (ks.map V.str).length = ks.length := List.length_map _
      refine ⟨_, rfl, _, _, rfl, .inl ⟨_, SqL.of hD2, rfl⟩, _, _, rfl, rfl, _, rfl, ?_⟩
      by_cases h0 : (0 : Int) < ((ks.map V.str).length : Nat)
      case' pos =>
        rw [decide_eq_true h0]
        refine iteT ?_
        refine ⟨_, rfl, t, L, 3, rfl, tk2, by decide, by decide, fun d H4 hd kp4 tk4 => ⟨rfl, _, rfl, ?_⟩⟩
        have hD4 := kp4 _ _ hD2 nDt.1
        rcases Nat.eq_zero_or_pos d with hd0 | hd0
        · rw [decide_eq_true ((int0 d).mpr hd0)]
          refine iteT ?_
          have hne : ks ≠ [] := fun z => by rw [z] at h0; exact absurd h0 (by decide)
          have hlast : (ks.map V.str) = (ks.dropLast.map V.str) ++ [.str (ks.getLast hne)] := by
            conv => lhs; rw [← List.dropLast_concat_getLast hne]
            rw [List.map_append]
            rfl
          refine ⟨_, rfl, .inl ⟨rfl, _, SqL.of hD4⟩, _, rfl, _, rfl, D, _, _, .str (ks.getLast hne), rfl, rfl, SqL.of hD4, by rw [hlast]; exact atI_last _ _, D, _, _, rfl, rfl, hD4, by rw [el]; exact small1000 (by omega), ?_⟩
          refine ⟨_, ks ++ [ks.getLast hne], rfl, kp_new (kp2.trans kp4) nD, tk4.put nDt, by rw [upd_same, List.map_append]; rfl, fun y hy => ?_, by rw [List.length_append, hi2]; rfl⟩
          rcases List.mem_append.mp hy with z | z
          · exact hl2 y z
          · have e : y = ks.getLast hne := by simpa using z
            rw [e]
            exact hl2 _ (List.getLast_mem hne)
        rw [decide_eq_false (fun z => by have := (int0 d).mp z; omega)]
        refine iteF ?_
        have kp6 := kp2.trans kp4
      case' neg =>
        rw [decide_eq_false h0]
        refine iteF ?_
        have hD4 := hD2
        have tk4 := tk2
        have kp6 := kp2
      all_goals
        refine ⟨_, rfl, .inl ⟨rfl, _, SqL.of hD4⟩, _, rfl, _, rfl, _, rfl, _, _, rfl, .inl ⟨_, SqL.of (hev.kp kp6).at_, rfl⟩, t, L, _, rfl, tk4, by rw [ek]; omega, by rw [ek]; omega, fun j H5 hj kp5 tk5 => ?_⟩
        rw [ek] at hj
        have hj2 : j < (kindsOf m).length := by omega
        have hD5 := kp5 _ _ hD4 nDt.1
        refine ⟨ev, _, _, .str _, rfl, rfl, SqL.of (hev.kp (kp6.trans kp5)).at_, atI_nat (str_at hj2), D, _, _, rfl, rfl, hD5, by rw [el]; exact small1000 (by omega), ?_⟩
        refine ⟨_, ks ++ [(kindsOf m)[j]], rfl, kp_new (kp6.trans kp5) nD, tk5.put nDt, by rw [upd_same, List.map_append]; rfl, fun y hy => ?_, by rw [List.length_append, hi2]; rfl⟩
        rcases List.mem_append.mp hy with z | z
        · exact hl2 y z
        · have e : y = (kindsOf m)[j] := by simpa using z
          rw [e]
          exact List.getElem_mem hj2
    · obtain ⟨v4, ks, rfl, kp2, tk2, hD2, hl2, hi2⟩ := hP
      refine ⟨_, rfl, .inl ⟨D, _, rfl, SqL.of hD2, fun q nq => ?_⟩⟩
      exact k q ks _ hl2 (by omega) (kp2.trans (kp_same (same_new nq))) (tk2.same (same_new nq)) upd_same
theorem cl_law_others : Cl P w K mg base CX0 4 "_law_others" P_law_others spOthers := by
  refine cl_mk (fn_law_others T) (mg_law_others T) sc_law_others (bd_law_others) (fun vs H Q E h => ?_) (fun cdv A outer s H vs Q E hr h => ?_)
  · obtain ⟨_, _, _, _, _, _, _, rfl, _⟩ := h
    rfl
  · obtain ⟨t, L, ev, g, m, ls, most, rfl, h40, tok, hev, hg, hls, k⟩ := h
    have hmost := hls.most
    refine ⟨_, pss_cons (ps_set (i := 4) sc_law_others.nd rfl (Or.inl rfl) (pe_cl (E := E0) (cl_law_pick T) hr (by decide) rfl pass0 (pa_cons (pv 0) (pa_cons pe_int pa_nil))))
      (pss_cons (ps_if (PW.pt (pw_or (pt_cmpR op_eq (pv 4) pe_int (nomark _)) (pw_or1 (pt_cmpR op_eq (pe_callB call_len (by rfl) (fr_len T) PySem.boot_len (pa_cons (pv 2) pa_nil)) pe_int (nomark _)))))
        (pss_one (ps_ret (pe_cl (E := E0) (cl_law_lots T) hr (by decide) rfl pass0 (pa_cons (pv 0) (pa_cons (pv 1) (pa_cons (pv 3) pa_nil)))))) pss_nil)
      (pss_cons (ps_set (i := 5) sc_law_others.nd rfl (Or.inl rfl) (pe_cl (E := E0) (cl_law_pick T) hr (by decide) rfl pass0 (pa_cons (pv 0) (pa_cons (pe_callB call_len (by rfl) (fr_len T) PySem.boot_len (pa_cons (pv 2) pa_nil)) pa_nil))))
      (pss_cons (ps_if (pt_cmpR op_eq (pv 4) pe_int (nomark _)) (pss_one (ps_ret (pe_op op_catN (pe_slice sl_tupN (pv 2) po_none (po_some (pv 5))) (pe_slice sl_tupN (pv 2) (po_some (pe_op op_add (pv 5) pe_int)) po_none)))) pss_nil)
      (pss_cons (ps_if (pt_cmpR op_eq (pv 4) pe_int (nomark _)) (pss_one (ps_ret (pe_op op_catN (pe_slice sl_tupN (pv 2) (po_some (pv 5)) po_none) (pe_slice sl_tupN (pv 2) po_none (po_some (pv 5)))))) pss_nil)
      (pss_one (ps_ret (pe_revT (pv 2)))))))), ?_⟩
    refine ⟨_, rfl, t, L, 4, rfl, tok, by decide, by decide, fun st H1 hst kp1 tk1 => ?_⟩
    have hg1 := hg.keep (kp1.tk tok)
    obtain ⟨as, hga, hgp⟩ := hg1
    have hal := Paired.length hgp
    have el : (as.map V.ref).length = ls.length := by rw [List.length_map, hal]
    refine ⟨_, rfl, rfl, _, rfl, ?_⟩
    by_cases hs0 : (V.int (st : Nat)) = V.int 0
    · rw [decide_eq_true hs0]
      refine iteT ?_
      exact ⟨_, rfl, _, rfl, _, rfl, t, L, ev, m, most, rfl, h40, tk1, hev.kp kp1, fun p ms H2 h2 kp2 tk2 hp => k p ms H2 h2 (kp1.trans kp2) tk2 hp⟩
    rw [decide_eq_false hs0]
    refine iteF ?_
    refine ⟨_, rfl, _, _, rfl, .inr ⟨_, SqT.of hga, rfl⟩, rfl, _, rfl, ?_⟩
    by_cases hl0 : (V.int (((as.map V.ref).length : Nat) : Int)) = V.int 0
    · rw [decide_eq_true hl0]
      refine iteT ?_
      exact ⟨_, rfl, _, rfl, _, rfl, t, L, ev, m, most, rfl, h40, tk1, hev.kp kp1, fun p ms H2 h2 kp2 tk2 hp => k p ms H2 h2 (kp1.trans kp2) tk2 hp⟩
    rw [decide_eq_false hl0]
    refine iteF ?_
    have hpos : 0 < (as.map V.ref).length := Nat.pos_of_ne_zero fun z => hl0 ((int0 _).mpr z)
    refine ⟨_, rfl, _, rfl, _, _, rfl, .inr ⟨_, SqT.of hga, rfl⟩, t, L, _, rfl, tk1, by omega, by omega, fun a H2 ha kp2 tk2 => ?_⟩
    have tkS := kp2.tk tk1
    have hga2 := tkS _ _ hga
    have hgp2 := Paired.mapP hgp fun _ _ z => tkS _ _ z
    have ha2 : a < ls.length := by omega
    have hsl : as.length + as.length ≤ 1000 := by omega
    -- what is made of two parts
    have fin : ∀ (p : Addr) (H3 : Hp) (bs : List Addr) (ms : List (List Str)), Same H2 H3 → H3 p = some (.tup (bs.map V.ref)) → Paired (fun a l => TupS H2 a l) bs ms → (∀ l ∈ ms, l ∈ ls) → ms.length ≤ ls.length → Q (.ref p) H3 := by
      intro p H3 bs ms s3 hp hb hm hl
      exact k p ms H3 ⟨fun l hl => hls.each l (hm l hl), by omega⟩ ((kp1.trans kp2).trans (kp_same s3)) (tk2.same s3) (lots_mk hp rfl (Paired.mapP hb fun _ _ z => s3 _ _ z))
    refine ⟨_, rfl, rfl, _, rfl, iteD (fun _ => ?_) (fun _ => ?_)⟩
    · refine ⟨_, rfl, _, rfl, _, rfl, g, _, rfl, hga2, fun p H3 s3 hp => ?_⟩
      refine ⟨_, rfl, _, rfl, _, _, rfl, rfl, _, rfl, g, _, rfl, s3 _ _ hga2, fun q H4 s4 hq => ?_⟩
      have hp4 := s4 _ _ hp
      have hq4 : H4 q = some (.tup ((as.map V.ref).drop (a + 1))) := by
        rw [← cutV_drop]
        exact hq
      rw [cutV_take] at hp4
      refine ⟨p, q, _, _, rfl, rfl, hp4, hq4, small_line (by rw [List.length_take, List.length_drop]; omega), fun u H5 s5 hu => ?_⟩
      rw [← List.map_take, ← List.map_drop, ← List.map_append] at hu
      refine fin u H5 _ (ls.take a ++ ls.drop (a + 1)) ((s3.trans s4).trans s5) hu (prd_app (prd_take hgp2 a) (prd_drop hgp2 (a + 1))) (fun l hl => ?_) (by rw [List.length_append, List.length_take, List.length_drop]; omega)
      rcases List.mem_append.mp hl with z | z
      · exact List.mem_of_mem_take z
      · exact List.mem_of_mem_drop z
    refine ⟨_, rfl, rfl, _, rfl, iteD (fun _ => ?_) (fun _ => ?_)⟩
    · refine ⟨_, rfl, _, rfl, _, rfl, g, _, rfl, hga2, fun p H3 s3 hp => ?_⟩
      refine ⟨_, rfl, _, rfl, _, rfl, g, _, rfl, s3 _ _ hga2, fun q H4 s4 hq => ?_⟩
      have hp4 := s4 _ _ hp
      rw [cutV_drop] at hp4
      rw [cutV_take] at hq
      refine ⟨p, q, _, _, rfl, rfl, hp4, hq, small_line (by rw [List.length_take, List.length_drop]; omega), fun u H5 s5 hu => ?_⟩
      rw [← List.map_take, ← List.map_drop, ← List.map_append] at hu
      refine fin u H5 _ (ls.drop a ++ ls.take a) ((s3.trans s4).trans s5) hu (prd_app (prd_drop hgp2 a) (prd_take hgp2 a)) (fun l hl => ?_) (by rw [List.length_append, List.length_take, List.length_drop]; omega)
      rcases List.mem_append.mp hl with z | z
      · exact List.mem_of_mem_drop z
      · exact List.mem_of_mem_take z
    · refine ⟨_, rfl, g, _, rfl, SqT.of hga2, fun p np => ?_⟩
      refine fin p _ as.reverse ls.reverse (same_new np) (by rw [upd_same, List.map_reverse]) (prd_rev hgp2) (fun l hl => List.mem_reverse.mp hl) (by rw [List.length_reverse]; omega)
theorem cl_law_copies : Cl P w K mg base CX0 3 "_law_copies" P_law_copies spCopies := by
  refine cl_mk (fn_law_copies T) (mg_law_copies T) sc_law_copies (bd_law_copies) (fun vs H Q E h => ?_) (fun cdv A outer s H vs Q E hr h => ?_)
  · obtain ⟨_, _, _, _, rfl, _⟩ := h
    rfl
  · obtain ⟨t, L, ev, m, rfl, tok, hev, k⟩ := h
    refine ⟨_, pss_cons (ps_set (i := 2) sc_law_copies.nd rfl (Or.inl rfl) (pe_tup pa_nil))
      (pss_cons (ps_for PassesOwn.never rfl (pi_range1 (by rfl) (fr_range T) (pa_cons (pe_op op_add pe_int (pe_cl (E := E0) (cl_law_pick T) hr (by decide) rfl pass0 (pa_cons (pv 0) (pa_cons pe_int pa_nil)))) pa_nil)) (pg_name (i := 3) sc_law_copies.nd rfl (Or.inl rfl))
        (pss_one (ps_set (i := 2) sc_law_copies.nd rfl (Or.inl rfl) (pe_op op_catN (pv 2) (pe_op op_repN (pe_tup (pa_cons (pe_cl (E := E0) (cl_law_lot T) hr (by decide) rfl pass0 (pa_cons (pv 0) (pa_cons (pv 1) pa_nil))) pa_nil))
          (pe_op op_add pe_int (pe_cl (E := E0) (cl_law_pick T) hr (by decide) rfl pass0 (pa_cons (pv 0) (pa_cons pe_int pa_nil)))))))))
      (pss_one (ps_ret (pv 2)))), ?_⟩
    refine ⟨by show 0 ≤ sizeLine; decide, fun p0 np0 => ?_⟩
    refine ⟨_, rfl, t, L, 3, rfl, tok.same (same_new np0), by decide, by decide, fun n H1 hn kp1 tk1 => ⟨_, _, rfl, rfl, _, rfl, by omega, by omega, ?_⟩⟩
    have tk0 : TapeOk (upd H p0 (.tup [])) t L := tok.same (same_new np0)
    have kpA : Kp t H H1 := (kp_same (same_new np0)).trans kp1
    refine for_it (walk_range (lo := 0) (n := ((1 : Int) + (n : Nat)).toNat)) (fun i σ H' => ∃ v3 p ls, σ = [some (.ref t), some (.ref ev), some (.ref p), v3] ∧ Kp t H H' ∧ TapeOk H' t L ∧ Lots H' p ls ∧ (∀ l ∈ ls, LotE (kindsOf m) l) ∧ ls.length ≤ 6 * i ∧ i ≤ ls.length)
      ⟨none, p0, [], rfl, kpA, tk1, ⟨[], kp1.tk tk0 _ _ upd_same, .nil⟩, (fun _ z => nomatch z), Nat.le_refl _, Nat.le_refl _⟩ (fun _ _ _ _ _ => True.intro) (fun i x σ H2 H3 hi hP hY => ?_) (fun σ H2 hP => ?_)
    · obtain ⟨v3, p, ls, rfl, kp2, tk2, hL2, hl2, h6, hli⟩ := hP
      obtain ⟨rfl, rfl⟩ := hY
      refine ⟨_, rfl, _, rfl, _, rfl, t, L, ev, m, rfl, tk2, hev.kp kp2, fun q l H4 hl kp4 tk4 hq => ?_⟩
      refine ⟨by show 1 ≤ sizeLine; decide, fun u nu => ?_⟩
      have tk5 := tk4.same (same_new (o := HO.tup [.ref q]) nu)
      refine ⟨_, rfl, t, L, 6, rfl, tk5, by decide, by decide, fun j H6 hj kp6 tk6 => ⟨_, _, rfl, rfl, ?_⟩⟩
      have hu6 := kp6.tk tk5 _ _ upd_same
      have hq6 := kp6.tk tk5 _ _ (same_new (o := HO.tup [.ref q]) nu _ _ hq)
      have tkA : Tk H3 H6 := fun c xs e => kp6.tk tk5 _ _ (same_new (o := HO.tup [.ref q]) nu _ _ (kp4.tk tk2 _ _ e))
      have hL6 := hL2.keep tkA
      obtain ⟨as, ha, hp⟩ := hL6
      have hal := Paired.length hp
      refine ⟨u, _, _, rfl, rfl, hu6, by simp, by omega, by omega, by show 1 ≤ 1000; decide, fun b H7 s7 hb => ?_⟩
      rw [flat_rep] at hb
      have en : ((1 : Int) + (j : Nat)).toNat = j + 1 := by omega
      rw [en] at hb
      have hi3 : i < n + 1 := by omega
      refine ⟨p, b, _, _, rfl, rfl, s7 _ _ ha, hb, small_line (by rw [List.length_map, List.length_replicate]; omega), fun z H8 s8 hz => ?_⟩
      have sA := s7.trans s8
      refine ⟨_, z, ls ++ List.replicate (j + 1) l, rfl, ((kp2.trans kp4).trans (kp_same (same_new nu))).trans (kp6.trans (kp_same sA)), tk6.same sA, lots_mk (as := as ++ List.replicate (j + 1) q) hz (by rw [List.map_append, List.map_replicate]) (prd_app (Paired.mapP hp fun _ _ y => sA _ _ y) (prd_rep (R := fun a l => TupS H8 a l) (a := q) (b := l) (sA _ _ hq6) (j + 1))), fun y hy => ?_, by rw [List.length_append, List.length_replicate]; omega, by rw [List.length_append, List.length_replicate]; omega⟩
      rcases List.mem_append.mp hy with c | c
      · exact hl2 y c
      · rw [(List.mem_replicate.mp c).2]
        exact hl
    · obtain ⟨v3, p, ls, rfl, kp2, tk2, hL2, hl2, h6, hli⟩ := hP
      exact ⟨_, rfl, k p ls H2 ⟨hl2, by omega⟩ (by omega) kp2 tk2 hL2⟩
theorem cl_law_near : Cl P w K mg base CX0 2 "_law_near" P_law_near spNear := by
  refine cl_mk (fn_law_near T) (mg_law_near T) sc_law_near (bd_law_near) (fun vs H Q E h => ?_) (fun cdv A outer s H vs Q E hr h => ?_)
  · obtain ⟨_, _, _, _, _, rfl, _⟩ := h
    rfl
  · obtain ⟨t, L, g, m, ls, rfl, tok, hg, hls, hpos, k⟩ := h
    have hmost := hls.most
    obtain ⟨as, hga, hgp⟩ := id hg
    have hal := Paired.length hgp
    have el : (as.map V.ref).length = ls.length := by rw [List.length_map, hal]
    refine ⟨_, pss_cons (ps_set (i := 2) sc_law_near.nd rfl (Or.inl rfl) (pe_cl (E := E0) (cl_law_pick T) hr (by decide) rfl pass0 (pa_cons (pv 0) (pa_cons (pe_callB call_len (by rfl) (fr_len T) PySem.boot_len (pa_cons (pv 1) pa_nil)) pa_nil))))
      (pss_cons (ps_if (pt_cmpR op_eq (pe_cl (E := E0) (cl_law_pick T) hr (by decide) rfl pass0 (pa_cons (pv 0) (pa_cons pe_int pa_nil))) pe_int (nomark _)) (pss_one (ps_ret (pe_op op_catN (pe_slice sl_tupN (pv 1) (po_some (pv 2)) po_none) (pe_slice sl_tupN (pv 1) po_none (po_some (pv 2)))))) pss_nil)
      (pss_cons (ps_set (i := 3) sc_law_near.nd rfl (Or.inl rfl) (pe_cl (E := E0) (cl_law_pick T) hr (by decide) rfl pass0 (pa_cons (pv 0) (pa_cons (pe_op op_add (pe_callB call_len (by rfl) (fr_len T) PySem.boot_len (pa_cons (pv 1) pa_nil)) pe_int) pa_nil))))
      (pss_one (ps_ret (pe_op op_catN (pe_op op_catN (pe_slice sl_tupN (pv 1) po_none (po_some (pv 3))) (pe_tup (pa_cons (pe_ix ix_tup (pv 1) (pv 2) (fun _ _ => rfl)) pa_nil))) (pe_slice sl_tupN (pv 1) (po_some (pv 3)) po_none)))))), ?_⟩
    refine ⟨_, rfl, _, rfl, _, _, rfl, .inr ⟨_, SqT.of hga, rfl⟩, t, L, _, rfl, tok, by rw [el]; omega, by rw [el]; omega, fun a H1 ha kp1 tk1 => ?_⟩
    rw [el] at ha
    have ha2 : a < as.length := by omega
    have hga1 := kp1.tk tok _ _ hga
    refine ⟨_, rfl, t, L, 3, rfl, tk1, by decide, by decide, fun d H2 hd kp2 tk2 => ⟨rfl, _, rfl, ?_⟩⟩
    have tkS : Tk H H2 := fun c xs e => kp2.tk tk1 _ _ (kp1.tk tok _ _ e)
    have hga2 := tkS _ _ hga
    have hgp2 := Paired.mapP hgp fun _ _ z => tkS _ _ z
    refine iteD (fun _ => ?_) (fun _ => ?_)
    · refine ⟨_, rfl, _, rfl, _, rfl, g, _, rfl, hga2, fun p H3 s3 hp => ?_⟩
      refine ⟨_, rfl, _, rfl, _, rfl, g, _, rfl, s3 _ _ hga2, fun q H4 s4 hq => ?_⟩
      have hp4 := s4 _ _ hp
      rw [cutV_drop] at hp4
      rw [cutV_take] at hq
      refine ⟨p, q, _, _, rfl, rfl, hp4, hq, small_line (by rw [List.length_take, List.length_drop]; omega), fun u H5 s5 hu => ?_⟩
      rw [← List.map_take, ← List.map_drop, ← List.map_append] at hu
      have sA := (s3.trans s4).trans s5
      refine k u (ls.drop a ++ ls.take a) H5 ⟨fun l hl => ?_, by rw [List.length_append, List.length_take, List.length_drop]; omega⟩ ((kp1.trans kp2).trans (kp_same sA)) (tk2.same sA) (lots_mk hu rfl (Paired.mapP (prd_app (prd_drop hgp2 a) (prd_take hgp2 a)) fun _ _ z => sA _ _ z))
      rcases List.mem_append.mp hl with z | z
      · exact hls.each l (List.mem_of_mem_drop z)
      · exact hls.each l (List.mem_of_mem_take z)
    · refine ⟨_, rfl, _, rfl, _, _, rfl, .inr ⟨_, SqT.of hga2, rfl⟩, _, _, rfl, rfl, t, L, _, rfl, tk2, by rw [el]; omega, by rw [el]; omega, fun b H3 hb kp3 tk3 => ?_⟩
      have tkT : Tk H2 H3 := kp3.tk tk2
      have hga3 := tkT _ _ hga2
      have hgp3 := Paired.mapP hgp2 fun _ _ z => tkT _ _ z
      obtain ⟨l, hl, hal3⟩ := paired_get hgp3 (List.getElem?_eq_getElem ha2)
      refine ⟨_, rfl, _, rfl, _, rfl, g, _, rfl, hga3, fun p H4 s4 hp => ?_⟩
      rw [cutV_take] at hp
      refine ⟨_, rfl, _, rfl, g, _, _, .ref as[a], rfl, rfl, SqT.of (s4 _ _ hga3), atI_nat (by rw [List.getElem?_map, List.getElem?_eq_getElem ha2]; rfl), by show 1 ≤ sizeLine; decide, fun u nu => ?_⟩
      have s5 := same_new (o := HO.tup [.ref as[a]]) nu
      refine ⟨p, u, _, _, rfl, rfl, s5 _ _ hp, upd_same, small_line (by rw [List.length_take]; show _ + 1 ≤ 1000; omega), fun q H6 s6 hq => ?_⟩
      refine ⟨_, rfl, _, rfl, _, rfl, g, _, rfl, s6 _ _ (s5 _ _ (s4 _ _ hga3)), fun z H7 s7 hz => ?_⟩
      rw [cutV_drop] at hz
      refine ⟨q, z, _, _, rfl, rfl, s7 _ _ hq, hz, small_line (by rw [List.length_append, List.length_take, List.length_drop]; show _ + 1 + _ ≤ 1000; omega), fun y H8 s8 hy => ?_⟩
      have sA := (((s4.trans s5).trans s6).trans s7).trans s8
      refine k y ((ls.take b ++ [l]) ++ ls.drop b) H8 ⟨fun x hx => ?_, by rw [List.length_append, List.length_append, List.length_take, List.length_drop]; show _ + 1 + _ ≤ 19; omega⟩ (((kp1.trans kp2).trans kp3).trans (kp_same sA)) (tk3.same sA)
        (lots_mk (as := (as.take b ++ [as[a]]) ++ as.drop b) hy (by rw [List.map_append, List.map_append, List.map_take, List.map_drop]; rfl) (Paired.mapP (prd_app (prd_app (prd_take hgp3 b) (.cons hal3 .nil)) (prd_drop hgp3 b)) fun _ _ w => sA _ _ w))
      rcases List.mem_append.mp hx with c | c
      · rcases List.mem_append.mp c with c | c
        · exact hls.each x (List.mem_of_mem_take c)
        · have e : x = l := by simpa using c
          rw [e]
          exact hls.each l (List.mem_of_getElem? hl)
      · exact hls.each x (List.mem_of_mem_drop c)
end
end NF

set_option Elab.async false
set_option linter.all false
set_option maxRecDepth 100000
set_option maxHeartbeats 4000000
/-! The law's own walks: led, many, next, lead, pairs. -/
namespace NF
open PySem PySem.Spec PyProof.Rows L2 NFM NFW
theorem flat_opts (l : List (Option Nat)) : (l.map optV).all flatV = true := by
  rw [List.all_eq_true]
  intro v hv
  obtain ⟨z, _, rfl⟩ := List.mem_map.mp hv
  cases z <;> rfl
theorem inV_opts (s : Nat) (l : List (Option Nat)) : inV (.int (s : Nat)) (l.map optV) = decide (some s ∈ l) := by
  unfold inV
  rw [List.any_map]
  cases h : l.any ((fun y => eqV y (V.int (s : Nat))) ∘ optV) with
  | true =>
    obtain ⟨x, hx, e⟩ := List.any_eq_true.mp h
    have e2 : eqV (optV x) (V.int (s : Nat)) = true := e
    cases x with
    | none => cases e2
    | some y =>
      have e3 : ((y : Int) == (s : Int)) = true := e2
      have e4 := Int.ofNat_inj.mp (eq_of_beq e3)
      subst e4
      exact (decide_eq_true hx).symm
  | false =>
    refine (decide_eq_false fun hk => ?_).symm
    have := List.any_eq_false.mp h (some s) hk
    exact this (show ((s : Int) == (s : Int)) = true from beq_self_eq_true _)
section
variable {Q : Type} [DecidableEq Q]
theorem runF_snoc (ls : List (List Q)) (r : List Q) (f : List Nat) (k : Q) : runF ls f (r ++ [k]) = nxt ls (runF ls f r) k := by
  unfold runF
  rw [List.foldl_append]
  rfl
theorem takes_snocQ (ls : List (List Q)) : ∀ (r : List Q) (f : List Nat) (k : Q), takes ls f (r ++ [k]) = takes ls f r ++ [fsts ls (runF ls f r) k]
  | [], _, _ => rfl
  | j :: r, f, k => by
    rw [List.cons_append, takes, takes, takes_snocQ ls r (nxt ls f j) k]
    rfl
theorem free_used (ls : List (List Q)) (n : Nat) : ∀ (m : Nat) (r : List Q), r.length = m → runF ls (List.range n) r = (List.range n).filter fun s => decide (some s ∉ takes ls (List.range n) r)
  | 0, [], _ => (List.filter_eq_self.mpr fun s _ => by simp [takes]).symm
  | 0, _ :: _, h => by simp at h
  | m + 1, r, h => by
    have hne : r ≠ [] := fun z => by rw [z] at h; simp at h
    obtain ⟨q, k, rfl⟩ : ∃ q k, r = q ++ [k] := ⟨r.dropLast, r.getLast hne, (List.dropLast_concat_getLast hne).symm⟩
    rw [List.length_append, List.length_cons, List.length_nil] at h
    have ih := free_used ls n m q (by omega)
    rw [runF_snoc, takes_snocQ]
    unfold nxt
    cases e : fsts ls (runF ls (List.range n) q) k with
    | none =>
      show runF ls (List.range n) q = _
      rw [ih]
      refine List.filter_congr fun s _ => ?_
      simp
    | some t =>
      show (runF ls (List.range n) q).filter (fun o => decide (o ≠ t)) = _
      rw [ih, List.filter_filter]
      refine List.filter_congr fun s _ => ?_
      by_cases c : s = t <;> simp [c]
theorem find_free (ls : List (List Q)) (n : Nat) (r : List Q) (k : Q) : fsts ls (runF ls (List.range n) r) k = (List.range n).find? fun s => decide (some s ∉ takes ls (List.range n) r) && opn ls k s := by
  unfold fsts
  rw [free_used ls n r.length r rfl, List.find?_filter]
  exact congrArg (fun p => List.find? p (List.range n)) (funext fun s => by simp)
end
def spLedL : Sp := fun vs H Q _ => ∃ (g R : Addr) (ls : List (List Str)) (row : List Str), vs = [.ref g, .ref R] ∧ Lots H g ls ∧ ls.length ≤ 40 ∧ TupS H R row ∧ row.length ≤ 200 ∧
  ∀ (a : Addr) (H' : Hp), Same H H' → H' a = some (.lst ((takes ls (List.range ls.length) row).map optV)) → Q (.ref a) H'
def spManyL : Sp := fun vs H Q _ => ∃ (g R : Addr) (ls : List (List Str)) (row : List Str), vs = [.ref g, .ref R] ∧ Lots H g ls ∧ ls.length ≤ 40 ∧ TupS H R row ∧ row.length ≤ 200 ∧ ∀ H', Same H H' → Q (.int (many ls row : Nat)) H'
def spLeadL : Sp := fun vs H Q _ => ∃ (a b p : Addr) (ls ms : List (List Str)) (q : Pr), vs = [.ref a, .ref b, .ref p] ∧ Lots H a ls ∧ Lots H b ms ∧ KeyAt H p q ∧ Q (.int (lead ls ms q)) H
/-- what the law's own walk has found -/
structure LFnd (P : Program) (w : World) (E : List Str) (ls ms : List (List Str)) (H : Hp) (a : Addr) (o : Obj) (kvs : List (Pr × V)) : Prop where
  d : DO P w H a o kvs
  i : ∀ x ∈ kvs, ∃ c : Int, x.2 = .int c
  r : ∀ p ∈ kvs.map (·.1), Reach E ls ms p
  s : startP ls ms ∈ kvs.map (·.1)
theorem LFnd.keep {P : Program} {w : World} {E : List Str} {ls ms : List (List Str)} {H H' : Hp} {a : Addr} {o : Obj} {kvs : List (Pr × V)} (h : LFnd P w E ls ms H a o kvs) (ha : H' a = H a) (t : Tk H H') : LFnd P w E ls ms H' a o kvs := ⟨h.d.keep ha t, h.i, h.r, h.s⟩
theorem val_int {kvs : List (Pr × V)} {p : Pr} (hi : ∀ x ∈ kvs, ∃ c : Int, x.2 = V.int c) (hp : p ∈ kvs.map (·.1)) : ∃ c : Int, valV kvs p = some (.int c) := by
  induction kvs with
  | nil => exact nomatch hp
  | cons y l ih =>
    by_cases e : y.1 = p
    · obtain ⟨c, hc⟩ := hi y List.mem_cons_self
      exact ⟨c, by rw [valV_pos e, hc]⟩
    · rw [valV_neg e]
      refine ih (fun x hx => hi x (List.mem_cons_of_mem _ hx)) ?_
      rw [List.map_cons] at hp
      rcases List.mem_cons.mp hp with z | z
      · exact absurd z.symm e
      · exact z
def spPairsL (P : Program) (w : World) : Sp := fun vs H Q _ => ∃ (ev a b : Addr) (m : Str) (ls ms : List (List Str)), vs = [.ref ev, .ref a, .ref b, .int 3000] ∧ H ev = some (.lst ((kindsOf m).map V.str)) ∧ (kindsOf m).length ≤ 32 ∧ Lots H a ls ∧ Lots H b ms ∧ ls.length ≤ 40 ∧ ms.length ≤ 40 ∧
  ∀ (d : Addr) (o : Obj) (kvs : List (Pr × V)) (H' : Hp), Same H H' → LFnd P w (kindsOf m) ls ms H' d o kvs → kvs.length ≤ 10000 → (3000 < kvs.length ∨ Cov (kindsOf m) ls ms (kvs.map (·.1)) (fun _ => False)) → Q (.ref d) H'
section
variable {P : Program} {w : World} {K : PySem.W.Frag} {mg : Str → Option Value} {base : Heap} (T : Txt K mg)
include T
theorem cl_law_led : Cl P w K mg base CX0 1 "_law_led" P_law_led spLedL := by
  refine cl_mk (fn_law_led T) (mg_law_led T) sc_law_led (bd_law_led) (fun vs H Q E h => ?_) (fun cdv A outer s H vs Q E hr h => ?_)
  · obtain ⟨_, _, _, _, rfl, _⟩ := h
    rfl
  · obtain ⟨g, R, ls, row, rfl, hg, h40, hR, h200, k⟩ := h
    obtain ⟨as, hga, hal⟩ := hg.len
    refine ⟨_, pss_cons (ps_set (i := 2) sc_law_led.nd rfl (Or.inl rfl) (pe_lst pa_nil))
      (pss_cons (ps_set (i := 3) sc_law_led.nd rfl (Or.inl rfl) (pe_lst pa_nil))
      (pss_cons (ps_for PassesOwn.never rfl (pi_tup (pv 1)) (pg_name (i := 4) sc_law_led.nd rfl (Or.inl rfl))
        (pss_cons (ps_set (i := 5) sc_law_led.nd rfl (Or.inl rfl) pe_non)
        (pss_cons (ps_for PassesOwn.never rfl (pi_range1 (by rfl) (fr_range T) (pa_cons (pe_callB call_len (by rfl) (fr_len T) PySem.boot_len (pa_cons (pv 0) pa_nil)) pa_nil)) (pg_name (i := 6) sc_law_led.nd rfl (Or.inl rfl))
          (pss_one (ps_if (PW.pt (pw_and (pt_cmpR op_isN (pv 5) pe_non (nomark _)) (pw_and (pt_cmpR op_notIn_seq (pv 6) (pv 2) (by rfl)) (pw_and1 (pt_cmpR op_in_seq (pv 4) (pe_ix ix_tup (pv 0) (pv 6) (fun _ _ => rfl)) (by rfl))))))
            (pss_one (ps_set (i := 5) sc_law_led.nd rfl (Or.inl rfl) (pv 6))) pss_nil)))
        (pss_cons (ps_expr (pe_bm PySem.F.plainAttrs_list PySem.F.slot_list_append PySem.F.type_list_append mt_append (pv 2) (pa_cons (pv 5) pa_nil)))
        (pss_one (ps_expr (pe_bm PySem.F.plainAttrs_list PySem.F.slot_list_append PySem.F.type_list_append mt_append (pv 3) (pa_cons (pv 5) pa_nil))))))))
      (pss_one (ps_ret (pv 3))))), ?_⟩
    refine ⟨by show 0 ≤ sizeLine; decide, fun U nU => ?_⟩
    refine ⟨by show 0 ≤ sizeLine; decide, fun D nD => ?_⟩
    have nUD : U ≠ D := ne_of_none upd_same nD
    have nHD : H D = none := by rw [upd_ne (Ne.symm nUD)] at nD; exact nD
    have s0 : Same H (upd (upd H U (.lst [])) D (.lst [])) := (same_new nU).trans (same_new nD)
    refine ⟨_, rfl, R, rfl, ⟨_, SqT.of (s0 _ _ hR)⟩, for_it (walk_tup (xs := row.map V.str)) (fun i σ H' => ∃ v4 v5 v6, σ = [some (.ref g), some (.ref R), some (.ref U), some (.ref D), v4, v5, v6] ∧ Same H H' ∧
        H' U = some (.lst ((takes ls (List.range ls.length) (row.take i)).map optV)) ∧ H' D = some (.lst ((takes ls (List.range ls.length) (row.take i)).map optV)))
      ⟨none, none, none, rfl, s0, by rw [upd_ne nUD, upd_same]; rfl, upd_same⟩ (fun _ _ _ _ hP => by obtain ⟨_, _, _, _, s, _⟩ := hP; exact SqT.of (s _ _ hR)) (fun i x σ H1 H2 hi hP hY => ?_) (fun σ H1 hP => ?_)⟩
    · obtain ⟨v4, v5, v6, rfl, s1, hU1, hD1⟩ := hP
      obtain ⟨rfl, hx⟩ := hY
      rw [List.getElem?_map] at hx
      obtain ⟨z, hz, rfl⟩ := Option.map_eq_some_iff.mp hx
      rw [List.length_map] at hi
      have et : row.take (i + 1) = row.take i ++ [z] := by rw [List.take_add_one, hz]; rfl
      have eT : takes ls (List.range ls.length) (row.take (i + 1)) = takes ls (List.range ls.length) (row.take i) ++ [fsts ls (runF ls (List.range ls.length) (row.take i)) z] := by rw [et, takes_snoc]
      have hlenT : (takes ls (List.range ls.length) (row.take i)).length ≤ 200 := by rw [takes_len, List.length_take]; omega
      have eF := find_free ls ls.length (row.take i) z
      generalize takes ls (List.range ls.length) (row.take i) = us at *
      refine ⟨_, rfl, _, _, rfl, .inr ⟨_, SqT.of (s1 _ _ hga), rfl⟩, _, rfl, by rw [List.length_map]; omega, by rw [List.length_map]; omega, ?_⟩
      refine for_it (walk_range (lo := 0) (n := (((as.map V.ref).length : Nat) : Int).toNat)) (fun j σ H' => ∃ v6, σ = [some (.ref g), some (.ref R), some (.ref U), some (.ref D), some (.str z), some (optV ((List.range j).find? fun s => decide (some s ∉ us) && opn ls z s)), v6] ∧ H' = H2)
        ⟨v6, rfl, rfl⟩ (fun _ _ _ _ _ => True.intro) (fun j x σ H3 H4 hj hP hY => ?_) (fun σ H3 hP => ?_)
      · obtain ⟨v6', rfl, rfl⟩ := hP
        obtain ⟨rfl, hxx⟩ := hY
        have hj2 : j < ls.length := by rw [List.length_map] at hj; omega
        have hx2 : x = V.int (j : Nat) := hxx.trans (by show V.int (0 + ((j : Nat) : Int)) = _; rw [Int.zero_add])
        subst hx2
        have er : (List.range (j + 1)).find? (fun s => decide (some s ∉ us) && opn ls z s) = ((List.range j).find? (fun s => decide (some s ∉ us) && opn ls z s)).or (if (decide (some j ∉ us) && opn ls z j) = true then some j else none) := by
          rw [List.range_succ, List.find?_append]
          cases c : (decide (some j ∉ us) && opn ls z j) with
          | true => rw [if_pos rfl, List.find?_cons, c]
          | false => rw [if_neg Bool.false_ne_true, List.find?_cons, c]; rfl
        refine ⟨_, rfl, rfl, _, rfl, ?_⟩
        cases hq : (List.range j).find? (fun s => decide (some s ∉ us) && opn ls z s) with
        | some y =>
          refine iteF ?_
          refine ⟨some (.int (j : Nat)), ?_, rfl⟩
          rw [er, hq]
          rfl
        | none =>
          refine iteT ?_
          refine ⟨_, rfl, _, rfl, U, _, rfl, .inl (SqL.of hU1), rfl, flat_opts _, _, rfl, ?_⟩
          show if (!inV (.int (j : Nat)) (us.map optV)) = true then _ else _
          rw [inV_opts]
          by_cases c1 : some j ∈ us
          · rw [decide_eq_true c1]
            refine iteF ?_
            refine ⟨some (.int (j : Nat)), ?_, rfl⟩
            rw [er, hq, if_neg (by simp [c1])]
            rfl
          rw [decide_eq_false c1]
          refine iteT ?_
          obtain ⟨as', a', b1, b2, b3⟩ := (hg.same s1).at_ hj2
          refine ⟨_, rfl, _, rfl, _, rfl, g, _, _, .ref a', rfl, rfl, SqT.of b1, atI_nat b2, a', _, rfl, .inr (SqT.of b3), rfl, flat_strs _, _, rfl, ?_⟩
          show if inV (.str z) ((ls.getD j []).map V.str) = true then _ else _
          rw [inV_strs]
          have eo : decide (z ∈ ls.getD j []) = opn ls z j := rfl
          rw [eo]
          cases c2 : opn ls z j with
          | true =>
            refine iteT ?_
            refine ⟨_, rfl, some (.int (j : Nat)), ?_, rfl⟩
            rw [er, hq, if_pos (by simp [c1, c2])]
            rfl
          | false =>
            refine iteF ?_
            refine ⟨some (.int (j : Nat)), ?_, rfl⟩
            rw [er, hq, if_neg (by simp [c2])]
            rfl
      · obtain ⟨v6', rfl, rfl⟩ := hP
        have en : (((as.map V.ref).length : Nat) : Int).toNat = ls.length := by rw [List.length_map, hal]; rfl
        rw [en, ← eF]
        have hU3 : upd H3 U (.lst (us.map optV ++ [optV (fsts ls (runF ls (List.range ls.length) (row.take i)) z)])) D = some (.lst (us.map optV)) := by rw [upd_ne (Ne.symm nUD)]; exact hD1
        refine ⟨_, rfl, .inl ⟨rfl, _, SqL.of hU1⟩, _, rfl, U, _, _, rfl, rfl, hU1, by rw [List.length_map]; exact small1000 (by omega), ?_⟩
        refine ⟨_, rfl, .inl ⟨rfl, _, SqL.of hU3⟩, _, rfl, D, _, _, rfl, rfl, hU3, by rw [List.length_map]; exact small1000 (by omega), ?_⟩
        refine ⟨_, _, _, rfl, fun b o e => ?_, ?_, ?_⟩
        · rw [upd_ne (ne_of_none e nHD), upd_ne (ne_of_none e nU)]
          exact s1 _ _ e
        · rw [upd_ne nUD, upd_same, eT, List.map_append]
          rfl
        · rw [upd_same, eT, List.map_append]
          rfl
    · obtain ⟨v4, v5, v6, rfl, s1, hU1, hD1⟩ := hP
      rw [List.length_map, List.take_length] at hD1
      exact ⟨_, rfl, k D H1 s1 hD1⟩
theorem cl_law_many : Cl P w K mg base CX0 2 "_law_many" P_law_many spManyL := by
  refine cl_mk (fn_law_many T) (mg_law_many T) sc_law_many (bd_law_many) (fun vs H Q E h => ?_) (fun cdv A outer s H vs Q E hr h => ?_)
  · obtain ⟨_, _, _, _, rfl, _⟩ := h
    rfl
  · obtain ⟨g, R, ls, row, rfl, hg, h40, hR, h200, k⟩ := h
    refine ⟨_, pss_one (ps_ret (pe_callB call_len (by rfl) (fr_len T) PySem.boot_len (pa_cons (pe_lc (own := [("_law_seat", 2)]) (g := gName 2) (by rfl) sc_law_many.nd
      (pi_list (pe_cl (E := E0) (cl_law_led T) hr (by decide) rfl pass0 (pa_cons (pv 0) (pa_cons (pv 1) pa_nil))))
      (blkOk_by (own := [("_law_seat", 2)]) (N := N_law_many) (sc := defScope s_law_many) (by decide +kernel)) (fun _ _ _ _ _ => pg_name (i := 2) sc_law_many.nd rfl (Or.inl rfl)) (fun _ _ _ _ _ => pts_one (pt_cmpR op_notN (pv 2) pe_non (nomark _))) (fun _ _ _ _ _ => pv 2)) pa_nil))), ?_⟩
    refine ⟨_, rfl, _, rfl, g, R, ls, row, rfl, hg, h40, hR, h200, fun a H1 s1 ha => ⟨a, rfl, ⟨_, SqL.of ha⟩, fun D hD => ?_⟩⟩
    refine lc_it (walk_list (xs := (takes ls (List.range ls.length) row).map optV)) (fun i H' => H' = upd H1 D (.lst ((((takes ls (List.range ls.length) row).take i).filter (·.isSome)).map optV))) rfl
      (fun i H' _ e => by subst e; exact SqL.of (same_new hD _ _ ha)) (fun i x H2 H3 hi hP hY => ?_) (fun H2 hP => ?_)
    · obtain ⟨rfl, hx⟩ := hY
      rw [List.getElem?_map] at hx
      obtain ⟨z, hz, rfl⟩ := Option.map_eq_some_iff.mp hx
      subst hP
      have et : (takes ls (List.range ls.length) row).take (i + 1) = (takes ls (List.range ls.length) row).take i ++ [z] := by rw [List.take_add_one, hz]; rfl
      refine ⟨rfl, _, rfl, rfl, _, rfl, ?_⟩
      have hsm : ((((takes ls (List.range ls.length) row).take i).filter (·.isSome)).map optV).length < sizeLine := by
        rw [List.length_map]
        have l1 := List.length_filter_le (·.isSome) ((takes ls (List.range ls.length) row).take i)
        rw [List.length_take, takes_len] at l1
        exact small1000 (by omega)
      cases z with
      | none =>
        refine iteF ?_
        rw [et, List.filter_append]
        simp
      | some z =>
        refine iteT ?_
        refine ⟨_, rfl, _, upd_same, hsm, ?_⟩
        rw [upd_upd, et, List.filter_append, List.map_append]
        rfl
    · rw [List.length_map, List.take_length] at hP
      subst hP
      refine ⟨_, _, rfl, .inl ⟨_, SqL.of upd_same, rfl⟩, ?_⟩
      rw [List.length_map]
      exact k _ (s1.trans (same_new hD))
theorem cl_law_lead : Cl P w K mg base CX0 1 "_law_lead" P_law_lead spLeadL := by
  refine cl_mk (fn_law_lead T) (mg_law_lead T) sc_law_lead (bd_law_lead) (fun vs H Q E h => ?_) (fun cdv A outer s H vs Q E hr h => ?_)
  · obtain ⟨_, _, _, _, _, _, rfl, _⟩ := h
    rfl
  · obtain ⟨a, b, p, ls, ms, q, rfl, hL, hM, ⟨x, y, hp, hx, hy⟩, kk⟩ := h
    obtain ⟨as, hLa, hal⟩ := hL.len
    obtain ⟨bs, hMb, hbl⟩ := hM.len
    refine ⟨_, pss_one (ps_ret (pe_op op_add (pe_op op_sub (pe_op op_sub (pe_callB call_len (by rfl) (fr_len T) PySem.boot_len (pa_cons (pv 0) pa_nil)) (pe_callB call_len (by rfl) (fr_len T) PySem.boot_len (pa_cons (pe_ix ix_tup (pv 2) pe_int (fun _ _ => rfl)) pa_nil)))
      (pe_callB call_len (by rfl) (fr_len T) PySem.boot_len (pa_cons (pv 1) pa_nil))) (pe_callB call_len (by rfl) (fr_len T) PySem.boot_len (pa_cons (pe_ix ix_tup (pv 2) pe_int (fun _ _ => rfl)) pa_nil)))), ?_⟩
    refine ⟨_, rfl, _, _, rfl, .inr ⟨_, SqT.of hLa, rfl⟩, _, rfl, p, _, _, .ref x, rfl, rfl, SqT.of hp, rfl, _, _, rfl, .inr ⟨_, SqT.of hx, rfl⟩, _, _, rfl, rfl, ?_⟩
    refine ⟨_, rfl, _, _, rfl, .inr ⟨_, SqT.of hMb, rfl⟩, _, _, rfl, rfl, ?_⟩
    refine ⟨_, rfl, p, _, _, .ref y, rfl, rfl, SqT.of hp, rfl, _, _, rfl, .inr ⟨_, SqT.of hy, rfl⟩, _, _, rfl, rfl, ?_⟩
    rw [List.length_map, List.length_map, hal, hbl, iv_len, iv_len]
    have e : (ls.length : Int) - (q.1.length : Nat) - (ms.length : Nat) + (q.2.length : Nat) = lead ls ms q := by
      unfold lead
      omega
    show Q (.int ((ls.length : Int) - (q.1.length : Nat) - (ms.length : Nat) + (q.2.length : Nat))) H
    rw [e]
    exact kk
end
end NF

set_option Elab.async false
set_option linter.all false
set_option maxRecDepth 100000
set_option maxHeartbeats 4000000
/-! The law's own walk through all pairs. -/
namespace NF
open PySem PySem.Spec PyProof.Rows L2 NFM NFW
theorem fsts_head (ls : List (List Str)) (f : List Nat) (k : Str) : fsts ls f k = (f.filter (opn ls k)).head? := by
  unfold fsts
  rw [List.head?_filter]
theorem mem_drop {α : Type} {l : List α} {i : Nat} {x : α} (h : l[i]? = some x) : l.drop i = x :: l.drop (i + 1) := by
  obtain ⟨hi, e⟩ := List.getElem?_eq_some_iff.mp h
  rw [List.drop_eq_getElem_cons hi, e]
section
variable {P : Program} {w : World} {K : PySem.W.Frag} {mg : Str → Option Value} {base : Heap} (T : Txt K mg)
include T
theorem cl_law_next : Cl P w K mg base CX0 1 "_law_next" P_law_next spBehind := by
  refine cl_mk (fn_law_next T) (mg_law_next T) sc_law_next (bd_law_next) (fun vs H Q E h => ?_) (fun cdv A outer s H vs Q E hr h => ?_)
  · obtain ⟨_, _, _, _, _, rfl, _⟩ := h
    rfl
  · obtain ⟨L, F, k, ls, f, rfl, hL, h40, hF, hsub, q⟩ := h
    have hlt := sub_lt hsub
    have hlen : f.length ≤ 40 := by
      have := hsub.length_le
      rw [List.length_range] at this
      omega
    refine ⟨_, pss_cons (ps_set (i := 3) sc_law_next.nd rfl (Or.inr rfl) (pe_lc (own := [("_law_seat", 4)]) (g := gName 4) (by rfl) sc_law_next.nd (pi_tup (pv 1)) (blkOk_by (own := [("_law_seat", 4)]) (N := N_law_next) (sc := defScope s_law_next) (by decide +kernel))
        (fun _ _ _ _ _ => pg_name (i := 4) sc_law_next.nd rfl (Or.inl rfl)) (fun _ _ _ _ _ => pts_one (pt_cmpR (r := rIn K false) op_in_seq (pv 2) (pe_ix (r := rIxT K) ix_tup (pv 0) (pv 4) (fun _ _ => rfl)) (by rfl))) (fun _ _ _ _ _ => pv 4)))
      (pss_cons (ps_if (pt_cmpR op_eq (pe_callB call_len (by rfl) (fr_len T) PySem.boot_len (pa_cons (pv 3) pa_nil)) pe_int (nomark _)) (pss_one (ps_ret (pv 1))) pss_nil)
      (pss_one (ps_ret (pe_tupleOf rfl (fr_tuple T) (pe_lc (own := [("_law_seat", 4)]) (g := gName 4) (by rfl) sc_law_next.nd (pi_tup (pv 1)) (blkOk_by (own := [("_law_seat", 4)]) (N := N_law_next) (sc := defScope s_law_next) (by decide +kernel))
        (fun _ _ _ _ _ => pg_name (i := 4) sc_law_next.nd rfl (Or.inl rfl)) (fun _ _ _ _ _ => pts_one (pt_cmpR op_ne (pv 4) (pe_ix (r := rIxL K) ix_list (pv 3) pe_int (fun _ _ => rfl)) (nomark _))) (fun _ _ _ _ _ => pv 4)))))), ?_⟩
    refine ⟨_, rfl, F, rfl, ⟨_, SqT.of hF⟩, fun D nD => ?_⟩
    have s1 := fun o => same_new (o := o) nD
    refine lc_it (walk_tup (xs := iv f)) (fun i H' => H' = upd H D (.lst (iv ((f.take i).filter (opn ls k))))) rfl (fun i H' _ e => by subst e; exact SqT.of (s1 _ _ _ hF)) (fun i x H1 H2 hi hP hY => ?_) (fun H1 hP => ?_)
    · obtain ⟨rfl, hx⟩ := hY
      obtain ⟨z, hz, rfl⟩ := iv_at hx
      subst hP
      have et : f.take (i + 1) = f.take i ++ [z] := by rw [List.take_add_one, hz]; rfl
      have hsm : (iv ((f.take i).filter (opn ls k))).length < sizeLine := by
        rw [iv_len]
        have l1 := List.length_filter_le (opn ls k) (f.take i)
        rw [List.length_take] at l1
        exact small1000 (by omega)
      obtain ⟨as, a, b1, b2, b3⟩ := (hL.same (s1 (.lst (iv ((f.take i).filter (opn ls k)))))).at_ (hlt z (List.mem_of_getElem? hz))
      refine ⟨rfl, _, rfl, _, rfl, _, rfl, L, _, _, .ref a, rfl, rfl, SqT.of b1, atI_nat b2, a, _, rfl, .inr (SqT.of b3), rfl, flat_strs _, _, rfl, ?_⟩
      show if inV (.str k) ((ls.getD z []).map V.str) = true then _ else _
      rw [inV_strs]
      have eo : decide (k ∈ ls.getD z []) = opn ls k z := rfl
      rw [eo]
      cases c : opn ls k z with
      | true =>
        refine iteT ⟨_, rfl, _, upd_same, hsm, ?_⟩
        rw [upd_upd, et, List.filter_append, List.filter_cons, if_pos c]
        unfold iv
        rw [List.map_append]
        rfl
      | false =>
        refine iteF ?_
        rw [et, List.filter_append, List.filter_cons, if_neg (by rw [c]; exact Bool.false_ne_true)]
        simp
    · rw [iv_len, List.take_length] at hP
      subst hP
      have sN := s1 (.lst (iv (f.filter (opn ls k))))
      refine ⟨_, rfl, _, _, rfl, .inl ⟨_, SqL.of upd_same, rfl⟩, rfl, _, rfl, ?_⟩
      have hh := fsts_head ls f k
      cases hq : f.filter (opn ls k) with
      | nil =>
        rw [hq] at hh
        refine iteT ?_
        rw [hq] at sN
        refine ⟨_, rfl, q F _ sN ?_⟩
        unfold nxt
        rw [hh]
        exact sN _ _ hF
      | cons sx rest =>
        rw [hq] at hh
        have hh : fsts ls f k = some sx := hh
        rw [decide_eq_false (fun z => by have := (int0 _).mp z; rw [iv_len] at this; simp at this)]
        refine iteF ?_
        rw [hq] at sN
        generalize hH1 : upd H D (.lst (iv (sx :: rest))) = H1 at sN
        have hD1 : H1 D = some (.lst (iv (sx :: rest))) := by rw [← hH1]; exact upd_same
        refine ⟨_, rfl, F, rfl, ⟨_, SqT.of (sN _ _ hF)⟩, fun D2 nD2 => ?_⟩
        have s2 := fun o => same_new (o := o) nD2
        refine lc_it (walk_tup (xs := iv f)) (fun i H' => H' = upd H1 D2 (.lst (iv ((f.take i).filter fun o => decide (o ≠ sx))))) rfl (fun i H' _ e => by subst e; exact SqT.of (s2 _ _ _ (sN _ _ hF))) (fun i x H2 H3 hi hP hY => ?_) (fun H2 hP => ?_)
        · obtain ⟨rfl, hx⟩ := hY
          obtain ⟨z, hz, rfl⟩ := iv_at hx
          subst hP
          have et : f.take (i + 1) = f.take i ++ [z] := by rw [List.take_add_one, hz]; rfl
          refine ⟨rfl, _, rfl, _, rfl, D, _, _, .int (sx : Nat), rfl, rfl, SqL.of (s2 _ _ _ hD1), atI_nat (j := 0) rfl, rfl, _, rfl, ?_⟩
          have hsm : (iv ((f.take i).filter fun o => decide (o ≠ sx))).length < sizeLine := by
            rw [iv_len]
            have l1 := List.length_filter_le (fun o => decide (o ≠ sx)) (f.take i)
            rw [List.length_take] at l1
            exact small1000 (by omega)
          by_cases e : z = sx
          · subst e
            rw [ndec_f (show V.int (z : Nat) = V.int (z : Nat) from rfl)]
            refine iteF ?_
            rw [et, List.filter_append, List.filter_cons, if_neg (by simp)]
            simp
          · rw [ndec_t (show ¬ V.int (z : Nat) = V.int (sx : Nat) from fun y => e (Int.ofNat_inj.mp (by injection y)))]
            refine iteT ?_
            refine ⟨_, rfl, _, upd_same, hsm, ?_⟩
            rw [upd_upd, et, List.filter_append, List.filter_cons, if_pos (decide_eq_true e)]
            unfold iv
            rw [List.map_append]
            rfl
        · rw [iv_len, List.take_length] at hP
          subst hP
          refine .inl ⟨D2, _, rfl, SqL.of upd_same, fun t ht => ?_⟩
          refine q t _ ((sN.trans (s2 _)).trans (same_new ht)) ?_
          unfold nxt
          rw [hh]
          exact upd_same
theorem cl_law_pairs : Cl P w K mg base CX0 2 "_law_pairs" P_law_pairs (spPairsL P w) := by
  refine cl_mk (fn_law_pairs T) (mg_law_pairs T) sc_law_pairs (bd_law_pairs) (fun vs H Q E h => ?_) (fun cdv A outer s H vs Q E hr h => ?_)
  · obtain ⟨_, _, _, _, _, _, rfl, _⟩ := h
    rfl
  · obtain ⟨ev, a, b, m, ls, ms, rfl, hev, h32, ha, hb, h40, h41, kQ⟩ := h
    obtain ⟨as0, ha0, hal⟩ := ha.len
    obtain ⟨bs0, hb0, hbl⟩ := hb.len
    refine ⟨_, pss_cons (ps_set (i := 4) sc_law_pairs.nd rfl (Or.inl rfl) (pe_tup (pa_cons (pe_tupRg rfl (by rfl) (fr_tuple T) (prg_1 (by rfl) (fr_range T) (pe_callB call_len (by rfl) (fr_len T) PySem.boot_len (pa_cons (pv 1) pa_nil))))
        (pa_cons (pe_tupRg rfl (by rfl) (fr_tuple T) (prg_1 (by rfl) (fr_range T) (pe_callB call_len (by rfl) (fr_len T) PySem.boot_len (pa_cons (pv 2) pa_nil)))) pa_nil))))
      (pss_cons (ps_set (i := 5) sc_law_pairs.nd rfl (Or.inl rfl) (pe_nddisp (hu16 hr) (pv 4) pe_int))
      (pss_cons (ps_set (i := 6) sc_law_pairs.nd rfl (Or.inl rfl) (pe_lst (pa_cons (pv 4) pa_nil)))
      (pss_cons (ps_for PassesOwn.never rfl (pi_range1 (by rfl) (fr_range T) (pa_cons (pe_op op_add (pv 3) pe_int) pa_nil)) (pg_name (i := 7) sc_law_pairs.nd rfl (Or.inl rfl))
        (pss_one (ps_if (PW.pt (pw_and (pt_cmpR op_lt (pv 7) (pe_callB call_len (by rfl) (fr_len T) PySem.boot_len (pa_cons (pv 6) pa_nil)) (nomark _)) (pw_and1 (pt_cmpR op_le (pe_callB call_len (by rfl) (fr_len T) PySem.boot_len (pa_cons (pv 6) pa_nil)) (pv 3) (nomark _)))))
          (pss_one (ps_for PassesOwn.never rfl (pi_list (pv 0)) (pg_name (i := 8) sc_law_pairs.nd rfl (Or.inl rfl))
            (pss_cons (ps_set (i := 9) sc_law_pairs.nd rfl (Or.inl rfl) (pe_tup (pa_cons (pe_cl (E := E0) (cl_law_next T) hr (by decide) rfl pass0 (pa_cons (pv 1) (pa_cons (pe_ix ix_tup (pe_ix ix_list (pv 6) (pv 7) (fun _ _ => rfl)) pe_int (fun _ _ => rfl)) (pa_cons (pv 8) pa_nil))))
              (pa_cons (pe_cl (E := E0) (cl_law_next T) hr (by decide) rfl pass0 (pa_cons (pv 2) (pa_cons (pe_ix ix_tup (pe_ix ix_list (pv 6) (pv 7) (fun _ _ => rfl)) pe_int (fun _ _ => rfl)) (pa_cons (pv 8) pa_nil)))) pa_nil))))
            (pss_one (ps_if (pt_cmp (pc_ndnotin (hu16 hr) (pv 9) (pv 5)))
              (pss_cons (ps_ndput (hu16 hr) (pv 5) (pv 9) (pe_op op_add (pe_ndget (hu16 hr) (pv 5) (pe_ix ix_list (pv 6) (pv 7) (fun _ _ => rfl)) (fun _ _ => rfl)) pe_int) rfl)
              (pss_one (ps_expr (pe_bm PySem.F.plainAttrs_list PySem.F.slot_list_append PySem.F.type_list_append mt_append (pv 6) (pa_cons (pv 9) pa_nil))))) pss_nil))))) pss_nil)))
      (pss_one (ps_ret (pv 5)))))), ?_⟩
    refine ⟨_, rfl, _, _, rfl, .inr ⟨_, SqT.of ha0, rfl⟩, _, rfl, RgOk.of_le (by omega) (by rw [List.length_map]; omega) (by omega) (by omega), fun f1 nf1 => ?_⟩
    have e1 := same_new (o := HO.tup (rgV 0 ((as0.map V.ref).length : Nat))) nf1
    refine ⟨_, rfl, _, _, rfl, .inr ⟨_, SqT.of (e1 _ _ hb0), rfl⟩, _, rfl, RgOk.of_le (by omega) (by rw [List.length_map]; omega) (by omega) (by omega), fun f2 nf2 => ?_⟩
    have e2 := same_new (o := HO.tup (rgV 0 ((bs0.map V.ref).length : Nat))) nf2
    refine ⟨by show 2 ≤ sizeLine; decide, fun st nst => ?_⟩
    have e3 := same_new (o := HO.tup [.ref f1, .ref f2]) nst
    have ea : rgV 0 ((as0.map V.ref).length : Nat) = iv (List.range ls.length) := by rw [List.length_map, hal]; exact rg_iv _
    have eb : rgV 0 ((bs0.map V.ref).length : Nat) = iv (List.range ms.length) := by rw [List.length_map, hbl]; exact rg_iv _
    have kst : KeyAt (upd (upd (upd H f1 (.tup (rgV 0 ((as0.map V.ref).length : Nat)))) f2 (.tup (rgV 0 ((bs0.map V.ref).length : Nat)))) st (.tup [.ref f1, .ref f2])) st (startP ls ms) := by
      refine ⟨f1, f2, upd_same, ?_, ?_⟩
      · have z := e3 _ _ (e2 _ _ (upd_same (H := H) (a := f1) (o := HO.tup (rgV 0 ((as0.map V.ref).length : Nat)))))
        rw [ea] at z ⊢
        exact z
      · have z := e3 _ _ (upd_same (H := upd H f1 (.tup (rgV 0 ((as0.map V.ref).length : Nat)))) (a := f2) (o := HO.tup (rgV 0 ((bs0.map V.ref).length : Nat))))
        rw [eb] at z ⊢
        exact z
    have s2 : Same H (upd (upd (upd H f1 (.tup (rgV 0 ((as0.map V.ref).length : Nat)))) f2 (.tup (rgV 0 ((bs0.map V.ref).length : Nat)))) st (.tup [.ref f1, .ref f2])) := (e1.trans e2).trans e3
    generalize upd (upd (upd H f1 (.tup (rgV 0 ((as0.map V.ref).length : Nat)))) f2 (.tup (rgV 0 ((bs0.map V.ref).length : Nat)))) st (.tup [.ref f1, .ref f2]) = H2 at kst s2 ⊢
    refine fun d nd o0 => ⟨_, rfl, ?_⟩
    refine ⟨upd_same, st, startP ls ms, .int 0, rfl, kst.keep (stk (same_new nd)), fun o1 hdo => ?_⟩
    refine ⟨_, rfl, by show 1 ≤ sizeLine; decide, fun x0 nx0 => ?_⟩
    have s4 : Same H2 (upd (upd H2 d (EX d o0)) d (EX d o1)) := fun c o q => by
      rw [upd_ne (ne_of_none q nd), upd_ne (ne_of_none q nd)]
      exact q
    have s5 : Same H (upd (upd (upd H2 d (EX d o0)) d (EX d o1)) x0 (.lst [.ref st])) := (s2.trans s4).trans (same_new nx0)
    have nHd : H d = none := s2.free nd
    have nHx : H x0 = none := (s2.trans s4).free nx0
    have ndx : d ≠ x0 := ne_of_none upd_same nx0
    have F0 : LFnd P w (kindsOf m) ls ms (upd (upd (upd H2 d (EX d o0)) d (EX d o1)) x0 (.lst [.ref st])) d o1 [(startP ls ms, .int 0)] := by
      refine LFnd.keep ⟨hdo, fun y hy => ?_, fun p hp => ?_, List.mem_cons_self⟩ (upd_ne ndx) (stk (same_new nx0))
      · have ey : y = (startP ls ms, .int 0) := by simpa using hy
        subst ey
        exact ⟨0, rfl⟩
      · have ep : p = startP ls ms := by simpa using hp
        subst ep
        exact reach_start _ _ _
    refine ⟨_, rfl, _, _, rfl, rfl, _, rfl, by decide, by decide, ?_⟩
    refine for_it (walk_range (lo := 0) (n := ((3000 : Int) + 1).toNat)) (fun i σ H' => ∃ (o : Obj) (kvs : List (Pr × V)) (as : List Addr) (v7 v8 v9 : Option V), σ = [some (.ref ev), some (.ref a), some (.ref b), some (.int 3000), some (.ref st), some (.ref d), some (.ref x0), v7, v8, v9] ∧ Same H H' ∧
        LFnd P w (kindsOf m) ls ms H' d o kvs ∧ H' x0 = some (.lst (as.map V.ref)) ∧ Paired (fun a p => KeyAt H' a p) as (kvs.map Prod.fst) ∧ kvs.length ≤ 3032 ∧ (3000 < kvs.length ∨ Cov (kindsOf m) ls ms (kvs.map Prod.fst) (fun p : Pr => p ∈ (kvs.map Prod.fst).drop i)))
      ⟨o1, _, [st], none, none, none, rfl, s5, F0, upd_same, .cons (kst.keep (stk (s4.trans (same_new nx0)))) .nil, by show 1 ≤ 3032; decide, .inr fun p hp => .inl hp⟩ (fun _ _ _ _ _ => True.intro) (fun i x σ H5 H6 hi hP hY => ?_) (fun σ H5 hP => ?_)
    · obtain ⟨o, kvs, as, v7, v8, v9, rfl, sH, hF, hx, hps, hlen, hcov⟩ := hP
      obtain ⟨rfl, hxx⟩ := hY
      have hx2 : x = V.int (i : Nat) := hxx.trans (by show V.int (0 + ((i : Nat) : Int)) = _; rw [Int.zero_add])
      subst hx2
      have hpl := Paired.length hps
      rw [List.length_map] at hpl
      have el : (as.map V.ref).length = kvs.length := by rw [List.length_map, hpl]
      refine ⟨_, rfl, _, rfl, _, _, rfl, .inl ⟨_, SqL.of hx, rfl⟩, _, _, rfl, rfl, _, rfl, ?_⟩
      by_cases c1 : i < kvs.length
      · rw [decide_eq_true (show ((i : Nat) : Int) < ((as.map V.ref).length : Nat) by rw [el]; omega)]
        refine iteT ?_
        refine ⟨_, rfl, _, _, rfl, .inl ⟨_, SqL.of hx, rfl⟩, _, rfl, _, _, rfl, rfl, _, rfl, ?_⟩
        by_cases c2 : kvs.length ≤ 3000
        · rw [decide_eq_true (show (((as.map V.ref).length : Nat) : Int) ≤ 3000 by rw [el]; omega)]
          refine iteT ?_
          have hcov : Cov (kindsOf m) ls ms (kvs.map (·.1)) (fun p : Pr => p ∈ (kvs.map (·.1)).drop i) := by
            rcases hcov with z | z
            · omega
            · exact z
          obtain ⟨p, hp⟩ : ∃ p, (kvs.map (·.1))[i]? = some p := ⟨_, List.getElem?_eq_getElem (by rw [List.length_map]; exact c1)⟩
          refine ⟨_, rfl, ev, rfl, ⟨_, SqL.of (sH _ _ hev)⟩, for_it (walk_list (xs := (kindsOf m).map V.str)) (fun j σ H' => ∃ (o : Obj) (kvs : List (Pr × V)) (as : List Addr) (v8 v9 : Option V), σ = [some (.ref ev), some (.ref a), some (.ref b), some (.int 3000), some (.ref st), some (.ref d), some (.ref x0), some (.int (i : Nat)), v8, v9] ∧ Same H H' ∧
              LFnd P w (kindsOf m) ls ms H' d o kvs ∧ H' x0 = some (.lst (as.map V.ref)) ∧ Paired (fun a p => KeyAt H' a p) as (kvs.map Prod.fst) ∧ kvs.length ≤ 3000 + j ∧ (kvs.map Prod.fst)[i]? = some p ∧ Cov (kindsOf m) ls ms (kvs.map Prod.fst) (fun p : Pr => p ∈ (kvs.map Prod.fst).drop i) ∧ ∀ k ∈ (kindsOf m).take j, nxtP ls ms p k ∈ kvs.map Prod.fst)
            ⟨o, kvs, as, v8, v9, rfl, sH, hF, hx, hps, c2, hp, hcov, fun k hk => nomatch hk⟩ (fun j σ H' _ hP => by obtain ⟨_, _, _, _, _, _, z, _⟩ := hP; exact SqL.of (z _ _ hev)) (fun j y σ H7 H8 hj hP hY => ?_) (fun σ H7 hP => ?_)⟩
          · obtain ⟨o2, kvs2, as2, v8', v9', rfl, sH7, hF7, hx7, hps7, hl7, hp7, hcov7, hk7⟩ := hP
            obtain ⟨rfl, hy⟩ := hY
            rw [List.getElem?_map] at hy
            obtain ⟨k, hk, rfl⟩ := Option.map_eq_some_iff.mp hy
            rw [List.length_map] at hj
            have hkm : k ∈ kindsOf m := List.mem_of_getElem? hk
            have ekt : (kindsOf m).take (j + 1) = (kindsOf m).take j ++ [k] := by rw [List.take_add_one, hk]; rfl
            have hpk : p ∈ kvs2.map (·.1) := List.mem_of_getElem? hp7
            have hsub := reach_sub (hF7.r p hpk)
            obtain ⟨aa, haa, hkat⟩ := paired_at hps7 hp7
            obtain ⟨xa, ya, hk1, hk2, hk3⟩ := id hkat
            have hix : (as2.map V.ref)[i]? = some (.ref aa) := by rw [List.getElem?_map, haa]; rfl
            refine ⟨_, rfl, _, rfl, _, rfl, x0, _, _, .ref aa, rfl, rfl, SqL.of hx7, atI_nat hix, aa, _, _, .ref xa, rfl, rfl, SqT.of hk1, rfl, _, rfl, a, xa, k, ls, p.1, rfl, ha.same sH7, h40, hk2, hsub.1, fun g1 H9 s9 t9 => ?_⟩
            refine ⟨_, rfl, _, rfl, _, rfl, x0, _, _, .ref aa, rfl, rfl, SqL.of (s9 _ _ hx7), atI_nat hix, aa, _, _, .ref ya, rfl, rfl, SqT.of (s9 _ _ hk1), rfl, _, rfl, b, ya, k, ms, p.2, rfl, hb.same (sH7.trans s9), h41, s9 _ _ hk3, hsub.2, fun g2 H10 s10 t10 => ?_⟩
            refine ⟨by show 2 ≤ sizeLine; decide, fun g ng => ?_⟩
            have kg : KeyAt (upd H10 g (.tup [.ref g1, .ref g2])) g (nxtP ls ms p k) := ⟨g1, g2, upd_same, same_new ng _ _ (s10 _ _ t9), same_new ng _ _ t10⟩
            have sA : Same H8 (upd H10 g (.tup [.ref g1, .ref g2])) := (s9.trans s10).trans (same_new ng)
            generalize upd H10 g (.tup [.ref g1, .ref g2]) = H11 at kg sA ⊢
            have hdA := hF7.d.keep (son sA hF7.d.ob) (stk sA)
            refine ⟨_, rfl, _, rfl, d, g, o2, kvs2, nxtP ls ms p k, rfl, rfl, hdA, kg, _, rfl, ?_⟩
            cases hv : valV kvs2 (nxtP ls ms p k) with
            | some v =>
              refine iteF ?_
              refine ⟨o2, kvs2, as2, _, _, rfl, sH7.trans sA, hF7.keep (son sA hF7.d.ob) (stk sA), sA _ _ hx7, Paired.mapP hps7 fun _ _ z => z.keep (stk sA), by omega, hp7, hcov7, fun c hc => ?_⟩
              rw [ekt] at hc
              rcases List.mem_append.mp hc with z | z
              · exact hk7 c z
              · obtain rfl : c = k := by simpa using z
                exact valV_in hv
            | none =>
              refine iteT ?_
              obtain ⟨c, hc⟩ := val_int hF7.i hpk
              refine ⟨_, rfl, _, rfl, _, rfl, x0, _, _, .ref aa, rfl, rfl, SqL.of (sA _ _ hx7), atI_nat hix, d, aa, o2, kvs2, p, .int c, rfl, rfl, hdA, hkat.keep (stk sA), hc, _, _, rfl, rfl, ?_⟩
              refine ⟨_, rfl, _, rfl, d, g, o2, kvs2, nxtP ls ms p k, rfl, rfl, hdA, kg, hv, xd_len (by omega), fun o3 hd3 => ?_⟩
              have tk3 : Tk H11 (upd H11 d (EX d o3)) := tk_upd hdA.ob (fun xs z => by cases z)
              have hxA := sA _ _ hx7
              have xd : x0 ≠ d := Ne.symm ndx
              have hx3 : upd H11 d (EX d o3) x0 = some (.lst (as2.map V.ref)) := by
                rw [upd_ne xd]
                exact hxA
              have hal2 := Paired.length hps7
              rw [List.length_map] at hal2
              refine ⟨_, rfl, .inl ⟨rfl, _, SqL.of hx3⟩, _, rfl, x0, _, _, rfl, rfl, hx3, xd_len (by rw [List.length_map]; omega), ?_⟩
              have tk4 : Tk (upd H11 d (EX d o3)) (upd (upd H11 d (EX d o3)) x0 (.lst (as2.map V.ref ++ [.ref g]))) := tk_upd hx3 (fun xs z => by cases z)
              have tkA : Tk H8 (upd (upd H11 d (EX d o3)) x0 (.lst (as2.map V.ref ++ [.ref g]))) := fun c xs z => tk4 _ _ (tk3 _ _ (stk sA _ _ z))
              have ekm : (kvs2 ++ [(nxtP ls ms p k, V.int (c + 1))]).map (·.1) = kvs2.map (·.1) ++ [nxtP ls ms p k] := by rw [List.map_append]; rfl
              have hi2 : i < (kvs2.map (·.1)).length := (List.getElem?_eq_some_iff.mp hp7).1
              have hdr : (kvs2.map (·.1) ++ [nxtP ls ms p k]).drop i = (kvs2.map (·.1)).drop i ++ [nxtP ls ms p k] := List.drop_append_of_le_length (by omega)
              refine ⟨o3, _, as2 ++ [g], _, _, rfl, fun e u z => ?_, LFnd.keep ⟨hd3, fun y hy => ?_, fun q hq => ?_, ?_⟩ (upd_ne ndx) tk4, by rw [upd_same, List.map_append]; rfl, ?_, by rw [List.length_append]; show _ + 1 ≤ _; omega, ?_, ?_, fun e he => ?_⟩
              · rw [upd_ne (ne_of_none z nHx), upd_ne (ne_of_none z nHd)]
                exact (sH7.trans sA) _ _ z
              · rcases List.mem_append.mp hy with z | z
                · exact hF7.i y z
                · have ey : y = (nxtP ls ms p k, V.int (c + 1)) := by simpa using z
                  subst ey
                  exact ⟨c + 1, rfl⟩
              · rw [ekm] at hq
                rcases List.mem_append.mp hq with z | z
                · exact hF7.r q z
                · obtain rfl : q = nxtP ls ms p k := by simpa using z
                  exact reach_step (hF7.r p hpk) hkm
              · rw [ekm]
                exact List.mem_append_left _ hF7.s
              · rw [ekm]
                exact (Paired.mapP hps7 fun _ _ z => z.keep tkA).snoc ((kg.keep tk3).keep tk4)
              · rw [ekm, List.getElem?_append_left hi2]
                exact hp7
              · rw [ekm, hdr]
                exact hcov7.grow (fun _ z => List.mem_append_left _ z) (List.mem_append_right _ List.mem_cons_self)
              · rw [ekm]
                rw [ekt] at he
                rcases List.mem_append.mp he with z | z
                · exact List.mem_append_left _ (hk7 e z)
                · obtain rfl : e = k := by simpa using z
                  exact List.mem_append_right _ List.mem_cons_self
          · obtain ⟨o2, kvs2, as2, v8', v9', rfl, sH7, hF7, hx7, hps7, hl7, hp7, hcov7, hk7⟩ := hP
            rw [List.length_map, List.take_length] at hk7
            rw [List.length_map] at hl7
            refine ⟨o2, kvs2, as2, _, _, _, rfl, sH7, hF7, hx7, hps7, by omega, .inr fun q hq => ?_⟩
            rcases hcov7 q hq with z | z
            · rw [mem_drop hp7] at z
              rcases List.mem_cons.mp z with e | z
              · subst e
                exact .inr hk7
              · exact .inl z
            · exact .inr z
        · rw [decide_eq_false (show ¬ (((as.map V.ref).length : Nat) : Int) ≤ 3000 by rw [el]; omega)]
          refine iteF ?_
          exact ⟨o, kvs, as, _, _, _, rfl, sH, hF, hx, hps, hlen, .inl (by omega)⟩
      · rw [decide_eq_false (show ¬ ((i : Nat) : Int) < ((as.map V.ref).length : Nat) by rw [el]; omega)]
        refine iteF ?_
        refine ⟨o, kvs, as, _, _, _, rfl, sH, hF, hx, hps, hlen, ?_⟩
        rcases hcov with z | z
        · exact .inl z
        · refine .inr fun q hq => ?_
          rcases z q hq with y | y
          · rw [List.drop_of_length_le (by rw [List.length_map]; omega)] at y
            exact nomatch y
          · exact .inr y
    · obtain ⟨o, kvs, as, v7, v8, v9, rfl, sH, hF, hx, hps, hlen, hcov⟩ := hP
      refine ⟨_, rfl, kQ d o kvs H5 sH hF (by omega) ?_⟩
      by_cases c : 3000 < kvs.length
      · exact .inl c
      · rcases hcov with z | z
        · exact .inl z
        · refine .inr fun q hq => ?_
          rcases z q hq with y | y
          · rw [List.drop_of_length_le (by rw [List.length_map]; show _ ≤ 3001; omega)] at y
            exact nomatch y
          · exact .inr y
end
end NF

set_option Elab.async false
set_option linter.all false
set_option maxRecDepth 100000
set_option maxHeartbeats 4000000
/-! _law_told: what the law makes of the call that it is handed. -/
namespace NF
open PySem PySem.Spec PyProof.Rows L2 NFM NFW
/-- a wish need hold at states of the right length alone -/
theorem takesLen {X : Cx} {W : WX} (tk : Takes X W) : Takes X (fun c d σ H => σ.length = X.N.length → W c d σ H) := fun u s' ⟨a, B, sI, pins, σ, H, cls, d, e, I, nb, up, sky, na, os, ag, w⟩ =>
  tk u s' ⟨a, B, sI, pins, σ, H, cls, d, e, I, nb, up, sky, na, os, ag, w I.len⟩
/-- TooMany comes out: told as ("many", its most) -/
def EchQ (C : Addr) (Q : VK) : XK := fun cls d H' => cls = .ref C ∧ ∃ (dd : Addr) (v : V), d = some dd ∧ H' dd = some (.xd [(("most" : Str), v)]) ∧ ∀ p, H' p = none → Q (.ref p) (upd H' p (.tup [.str "many", v]))
def TTold (C : Addr) : (XK → Hp → VK → Prop) → Hp → VK → Prop := fun tl H Q => ∀ p0, H p0 = none → ∀ Qt : VK, (∀ v H1, (∀ p, H1 p = none → Q (.ref p) (upd H1 p (.tup [.str "told", v]))) → Qt v H1) → tl (EchQ C Q) (upd H p0 (.tup [.str "none"])) Qt
theorem xf_TooMany {K : PySem.W.Frag} {mg : Str → Option Value} (T : Txt K mg) : XfC K (He.ga K "TooMany") := by
  have h := T.e
  unfold ex at h
  exact xfB_ok (Bool.and_eq_true_iff.mp (Bool.and_eq_true_iff.mp h).2).1
theorem told_gives {X : Cx} (T : Txt X.K X.mg) (g : Addr) (cdg : Value) (q : Str) : LamX.GivesTo X N_law_told "_law_told" (defScope s_law_told) g cdg (defBody s_law_told) "_law_call" q (TTold (He.ga X.K "TooMany")) := by
  intro f c' s H Q tl act hc h
  refine ⟨_, pss_cons (ps_set (i := 1) sc_law_told.nd rfl (Or.inl rfl) (pe_tup (pa_cons pe_str pa_nil)))
    (pss_cons (ps_try_as (X := (cxOf C8.CX0 X.prog X.w X.K X.mg X.base N_law_told "_law_told" (defScope s_law_told) g cdg X.A X.stack s H C8.E0).nox) (i := 2) (c := .ref (He.ga X.K "TooMany"))
      (tb := fun W D σ H => ∃ Ech : XK, (∀ cls d σ' H', Ech cls d H' → σ'.length = 3 → W cls d σ' H') ∧ σ[0]? = some (some (.ref f)) ∧ H c' = some (LamX.CodeO c' q) ∧ tl Ech H (fun v H1 => ([V.str "told", v] : List V).length ≤ sizeLine ∧ ∀ p, H1 p = none → D.nx (σ.set 1 (some (.ref p))) (upd H1 p (.tup [.str "told", v]))))
      rfl rfl sc_law_told.nd rfl rfl ⟨rfl, by decide, .inl (mg_TooMany T)⟩ LamX.takes0 (fun W pn xe tk _ => ?_)
      (fun a oe cls d pn hz hf => pss_one (ps_set (i := 1) sc_law_told.nd rfl (Or.inl rfl) (pe_tup (pa_cons pe_str (pa_cons (pe_xf (xf_TooMany T) (noat_TooMany_most T) hz hf (pv 2)) pa_nil))))))
    (pss_one (ps_ret (pv 1)))), ?_⟩
  · refine ⟨fun pins s' σ H' D I h' => ?_⟩
    obtain ⟨Ech, hW, h1, h2, h3⟩ := h'
    have hp := fun p1 p2 => act _ pn xe Ech p1 p2 (takesLen tk) hW
    exact PSs.run (pss_one (ps_set (i := 1) sc_law_told.nd rfl (Or.inl rfl) (pe_tup (pa_cons pe_str (pa_cons (hp _ _) pa_nil))))) pins s' σ H' D I ⟨h1, h2, h3⟩
  · refine ⟨by show 1 ≤ sizeLine; decide, fun p0 np0 => ?_⟩
    refine ⟨EchQ (He.ga X.K "TooMany") Q, fun cls d σ' H' he hl => ?_, rfl, by rw [upd_ne (ne_of_none hc np0)]; exact hc, h p0 np0 _ fun v H1 hv => ⟨by show 2 ≤ sizeLine; decide, fun p np => ⟨_, rfl, hv p np⟩⟩⟩
    obtain ⟨rfl, dd, v, rfl, hdd, hq⟩ := he
    refine ⟨true, exm_TooMany T, fun _ a na => ?_, fun z => Bool.noConfusion z⟩
    match σ', hl with
    | [x, y, z], _ =>
      refine ⟨_, rfl, rfl, rfl, dd, _, v, rfl, hdd, by rw [lookup_put, if_pos rfl], by show 2 ≤ sizeLine; decide, fun p np => ?_⟩
      exact ⟨_, rfl, hq p np⟩
end NF

set_option Elab.async false
set_option linter.all false
set_option maxRecDepth 100000
set_option maxHeartbeats 4000000
/-! _law_is_paper, _law_is_right. -/
namespace NF
open PySem PySem.Spec PyProof.Rows L2 NFM NFW
theorem seats_pre {H1 : Hp} {x dx C : Addr} (nx : H1 x = none) (nd : H1 dx = none) : Same H1 (upd (upd H1 dx (.own x)) x (.ins C dx [])) := fun b o e => by
  rw [upd_ne (ne_of_none e nx), upd_ne (ne_of_none e nd)]
  exact e
theorem seats_post {K : PySem.W.Frag} {H1 H' : Hp} {x dx L : Addr} {m : Str} {ls : List (List Str)} (nx : H1 x = none) (nd : H1 dx = none) (hL : Lots H1 L ls) (kp : ∀ b o, upd (upd H1 dx (.own x)) x (.ins (He.ga K "Seats") dx []) b = some o → b ≠ x → H' b = some o) (hx : H' x = some (.ins (He.ga K "Seats") dx (flds m L))) :
    Same H1 H' ∧ SeatsAt K H' x m ls := by
  have s1 : Same H1 H' := fun b o e => kp b o (seats_pre nx nd b o e) (ne_of_none e nx)
  exact ⟨s1, dx, L, hx, hL.same s1⟩
def spPaper : Sp := fun vs H Q _ => ∃ (m : Str) (ev a b R : Addr) (ls ms : List (List Str)) (r : List Str), vs = [.str m, .ref ev, .ref a, .ref b, .ref R] ∧ H ev = some (.lst ((kindsOf m).map V.str)) ∧ EOk m ∧ Lots H a ls ∧ Lots H b ms ∧ LtE m ls 40 ∧ LtE m ms 40 ∧
  TupS H R r ∧ (∀ k ∈ r, k ∈ kindsOf m) ∧ r.length ≤ 80 ∧ many ls r < many ms r ∧ ∀ H', Same H H' → Q (.bl true) H'
/-- the law's own code object, its table of lambdas -/
abbrev rC (K : PySem.W.Frag) : Addr × Addr := He.cT K ("_law_is_right", none)
def lamQ : Str := (envOfC "_law_is_right" (defScope s_law_is_right) 0 0 .none).qual ++ "<lambda>"
abbrev TB1 (K : PySem.W.Frag) : List (Addr × Str) := [((rC K).2, lamQ)]
def spRight (K : PySem.W.Frag) : Sp := fun vs H Q _ => ∃ (m : Str) (ev a b : Addr) (ls ms : List (List Str)), vs = [.str m, .ref ev, .ref a, .ref b] ∧ H ev = some (.lst ((kindsOf m).map V.str)) ∧ EOk m ∧ Lots H a ls ∧ Lots H b ms ∧ LtE m ls 40 ∧ LtE m ms 40 ∧ LamX.Tabs (TB1 K) H ∧
  ∀ H', LamX.ExtN H H' → LamX.Tabs (TB1 K) H' → Q (.bl true) H'
theorem ext_tk {H H' : Hp} (e : LamX.ExtN H H') : Tk H H' := fun c xs h => e c _ h (fun ps z => by cases z)
theorem ext_seats {K : PySem.W.Frag} {H H' : Hp} {p : Addr} {m : Str} {ls : List (List Str)} (h : SeatsAt K H p m ls) (e : LamX.ExtN H H') : SeatsAt K H' p m ls := by
  obtain ⟨dx, L, h1, h2⟩ := h
  exact ⟨dx, L, e _ _ h1 (fun ps z => by cases z), h2.keep (ext_tk e)⟩
theorem ext_same {H H' : Hp} (s : Same H H') : LamX.ExtN H H' := LamX.ExtN.of s
theorem LFnd.manyP {P : Program} {w : World} {E : List Str} {ls ms : List (List Str)} {H : Hp} {a : Addr} {o : Obj} {kvs : List (Pr × V)} (h : LFnd P w E ls ms H a o kvs) (hl : 3000 < kvs.length) : Many E ls ms :=
  ⟨kvs.map (·.1), by rw [List.length_map]; exact hl, h.d.nodup, h.r⟩
theorem LFnd.all {P : Program} {w : World} {E : List Str} {ls ms : List (List Str)} {H : Hp} {a : Addr} {o : Obj} {kvs : List (Pr × V)} (h : LFnd P w E ls ms H a o kvs) (hc : Cov E ls ms (kvs.map (·.1)) (fun _ => False)) : ∀ p, Reach E ls ms p → p ∈ kvs.map (·.1) :=
  reach_closed h.s fun p hp k hk => by
    rcases hc p hp with z | z
    · exact z.elim
    · exact z k hk
theorem LFnd.fewP {P : Program} {w : World} {E : List Str} {ls ms : List (List Str)} {H : Hp} {a : Addr} {o : Obj} {kvs : List (Pr × V)} (h : LFnd P w E ls ms H a o kvs) (hc : Cov E ls ms (kvs.map (·.1)) (fun _ => False)) (hl : kvs.length ≤ 3000) : Few E ls ms :=
  ⟨kvs.map (·.1), by rw [List.length_map]; exact hl, h.all hc⟩
theorem ext_do {P : Program} {w : World} {H H' : Hp} {a : Addr} {o : Obj} {kvs : List (Pr × V)} (d : DO P w H a o kvs) (e : LamX.ExtN H H') : DO P w H' a o kvs := d.keep ((e _ _ d.ob (fun ps z => by cases z)).trans d.ob.symm) (ext_tk e)
theorem many_data : PyData.eqv (.tuple [.str "many", .int 3000]) (.tuple [.str "many", .int 3000]) = true := PySem.SeqAt.eqv_refl _ (by decide +kernel)
section
variable {P : Program} {w : World} {K : PySem.W.Frag} {mg : Str → Option Value} {base : Heap} (T : Txt K mg)
include T
theorem cl_law_is_paper : Cl P w K mg base CX0 7 "_law_is_paper" P_law_is_paper spPaper := by
  refine cl_mk (fn_law_is_paper T) (mg_law_is_paper T) sc_law_is_paper (bd_law_is_paper) (fun vs H Q E h => ?_) (fun cdv A outer s H vs Q E hr h => ?_)
  · obtain ⟨_, _, _, _, _, _, _, _, rfl, _⟩ := h
    rfl
  · obtain ⟨m, ev, a, b, R, ls, ms, r, rfl, hev, eok, ha, hb, hls, hms, hR, hrk, hr80, hlt, k⟩ := h
    refine ⟨_, pss_cons (ps_if (PW.pt (pw_or (pt_not (pt_val (pe_callB call_isi (by rfl) (fr_isinstance T) (by decide +kernel) (pa_cons (pv 4) (pa_cons (pe_bltn (v := .ty "tuple") (by rfl) (fr_tuple T) (by decide +kernel) rfl) pa_nil)))))
        (pw_or (pt_cmpR op_gt (pe_callB call_len (by rfl) (fr_len T) PySem.boot_len (pa_cons (pv 4) pa_nil)) pe_int (nomark _))
        (pw_or1 (pt_cmpR op_gt (pe_callB call_len (by rfl) (fr_len T) PySem.boot_len (pa_cons (pe_lc (own := [("_law_kind", 5)]) (g := gName 5) (by rfl) sc_law_is_paper.nd (pi_tup (pv 4)) (blkOk_by (own := [("_law_kind", 5)]) (N := N_law_is_paper) (sc := defScope s_law_is_paper) (by decide +kernel))
          (fun _ _ _ _ _ => pg_name (i := 5) sc_law_is_paper.nd rfl (Or.inl rfl)) (fun _ _ _ _ _ => pts_one (pt_cmpR (r := rIn K true) op_notIn_seq (pv 5) (pv 1) (by rfl))) (fun _ _ _ _ _ => pv 5)) pa_nil)) pe_int (nomark _))))))
        (pss_one (ps_ret pe_bl)) pss_nil)
      (pss_cons (ps_if (pt_not (pt_val (pe_cl (E := E0) (cl_law_flag T) hr (by decide) rfl pass0 (pa_cons (pe_cl (E := E0) (cl_is_fewer T) hr (by decide) rfl pass0
          (pa_cons (pe_seats T hr (by decide) rfl (pa_cons (pv 0) (pa_cons (pv 2) pa_nil))) (pa_cons (pe_seats T hr (by decide) rfl (pa_cons (pv 0) (pa_cons (pv 3) pa_nil))) (pa_cons (pv 4) pa_nil)))) (pa_cons pe_bl pa_nil))))) (pss_one (ps_ret pe_bl)) pss_nil)
      (pss_one (ps_ret (pe_cmpR op_lt (pe_cl (E := E0) (cl_law_many T) hr (by decide) rfl pass0 (pa_cons (pv 2) (pa_cons (pv 4) pa_nil))) (pe_cl (E := E0) (cl_law_many T) hr (by decide) rfl pass0 (pa_cons (pv 3) (pa_cons (pv 4) pa_nil))) (nomark _))))), ?_⟩
    have el : (r.map V.str).length = r.length := List.length_map _
    refine ⟨_, rfl, _, _, _, _, true, rfl, .ty _, .base (.tup hR), kit_ty (by decide +kernel), _, rfl, ?_⟩
    refine iteF ?_
    refine ⟨_, rfl, _, _, rfl, .inr ⟨_, SqT.of hR, rfl⟩, _, _, rfl, rfl, _, rfl, ?_⟩
    rw [decide_eq_false (show ¬ (200 : Int) < ((r.map V.str).length : Nat) by rw [el]; omega)]
    refine iteF ?_
    refine ⟨_, rfl, R, rfl, ⟨_, SqT.of hR⟩, fun D nD => ?_⟩
    have s1 := fun o => same_new (o := o) nD
    refine lc_it (walk_tup (xs := r.map V.str)) (fun i H' => H' = upd H D (.lst [])) rfl (fun i H' _ e => by subst e; exact SqT.of (s1 _ _ _ hR)) (fun i x H1 H2 hi hP hY => ?_) (fun H1 hP => ?_)
    · obtain ⟨rfl, hx⟩ := hY
      rw [List.getElem?_map] at hx
      obtain ⟨z, hz, rfl⟩ := Option.map_eq_some_iff.mp hx
      subst hP
      refine ⟨rfl, _, rfl, _, rfl, ev, _, rfl, .inl (SqL.of (s1 _ _ _ hev)), rfl, flat_strs _, _, rfl, ?_⟩
      show if (!inV (.str z) ((kindsOf m).map V.str)) = true then _ else _
      rw [inV_strs, decide_eq_true (hrk z (List.mem_of_getElem? hz))]
      exact iteF rfl
    · subst hP
      refine ⟨_, _, rfl, .inl ⟨_, SqL.of upd_same, rfl⟩, _, _, rfl, rfl, _, rfl, ?_⟩
      refine iteF ?_
      have s1 := s1 (.lst [])
      generalize upd H D (.lst []) = H1 at s1
      refine ⟨_, rfl, _, rfl, fun p1 d1 np1 nd1 ne1 => ⟨p1, d1, m, a, ls, rfl, upd_same, (ha.same s1).same (seats_pre np1 nd1), lots_b eok hls.each hls.most, fun H2 kp1 hx1 => ⟨rfl, ?_⟩⟩⟩
      obtain ⟨s2, hp1⟩ := seats_post np1 nd1 (ha.same s1) kp1 hx1
      refine ⟨_, rfl, _, rfl, fun p2 d2 np2 nd2 ne2 => ⟨p2, d2, m, b, ms, rfl, upd_same, (hb.same (s1.trans s2)).same (seats_pre np2 nd2), lots_b eok hms.each hms.most, fun H3 kp2 hx2 => ⟨rfl, ?_⟩⟩⟩
      obtain ⟨s3, hp2⟩ := seats_post np2 nd2 (hb.same (s1.trans s2)) kp2 hx2
      have sA := (s1.trans s2).trans s3
      refine ⟨_, rfl, p1, p2, R, m, ls, ms, r, rfl, hp1.same s3, hp2, hls.most, hms.most, sA _ _ hR, row_b eok hrk, by omega, fun H4 s4 => ?_⟩
      refine ⟨_, _, rfl, _, rfl, ?_⟩
      rw [decide_eq_true hlt]
      refine iteF ?_
      have sB := sA.trans s4
      refine ⟨_, rfl, _, rfl, a, R, ls, r, rfl, ha.same sB, hls.most, sB _ _ hR, by omega, fun H5 s5 => ?_⟩
      have sC := sB.trans s5
      refine ⟨_, rfl, _, rfl, b, R, ms, r, rfl, hb.same sC, hms.most, sC _ _ hR, by omega, fun H6 s6 => ?_⟩
      refine ⟨_, _, rfl, rfl, ?_⟩
      have e : decide ((many ls r : Int) < (many ms r : Int)) = true := decide_eq_true (by omega)
      show Q (.bl (decide ((many ls r : Int) < (many ms r : Int)))) H6
      rw [e]
      exact k H6 (sC.trans s6)
theorem cl_law_is_right (TB : LamX.TabB base mg (rC K).1 (rC K).2) : Cl P w K mg base CX0 10 "_law_is_right" P_law_is_right (spRight K) := by
  obtain ⟨fd, F⟩ := fn_law_is_right T
  refine ⟨He.ga K "_law_is_right", fd, ?_, mg_law_is_right T, F.kp, F.bindsN bd_law_is_right⟩
  obtain ⟨oc, od, dV, kV, doc, pm, an, cdv, ct, osl, rfl, lk, hcd, _, _⟩ := F.ex
  obtain ⟨c, rfl⟩ := He.codeIn_ref hcd
  have ec : (rC K).1 = c := He.codeOf_eq (p := ("_law_is_right", none)) lk rfl
  obtain ⟨fdT, FT⟩ := fn_law_told T
  have bT := FT.bindsN bd_law_told
  have kT := FT.kp
  obtain ⟨ocT, odT, dVT, kVT, docT, pmT, anT, cdT, ctT, oslT, rfl, lkT, hcdT, _, _⟩ := FT.ex
  refine fn_of lk hcd sc_law_is_right (fun vs H Q E h => ?_) (fun A outer s H vs Q E hr h => ?_)
  · obtain ⟨_, _, _, _, _, _, rfl, _⟩ := h
    rfl
  · obtain ⟨m, ev, a, b, ls, ms, rfl, hev, eok, ha, hb, hls, hms, hT, k⟩ := h
    refine ⟨_, PSs.nox (pss_cons (ps_set (i := 8) sc_law_is_right.nd rfl (Or.inr rfl) (pe_seats T hr (by decide) rfl (pa_cons (pv 0) (pa_cons (pv 2) pa_nil))))
      (pss_cons (ps_set (i := 9) sc_law_is_right.nd rfl (Or.inr rfl) (pe_seats T hr (by decide) rfl (pa_cons (pv 0) (pa_cons (pv 3) pa_nil))))
      (pss_cons (ps_set (i := 4) sc_law_is_right.nd rfl (Or.inl rfl) (pe_cl (E := E0) (cl_law_pairs T) hr (by decide) rfl pass0 (pa_cons (pv 1) (pa_cons (pv 2) (pa_cons (pv 3) (pa_cons pe_int pa_nil))))))
      (pss_cons (ps_set (i := 5) sc_law_is_right.nd rfl (Or.inl rfl) (LamX.pe_lamcall (T := TB1 K) (k := 6) (t := fun E => tCallS (spNever K) (WE fun cls d _ H => E cls d H) (tCons (tVar 8) (tCons (tVar 9) tNil))) (hr := hr.mono (by decide)) (a := "_law_call") rfl (mg_law_told T) kT lkT hcdT bT sc_law_told rfl (.inl rfl)
          (told_gives T _ _ _) TB (by show Value.ref c = Value.ref (rC K).1; rw [ec]) List.mem_cons_self (fun p hp _ => by rw [List.mem_singleton.mp hp]; rfl) (L := LamX.lamS_by (by show LamX.lamSB (defScope s_law_is_right) _ = true; decide +kernel)) rfl (fun _ _ _ _ _ => rfl)
          (fun A outer s H E f c' hr2 => pe_clX (cl_never_fewer T) (takes_of rfl rfl rfl rfl) hr2 (by decide) rfl (pa_cons (pv 8) (pa_cons (pv 9) pa_nil)))))
      (pss_cons (ps_set (i := 6) sc_law_is_right.nd rfl (Or.inl rfl) (LamX.pe_lamcall (T := TB1 K) (k := 6) (t := fun E => tCallS (spRowF K) (WE fun cls d _ H => E cls d H) (tCons (tVar 8) (tCons (tVar 9) tNil))) (hr := hr.mono (by decide)) (a := "_law_call") rfl (mg_law_told T) kT lkT hcdT bT sc_law_told rfl (.inl rfl)
          (told_gives T _ _ _) TB (by show Value.ref c = Value.ref (rC K).1; rw [ec]) List.mem_cons_self (fun p hp _ => by rw [List.mem_singleton.mp hp]; rfl) (L := LamX.lamS_by (by show LamX.lamSB (defScope s_law_is_right) _ = true; decide +kernel)) rfl (fun _ _ _ _ _ => rfl)
          (fun A outer s H E f c' hr2 => pe_clX (cl_fewer T) (takes_of rfl rfl rfl rfl) hr2 (by decide) rfl (pa_cons (pv 8) (pa_cons (pv 9) pa_nil)))))
      (pss_cons (ps_if (pt_cmpR op_gt (pe_callB call_len_nd (by rfl) (fr_len T) PySem.boot_len (pa_cons (pv 4) pa_nil)) pe_int (nomark _))
        (pss_one (ps_ret (pe_and (pe_cmpR (op_eqD hr.units) (pv 5) (pe_tup (pa_cons pe_str (pa_cons pe_int pa_nil))) (nomark _)) (pe_one (pe_cmpR (op_eqD hr.units) (pv 6) (pe_tup (pa_cons pe_str (pa_cons pe_int pa_nil))) (nomark _)))))) pss_nil)
      (pss_cons (ps_set (i := 7) sc_law_is_right.nd rfl (Or.inl rfl) (pe_cmpR op_eq (pe_callB call_len (by rfl) (fr_len T) PySem.boot_len (pa_cons (pe_lc (own := [("_law_pair", 10)]) (g := gName 10) (by rfl) sc_law_is_right.nd (pi_nk (pv 4)) (blkOk_by (own := [("_law_pair", 10)]) (N := N_law_is_right) (sc := defScope s_law_is_right) (by decide +kernel))
          (fun _ _ _ _ _ => pg_name (i := 10) sc_law_is_right.nd rfl (Or.inl rfl)) (fun _ _ _ _ _ => pts_one (pt_cmpR op_lt (pe_cl (E := E0) (cl_law_lead T) hr (by decide) rfl pass0 (pa_cons (pv 2) (pa_cons (pv 3) (pa_cons (pv 10) pa_nil)))) pe_int (nomark _))) (fun _ _ _ _ _ => pv 10)) pa_nil)) pe_int (nomark _)))
      (pss_cons (ps_if (PW.pt (pw_or (pt_cmpR op_ne (pe_ix ix_tup (pv 5) pe_int (fun _ _ => rfl)) pe_str (nomark _)) (pw_or (pt_cmpR op_ne (pe_ix ix_tup (pv 6) pe_int (fun _ _ => rfl)) pe_str (nomark _))
          (pw_or (pt_not (pt_val (pe_cl (E := E0) (cl_law_flag T) hr (by decide) rfl pass0 (pa_cons (pe_ix ix_tup (pv 5) pe_int (fun _ _ => rfl)) (pa_cons (pv 7) pa_nil)))))
          (pw_or1 (pt_cmpR op_ne (pe_cmpR op_isN (pe_ix ix_tup (pv 6) pe_int (fun _ _ => rfl)) pe_non (nomark _)) (pv 7) (nomark _))))))) (pss_one (ps_ret pe_bl)) pss_nil)
      (pss_one (ps_ret (pe_or (pv 7) (pe_one (pe_cl (E := E0) (cl_law_is_paper T) hr (by decide) rfl pass0 (pa_cons (pv 0) (pa_cons (pv 1) (pa_cons (pv 2) (pa_cons (pv 3) (pa_cons (pe_ix ix_tup (pv 6) pe_int (fun _ _ => rfl)) pa_nil)))))))))))))))))), ?_⟩
    have h40 := hls.most
    have h41 := hms.most
    refine ⟨_, rfl, _, rfl, fun p1 d1 np1 nd1 ne1 => ⟨p1, d1, m, a, ls, rfl, upd_same, ha.same (seats_pre np1 nd1), lots_b eok hls.each h40, fun H1 kp1 hx1 => ⟨rfl, ?_⟩⟩⟩
    obtain ⟨s1, hp1⟩ := seats_post np1 nd1 ha kp1 hx1
    refine ⟨_, rfl, _, rfl, fun p2 d2 np2 nd2 ne2 => ⟨p2, d2, m, b, ms, rfl, upd_same, (hb.same s1).same (seats_pre np2 nd2), lots_b eok hms.each h41, fun H2 kp2 hx2 => ⟨rfl, ?_⟩⟩⟩
    obtain ⟨s2, hp2⟩ := seats_post np2 nd2 (hb.same s1) kp2 hx2
    have s12 := s1.trans s2
    refine ⟨_, rfl, _, rfl, _, rfl, ev, a, b, m, ls, ms, rfl, s12 _ _ hev, eok.ln, ha.same s12, hb.same s12, h40, h41, fun d o kvs H3 s3 hF hl10 hcov => ?_⟩
    have s123 := s12.trans s3
    refine ⟨hT.ext s123, fun H4 e4 t4 p0 np0 Qt hQt => ?_⟩
    have S1 : SeatsAt K (upd H4 p0 (.tup [.str "none"])) p1 m ls := (ext_seats (hp1.same (s2.trans s3)) e4).same (same_new np0)
    have S2 : SeatsAt K (upd H4 p0 (.tup [.str "none"])) p2 m ms := (ext_seats (hp2.same s3) e4).same (same_new np0)
    by_cases big : 3000 < kvs.length
    · have hmany := hF.manyP big
      refine ⟨_, rfl, _, rfl, p1, p2, m, ls, ms, rfl, S1, S2, eok.m5, h40, h41, fun few => (few_many few hmany).elim, fun few => (few_many few hmany).elim, fun _ dd H5 s5 hdd => ⟨rfl, dd, _, rfl, hdd, fun tp ntp => ?_⟩⟩
      have sA : Same H4 (upd H5 tp (.tup [.str "many", .int 3000])) := ((same_new np0).trans s5).trans (same_new ntp)
      have htp : upd H5 tp (.tup [.str "many", .int 3000]) tp = some (.tup [.str "many", .int 3000]) := upd_same
      generalize upd H5 tp (.tup [.str "many", .int 3000]) = H6 at sA htp ⊢
      refine ⟨t4.ext sA, fun H7 e7 t7 p0' np0' Qt' hQt' => ?_⟩
      have e37 : LamX.ExtN H3 H7 := (e4.trans (ext_same sA)).trans e7
      have S1' : SeatsAt K (upd H7 p0' (.tup [.str "none"])) p1 m ls := (ext_seats (hp1.same (s2.trans s3)) e37).same (same_new np0')
      have S2' : SeatsAt K (upd H7 p0' (.tup [.str "none"])) p2 m ms := (ext_seats (hp2.same s3) e37).same (same_new np0')
      refine ⟨_, rfl, _, rfl, p1, p2, m, ls, ms, rfl, S1', S2', eok.m5, h40, h41, fun few => (few_many few hmany).elim, fun few => (few_many few hmany).elim, fun _ dd' H8 s8 hdd' => ⟨rfl, dd', _, rfl, hdd', fun pp npp => ?_⟩⟩
      have sB : Same H7 (upd H8 pp (.tup [.str "many", .int 3000])) := ((same_new np0').trans s8).trans (same_new npp)
      have hpp : upd H8 pp (.tup [.str "many", .int 3000]) pp = some (.tup [.str "many", .int 3000]) := upd_same
      generalize upd H8 pp (.tup [.str "many", .int 3000]) = H9 at sB hpp ⊢
      have e39 : LamX.ExtN H3 H9 := e37.trans (ext_same sB)
      have htp9 := sB _ _ (ext_tk e7 _ _ htp)
      refine ⟨_, rfl, d, o, kvs, rfl, ext_do hF.d e39, _, _, rfl, rfl, _, rfl, ?_⟩
      rw [decide_eq_true (show (3000 : Int) < (kvs.length : Nat) by omega)]
      refine iteT ?_
      refine ⟨_, rfl, by show 2 ≤ sizeLine; decide, fun u nu => ⟨.tuple [.str "many", .int 3000], .tuple [.str "many", .int 3000], .tup (SqT.of (same_new nu _ _ htp9)) (.cons (.str _) (.cons (.int _) .nil)), .tup (SqT.of upd_same) (.cons (.str _) (.cons (.int _) .nil)), by decide +kernel, by decide +kernel, _, rfl, ?_⟩⟩
      rw [many_data]
      refine iteT ?_
      have sC := same_new (o := HO.tup [V.str "many", V.int 3000]) nu
      refine ⟨_, rfl, by show 2 ≤ sizeLine; decide, fun u2 nu2 => ⟨.tuple [.str "many", .int 3000], .tuple [.str "many", .int 3000], .tup (SqT.of (same_new nu2 _ _ (sC _ _ hpp))) (.cons (.str _) (.cons (.int _) .nil)), .tup (SqT.of upd_same) (.cons (.str _) (.cons (.int _) .nil)), by decide +kernel, by decide +kernel, ?_⟩⟩
      rw [many_data]
      have sD := (sB.trans sC).trans (same_new (o := HO.tup [V.str "many", V.int 3000]) nu2)
      exact k _ ((ext_same s123).trans (e37.trans (ext_same sD))) (t7.ext sD)
    · have hcov : Cov (kindsOf m) ls ms (kvs.map (·.1)) (fun _ => False) := by
        rcases hcov with z | z
        · exact absurd z big
        · exact z
      have few := hF.fewP hcov (by omega)
      -- told, paper: what came out, whichever it is
      by_cases nf : NFM.NF (kindsOf m) ls ms
      case' pos =>
        refine ⟨_, rfl, _, rfl, p1, p2, m, ls, ms, rfl, S1, S2, eok.m5, h40, h41, fun _ _ H5 s5 => hQt _ _ fun tp ntp => ?_, fun _ z => absurd nf z, fun z => (few_many few z).elim⟩
        have sA : Same H4 (upd H5 tp (.tup [.str "told", .bl true])) := ((same_new np0).trans s5).trans (same_new ntp)
        have htp : upd H5 tp (.tup [.str "told", .bl true]) tp = some (.tup [.str "told", .bl true]) := upd_same
        generalize upd H5 tp (.tup [.str "told", .bl true]) = H6 at sA htp ⊢
        obtain ⟨bb, ebb⟩ : ∃ z, z = true := ⟨_, rfl⟩
        rw [← ebb] at htp
      case' neg =>
        refine ⟨_, rfl, _, rfl, p1, p2, m, ls, ms, rfl, S1, S2, eok.m5, h40, h41, fun _ z => absurd z nf, fun _ _ H5 s5 => hQt _ _ fun tp ntp => ?_, fun z => (few_many few z).elim⟩
        have sA : Same H4 (upd H5 tp (.tup [.str "told", .bl false])) := ((same_new np0).trans s5).trans (same_new ntp)
        have htp : upd H5 tp (.tup [.str "told", .bl false]) tp = some (.tup [.str "told", .bl false]) := upd_same
        generalize upd H5 tp (.tup [.str "told", .bl false]) = H6 at sA htp ⊢
        obtain ⟨bb, ebb⟩ : ∃ z, z = false := ⟨_, rfl⟩
        rw [← ebb] at htp
      all_goals
        refine ⟨t4.ext sA, fun H7 e7 t7 p0' np0' Qt' hQt' => ?_⟩
        have e37 : LamX.ExtN H3 H7 := (e4.trans (ext_same sA)).trans e7
        have S1' : SeatsAt K (upd H7 p0' (.tup [.str "none"])) p1 m ls := (ext_seats (hp1.same (s2.trans s3)) e37).same (same_new np0')
        have S2' : SeatsAt K (upd H7 p0' (.tup [.str "none"])) p2 m ms := (ext_seats (hp2.same s3) e37).same (same_new np0')
      case' pos =>
        refine ⟨_, rfl, _, rfl, p1, p2, m, ls, ms, rfl, S1', S2', eok.m5, h40, h41, fun _ _ H8 s8 => hQt' _ _ fun pp npp => ?_, fun _ R r H' s' hR hr _ hlt => absurd nf (not_nf hr hlt), fun z => (few_many few z).elim⟩
        have sB : Same H7 (upd H8 pp (.tup [.str "told", .non])) := ((same_new np0').trans s8).trans (same_new npp)
        have s89 : Same H8 (upd H8 pp (.tup [.str "told", .non])) := same_new npp
        have hpp : upd H8 pp (.tup [.str "told", .non]) pp = some (.tup [.str "told", .non]) := upd_same
        generalize upd H8 pp (.tup [.str "told", .non]) = H9 at sB s89 hpp ⊢
        obtain ⟨pvv, epv⟩ : ∃ z, z = V.non := ⟨_, rfl⟩
        have hcase : (bb = true ∧ NFM.NF (kindsOf m) ls ms ∧ pvv = .non) ∨ (bb = false ∧ ¬ NFM.NF (kindsOf m) ls ms ∧ ∃ (R : Addr) (r : List Str), pvv = .ref R ∧ TupS H8 R r ∧ (∀ k ∈ r, k ∈ kindsOf m) ∧ r.length ≤ 80 ∧ many ls r < many ms r) := .inl ⟨ebb, nf, epv⟩
        rw [← epv] at hpp
      case' neg =>
        refine ⟨_, rfl, _, rfl, p1, p2, m, ls, ms, rfl, S1', S2', eok.m5, h40, h41, fun _ z => absurd z nf, fun _ R r H8 s8 hR hr hr80 hlt => hQt' _ _ fun pp npp => ?_, fun z => (few_many few z).elim⟩
        have sB : Same H7 (upd H8 pp (.tup [.str "told", .ref R])) := ((same_new np0').trans s8).trans (same_new npp)
        have s89 : Same H8 (upd H8 pp (.tup [.str "told", .ref R])) := same_new npp
        have hpp : upd H8 pp (.tup [.str "told", .ref R]) pp = some (.tup [.str "told", .ref R]) := upd_same
        generalize upd H8 pp (.tup [.str "told", .ref R]) = H9 at sB s89 hpp ⊢
        obtain ⟨pvv, epv⟩ : ∃ z, z = V.ref R := ⟨_, rfl⟩
        have hcase : (bb = true ∧ NFM.NF (kindsOf m) ls ms ∧ pvv = .non) ∨ (bb = false ∧ ¬ NFM.NF (kindsOf m) ls ms ∧ ∃ (R : Addr) (r : List Str), pvv = .ref R ∧ TupS H8 R r ∧ (∀ k ∈ r, k ∈ kindsOf m) ∧ r.length ≤ 80 ∧ many ls r < many ms r) := .inr ⟨ebb, nf, R, r, epv, hR, hr, hr80, hlt⟩
        rw [← epv] at hpp
      all_goals
        have e39 : LamX.ExtN H3 H9 := e37.trans (ext_same sB)
        have eA : LamX.ExtN H H9 := (ext_same s123).trans e39
        have htp9 := sB _ _ (ext_tk e7 _ _ htp)
        have hd9 := ext_do hF.d e39
        have ha9 := ha.keep (ext_tk eA)
        have hb9 := hb.keep (ext_tk eA)
        refine ⟨_, rfl, d, o, kvs, rfl, hd9, _, _, rfl, rfl, _, rfl, ?_⟩
        rw [decide_eq_false (show ¬ (3000 : Int) < (kvs.length : Nat) by omega)]
        refine iteF ?_
        refine ⟨_, rfl, d, o, kvs, rfl, hd9, fun D nD => ?_⟩
        have sD := fun o => same_new (o := o) nD
        refine lc_it walk_nk (fun i H' => ∃ xs : List V, H' = upd H9 D (.lst xs) ∧ xs.length ≤ i ∧ (xs = [] → ∀ y ∈ kvs.take i, 0 ≤ lead ls ms y.1) ∧ (xs ≠ [] → ∃ y ∈ kvs, lead ls ms y.1 < 0)) ⟨[], rfl, Nat.zero_le _, (fun _ y z => nomatch z), fun z => absurd rfl z⟩
          (fun i H' _ hP => by obtain ⟨xs, rfl, _⟩ := hP; exact hd9.keep (son (sD _) hd9.ob) (stk (sD _))) (fun i x H10 H11 hi hP hY => ?_) (fun H10 hP => ?_)
        · obtain ⟨xs, rfl, hxl, hx1, hx2⟩ := hP
          obtain ⟨rfl, bq, p, v, hv, rfl, hk⟩ := hY
          have et : kvs.take (i + 1) = kvs.take i ++ [(p, v)] := by rw [List.take_add_one, hv]; rfl
          refine ⟨rfl, _, rfl, _, rfl, _, rfl, a, b, bq, ls, ms, p, rfl, ha9.same (sD _), hb9.same (sD _), hk, _, _, rfl, rfl, _, rfl, ?_⟩
          refine iteD (fun c => ?_) (fun c => ?_)
          · refine ⟨_, rfl, _, upd_same, xd_len (by omega), xs ++ [.ref bq], by rw [upd_upd], by rw [List.length_append]; show _ + 1 ≤ _; omega, fun z => ?_, fun _ => ⟨(p, v), List.mem_of_getElem? hv, c⟩⟩
            simp at z
          · refine ⟨xs, rfl, by omega, fun z y hy => ?_, hx2⟩
            rw [et] at hy
            rcases List.mem_append.mp hy with w' | w'
            · exact hx1 z y w'
            · have ey : y = (p, v) := by simpa using w'
              rw [ey]
              show 0 ≤ lead ls ms p
              omega
        · obtain ⟨xs, rfl, hxl, hx1, hx2⟩ := hP
          rw [List.take_length] at hx1
          refine ⟨_, _, rfl, .inl ⟨_, SqL.of upd_same, rfl⟩, rfl, ?_⟩
          have sE := sD (.lst xs)
          have htp10 := sE _ _ htp9
          have hpp10 := sE _ _ hpp
          have eB : LamX.ExtN H (upd H9 D (.lst xs)) := eA.trans (ext_same sE)
          have tB : LamX.Tabs (TB1 K) (upd H9 D (.lst xs)) := (t7.ext sB).ext sE
          rcases hcase with ⟨rfl, hnf, rfl⟩ | ⟨rfl, hnf, R, r, rfl, hR, hrk, hr80, hlt⟩
          · have hx0 : xs = [] := by
              cases xs with
              | nil => rfl
              | cons u us =>
                obtain ⟨y, hy, hl⟩ := hx2 (by simp)
                have := hnf y.1 (hF.r y.1 (List.mem_map.mpr ⟨y, hy, rfl⟩))
                omega
            subst hx0
            refine ⟨_, rfl, tp, _, _, .str "told", rfl, rfl, SqT.of htp10, rfl, rfl, _, rfl, ?_⟩
            rw [ndec_f (show V.str "told" = V.str "told" from rfl)]
            refine iteF ?_
            refine ⟨_, rfl, pp, _, _, .str "told", rfl, rfl, SqT.of hpp10, rfl, rfl, _, rfl, ?_⟩
            rw [ndec_f (show V.str "told" = V.str "told" from rfl)]
            refine iteF ?_
            refine ⟨_, rfl, tp, _, _, .bl true, rfl, rfl, SqT.of htp10, rfl, _, rfl, true, true, rfl, _, rfl, ?_⟩
            refine iteF ?_
            refine ⟨_, rfl, pp, _, _, .non, rfl, rfl, SqT.of hpp10, rfl, rfl, _, rfl, rfl, _, rfl, ?_⟩
            refine iteF ?_
            refine ⟨_, rfl, true, rfl, ?_⟩
            refine iteT ?_
            exact k _ eB tB
          · have hx0 : xs ≠ [] := fun z => hnf fun p hp => by
              obtain ⟨y, hy, rfl⟩ := List.mem_map.mp (hF.all hcov p hp)
              exact hx1 z y hy
            have hdue : decide (V.int ((xs.length : Nat) : Int) = V.int 0) = false := decide_eq_false fun z => hx0 (List.length_eq_zero_iff.mp ((int0 _).mp z))
            rw [hdue]
            refine ⟨_, rfl, tp, _, _, .str "told", rfl, rfl, SqT.of htp10, rfl, rfl, _, rfl, ?_⟩
            rw [ndec_f (show V.str "told" = V.str "told" from rfl)]
            refine iteF ?_
            refine ⟨_, rfl, pp, _, _, .str "told", rfl, rfl, SqT.of hpp10, rfl, rfl, _, rfl, ?_⟩
            rw [ndec_f (show V.str "told" = V.str "told" from rfl)]
            refine iteF ?_
            refine ⟨_, rfl, tp, _, _, .bl false, rfl, rfl, SqT.of htp10, rfl, _, rfl, false, false, rfl, _, rfl, ?_⟩
            refine iteF ?_
            refine ⟨_, rfl, pp, _, _, .ref R, rfl, rfl, SqT.of hpp10, rfl, rfl, _, rfl, rfl, _, rfl, ?_⟩
            refine iteF ?_
            refine ⟨_, rfl, false, rfl, ?_⟩
            refine iteF ?_
            refine ⟨_, rfl, _, rfl, _, rfl, _, rfl, _, rfl, pp, _, _, .ref R, rfl, rfl, SqT.of hpp10, rfl, m, ev, a, b, R, ls, ms, r, rfl, eB _ _ hev (fun ps z => by cases z), eok, ha9.same sE, hb9.same sE, hls, hms, sE _ _ (s89 _ _ hR), hrk, hr80, hlt, fun H12 s12' => ?_⟩
            exact k _ (eB.trans (ext_same s12')) (tB.ext s12')
end
end NF

set_option Elab.async false
set_option linter.all false
set_option maxRecDepth 100000
set_option maxHeartbeats 4000000
/-! The law. -/
namespace NF
open PySem PySem.Spec PyProof.Rows L2 NFM NFW
theorem tabs_kp {T : List (Addr × Str)} {t L : Addr} {H H' : Hp} (h : LamX.Tabs T H) (k : Kp t H H') (tok : TapeOk H t L) : LamX.Tabs T H' := by
  obtain ⟨hn, ns, pos, a, b, c, h1, h2⟩ := tok
  intro p hp
  obtain ⟨ps, g1, g2, g3⟩ := h p hp
  refine ⟨ps, k _ _ g1 (ne_of g1 h1 (fun z => by cases z)), g2, fun pos cv hc => ?_⟩
  obtain ⟨c0, e1, e2⟩ := g3 pos cv hc
  exact ⟨c0, e1, k _ _ e2 (ne_of e2 h1 (fun z => by cases z))⟩
theorem TapeOk.ext {t L : Addr} {H H' : Hp} (tok : TapeOk H t L) (e : LamX.ExtN H H') : TapeOk H' t L := by
  obtain ⟨hn, ns, pos, a, b, c, h1, h2⟩ := tok
  exact ⟨hn, ns, pos, a, b, c, e _ _ h1 (fun ps z => by cases z), e _ _ h2 (fun ps z => by cases z)⟩
theorem LtE.mono {m : Str} {ls : List (List Str)} {a b : Nat} (h : LtE m ls a) (hab : a ≤ b) : LtE m ls b := ⟨h.each, Nat.le_trans h.most hab⟩
theorem kp_lots {t L g : Addr} {H H' : Hp} {ls : List (List Str)} (h : Lots H g ls) (k : Kp t H H') (tok : TapeOk H t L) : Lots H' g ls := h.keep (k.tk tok)
theorem Ev.ext {H H' : Hp} {t ev : Addr} {m : Str} (h : Ev H t ev m) (e : LamX.ExtN H H') : Ev H' t ev m := ⟨e _ _ h.at_ (fun ps z => by cases z), h.ne, h.ok⟩
theorem Ev.same {H H' : Hp} {t ev : Addr} {m : Str} (h : Ev H t ev m) (s : Same H H') : Ev H' t ev m := ⟨s _ _ h.at_, h.ne, h.ok⟩
theorem LtE.cut {m : Str} {ls : List (List Str)} {n a : Nat} (h : LtE m ls n) : LtE m (cut ls a) n := by
  refine ⟨fun l hl => ?_, ?_⟩
  · unfold NFM.cut at hl
    rcases List.mem_append.mp hl with z | z
    · exact h.each l (List.mem_of_mem_take z)
    · exact h.each l (List.mem_of_mem_drop z)
  · have := h.most
    unfold NFM.cut
    rw [List.length_append, List.length_take, List.length_drop]
    omega
def spLaw (K : PySem.W.Frag) : Sp := fun vs H Q _ => ∃ (S : Addr) (ns : List Int), vs = [.ref S] ∧ SqL K H S (ns.map V.int) ∧ LamX.Tabs (TB1 K) H ∧ ∀ H', Q (.bl true) H'
section
variable {P : Program} {w : World} {K : PySem.W.Frag} {mg : Str → Option Value} {base : Heap} (T : Txt K mg)
include T
theorem ok_law {fd : FuncData} (F : FnP K "law" s_law (He.ga K "law") fd) (TB : LamX.TabB base mg (rC K).1 (rC K).2) : FnOk P w K mg base CX0 11 (He.ga K "law") fd P_law (spLaw K) := by
  refine F.ok sc_law (fun vs H Q E h => ?_) (fun cdv A outer s H vs Q E hr h => ?_)
  · obtain ⟨_, _, rfl, _⟩ := h
    rfl
  · obtain ⟨S, ns, rfl, hS, hT, k⟩ := h
    refine ⟨_, PSs.nox (pss_cons (ps_set (i := 1) sc_law.nd rfl (Or.inl rfl) (pe_cl (E := E0) (cl_law_tape T) hr (by decide) rfl pass0 (pa_cons (pv 0) pa_nil)))
      (pss_cons (ps_set (i := 2) sc_law.nd rfl (Or.inl rfl) (pe_cl (E := E0) (cl_law_pick T) hr (by decide) rfl pass0 (pa_cons (pv 1) (pa_cons pe_int pa_nil))))
      (pss_cons (ps_set (i := 3) sc_law.nd rfl (Or.inl rfl) (pe_cmpR op_lt (pv 2) pe_int (nomark _)))
      (pss_cons (ps_set (i := 4) sc_law.nd rfl (Or.inl rfl) (pe_ifExp (pt_val (pv 3)) pe_str (pe_cl (E := E0) (cl_law_marks T) hr (by decide) rfl pass0 (pa_cons (pv 1) pa_nil))))
      (pss_cons (ps_set (i := 5) sc_law.nd rfl (Or.inl rfl) (pe_cl (E := E0) (cl_law_kinds T) hr (by decide) rfl pass0 (pa_cons (pv 4) pa_nil)))
      (pss_cons (ps_set (i := 6) sc_law.nd rfl (Or.inl rfl) (pe_cl (E := E0) (cl_law_lots T) hr (by decide) rfl pass0 (pa_cons (pv 1) (pa_cons (pv 5) (pa_cons pe_int pa_nil)))))
      (pss_cons (ps_set (i := 7) sc_law.nd rfl (Or.inl rfl) (pe_cl (E := E0) (cl_law_others T) hr (by decide) rfl pass0 (pa_cons (pv 1) (pa_cons (pv 5) (pa_cons (pv 6) (pa_cons pe_int pa_nil))))))
      (pss_cons (ps_if (pt_cmpR op_lt (pv 2) pe_int (nomark _))
        (pss_cons (ps_set (i := 6) sc_law.nd rfl (Or.inl rfl) (pe_op op_repN (pe_tupleOf rfl (fr_tuple T) (pe_lc (own := [("_law_kind", 12)]) (g := gName 12) (by rfl) sc_law.nd
            (pi_list (pe_slice sl_list (pv 5) po_none (po_some (pe_op op_add pe_int (pe_cl (E := E0) (cl_law_pick T) hr (by decide) rfl pass0 (pa_cons (pv 1) (pa_cons pe_int pa_nil)))))))
            (blkOk_by (own := [("_law_kind", 12)]) (N := N_law) (sc := defScope s_law) (by decide +kernel)) (fun _ _ _ _ _ => pg_name (i := 12) sc_law.nd rfl (Or.inl rfl)) (fun _ _ _ _ _ => pts_nil) (fun _ _ _ _ _ => pe_tup (pa_cons (pv 12) pa_nil)))) pe_int))
        (pss_one (ps_set (i := 7) sc_law.nd rfl (Or.inl rfl) (pe_cl (E := E0) (cl_law_lots T) hr (by decide) rfl pass0 (pa_cons (pv 1) (pa_cons (pv 5) (pa_cons pe_int pa_nil)))))))
        (pss_one (ps_if (pt_val (pv 3)) (pss_cons (ps_set (i := 6) sc_law.nd rfl (Or.inl rfl) (pe_cl (E := E0) (cl_law_copies T) hr (by decide) rfl pass0 (pa_cons (pv 1) (pa_cons (pv 5) pa_nil))))
          (pss_one (ps_set (i := 7) sc_law.nd rfl (Or.inl rfl) (pe_cl (E := E0) (cl_law_near T) hr (by decide) rfl pass0 (pa_cons (pv 1) (pa_cons (pv 6) pa_nil)))))) pss_nil)))
      (pss_cons (ps_if (pt_not (pt_val (pe_cl (E := E0) (cl_law_is_right T TB) hr (by decide) rfl pass0 (pa_cons (pv 4) (pa_cons (pv 5) (pa_cons (pv 6) (pa_cons (pv 7) pa_nil))))))) (pss_one (ps_ret pe_bl)) pss_nil)
      (pss_cons (ps_if (PW.pt (pw_and (pt_cmpR op_gt (pv 2) pe_int (nomark _)) (pw_and1 (pt_not (pt_val (pe_cl (E := E0) (cl_law_is_right T TB) hr (by decide) rfl pass0 (pa_cons (pv 4) (pa_cons (pv 5) (pa_cons (pv 7) (pa_cons (pv 6) pa_nil)))))))))) (pss_one (ps_ret pe_bl)) pss_nil)
      (pss_cons (ps_if (PW.pt (pw_and (pt_not (pt_val (pv 3))) (pw_and1 (pt_not (pt_val (pe_cl (E := E0) (cl_never_fewer T) hr (by decide) rfl passL (pa_cons (pe_seats T hr (by decide) rfl (pa_cons (pv 4) (pa_cons (pv 6) pa_nil))) (pa_cons (pe_seats T hr (by decide) rfl (pa_cons (pv 4) (pa_cons (pv 6) pa_nil))) pa_nil)))))))) (pss_one (ps_ret pe_bl)) pss_nil)
      (pss_cons (ps_if (PW.pt (pw_and (pt_not (pt_val (pv 3))) (pw_and1 (pt_cmpR op_gt (pe_callB call_len (by rfl) (fr_len T) PySem.boot_len (pa_cons (pv 6) pa_nil)) pe_int (nomark _)))))
        (pss_cons (ps_set (i := 8) sc_law.nd rfl (Or.inl rfl) (pe_cl (E := E0) (cl_law_pick T) hr (by decide) rfl pass0 (pa_cons (pv 1) (pa_cons (pe_callB call_len (by rfl) (fr_len T) PySem.boot_len (pa_cons (pv 6) pa_nil)) pa_nil))))
        (pss_one (ps_if (pt_not (pt_val (pe_cl (E := E0) (cl_never_fewer T) hr (by decide) rfl passL (pa_cons (pe_seats T hr (by decide) rfl (pa_cons (pv 4) (pa_cons (pv 6) pa_nil)))
            (pa_cons (pe_seats T hr (by decide) rfl (pa_cons (pv 4) (pa_cons (pe_op op_catN (pe_slice sl_tupN (pv 6) po_none (po_some (pv 8))) (pe_slice sl_tupN (pv 6) (po_some (pe_op op_add (pv 8) pe_int)) po_none)) pa_nil))) pa_nil))))) (pss_one (ps_ret pe_bl)) pss_nil))) pss_nil)
      (pss_cons (ps_for PassesOwn.never rfl (pi_range1 (by rfl) (fr_range T) (pa_cons pe_int pa_nil)) (pg_name (i := 9) sc_law.nd rfl (Or.inl rfl))
        (pss_cons (ps_set (i := 10) sc_law.nd rfl (Or.inl rfl) (pe_cl (E := E0) (cl_law_row T) hr (by decide) rfl pass0 (pa_cons (pv 1) (pa_cons (pv 5) (pa_cons pe_int pa_nil)))))
        (pss_cons (ps_set (i := 11) sc_law.nd rfl (Or.inl rfl) (pe_cmpR op_lt (pe_cl (E := E0) (cl_law_many T) hr (by decide) rfl pass0 (pa_cons (pv 6) (pa_cons (pv 10) pa_nil))) (pe_cl (E := E0) (cl_law_many T) hr (by decide) rfl pass0 (pa_cons (pv 7) (pa_cons (pv 10) pa_nil))) (nomark _)))
        (pss_one (ps_if (pt_not (pt_val (pe_cl (E := E0) (cl_law_flag T) hr (by decide) rfl pass0 (pa_cons (pe_cl (E := E0) (cl_is_fewer T) hr (by decide) rfl pass0
            (pa_cons (pe_seats T hr (by decide) rfl (pa_cons (pv 4) (pa_cons (pv 6) pa_nil))) (pa_cons (pe_seats T hr (by decide) rfl (pa_cons (pv 4) (pa_cons (pv 7) pa_nil))) (pa_cons (pv 10) pa_nil)))) (pa_cons (pv 11) pa_nil))))) (pss_one (ps_ret pe_bl)) pss_nil)))))
      (pss_one (ps_ret pe_bl))))))))))))))), ?_⟩
    refine ⟨_, rfl, S, ns, rfl, hS, fun t L H1 s1 tok1 => ?_⟩
    have tb1 := hT.ext s1
    refine ⟨_, rfl, t, L, 32, rfl, tok1, by decide, by decide, fun st H2 hst kp2 tok2 => ?_⟩
    have tb2 := tabs_kp tb1 kp2 tok1
    refine ⟨_, rfl, _, _, rfl, rfl, ?_⟩
    show gName 3 (V.bl (decide (((st : Nat) : Int) < 4))) _ _ _
    have h3 : st < 2 ∨ (2 ≤ st ∧ st < 4) ∨ 4 ≤ st := by omega
    refine h3.elim (fun h3 => ?gA) (fun h3 => h3.elim (fun h3 => ?gB) (fun h3 => ?gC))
    case' gA | gB =>
      rw [decide_eq_true (show ((st : Nat) : Int) < 4 by omega)]
      refine ⟨_, rfl, _, rfl, iteT ?_⟩
      obtain ⟨m, em⟩ : ∃ z : Str, z = "abc" := ⟨_, rfl⟩
      rw [← em]
      have hmm : m ∈ marks9 := by rw [em]; decide +kernel
      obtain ⟨H3, eH3⟩ : ∃ z, z = H2 := ⟨_, rfl⟩
      rw [← eH3] at tok2 tb2 ⊢
      have tok3 := tok2
      have tb3 := tb2
    case' gC =>
      rw [decide_eq_false (show ¬ ((st : Nat) : Int) < 4 by omega)]
      refine ⟨_, rfl, _, rfl, iteF ?_⟩
      refine ⟨_, rfl, t, L, rfl, tok2, fun m H3 hmm kp3 tok3 => ?_⟩
      have tb3 := tabs_kp tb2 kp3 tok2
    all_goals
      have eok := eok_in hmm
      refine ⟨_, rfl, m, rfl, eok.m5, fun ev H4 nev s4 hev4 => ?_⟩
      have tok4 := tok3.same s4
      have tb4 := tb3.ext s4
      have ev4 : Ev H4 t ev m := ⟨hev4, (tok3.ne nev).1, eok⟩
      refine ⟨_, rfl, _, rfl, t, L, ev, m, 4, rfl, by decide, tok4, ev4, fun lo ls H5 hls kp5 tok5 hlo => ?_⟩
      refine ⟨_, rfl, _, rfl, _, rfl, t, L, ev, lo, m, ls, 4, rfl, by decide, tok5, ev4.kp kp5, hlo, hls, fun ot ms H6 hms kp6 tok6 hot => ?_⟩
      have ev6 := (ev4.kp kp5).kp kp6
      have hlo6 := kp_lots hlo kp6 tok5
      have tb6 := tabs_kp (tabs_kp tb4 kp5 tok4) kp6 tok5
      refine ⟨_, rfl, _, _, rfl, rfl, _, rfl, ?_⟩
    case' gA =>
      rw [decide_eq_true (show ((st : Nat) : Int) < 2 by omega)]
      refine iteT ?_
      refine ⟨_, rfl, _, rfl, t, L, 3, rfl, tok6, by decide, by decide, fun d H7 hd kp7 tok7 => ⟨_, _, rfl, rfl, _, rfl, ev, _, rfl, SqL.of (ev6.kp kp7).at_, fun D0 nD0 => ?_⟩⟩
      have ev7 := ev6.kp kp7
      have tb7 := tabs_kp tb6 kp7 tok6
      have ec : cutV ((kindsOf m).map V.str) none (some ((6 : Int) + (d : Nat))) = ((kindsOf m).take (6 + d)).map V.str := by
        rw [show (6 : Int) + (d : Nat) = ((6 + d : Nat) : Int) by omega, cutV_take, List.map_take]
      rw [ec]
      have s8 := same_new (o := HO.lst (((kindsOf m).take (6 + d)).map V.str)) nD0
      have hD0 : upd H7 D0 (.lst (((kindsOf m).take (6 + d)).map V.str)) D0 = some (.lst (((kindsOf m).take (6 + d)).map V.str)) := upd_same
      generalize upd H7 D0 (.lst (((kindsOf m).take (6 + d)).map V.str)) = H8 at s8 hD0 ⊢
      have htl : ((kindsOf m).take (6 + d)).length ≤ 8 := by rw [List.length_take]; omega
      have htp : 0 < ((kindsOf m).take (6 + d)).length := by
        have := List.length_pos_iff.mpr eok.ne
        rw [List.length_take]
        omega
      have hte : ∀ k ∈ (kindsOf m).take (6 + d), k ∈ kindsOf m := fun k hk => List.mem_of_mem_take hk
      generalize (kindsOf m).take (6 + d) = tk at *
      refine ⟨D0, rfl, ⟨_, SqL.of hD0⟩, fun D nD => ?_⟩
      refine lc_it (walk_list (xs := tk.map V.str)) (fun i H' => ∃ as : List Addr, Same H8 H' ∧ H' D = some (.lst (as.map V.ref)) ∧ Paired (fun a l => TupS H' a l) as ((tk.take i).map fun k => [k])) ⟨[], same_new nD, upd_same, .nil⟩
        (fun i H' _ hP => by obtain ⟨_, z, _⟩ := hP; exact SqL.of (z _ _ hD0)) (fun i x H9 H10 hi hP hY => ?_) (fun H9 hP => ?_)
      · obtain ⟨as, s9, hD9, hp9⟩ := hP
        obtain ⟨rfl, hx⟩ := hY
        rw [List.getElem?_map] at hx
        obtain ⟨z, hz, rfl⟩ := Option.map_eq_some_iff.mp hx
        rw [List.length_map] at hi
        have et : tk.take (i + 1) = tk.take i ++ [z] := by rw [List.take_add_one, hz]; rfl
        have hal := Paired.length hp9
        rw [List.length_map, List.length_take] at hal
        refine ⟨rfl, lc_yes ⟨_, rfl, by show 1 ≤ sizeLine; decide, fun u nu => ?_⟩⟩
        have sU := same_new (o := HO.tup [.str z]) nu
        have hDU := sU _ _ hD9
        have tkD : Tk (upd H10 u (.tup [.str z])) (upd (upd H10 u (.tup [.str z])) D (.lst (as.map V.ref ++ [.ref u]))) := tk_upd hDU (fun xs z => by cases z)
        refine ⟨_, hDU, by rw [List.length_map]; exact small1000 (by omega), as ++ [u], fun b o e => ?_, by rw [upd_same, List.map_append]; rfl, ?_⟩
        · rw [upd_ne (ne_of_none e nD)]
          exact sU _ _ (s9 _ _ e)
        · rw [et, List.map_append]
          exact (Paired.mapP hp9 fun _ _ y => tkD _ _ (sU _ _ y)).snoc (tkD _ _ upd_same)
    case' gA =>
      obtain ⟨as, s9, hD9, hp9⟩ := hP
      rw [List.length_map, List.take_length] at hp9
      have hal := Paired.length hp9
      rw [List.length_map] at hal
      refine .inl ⟨D, _, rfl, SqL.of hD9, fun q nq => ?_⟩
      have sq := same_new (o := HO.tup (as.map V.ref)) nq
      refine ⟨q, 2, _, rfl, rfl, upd_same, fun z => ?_, by decide, by decide, by rw [List.length_map]; omega, fun lo H11 s11 hlo11 => ?_⟩
      · have := congrArg List.length z
        rw [List.length_map, List.length_nil] at this
        omega
      have sA := ((s8.trans s9).trans sq).trans s11
      have hlo6 : Lots H11 lo (tk.map (fun k => [k]) ++ tk.map fun k => [k]) := lots_mk (as := as ++ as) hlo11 (by rw [List.map_append]; show (List.replicate 2 _).flatten = _; simp [List.replicate]) (prd_app (Paired.mapP hp9 fun _ _ y => s11 _ _ (sq _ _ y)) (Paired.mapP hp9 fun _ _ y => s11 _ _ (sq _ _ y)))
      have hl40 : LtE m (tk.map (fun k => [k]) ++ tk.map fun k => [k]) 40 := by
        refine ⟨fun l hl => ?_, by rw [List.length_append, List.length_map]; omega⟩
        have hl2 : l ∈ tk.map fun k => [k] := by
          rcases List.mem_append.mp hl with z | z <;> exact z
        obtain ⟨y, hy, rfl⟩ := List.mem_map.mp hl2
        exact ⟨by simp, List.singleton_sublist.mpr (hte y hy)⟩
      generalize tk.map (fun k => [k]) ++ tk.map (fun k => [k]) = ls at hlo6 hl40
      refine ⟨_, rfl, _, rfl, t, L, ev, m, 1, rfl, by decide, tok7.same sA, ev7.same sA, fun ot ms H6 hms kp6 tok6 hot => ?_⟩
      have ev6 := (ev7.same sA).kp kp6
      have hlo6 := kp_lots hlo6 kp6 (tok7.same sA)
      have tb6 := tabs_kp (tb7.ext sA) kp6 (tok7.same sA)
      have hm40 := hms.mono (show 1 ≤ 40 by decide)
    case' gB =>
      rw [decide_eq_false (show ¬ ((st : Nat) : Int) < 2 by omega)]
      refine iteF ?_
      refine ⟨_, rfl, _, rfl, iteT ?_⟩
      refine ⟨_, rfl, _, rfl, t, L, ev, m, rfl, tok6, ev6, fun lo ls H7 hls hpos kp7 tok7 hlo7 => ?_⟩
      refine ⟨_, rfl, _, rfl, t, L, lo, m, ls, rfl, tok7, hlo7, hls, hpos, fun ot ms H8 hms kp8 tok8 hot => ?_⟩
      have ev6 := (ev6.kp kp7).kp kp8
      have tb6 := tabs_kp (tabs_kp tb6 kp7 tok6) kp8 tok7
      have hlo6 := kp_lots hlo7 kp8 tok7
      have tok6 := tok8
      have hl40 := hls.mono (show 18 ≤ 40 by decide)
      have hm40 := hms.mono (show 19 ≤ 40 by decide)
    case' gC =>
      rw [decide_eq_false (show ¬ ((st : Nat) : Int) < 2 by omega)]
      refine iteF ?_
      refine ⟨_, rfl, _, rfl, iteF ?_⟩
      have hl40 := hls.mono (show 4 ≤ 40 by decide)
      have hm40 := hms.mono (show 4 ≤ 40 by decide)
    all_goals
      refine ⟨_, rfl, _, rfl, _, rfl, _, rfl, m, ev, lo, ot, ls, ms, rfl, ev6.at_, eok, hlo6, hot, hl40, hm40, tb6, fun H7 e7 tb7 => ⟨_, rfl, ?_⟩⟩
      refine iteF ?_
      have tok7 := tok6.ext e7
      have ev7 := ev6.ext e7
      have hlo7 := hlo6.keep (ext_tk e7)
      have hot7 := hot.keep (ext_tk e7)
      refine ⟨_, rfl, _, _, rfl, rfl, _, rfl, ?_⟩
    case' gA =>
      rw [decide_eq_false (show ¬ (1 : Int) < ((st : Nat) : Int) by omega)]
      refine iteF ?_
      refine ⟨_, rfl, _, rfl, iteF ?_⟩
      refine ⟨_, rfl, _, rfl, iteF ?_⟩
    case' gB =>
      rw [decide_eq_true (show (1 : Int) < ((st : Nat) : Int) by omega)]
      refine iteT ?_
      refine ⟨_, rfl, _, rfl, _, rfl, _, rfl, m, ev, ot, lo, ms, ls, rfl, ev7.at_, eok, hot7, hlo7, hm40, hl40, tb7, fun H8 e8 tb8 => ⟨_, rfl, ?_⟩⟩
      refine iteF ?_
      have tok7 := tok7.ext e8
      have ev7 := ev7.ext e8
      have hlo7 := hlo7.keep (ext_tk e8)
      have hot7 := hot7.keep (ext_tk e8)
      refine ⟨_, rfl, _, rfl, iteF ?_⟩
      refine ⟨_, rfl, _, rfl, iteF ?_⟩
    case' gC =>
      rw [decide_eq_true (show (1 : Int) < ((st : Nat) : Int) by omega)]
      refine iteT ?_
      refine ⟨_, rfl, _, rfl, _, rfl, _, rfl, m, ev, ot, lo, ms, ls, rfl, ev7.at_, eok, hot7, hlo7, hm40, hl40, tb7, fun H8 e8 tb8 => ⟨_, rfl, ?_⟩⟩
      refine iteF ?_
      have tok7 := tok7.ext e8
      have ev7 := ev7.ext e8
      have hlo7 := hlo7.keep (ext_tk e8)
      have hot7 := hot7.keep (ext_tk e8)
      refine ⟨_, rfl, _, rfl, iteT ?_⟩
      have hl4 := hls.most
      refine ⟨_, rfl, _, rfl, fun p1 d1 np1 nd1 ne1 => ⟨p1, d1, m, lo, ls, rfl, upd_same, hlo7.same (seats_pre np1 nd1), lots_b eok hl40.each hl40.most, fun H9 kp1 hx1 => ⟨rfl, ?_⟩⟩⟩
      obtain ⟨s9, hp1⟩ := seats_post np1 nd1 hlo7 kp1 hx1
      refine ⟨_, rfl, _, rfl, fun p2 d2 np2 nd2 ne2 => ⟨p2, d2, m, lo, ls, rfl, upd_same, (hlo7.same s9).same (seats_pre np2 nd2), lots_b eok hl40.each hl40.most, fun H10 kp2 hx2 => ⟨rfl, ?_⟩⟩⟩
      obtain ⟨s10, hp2⟩ := seats_post np2 nd2 (hlo7.same s9) kp2 hx2
      refine ⟨p1, p2, m, ls, ls, rfl, hp1.same s10, hp2, eok.m5, hl40.most, hl40.most, fun _ _ H11 s11 => ⟨_, rfl, ?_⟩, fun _ z => absurd (nf_self _ _) z, fun z => (not_many hl4 hl4 z).elim⟩
      refine iteF ?_
      have sA := (s9.trans s10).trans s11
      have tok8 := tok7.same sA
      have ev8 := ev7.same sA
      have hlo8 := hlo7.same sA
      have hot8 := hot7.same sA
      obtain ⟨as, hga, hgp⟩ := id hlo8
      have hal := Paired.length hgp
      have el : (as.map V.ref).length = ls.length := by rw [List.length_map, hal]
      refine ⟨_, rfl, _, rfl, iteT ?_⟩
      refine ⟨_, rfl, _, _, rfl, .inr ⟨_, SqT.of hga, rfl⟩, _, _, rfl, rfl, _, rfl, ?_⟩
      by_cases h0 : (0 : Int) < ((as.map V.ref).length : Nat)
      case' pos =>
        rw [decide_eq_true h0]
        refine iteT ?_
        refine ⟨_, rfl, _, rfl, _, _, rfl, .inr ⟨_, SqT.of hga, rfl⟩, t, L, _, rfl, tok8, h0, by rw [el]; omega, fun j H12 hj kp12 tok12 => ?_⟩
        rw [el] at hj
        have hj2 : j < ls.length := by omega
        have tkJ := kp12.tk tok8
        have hlo12 := kp_lots hlo8 kp12 tok8
        have hga12 := tkJ _ _ hga
        have hgp12 := Paired.mapP hgp fun _ _ z => tkJ _ _ z
        have hot12 := kp_lots hot8 kp12 tok8
        have ev12 := ev8.kp kp12
        refine ⟨_, rfl, _, rfl, fun p3 d3 np3 nd3 ne3 => ⟨p3, d3, m, lo, ls, rfl, upd_same, hlo12.same (seats_pre np3 nd3), lots_b eok hl40.each hl40.most, fun H13 kp3 hx3 => ⟨rfl, ?_⟩⟩⟩
        obtain ⟨s13, hp3⟩ := seats_post np3 nd3 hlo12 kp3 hx3
        refine ⟨_, rfl, _, rfl, _, rfl, _, rfl, lo, _, rfl, s13 _ _ hga12, fun u H14 s14 hu => ?_⟩
        refine ⟨_, rfl, _, rfl, _, _, rfl, rfl, _, rfl, lo, _, rfl, s14 _ _ (s13 _ _ hga12), fun v H15 s15 hv => ?_⟩
        have hu15 := s15 _ _ hu
        have hv15 : H15 v = some (.tup ((as.map V.ref).drop (j + 1))) := by
          rw [← cutV_drop]
          exact hv
        rw [cutV_take] at hu15
        refine ⟨u, v, _, _, rfl, rfl, hu15, hv15, small_line (by rw [List.length_take, List.length_drop]; omega), fun y H16 s16 hy => ?_⟩
        rw [← List.map_take, ← List.map_drop, ← List.map_append] at hy
        have sB := ((s13.trans s14).trans s15).trans s16
        have sB2 := (s14.trans s15).trans s16
        have hcut : Lots H16 y (cut ls j) := lots_mk hy rfl (Paired.mapP (prd_app (prd_take hgp12 j) (prd_drop hgp12 (j + 1))) fun _ _ z => sB _ _ z)
        have hlc : LtE m (cut ls j) 40 := hl40.cut
        refine fun p4 d4 np4 nd4 ne4 => ⟨p4, d4, m, y, cut ls j, rfl, upd_same, hcut.same (seats_pre np4 nd4), lots_b eok hlc.each hlc.most, fun H17 kp4 hx4 => ⟨rfl, ?_⟩⟩
        obtain ⟨s17, hp4⟩ := seats_post np4 nd4 hcut kp4 hx4
        have hc4 := cut_len hj2
        refine ⟨p3, p4, m, ls, cut ls j, rfl, hp3.same (sB2.trans s17), hp4, eok.m5, hl40.most, hlc.most, fun _ _ H18 s18 => ⟨_, rfl, ?_⟩, fun _ z => absurd (nf_cut _ _ hj2) z, fun z => (not_many hl4 (by omega) z).elim⟩
        refine iteF ?_
        have sC := (sB.trans s17).trans s18
        have tok7 := tok12.same sC
        have ev7 := ev12.same sC
        have hlo7 := hlo12.same sC
        have hot7 := hot12.same sC
      case' neg =>
        rw [decide_eq_false h0]
        refine iteF ?_
        have tok7 := tok8
        have ev7 := ev8
        have hlo7 := hlo8
        have hot7 := hot8
    all_goals
      refine ⟨_, rfl, by decide, by decide, ?_⟩
      refine for_it (walk_range (lo := 0) (n := (4 : Int).toNat)) (fun i σ H' => ∃ v2 v3 v8 v9 v10 v11 v12, σ = [some (.ref S), some (.ref t), v2, v3, some (.str m), some (.ref ev), some (.ref lo), some (.ref ot), v8, v9, v10, v11, v12] ∧ TapeOk H' t L ∧ Ev H' t ev m ∧ Lots H' lo ls ∧ Lots H' ot ms)
        ⟨_, _, _, _, _, _, _, rfl, tok7, ev7, hlo7, hot7⟩ (fun _ _ _ _ _ => True.intro) (fun i x σ H20 H21 hi hP hY => ?_) (fun σ H20 hP => k H20)
      obtain ⟨v2, v3, v8, v9, v10, v11, v12, rfl, tok20, ev20, hlo20, hot20⟩ := hP
      obtain ⟨rfl, rfl⟩ := hY
      refine ⟨_, rfl, _, rfl, t, L, ev, m, 8, rfl, by decide, tok20, ev20, fun R r H22 hrk hr8 kp22 tok22 hR => ?_⟩
      have hlo22 := kp_lots hlo20 kp22 tok20
      have hot22 := kp_lots hot20 kp22 tok20
      have ev22 := ev20.kp kp22
      refine ⟨_, rfl, _, rfl, lo, R, ls, r, rfl, hlo22, hl40.most, hR, by omega, fun H23 s23 => ?_⟩
      refine ⟨_, rfl, _, rfl, ot, R, ms, r, rfl, hot22.same s23, hm40.most, s23 _ _ hR, by omega, fun H24 s24 => ⟨_, _, rfl, rfl, ?_⟩⟩
      have sA := s23.trans s24
      refine ⟨_, rfl, _, rfl, fun p1 d1 np1 nd1 ne1 => ⟨p1, d1, m, lo, ls, rfl, upd_same, (hlo22.same sA).same (seats_pre np1 nd1), lots_b eok hl40.each hl40.most, fun H25 kp1 hx1 => ⟨rfl, ?_⟩⟩⟩
      obtain ⟨s25, hp1⟩ := seats_post np1 nd1 (hlo22.same sA) kp1 hx1
      refine ⟨_, rfl, _, rfl, fun p2 d2 np2 nd2 ne2 => ⟨p2, d2, m, ot, ms, rfl, upd_same, (hot22.same (sA.trans s25)).same (seats_pre np2 nd2), lots_b eok hm40.each hm40.most, fun H26 kp2 hx2 => ⟨rfl, ?_⟩⟩⟩
      obtain ⟨s26, hp2⟩ := seats_post np2 nd2 (hot22.same (sA.trans s25)) kp2 hx2
      have sB := (sA.trans s25).trans s26
      refine ⟨_, rfl, p1, p2, R, m, ls, ms, r, rfl, hp1.same s26, hp2, hl40.most, hm40.most, sB _ _ hR, row_b eok hrk, by omega, fun H27 s27 => ?_⟩
      refine ⟨_, rfl, _, _, rfl, _, rfl, ?_⟩
      rw [decide_eq_true (show decide (many ls r < many ms r) = decide (((many ls r : Nat) : Int) < ((many ms r : Nat) : Int)) from decide_eq_decide.mpr Int.ofNat_lt.symm)]
      refine iteF ?_
      have sC := sB.trans s27
      exact ⟨_, _, _, _, _, _, _, rfl, tok22.same sC, ev22.same sC, hlo22.same sC, hot22.same sC⟩
end
end NF

set_option Elab.async false
set_option linter.all false
set_option maxRecDepth 100000
set_option maxHeartbeats 0
/-! The end: the head is run, the law stands on it. -/
namespace NF
open PySem PySem.Spec PyProof.Rows L2
abbrev theLaw : PySem.W.OpenLaw := PySem.Challenge.rw_narrowahead_k66_whole_never_fewer
theorem at_end {w : World} {mg : Str → Option Value} {fa : Addr} {h : Heap} (Y : hk.says w h) (G : h.Ns mainGlobals mg) (hmg : mg ("law" : Str) = some (.ref fa)) :
    ∃ K : PySem.W.Frag, K.In h ∧ LamX.LawAtS theLaw w K L2.CX0 11 63 "_law_script" mg fa h := by
  obtain ⟨K, KX, c⟩ := Y
  have T : Txt K mg := ⟨c.t.d, c.more, ⟨h, KX, G⟩⟩
  obtain ⟨fd, F⟩ := fn_law T
  have e := hmg.symm.trans (mg_law T)
  cases e
  have b := FunD.bindsA (ps := P_law) F bd_law
  have hm : (("_law_is_right", none) : He.Defn) ∈ tfs := List.mem_cons_self
  refine ⟨K, KX, fd, [rC K], spLaw K, fun p hp => ?_, fun p hp => ?_, fun p hp => ?_, fun s u => b s [u] rfl, fun H a ns _ _ hT hS => ?_, fun base KB GB TB => ?_⟩
  · rw [List.mem_singleton.mp hp]
    exact c.empty _ hm
  · rw [List.mem_singleton.mp hp]
    exact c.out _ hm
  · rw [List.mem_singleton.mp hp]
    exact PySem.W.codeHd_of_K KX (c.hd _ hm)
  · refine ⟨a, ns, rfl, hS, fun p hp => ?_, fun _ => rfl⟩
    rw [List.mem_singleton.mp hp]
    exact LamX.TabS.nil (hT _ List.mem_cons_self)
  · exact ok_law T F (TB _ List.mem_cons_self)
end NF
open PySem PySem.W PySem.Calls PyProof.Rows
theorem PySem.Challenge.cw_narrowahead_k66_whole_never_fewer_holds : PySem.Challenge.rw_narrowahead_k66_whole_never_fewer.Holds := by
  w_on; o_law
  refine HandSHeadRun.head_any (r := OpenLaw.row PySem.Challenge.rw_narrowahead_k66_whole_never_fewer) (q := view (OpenLaw.row PySem.Challenge.rw_narrowahead_k66_whole_never_fewer).prog [56]) (H := NF.hk) (ob := NF.ob) (M := 4000) (loose := NF.loose) (d := HandSHeadRun.topDef (OpenLaw.row PySem.Challenge.rw_narrowahead_k66_whole_never_fewer).prog 56) (kwd := []) NF.ob_eq
    (by kernel_rfl) (fun s => by kernel_rfl) NF.run (by kernel_rfl) (by kernel_rfl) (by kernel_rfl) (by rfl) (by first | assumption | decide +kernel) (by decide +kernel) ⟨rfl, rfl, rfl, rfl, rfl, by decide +kernel⟩ ?hw ?hc
  case hw => w_witness2
  case hc =>
    refine LamX.walk_ofTsE (l := PySem.Challenge.rw_narrowahead_k66_whole_never_fewer) (n := 63) (k := 11) (x := "_law_script") (CX := fun _ => L2.CX0) rfl (by decide) (by kernel_rfl) ⟨rfl, by decide, by decide⟩ ?F (fun _ _ _ _ _ z => z)
    intro w mg fa h Y G hmg0
    have hmg : mg ("law" : PySem.Str) = some (.ref fa) := by
      have e : (HandSHeadRun.topDef (OpenLaw.row PySem.Challenge.rw_narrowahead_k66_whole_never_fewer).prog 56).name = ("law" : PySem.Str) := by kernel_rfl
      rw [← e]
      exact hmg0
    exact NF.at_end Y G hmg


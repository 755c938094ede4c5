import PyProof.Rows.All
import Wide.All
import OpenK.AllK
import Wide.FinOn
import PyProof.EqAt
import PyProof.EqKinds
import PyProof.TupleCall
import HandS.ForMost
import HandS.ForExc
import HandS.IsInst
import HandS.TryMany
import HandS.Lambda
import HandS.Style
import HandS.Conv
import HandS.TupAny
import HandS.Deep
import HandS.Flow
import HandS.RaiseMore
import HandS.Wide
import HandS.WideMore
import HandS.ExcSuper
import HandS.ExcInit
import HandS.DictComp
import HandS.Set
import HandS.Strs
import HandS.TupSets
import HandS.SetKeys
import HandS.Walk
import HandS.SortInts
import HandS.SortRule
import HandS.EndTab
import HandS.SetBool
import KE.SortData
import KE.KDictKeyed
import KE.KDictWalk
import KE.KDictDisplayH
import KE.KDictItemsList
import KE.KDictLaw
import KE.GoesSet
import KE.GoesComp
import KE.GoesEnum
import KE.GoesDict
import HandS.DictTup
import HandS.Keys
import KE.KExcLine
import HandS.ExcOwn
import KE.KNestM
import KE.RegKSuper
import PySem.Challenge.RW_slowshelves_k52_whole_losses_with_rooms
set_option Elab.async false
set_option linter.all false
set_option maxRecDepth 100000
/-! The plain law: standings, steps, paths, heights, rings; no program in sight. -/
namespace K52

/-! ### lists -/
def srt (l : List Int) : List Int := l.mergeSort fun a b => decide (a ≤ b)
theorem srt_perm (l : List Int) : (srt l).Perm l := List.mergeSort_perm l _
theorem srt_sorted (l : List Int) : (srt l).Pairwise (· ≤ ·) := by
  have h := List.pairwise_mergeSort (le := fun (a b : Int) => decide (a ≤ b)) (fun a b c h1 h2 => by simp at *; omega) (fun a b => by simp; omega) l
  exact h.imp (by intro a b h; simpa using h)
theorem sorted_eq {l m : List Int} (p : l.Perm m) (h1 : l.Pairwise (· ≤ ·)) (h2 : m.Pairwise (· ≤ ·)) : l = m :=
  List.Perm.eq_of_pairwise (le := (· ≤ ·)) (fun a b _ _ h1 h2 => Int.le_antisymm h1 h2) h1 h2 p
theorem srt_eq {l m : List Int} (p : l.Perm m) : srt l = srt m :=
  sorted_eq (((srt_perm l).trans p).trans (srt_perm m).symm) (srt_sorted l) (srt_sorted m)
theorem srt_of {l m : List Int} (p : m.Perm l) (h : m.Pairwise (· ≤ ·)) : m = srt l := sorted_eq (p.trans (srt_perm l).symm) h (srt_sorted l)
theorem srt_self {m : List Int} (h : m.Pairwise (· ≤ ·)) : srt m = m := (srt_of (List.Perm.refl m) h).symm
theorem srt_len (l : List Int) : (srt l).length = l.length := (srt_perm l).length_eq
theorem srt_mem {l : List Int} {x : Int} : x ∈ srt l ↔ x ∈ l := (srt_perm l).mem_iff
theorem srt_nodup {l : List Int} (h : l.Nodup) : (srt l).Nodup := (srt_perm l).nodup_iff.mpr h

/-! ### standings and steps -/
structure Sd where
  st : List Int
  me : List Int
  pl : Int
  ma : List Int
  deriving DecidableEq
structure Stp where
  b : Int
  gone : List Int
  mv : Int
  co : Int
  to : Sd
  deriving DecidableEq
abbrev Stp.gain (p : Stp) : Int := p.mv - p.co
structure Setg where
  rows : List (List Int)
  rooms : Nat
  own : Nat
  lru : Bool
abbrev Setg.n (S : Setg) : Nat := S.rows.length

def wordStep (lru : Bool) (order : List Int) (b : Int) (isIn isFull : Bool) : List Int × Int :=
  if isIn && !lru then (order, -1)
  else (order.filter (fun o => !(o == b || o == (if isFull then order.headD (-1) else -1))) ++ [b], if isFull then order.headD (-1) else -1)
def ruleStep (lru : Bool) (own : Nat) (st me : List Int) (b : Int) : Int × Int × List Int × List Int :=
  let w := wordStep lru st b (me.contains b) (!me.contains b && me.length == own)
  (if me.contains b then 0 else 1, w.2, w.1, if me.contains b then me.filter (· != w.2) else srt (me.filter (· != w.2) ++ [b]))
def mates (rooms : Nat) (ma : List Int) (b : Int) : List (Int × List Int × List Int) :=
  if ma.contains b then [(0, [], ma)] else if ma.length < rooms then [(1, [], srt (ma ++ [b]))] else ma.map fun o => (1, [o], srt (ma.filter (· != o) ++ [b]))
def follow (S : Setg) (pl : Int) : List Int := if pl = -1 then (List.range S.n).map Int.ofNat else S.rows.getD pl.toNat []
def stepsAt (S : Setg) (s : Sd) (b : Int) : List Stp :=
  (mates S.rooms s.ma b).map fun m => ⟨b, m.2.1, (ruleStep S.lru S.own s.st s.me b).1, m.1, ⟨(ruleStep S.lru S.own s.st s.me b).2.2.1, (ruleStep S.lru S.own s.st s.me b).2.2.2, b, m.2.2⟩⟩
def steps (S : Setg) (s : Sd) : List Stp := (follow S s.pl).flatMap (stepsAt S s)
def first : Sd := ⟨[], [], -1, []⟩

theorem mem_steps {S : Setg} {s : Sd} {p : Stp} : p ∈ steps S s ↔ ∃ b ∈ follow S s.pl, ∃ m ∈ mates S.rooms s.ma b,
    p = ⟨b, m.2.1, (ruleStep S.lru S.own s.st s.me b).1, m.1, ⟨(ruleStep S.lru S.own s.st s.me b).2.2.1, (ruleStep S.lru S.own s.st s.me b).2.2.2, b, m.2.2⟩⟩ := by
  unfold steps stepsAt
  simp only [List.mem_flatMap, List.mem_map]
  constructor
  · rintro ⟨b, hb, m, hm, rfl⟩; exact ⟨b, hb, m, hm, rfl⟩
  · rintro ⟨b, hb, m, hm, rfl⟩; exact ⟨b, hb, m, hm, rfl⟩

theorem mates_cost {rooms : Nat} {ma : List Int} {b : Int} {m : Int × List Int × List Int} (h : m ∈ mates rooms ma b) : m.1 = if ma.contains b then 0 else 1 := by
  unfold mates at h
  by_cases hc : ma.contains b = true
  · rw [if_pos hc] at h; rw [if_pos hc]; simp at h; rw [h]
  · rw [if_neg hc] at h; rw [if_neg hc]
    by_cases hl : ma.length < rooms
    · rw [if_pos hl] at h; simp at h; rw [h]
    · rw [if_neg hl] at h; obtain ⟨o, _, rfl⟩ := List.mem_map.mp h; rfl
theorem rule_moved (lru : Bool) (own : Nat) (st me : List Int) (b : Int) : (ruleStep lru own st me b).1 = if me.contains b then 0 else 1 := rfl
theorem gain_le {S : Setg} {s : Sd} {p : Stp} (h : p ∈ steps S s) : p.gain ≤ 1 := by
  obtain ⟨b, _, m, hm, rfl⟩ := mem_steps.mp h
  have h1 := mates_cost hm
  have h2 := rule_moved S.lru S.own s.st s.me b
  show (ruleStep S.lru S.own s.st s.me b).1 - m.1 ≤ 1
  rw [h1, h2]
  split <;> split <;> decide

/-! ### paths, what a greatest loss is -/
inductive Path (S : Setg) : Sd → Sd → Int → Prop
  | nil (s : Sd) : Path S s s 0
  | cons {s t : Sd} {g : Int} {p : Stp} : p ∈ steps S s → Path S p.to t g → Path S s t (p.gain + g)
theorem Path.trans {S : Setg} {a b c : Sd} {g k : Int} (h : Path S a b g) (q : Path S b c k) : Path S a c (g + k) := by
  induction h with
  | nil s => rw [Int.zero_add]; exact q
  | cons hp _ ih => rw [Int.add_assoc]; exact .cons hp (ih q)
def LossIs (S : Setg) : Option Int → Prop
  | some n => (∀ t g, Path S first t g → g ≤ n) ∧ ∃ t, Path S first t n
  | none => ∀ B : Int, ∃ t g, Path S first t g ∧ B < g
theorem LossIs.unique {S : Setg} {a b : Option Int} (h : LossIs S a) (k : LossIs S b) : a = b := by
  cases a with
  | none =>
    cases b with
    | none => rfl
    | some n => obtain ⟨t, g, hp, hg⟩ := h n; have := k.1 t g hp; omega
  | some m =>
    cases b with
    | none => obtain ⟨t, g, hp, hg⟩ := k m; have := h.1 t g hp; omega
    | some n =>
      obtain ⟨t, ht⟩ := h.2
      obtain ⟨u, hu⟩ := k.2
      have h1 := k.1 t m ht
      have h2 := h.1 u n hu
      have : m = n := by omega
      rw [this]
theorem LossIs.nonneg {S : Setg} {n : Int} (h : LossIs S (some n)) : 0 ≤ n := h.1 first 0 (.nil _)

/-! ### good standings -/
structure WfS (S : Setg) : Prop where
  row : ∀ r ∈ S.rows, ∀ b ∈ r, 0 ≤ b ∧ b < (S.n : Int)
  own : 1 ≤ S.own
  rooms : 1 ≤ S.rooms
structure Good (S : Setg) (s : Sd) : Prop where
  nd : s.st.Nodup
  rng : ∀ x ∈ s.st, 0 ≤ x ∧ x < (S.n : Int)
  me : s.me = srt s.st
  len : s.st.length ≤ S.own
  mnd : s.ma.Nodup
  mrng : ∀ x ∈ s.ma, 0 ≤ x ∧ x < (S.n : Int)
  msrt : s.ma.Pairwise (· ≤ ·)
  mlen : s.ma.length ≤ S.rooms
  pl : s.pl = -1 ∨ (0 ≤ s.pl ∧ s.pl < (S.n : Int))
theorem good_first (S : Setg) : Good S first :=
  ⟨List.nodup_nil, (fun _ h => by cases h), (srt_self List.Pairwise.nil).symm, Nat.zero_le _, List.nodup_nil, (fun _ h => by cases h), List.Pairwise.nil, Nat.zero_le _, .inl rfl⟩
theorem follow_rng {S : Setg} (W : WfS S) {pl b : Int} (h : b ∈ follow S pl) : 0 ≤ b ∧ b < (S.n : Int) := by
  unfold follow at h
  split at h
  · obtain ⟨k, hk, rfl⟩ := List.mem_map.mp h
    have := List.mem_range.mp hk
    constructor
    · exact Int.natCast_nonneg k
    · show (k : Int) < _
      omega
  · rw [List.getD_eq_getElem?_getD] at h
    cases e : S.rows[pl.toNat]? with
    | none => rw [e] at h; simp at h
    | some r => rw [e] at h; exact W.row r (List.mem_of_getElem? e) b (by simpa using h)
theorem filter_len_lt {l : List Int} {x : Int} (hx : x ∈ l) : (l.filter (· != x)).length < l.length := by
  rcases Nat.lt_or_ge (l.filter (· != x)).length l.length with h | h
  · exact h
  · have e := List.Sublist.eq_of_length_le (List.filter_sublist (p := (· != x)) (l := l)) h
    rw [← e] at hx
    simp at hx
theorem mates_good {S : Setg} (W : WfS S) {ma : List Int} {b : Int} (hb : 0 ≤ b ∧ b < (S.n : Int)) (nd : ma.Nodup) (rng : ∀ x ∈ ma, 0 ≤ x ∧ x < (S.n : Int)) (so : ma.Pairwise (· ≤ ·)) (len : ma.length ≤ S.rooms)
    {m : Int × List Int × List Int} (h : m ∈ mates S.rooms ma b) : m.2.2.Nodup ∧ (∀ x ∈ m.2.2, 0 ≤ x ∧ x < (S.n : Int)) ∧ m.2.2.Pairwise (· ≤ ·) ∧ m.2.2.length ≤ S.rooms ∧ (∀ x ∈ m.2.2, x ∈ ma ∨ x = b) := by
  unfold mates at h
  by_cases hc : ma.contains b = true
  · rw [if_pos hc] at h; simp at h; subst h; exact ⟨nd, rng, so, len, fun x hx => .inl hx⟩
  · rw [if_neg hc] at h
    have hnb : b ∉ ma := by simpa using hc
    by_cases hl : ma.length < S.rooms
    · rw [if_pos hl] at h; simp at h; subst h
      have nd' : (ma ++ [b]).Nodup := by
        rw [List.nodup_append]; refine ⟨nd, by simp, ?_⟩
        intro a ha c hc' e; simp at hc'; subst hc'; subst e; exact hnb ha
      refine ⟨srt_nodup nd', fun x hx => ?_, srt_sorted _, by rw [srt_len]; simp; omega, fun x hx => ?_⟩
      · have := srt_mem.mp hx; simp at this; rcases this with q | q
        · exact rng x q
        · subst q; exact hb
      · have := srt_mem.mp hx; simpa using this
    · rw [if_neg hl] at h; obtain ⟨o, ho, rfl⟩ := List.mem_map.mp h
      have nd' : (ma.filter (· != o) ++ [b]).Nodup := by
        rw [List.nodup_append]; refine ⟨nd.sublist List.filter_sublist, by simp, ?_⟩
        intro a ha c hc' e; simp at hc'; subst hc'; subst e; exact hnb (List.mem_filter.mp ha).1
      have hlt := filter_len_lt ho
      refine ⟨srt_nodup nd', fun x hx => ?_, srt_sorted _, by rw [srt_len]; simp only [List.length_append, List.length_singleton]; omega, fun x hx => ?_⟩
      · have := srt_mem.mp hx; simp only [List.mem_append, List.mem_filter, List.mem_singleton] at this; rcases this with q | q
        · exact rng x q.1
        · subst q; exact hb
      · have := srt_mem.mp hx; simp only [List.mem_append, List.mem_filter, List.mem_singleton] at this; rcases this with q | q
        · exact .inl q.1
        · exact .inr q

/-- what a rule's step leaves -/
structure RStep (S : Setg) (st : List Int) (b : Int) (st' me' : List Int) : Prop where
  nd : st'.Nodup
  rng : ∀ x ∈ st', 0 ≤ x ∧ x < (S.n : Int)
  me : me' = srt st'
  len : st'.length ≤ S.own
theorem rule_in {S : Setg} {st : List Int} {b : Int} (h0 : ∀ x ∈ st, 0 ≤ x ∧ x < (S.n : Int)) (hb : b ∈ st) :
    ruleStep S.lru S.own st (srt st) b = (0, -1, if S.lru then st.filter (fun o => !(o == b)) ++ [b] else st, srt st) := by
  have hc : (srt st).contains b = true := by simpa using srt_mem.mpr hb
  have hk : (srt st).filter (· != -1) = srt st := List.filter_eq_self.mpr fun x hx => by have := (h0 x (srt_mem.mp hx)).1; simp; omega
  unfold ruleStep wordStep
  simp only [hc, Bool.not_true, Bool.false_and, Bool.true_and, if_true, Bool.false_eq_true, if_false]
  cases hl : S.lru with
  | true =>
    simp only [Bool.not_true, Bool.false_eq_true, if_false, if_true, hk]
    congr 3
    congr 1
    refine List.filter_congr fun x hx => ?_
    have := (h0 x hx).1
    have : (x == (-1 : Int)) = false := by simp; omega
    rw [this, Bool.or_false]
  | false => simp only [Bool.not_false, if_true, hk, Bool.false_eq_true, if_false]
theorem rule_new {S : Setg} {st : List Int} {b : Int} (h0 : ∀ x ∈ st, 0 ≤ x ∧ x < (S.n : Int)) (hb : b ∉ st) (hl : st.length ≠ S.own) :
    ruleStep S.lru S.own st (srt st) b = (1, -1, st ++ [b], srt (st ++ [b])) := by
  have hc : (srt st).contains b = false := by
    have := mt srt_mem.mp hb; simpa using this
  have hk : (srt st).filter (· != -1) = srt st := List.filter_eq_self.mpr fun x hx => by have := (h0 x (srt_mem.mp hx)).1; simp; omega
  have hf : ((srt st).length == S.own) = false := by rw [srt_len]; simpa using hl
  have hs : st.filter (fun o => !(o == b || o == (-1 : Int))) = st := List.filter_eq_self.mpr fun x hx => by
    have h1 := (h0 x hx).1
    have h2 : x ≠ b := fun e => hb (e ▸ hx)
    simp; omega
  unfold ruleStep wordStep
  simp only [hc, hf, Bool.false_and, Bool.and_false, Bool.false_eq_true, if_false, hk, hs]
  congr 3
  exact srt_eq ((srt_perm st).append_right [b])
theorem rule_full {S : Setg} {o : Int} {r : List Int} {b : Int} (nd : (o :: r).Nodup) (hb : b ∉ o :: r) (hl : (o :: r).length = S.own) :
    ruleStep S.lru S.own (o :: r) (srt (o :: r)) b = (1, o, r ++ [b], srt (r ++ [b])) := by
  have hc : (srt (o :: r)).contains b = false := by
    have := mt srt_mem.mp hb; simpa using this
  have hf : ((srt (o :: r)).length == S.own) = true := by rw [srt_len]; simpa using hl
  have hor : o ∉ r := (List.nodup_cons.mp nd).1
  have hs : (o :: r).filter (fun x => !(x == b || x == o)) = r := by
    rw [List.filter_cons]
    simp only [beq_self_eq_true, Bool.or_true, Bool.not_true, Bool.false_eq_true, if_false]
    refine List.filter_eq_self.mpr fun x hx => ?_
    have h2 : x ≠ b := fun e => hb (e ▸ List.mem_cons_of_mem _ hx)
    have h3 : x ≠ o := fun e => hor (e ▸ hx)
    simp [h2, h3]
  have hp : ((srt (o :: r)).filter (· != o) ++ [b]).Perm (r ++ [b]) := by
    refine List.Perm.append_right _ (((srt_perm (o :: r)).filter (· != o)).trans ?_)
    rw [List.filter_cons]
    have : (o != o) = false := by simp
    rw [this]
    simp only [Bool.false_eq_true, if_false]
    rw [List.filter_eq_self.mpr fun x hx => by have h3 : x ≠ o := fun e => hor (e ▸ hx); simpa using h3]
  unfold ruleStep wordStep
  simp only [hc, hf, Bool.not_false, Bool.true_and, Bool.false_and, Bool.false_eq_true, if_false, if_true, List.headD_cons, hs]
  congr 3
  exact srt_eq hp
theorem rule_good {S : Setg} (W : WfS S) {st : List Int} {b : Int} (nd : st.Nodup) (rng : ∀ x ∈ st, 0 ≤ x ∧ x < (S.n : Int)) (len : st.length ≤ S.own) (hb : 0 ≤ b ∧ b < (S.n : Int)) :
    RStep S st b (ruleStep S.lru S.own st (srt st) b).2.2.1 (ruleStep S.lru S.own st (srt st) b).2.2.2 := by
  by_cases hm : b ∈ st
  · rw [rule_in rng hm]
    cases S.lru with
    | false => exact ⟨nd, rng, rfl, len⟩
    | true =>
      show RStep S st b (st.filter (fun o => !(o == b)) ++ [b]) (srt st)
      have hp : (st.filter (fun o => !(o == b)) ++ [b]).Perm st := by
        have h1 : st.filter (fun o => !(o == b)) = st.erase b := by
          rw [nd.erase_eq_filter]; rfl
        rw [h1]
        exact (List.perm_append_comm.trans (List.perm_cons_erase hm).symm)
      exact ⟨hp.nodup_iff.mpr nd, fun x hx => rng x (hp.mem_iff.mp hx), srt_eq hp.symm, by rw [hp.length_eq]; exact len⟩
  · by_cases hl : st.length = S.own
    · cases st with
      | nil => have := W.own; simp at hl; omega
      | cons o r =>
        rw [rule_full nd hm hl]
        have nr := List.nodup_cons.mp nd
        refine ⟨?_, fun x hx => ?_, rfl, by simp at hl ⊢; omega⟩
        · rw [List.nodup_append]; refine ⟨nr.2, by simp, ?_⟩
          intro a ha c hc e; simp at hc; subst hc; subst e; exact hm (List.mem_cons_of_mem _ ha)
        · simp at hx; rcases hx with q | q
          · exact rng x (List.mem_cons_of_mem _ q)
          · subst q; exact hb
    · rw [rule_new rng hm hl]
      refine ⟨?_, fun x hx => ?_, rfl, by simp; omega⟩
      · rw [List.nodup_append]; refine ⟨nd, by simp, ?_⟩
        intro a ha c hc e; simp at hc; subst hc; subst e; exact hm ha
      · simp at hx; rcases hx with q | q
        · exact rng x q
        · subst q; exact hb
theorem good_step {S : Setg} (W : WfS S) {s : Sd} (G : Good S s) {p : Stp} (h : p ∈ steps S s) : Good S p.to := by
  obtain ⟨b, hb, m, hm, rfl⟩ := mem_steps.mp h
  have hr := follow_rng W hb
  have h1 := mates_good W hr G.mnd G.mrng G.msrt G.mlen hm
  have h2 := rule_good W G.nd G.rng G.len hr
  rw [← G.me] at h2
  exact ⟨h2.nd, h2.rng, h2.me, h2.len, h1.1, h1.2.1, h1.2.2.1, h1.2.2.2.1, .inr hr⟩

/-! ### there are few -/
def allL : Nat → List (List Int)
  | 0 => [[]]
  | k + 1 => [] :: (allL k).flatMap fun l => [0, 1, 2, 3].map (· :: l)
theorem mem_allL : ∀ (k : Nat) (l : List Int), l.length ≤ k → (∀ x ∈ l, 0 ≤ x ∧ x < 4) → l ∈ allL k
  | 0, l, h, _ => by
    have : l = [] := List.length_eq_zero_iff.mp (by omega)
    subst this; simp [allL]
  | k + 1, [], _, _ => by simp [allL]
  | k + 1, a :: l, h, hr => by
    have ih := mem_allL k l (by simp at h; omega) fun x hx => hr x (List.mem_cons_of_mem _ hx)
    have ha := hr a List.mem_cons_self
    refine List.mem_cons_of_mem _ (List.mem_flatMap.mpr ⟨l, ih, List.mem_map.mpr ⟨a, ?_, rfl⟩⟩)
    have : a = 0 ∨ a = 1 ∨ a = 2 ∨ a = 3 := by omega
    rcases this with rfl | rfl | rfl | rfl <;> simp
def ndL : List (List Int) := (allL 4).filter fun l => decide l.Nodup
def asL : List (List Int) := ndL.filter fun l => decide (l.Pairwise (· ≤ ·))
theorem mem_ndL {l : List Int} (nd : l.Nodup) (hr : ∀ x ∈ l, 0 ≤ x ∧ x < 4) : l ∈ ndL := by
  refine List.mem_filter.mpr ⟨mem_allL 4 l ?_ hr, by simpa using nd⟩
  have : l.length ≤ ([0, 1, 2, 3] : List Int).length := nd.length_le_of_subset fun x hx => by
    have := hr x hx
    have : x = 0 ∨ x = 1 ∨ x = 2 ∨ x = 3 := by omega
    rcases this with rfl | rfl | rfl | rfl <;> simp
  simpa using this
theorem mem_asL {l : List Int} (nd : l.Nodup) (hr : ∀ x ∈ l, 0 ≤ x ∧ x < 4) (so : l.Pairwise (· ≤ ·)) : l ∈ asL := List.mem_filter.mpr ⟨mem_ndL nd hr, by simpa using so⟩
def univ : List Sd := ndL.flatMap fun st => ([-1, 0, 1, 2, 3] : List Int).flatMap fun pl => asL.map fun ma => ⟨st, srt st, pl, ma⟩
theorem univ_len : univ.length ≤ 6000 := by
  have h1 : ndL.length ≤ 65 := by decide +kernel
  have h2 : asL.length ≤ 16 := by decide +kernel
  have h3 : ∀ l : List (List Int), (l.flatMap fun st => ([-1, 0, 1, 2, 3] : List Int).flatMap fun pl => asL.map fun ma => (⟨st, srt st, pl, ma⟩ : Sd)).length ≤ l.length * 80 := by
    intro l
    induction l with
    | nil => simp
    | cons a l ih =>
      simp only [List.flatMap_cons, List.length_append, List.length_cons, List.length_map, List.flatMap_nil, List.length_nil] at ih ⊢
      omega
  have := h3 ndL
  unfold univ
  omega
theorem mem_univ {S : Setg} {s : Sd} (hn : S.n ≤ 4) (G : Good S s) : s ∈ univ := by
  obtain ⟨st, me, pl, ma⟩ := s
  have r4 : ∀ x : Int, 0 ≤ x ∧ x < (S.n : Int) → 0 ≤ x ∧ x < 4 := fun x h => by omega
  have hme : me = srt st := G.me
  subst hme
  refine List.mem_flatMap.mpr ⟨st, mem_ndL G.nd fun x hx => r4 x (G.rng x hx), List.mem_flatMap.mpr ⟨pl, ?_, List.mem_map.mpr ⟨ma, mem_asL G.mnd (fun x hx => r4 x (G.mrng x hx)) G.msrt, rfl⟩⟩⟩
  have hp : pl = -1 ∨ (0 ≤ pl ∧ pl < (S.n : Int)) := G.pl
  have : pl = -1 ∨ pl = 0 ∨ pl = 1 ∨ pl = 2 ∨ pl = 3 := by omega
  rcases this with rfl | rfl | rfl | rfl | rfl <;> simp
end K52
namespace K52

/-! ### room for all blocks: nothing is lost -/
theorem len_le_n {S : Setg} {l : List Int} (nd : l.Nodup) (hr : ∀ x ∈ l, 0 ≤ x ∧ x < (S.n : Int)) : l.length ≤ S.n := by
  have h : l.length ≤ ((List.range S.n).map Int.ofNat).length := nd.length_le_of_subset fun x hx => by
    have h1 := hr x hx
    refine List.mem_map.mpr ⟨x.toNat, List.mem_range.mpr (by omega), ?_⟩
    show ((x.toNat : Nat) : Int) = x
    omega
  simpa using h
theorem wide_path {S : Setg} (W : WfS S) (ho : S.n ≤ S.own) {s t : Sd} {g : Int} (p : Path S s t g) : Good S s → (∀ x ∈ s.ma, x ∈ s.st) → g ≤ 0 := by
  induction p with
  | nil s => intro _ _; exact Int.le_refl _
  | @cons s t g p hp _ ih =>
    intro G hs
    have G' := good_step W G hp
    obtain ⟨b, hb, m, hm, rfl⟩ := mem_steps.mp hp
    have hr := follow_rng W hb
    have h1 := mates_good W hr G.mnd G.mrng G.msrt G.mlen hm
    have hc := mates_cost hm
    have hmv := rule_moved S.lru S.own s.st s.me b
    have sub : ∀ x, (x ∈ s.st ∨ x = b) → x ∈ (ruleStep S.lru S.own s.st s.me b).2.2.1 := by
      intro x hx
      rw [G.me]
      by_cases hm' : b ∈ s.st
      · rw [rule_in G.rng hm']
        cases S.lru with
        | false => rcases hx with q | q
                   · exact q
                   · subst q; exact hm'
        | true =>
          show x ∈ s.st.filter (fun o => !(o == b)) ++ [b]
          by_cases e : x = b
          · subst e; simp
          · rcases hx with q | q
            · simp [q, e]
            · exact absurd q e
      · have hl : s.st.length ≠ S.own := by
          intro e
          have nd' : (s.st ++ [b]).Nodup := by
            rw [List.nodup_append]; refine ⟨G.nd, by simp, ?_⟩
            intro a ha c hc e; simp at hc; subst hc; subst e; exact hm' ha
          have := len_le_n (S := S) nd' (fun x hx => by simp at hx; rcases hx with q | q; exact G.rng x q; subst q; exact hr)
          simp at this
          omega
        rw [rule_new G.rng hm' hl]
        show x ∈ s.st ++ [b]
        simpa using hx
    have ih' := ih G' fun x hx => sub x ((h1.2.2.2.2 x hx).imp (hs x) id)
    have gain : (ruleStep S.lru S.own s.st s.me b).1 - m.1 ≤ 0 := by
      rw [hmv, hc]
      by_cases q : s.me.contains b = true
      · rw [if_pos q]; split <;> decide
      · have : ¬ s.ma.contains b = true := fun z => q (by
          have z' : b ∈ s.ma := by simpa using z
          have := hs b z'
          rw [G.me]
          simpa using srt_mem.mpr this)
        rw [if_neg q, if_neg this]; decide
    show (ruleStep S.lru S.own s.st s.me b).1 - m.1 + g ≤ 0
    omega
theorem loss_wide {S : Setg} (W : WfS S) (ho : S.n ≤ S.own) : LossIs S (some 0) :=
  ⟨fun t g p => wide_path W ho p (good_first S) (fun x h => by cases h), first, .nil _⟩

/-! ### "last used": one more room -/
def Setg.more (S : Setg) : Setg := { S with own := S.own + 1 }
theorem WfS.more {S : Setg} (W : WfS S) : WfS S.more := ⟨W.row, by show 1 ≤ S.own + 1; omega, W.rooms⟩
/-- B holds A at its end; what is ahead stands there only if A is full -/
def Ends2 (S : Setg) (A B : List Int) : Prop := ∃ C, B = C ++ A ∧ (C = [] ∨ A.length = S.own)
theorem lru_step {S : Setg} (W : WfS S) (hl : S.lru = true) {A B : List Int} {b : Int} (E : Ends2 S A B) (hb : 0 ≤ b ∧ b < (S.n : Int)) (nB : B.Nodup) (rB : ∀ x ∈ B, 0 ≤ x ∧ x < (S.n : Int)) (lA : A.length ≤ S.own) (lB : B.length ≤ S.own + 1) :
    Ends2 S (ruleStep true S.own A (srt A) b).2.2.1 (ruleStep true (S.own + 1) B (srt B) b).2.2.1 ∧ (ruleStep true (S.own + 1) B (srt B) b).1 ≤ (ruleStep true S.own A (srt A) b).1 := by
  obtain ⟨C, rfl, hC⟩ := E
  have own := W.own
  obtain ⟨nC, nA, dis⟩ := List.nodup_append.mp nB
  have rA : ∀ x ∈ A, 0 ≤ x ∧ x < (S.n : Int) := fun x hx => rB x (List.mem_append_right _ hx)
  have e1 := fun h => rule_in (S := { S with lru := true }) (st := A) (b := b) rA h
  have e2 := fun h => rule_in (S := { S with lru := true, own := S.own + 1 }) (st := C ++ A) (b := b) rB h
  have f1 := fun h k => rule_new (S := { S with lru := true }) (st := A) (b := b) rA h k
  have f2 := fun h k => rule_new (S := { S with lru := true, own := S.own + 1 }) (st := C ++ A) (b := b) rB h k
  simp only [if_true] at e1 e2 f1 f2
  by_cases hA : b ∈ A
  · rw [e1 hA, e2 (List.mem_append_right _ hA)]
    refine ⟨⟨C, ?_, ?_⟩, Int.le_refl _⟩
    · show (C ++ A).filter _ ++ [b] = C ++ (A.filter _ ++ [b])
      rw [List.filter_append, List.append_assoc]
      congr 1
      exact List.filter_eq_self.mpr fun x hx => by
        have : x ≠ b := fun e => dis x hx b hA e
        simpa using this
    · rcases hC with q | q
      · exact .inl q
      · right
        show (A.filter (fun o => !(o == b)) ++ [b]).length = S.own
        have h1 : A.filter (fun o => !(o == b)) = A.erase b := by rw [nA.erase_eq_filter]; rfl
        rw [h1, List.length_append, List.length_erase_of_mem hA, List.length_singleton]
        have := List.length_pos_of_mem hA
        omega
  · by_cases hCb : b ∈ C
    · have hfull : A.length = S.own := by
        rcases hC with q | q
        · subst q; cases hCb
        · exact q
      rw [e2 (List.mem_append_left _ hCb)]
      cases A with
      | nil => simp at hfull; omega
      | cons o r =>
        rw [rule_full (S := { S with lru := true }) nA hA hfull]
        refine ⟨⟨C.filter (fun x => !(x == b)) ++ [o], ?_, .inr (by simp at hfull ⊢; omega)⟩, (by show (0 : Int) ≤ 1; decide)⟩
        show (C ++ o :: r).filter _ ++ [b] = C.filter _ ++ [o] ++ (r ++ [b])
        rw [List.filter_append]
        have : (o :: r).filter (fun x => !(x == b)) = o :: r := List.filter_eq_self.mpr fun x hx => by
          have : x ≠ b := fun e => hA (e ▸ hx)
          simpa using this
        rw [this]
        simp
    · have hB : b ∉ C ++ A := by simp [hA, hCb]
      by_cases hfull : A.length = S.own
      · cases A with
        | nil => simp at hfull; omega
        | cons o r =>
          rw [rule_full (S := { S with lru := true }) nA hA hfull]
          by_cases hBf : (C ++ o :: r).length = S.own + 1
          · have hc1 : C.length = 1 := by simp at hBf hfull; omega
            obtain ⟨c, rfl⟩ := List.length_eq_one_iff.mp hc1
            rw [show [c] ++ o :: r = c :: o :: r from rfl] at nB hB hBf ⊢
            rw [rule_full (S := { S with lru := true, own := S.own + 1 }) nB hB hBf]
            exact ⟨⟨[o], rfl, .inr (by simp at hfull ⊢; omega)⟩, Int.le_refl _⟩
          · rw [f2 hB hBf]
            exact ⟨⟨C ++ [o], by simp, .inr (by simp at hfull ⊢; omega)⟩, Int.le_refl _⟩
      · have hc0 : C = [] := hC.resolve_right hfull
        subst hc0
        have hBf : ([] ++ A).length ≠ S.own + 1 := by simp; omega
        rw [f1 hA hfull, f2 hB hBf]
        exact ⟨⟨[], rfl, .inl rfl⟩, Int.le_refl _⟩
theorem lru_path {S : Setg} (W : WfS S) (hl : S.lru = true) {s t : Sd} {g : Int} (p : Path S.more s t g) : ∀ a : Sd, Good S.more s → Good S a → Ends2 S a.st s.st → a.pl = s.pl → a.ma = s.ma → ∃ u g', Path S a u g' ∧ g ≤ g' := by
  induction p with
  | nil s => intro a _ _ _ _ _; exact ⟨a, 0, .nil a, Int.le_refl _⟩
  | @cons s t g p hp _ ih =>
    intro a Gs Ga E hpl hma
    have Gs' := good_step W.more Gs hp
    obtain ⟨b, hb, m, hm, rfl⟩ := mem_steps.mp hp
    have hb' : b ∈ follow S a.pl := by rw [hpl]; exact hb
    have hm' : m ∈ mates S.rooms a.ma b := by rw [hma]; exact hm
    have hs := mem_steps.mpr ⟨b, hb', m, hm', rfl⟩
    have Ga' := good_step W Ga hs
    have hr := follow_rng W hb'
    have q := lru_step W hl E hr Gs.nd Gs.rng Ga.len Gs.len
    rw [← Ga.me, ← Gs.me] at q
    obtain ⟨u, g', hp', hg⟩ := ih _ Gs' Ga' (by
      show Ends2 S (ruleStep S.lru S.own a.st a.me b).2.2.1 (ruleStep S.lru (S.own + 1) s.st s.me b).2.2.1
      rw [hl]; exact q.1) rfl rfl
    refine ⟨u, _, .cons hs hp', ?_⟩
    have h2 : (ruleStep S.lru (S.own + 1) s.st s.me b).1 ≤ (ruleStep S.lru S.own a.st a.me b).1 := by rw [hl]; exact q.2
    show (ruleStep S.lru (S.own + 1) s.st s.me b).1 - m.1 + g ≤ (ruleStep S.lru S.own a.st a.me b).1 - m.1 + g'
    omega
/-- None being above all -/
def notAbove : Option Int → Option Int → Prop
  | _, none => True
  | some n, some k => n ≤ k
  | none, some _ => False
theorem lru_falls {S : Setg} (W : WfS S) (hl : S.lru = true) {a b : Option Int} (ha : LossIs S a) (hb : LossIs S.more b) : notAbove b a := by
  have key : ∀ t g, Path S.more first t g → ∃ u g', Path S first u g' ∧ g ≤ g' := fun t g p =>
    lru_path W hl p first (good_first _) (good_first _) ⟨[], rfl, .inl rfl⟩ rfl rfl
  cases a with
  | none => cases b <;> trivial
  | some k =>
    cases b with
    | none =>
      obtain ⟨t, g, hp, hg⟩ := hb k
      obtain ⟨u, g', hp', hg'⟩ := key t g hp
      have := ha.1 u g' hp'
      exact absurd this (by omega)
    | some n =>
      obtain ⟨t, hp⟩ := hb.2
      obtain ⟨u, g', hp', hg'⟩ := key t n hp
      have := ha.1 u g' hp'
      show n ≤ k
      omega

/-! ### heights and choices -/
abbrev Cho := Sd → Option Stp
abbrev Hts := Sd → Int
def ups {α : Type} (f : Sd → α) (s : Sd) (v : α) : Sd → α := fun t => if t = s then v else f t
theorem ups_same {α : Type} {f : Sd → α} {s : Sd} {v : α} : ups f s v s = v := if_pos rfl
theorem ups_ne {α : Type} {f : Sd → α} {s t : Sd} {v : α} (h : t ≠ s) : ups f s v t = f t := if_neg h
inductive CP (c : Cho) : Sd → Sd → Int → Prop
  | nil (s : Sd) : CP c s s 0
  | cons {s t : Sd} {g : Int} {p : Stp} : c s = some p → CP c p.to t g → CP c s t (p.gain + g)
theorem CP.trans {c : Cho} {a b d : Sd} {g k : Int} (h : CP c a b g) (q : CP c b d k) : CP c a d (g + k) := by
  induction h with
  | nil s => rw [Int.zero_add]; exact q
  | cons hp _ ih => rw [Int.add_assoc]; exact .cons hp (ih q)
structure HInv (S : Setg) (K : List Sd) (h : Hts) (c : Cho) : Prop where
  ch : ∀ s p, c s = some p → s ∈ K ∧ p ∈ steps S s ∧ h s ≤ p.gain + h p.to
  no : ∀ s, c s = none → h s = 0
  nn : ∀ s, 0 ≤ h s
  rp : ∀ r p g, c r = some p → CP c p.to r g → 0 < p.gain + g
theorem hinv_start (S : Setg) (K : List Sd) : HInv S K (fun _ => 0) (fun _ => none) :=
  ⟨fun _ _ h => (by cases h), fun _ _ => rfl, fun _ => Int.le_refl _, fun _ _ _ h => (by cases h)⟩
theorem HInv.raise {S : Setg} {K : List Sd} {h : Hts} {c : Cho} (I : HInv S K h c) {s : Sd} {p : Stp} (hs : s ∈ K) (hp : p ∈ steps S s) (hx : h s < p.gain + h p.to) :
    HInv S K (ups h s (p.gain + h p.to)) (ups c s (some p)) := by
  have up : ∀ t, h t ≤ ups h s (p.gain + h p.to) t := fun t => by
    by_cases e : t = s
    · subst e; rw [ups_same]; omega
    · rw [ups_ne e]; exact Int.le_refl _
  -- along new choices the old heights don't fall, and rise where s is passed
  have tele : ∀ {a b g}, CP (ups c s (some p)) a b g → h a ≤ g + h b ∧ (CP c a b g ∨ h a < g + h b) := by
    intro a b g q
    induction q with
    | nil t => exact ⟨by omega, .inl (.nil t)⟩
    | @cons a b g p' hc _ ih =>
      by_cases e : a = s
      · subst e
        rw [ups_same] at hc; cases hc
        exact ⟨by omega, .inr (by omega)⟩
      · rw [ups_ne e] at hc
        have := (I.ch a p' hc).2.2
        refine ⟨by omega, ?_⟩
        rcases ih.2 with q | q
        · exact .inl (.cons hc q)
        · exact .inr (by omega)
  refine ⟨fun t q ht => ?_, fun t ht => ?_, fun t => Int.le_trans (I.nn t) (up t), fun r q g hr hg => ?_⟩
  · by_cases e : t = s
    · subst e
      rw [ups_same] at ht; cases ht
      rw [ups_same]
      exact ⟨hs, hp, by have := up p.to; omega⟩
    · rw [ups_ne e] at ht
      rw [ups_ne e]
      have := I.ch t q ht
      exact ⟨this.1, this.2.1, by have := up q.to; omega⟩
  · by_cases e : t = s
    · subst e; rw [ups_same] at ht; cases ht
    · rw [ups_ne e] at ht ⊢; exact I.no t ht
  · by_cases e : r = s
    · have T := tele (.cons hr hg)
      subst e
      rw [ups_same] at hr; cases hr
      have := (tele hg).1
      omega
    · have hr' := hr
      rw [ups_ne e] at hr'
      rcases (tele hg).2 with q' | q'
      · exact I.rp r q g hr' q'
      · have := (I.ch r q hr').2.2
        omega
end K52
namespace K52

/-- the choices from s end behind n steps -/
inductive TermN (c : Cho) : Sd → Nat → Prop
  | nil {s : Sd} : c s = none → TermN c s 0
  | cons {s : Sd} {p : Stp} {n : Nat} : c s = some p → TermN c p.to n → TermN c s (n + 1)
theorem TermN.uniq {c : Cho} {s : Sd} {n m : Nat} (h : TermN c s n) (k : TermN c s m) : n = m := by
  induction h generalizing m with
  | nil e =>
    cases k with
    | nil _ => rfl
    | cons e' _ => rw [e] at e'; cases e'
  | cons e _ ih =>
    cases k with
    | nil e' => rw [e] at e'; cases e'
    | cons e' k' => rw [e] at e'; cases e'; rw [ih k']
def Ends (c : Cho) (s : Sd) : Prop := ∃ n, TermN c s n
def NoRing (c : Cho) : Prop := ∀ s, Ends c s
/-- s stands on a ring: its choices lead back in n + 1 steps -/
inductive ToN (c : Cho) : Sd → Sd → Nat → Prop
  | nil (s : Sd) : ToN c s s 0
  | cons {s t : Sd} {p : Stp} {n : Nat} : c s = some p → ToN c p.to t n → ToN c s t (n + 1)
theorem ToN.cp {c : Cho} {s t : Sd} {n : Nat} (h : ToN c s t n) : ∃ g, CP c s t g := by
  induction h with
  | nil s => exact ⟨0, .nil s⟩
  | cons e _ ih => obtain ⟨g, q⟩ := ih; exact ⟨_, .cons e q⟩
theorem ToN.snoc {c : Cho} {s t : Sd} {p : Stp} {n : Nat} (h : ToN c s t n) (e : c t = some p) : ToN c s p.to (n + 1) := by
  induction h with
  | nil s => exact .cons e (.nil _)
  | cons e' _ ih => exact .cons e' (ih e)
def OnRing (c : Cho) (r : Sd) : Prop := ∃ p n, c r = some p ∧ ToN c p.to r n

theorem CP.path {S : Setg} {K : List Sd} {h : Hts} {c : Cho} (I : HInv S K h c) {s t : Sd} {g : Int} (q : CP c s t g) : Path S s t g := by
  induction q with
  | nil s => exact .nil s
  | cons e _ ih => exact .cons (I.ch _ _ e).2.1 ih
theorem chain_end {S : Setg} {K : List Sd} {h : Hts} {c : Cho} (I : HInv S K h c) {s : Sd} {n : Nat} (T : TermN c s n) : ∃ t g, CP c s t g ∧ h s ≤ g ∧ g ≤ (n : Int) := by
  induction T with
  | @nil s e => exact ⟨s, 0, .nil s, by rw [I.no s e]; exact Int.le_refl _, Int.le_refl _⟩
  | @cons s p n e _ ih =>
    obtain ⟨t, g, q, h1, h2⟩ := ih
    have := I.ch s p e
    have hg := gain_le this.2.1
    exact ⟨t, p.gain + g, .cons e q, by omega, by omega⟩
theorem term_le {S : Setg} {K : List Sd} {h : Hts} {c : Cho} (I : HInv S K h c) {s : Sd} {n : Nat} (T : TermN c s n) : n ≤ K.length := by
  have key : ∀ {s n}, TermN c s n → ∃ l : List Sd, l.length = n ∧ l.Nodup ∧ (∀ x ∈ l, x ∈ K) ∧ ∀ x ∈ l, ∃ k, k ≤ n ∧ TermN c x k := by
    intro s n T
    induction T with
    | nil e => exact ⟨[], rfl, List.nodup_nil, (fun _ h => by cases h), (fun _ h => by cases h)⟩
    | @cons s p n e T' ih =>
      obtain ⟨l, hl, nd, hk, ht⟩ := ih
      refine ⟨s :: l, by simp [hl], List.nodup_cons.mpr ⟨fun hs => ?_, nd⟩, fun x hx => ?_, fun x hx => ?_⟩
      · obtain ⟨k, hk', Tk⟩ := ht s hs
        have := (TermN.cons e T').uniq Tk
        omega
      · rcases List.mem_cons.mp hx with q | q
        · subst q; exact (I.ch _ _ e).1
        · exact hk x q
      · rcases List.mem_cons.mp hx with q | q
        · subst q; exact ⟨n + 1, Nat.le_refl _, .cons e T'⟩
        · obtain ⟨k, h1, h2⟩ := ht x q; exact ⟨k, by omega, h2⟩
  obtain ⟨l, hl, nd, hk, _⟩ := key T
  have := nd.length_le_of_subset (fun x hx => hk x hx)
  omega
theorem height_le {S : Setg} {K : List Sd} {h : Hts} {c : Cho} (I : HInv S K h c) (N : NoRing c) (s : Sd) : h s ≤ (K.length : Int) := by
  obtain ⟨n, T⟩ := N s
  obtain ⟨t, g, _, h1, h2⟩ := chain_end I T
  have := term_le I T
  omega
def total (h : Hts) (K : List Sd) : Int := (K.map h).sum
theorem total_nil (h : Hts) : total h [] = 0 := rfl
theorem total_cons (h : Hts) (s : Sd) (K : List Sd) : total h (s :: K) = h s + total h K := by simp [total]
theorem total_le {h : Hts} {B : Int} (hb : ∀ s, h s ≤ B) : ∀ K : List Sd, total h K ≤ B * K.length
  | [] => by simp [total]
  | s :: K => by
    have ih := total_le hb K
    have h1 := hb s
    rw [total_cons, List.length_cons]
    have : B * ((K.length + 1 : Nat) : Int) = B * K.length + B := by rw [Int.natCast_add, Int.mul_add]; simp
    omega
theorem total_mono {h h' : Hts} (hb : ∀ s, h s ≤ h' s) : ∀ K : List Sd, total h K ≤ total h' K
  | [] => Int.le_refl _
  | s :: K => by
    have ih := total_mono hb K
    have := hb s
    rw [total_cons, total_cons]; omega
theorem total_lt {h h' : Hts} (hb : ∀ s, h s ≤ h' s) : ∀ {K : List Sd} {s : Sd}, s ∈ K → h s < h' s → total h K < total h' K
  | a :: K, s, hs, hl => by
    rw [total_cons, total_cons]
    rcases List.mem_cons.mp hs with q | q
    · subst q
      have := total_mono hb K
      omega
    · have := total_lt hb q hl
      have := hb a
      omega

/-! ### what the end of the raising tells -/
def Closed (S : Setg) (K : List Sd) : Prop := ∀ s ∈ K, ∀ p ∈ steps S s, p.to ∈ K
def Met (S : Setg) (K : List Sd) : Prop := ∀ s ∈ K, ∃ g, Path S first s g
def Feas (S : Setg) (K : List Sd) (h : Hts) : Prop := ∀ s ∈ K, ∀ p ∈ steps S s, p.gain + h p.to ≤ h s
theorem feas_path {S : Setg} {K : List Sd} {h : Hts} (C : Closed S K) (F : Feas S K h) {s t : Sd} {g : Int} (p : Path S s t g) : s ∈ K → g + h t ≤ h s := by
  induction p with
  | nil s => intro _; omega
  | @cons s t g p hp _ ih =>
    intro hs
    have h1 := F s hs p hp
    have h2 := ih (C s hs p hp)
    omega
theorem loss_most {S : Setg} {K : List Sd} {h : Hts} {c : Cho} (C : Closed S K) (hf : first ∈ K) (I : HInv S K h c) (N : NoRing c) (F : Feas S K h) : LossIs S (some (h first)) := by
  have up : ∀ t g, Path S first t g → g ≤ h first := fun t g p => by
    have := feas_path C F p hf
    have := I.nn t
    omega
  obtain ⟨n, T⟩ := N first
  obtain ⟨t, g, q, h1, _⟩ := chain_end I T
  have p := q.path I
  have := up t g p
  have e : g = h first := by omega
  exact ⟨up, t, e ▸ p⟩
theorem loss_endless {S : Setg} {K : List Sd} {h : Hts} {c : Cho} (M : Met S K) (I : HInv S K h c) {r : Sd} (R : OnRing c r) : LossIs S none := by
  obtain ⟨p, n, hp, T⟩ := R
  obtain ⟨g, q⟩ := T.cp
  have pos := I.rp r p g hp q
  have ring : Path S r r (p.gain + g) := (CP.cons hp q).path I
  obtain ⟨g0, lead⟩ := M r (I.ch r p hp).1
  have turns : ∀ k : Nat, ∃ x, Path S r r x ∧ (k : Int) ≤ x := by
    intro k
    induction k with
    | zero => exact ⟨0, .nil r, Int.le_refl _⟩
    | succ k ih =>
      obtain ⟨x, hx, hk⟩ := ih
      exact ⟨_, ring.trans hx, by omega⟩
  intro B
  obtain ⟨x, hx, hk⟩ := turns (B - g0 + 1).toNat
  exact ⟨r, g0 + x, lead.trans hx, by omega⟩

/-! ### walks -/
/-- a rule's moves on touches -/
def ruleMoves (lru : Bool) (own : Nat) : List Int → List Int → List Int → Int
  | _, _, [] => 0
  | st, me, b :: w => (ruleStep lru own st me b).1 + ruleMoves lru own (ruleStep lru own st me b).2.2.1 (ruleStep lru own st me b).2.2.2 w
/-- a mate's cost on touches -/
inductive Mate (rooms : Nat) : List Int → List Int → List Int → Int → Prop
  | nil (ma : List Int) : Mate rooms ma [] ma 0
  | snoc {a z : List Int} {w : List Int} {x : Int} {b : Int} {m : Int × List Int × List Int} : Mate rooms a w z x → m ∈ mates rooms z b → Mate rooms a (w ++ [b]) m.2.2 (x + m.1)
/-- touches along links -/
def IsWalk (S : Setg) : Int → List Int → Prop
  | _, [] => True
  | pl, b :: w => b ∈ follow S pl ∧ IsWalk S b w
theorem isWalk_snoc {S : Setg} : ∀ {w : List Int} {pl b : Int}, IsWalk S pl w → b ∈ follow S (w.getLastD pl) → IsWalk S pl (w ++ [b])
  | [], _, _, _, h => ⟨h, trivial⟩
  | a :: w, _, _, h, k => ⟨h.1, isWalk_snoc h.2 (by rw [List.getLastD_cons] at k; exact k)⟩
theorem isWalk_split {S : Setg} : ∀ {w v : List Int} {pl : Int}, IsWalk S pl (w ++ v) → IsWalk S pl w ∧ IsWalk S (w.getLastD pl) v
  | [], _, _, h => ⟨trivial, h⟩
  | a :: w, v, pl, h => by
    have := isWalk_split (w := w) (v := v) h.2
    exact ⟨⟨h.1, this.1⟩, by rw [List.getLastD_cons]; exact this.2⟩
/-- the rule's standing behind touches -/
def ruleEnd (lru : Bool) (own : Nat) : List Int × List Int → List Int → List Int × List Int
  | s, [] => s
  | s, b :: w => ruleEnd lru own ((ruleStep lru own s.1 s.2 b).2.2.1, (ruleStep lru own s.1 s.2 b).2.2.2) w
theorem ruleEnd_snoc (lru : Bool) (own : Nat) : ∀ (w : List Int) (s : List Int × List Int) (b : Int), ruleEnd lru own s (w ++ [b]) = ((ruleStep lru own (ruleEnd lru own s w).1 (ruleEnd lru own s w).2 b).2.2.1, (ruleStep lru own (ruleEnd lru own s w).1 (ruleEnd lru own s w).2 b).2.2.2)
  | [], s, b => rfl
  | a :: w, s, b => ruleEnd_snoc lru own w _ b
theorem ruleMoves_snoc (lru : Bool) (own : Nat) : ∀ (w : List Int) (st me : List Int) (b : Int), ruleMoves lru own st me (w ++ [b]) = ruleMoves lru own st me w + (ruleStep lru own (ruleEnd lru own (st, me) w).1 (ruleEnd lru own (st, me) w).2 b).1
  | [], st, me, b => by simp [ruleMoves, ruleEnd]
  | a :: w, st, me, b => by
    have ih := ruleMoves_snoc lru own w (ruleStep lru own st me a).2.2.1 (ruleStep lru own st me a).2.2.2 b
    simp only [List.cons_append, ruleMoves, ruleEnd]
    rw [ih]
    omega
theorem walk_path {S : Setg} {a w ma : List Int} {x : Int} (M : Mate S.rooms a w ma x) (ha : a = []) : IsWalk S (-1) w →
    Path S first ⟨(ruleEnd S.lru S.own ([], []) w).1, (ruleEnd S.lru S.own ([], []) w).2, w.getLastD (-1), ma⟩ (ruleMoves S.lru S.own [] [] w - x) := by
  induction M with
  | nil =>
    subst ha
    intro _
    show Path S first ⟨[], [], -1, []⟩ (0 - 0)
    exact .nil _
  | @snoc z w x b m M' hm ih =>
    subst ha
    intro hw
    obtain ⟨h1, h2⟩ := isWalk_split hw
    have P := ih h1
    have hs : (⟨b, m.2.1, (ruleStep S.lru S.own (ruleEnd S.lru S.own ([], []) w).1 (ruleEnd S.lru S.own ([], []) w).2 b).1, m.1,
        ⟨(ruleStep S.lru S.own (ruleEnd S.lru S.own ([], []) w).1 (ruleEnd S.lru S.own ([], []) w).2 b).2.2.1, (ruleStep S.lru S.own (ruleEnd S.lru S.own ([], []) w).1 (ruleEnd S.lru S.own ([], []) w).2 b).2.2.2, b, m.2.2⟩⟩ : Stp) ∈
        steps S ⟨(ruleEnd S.lru S.own ([], []) w).1, (ruleEnd S.lru S.own ([], []) w).2, w.getLastD (-1), z⟩ := mem_steps.mpr ⟨b, h2.1, m, hm, rfl⟩
    have Q := P.trans (.cons hs (.nil _))
    rw [ruleEnd_snoc, ruleMoves_snoc]
    have e1 : (w ++ [b]).getLastD (-1) = b := by simp [List.getLastD_eq_getLast?]
    rw [e1]
    have e2 : ruleMoves S.lru S.own [] [] w + (ruleStep S.lru S.own (ruleEnd S.lru S.own ([], []) w).1 (ruleEnd S.lru S.own ([], []) w).2 b).1 - (x + m.1) =
        ruleMoves S.lru S.own [] [] w - x + ((ruleStep S.lru S.own (ruleEnd S.lru S.own ([], []) w).1 (ruleEnd S.lru S.own ([], []) w).2 b).1 - m.1 + 0) := by omega
    rw [e2]
    exact Q
/-- no walk loses more -/
theorem walk_bound {S : Setg} {n : Int} (L : LossIs S (some n)) {w ma : List Int} {x : Int} (M : Mate S.rooms [] w ma x) (hw : IsWalk S (-1) w) : ruleMoves S.lru S.own [] [] w - x ≤ n := L.1 _ _ (walk_path M rfl hw)
end K52
/-! The text by places; data in the abstract heap; readings that only add to the heap. -/
namespace K52
open PySem PySem.Spec PyProof.Rows L2

/-! ### the text -/
def top (i : Nat) : Stmt := PySem.Challenge.pw_slowshelves_k52_whole_losses_with_rooms.main.body.getD i (.Pass ⟨0, 0, 0, 0⟩)

/-! ### data: numbers, texts, None, tuples of such -/
abbrev D := NestedKey
/-- a tuple at a: tracked, or of the written part -/
def TupAt (K : PySem.W.Frag) (H : Hp) (a : Addr) (xs : List V) : Prop :=
  H a = some (.tup xs) ∨ ∃ (o : Obj) (its : Array Value) (n : Nat), K.lookup a = some o ∧ o.cls = .type "tuple" ∧ o.data = .seq its n ∧ its.size ≤ sizeLine ∧ Vals xs its.toList
theorem TupAt.seq {K : PySem.W.Frag} {H : Hp} {a : Addr} {xs : List V} (h : TupAt K H a xs) : SqT K H a xs := h.imp .inl id
mutual
inductive Is (K : PySem.W.Frag) (H : Hp) : V → D → Prop
  | none : Is K H .non .none
  | num (i : Int) : Is K H (.int i) (.num i)
  | text (x : Str) : Is K H (.str x) (.text x)
  | tup {a : Addr} {xs : List V} {ds : List D} : TupAt K H a xs → IsAll K H xs ds → Is K H (.ref a) (.tup ds)
inductive IsAll (K : PySem.W.Frag) (H : Hp) : List V → List D → Prop
  | nil : IsAll K H [] []
  | cons {v : V} {vs : List V} {d : D} {ds : List D} : Is K H v d → IsAll K H vs ds → IsAll K H (v :: vs) (d :: ds)
end
/-- the tuples stay -/
def TS (H H' : Hp) : Prop := ∀ a xs, H a = some (.tup xs) → H' a = some (.tup xs)
theorem TS.refl (H : Hp) : TS H H := fun _ _ h => h
theorem TS.trans {H H1 H2 : Hp} (a : TS H H1) (b : TS H1 H2) : TS H H2 := fun c x h => b c x (a c x h)
theorem TS.of {H H' : Hp} (s : Same H H') : TS H H' := fun a xs h => s a _ h
theorem TupAt.mono {K : PySem.W.Frag} {H H' : Hp} {a : Addr} {xs : List V} (s : TS H H') (h : TupAt K H a xs) : TupAt K H' a xs := h.imp (s a xs) id
/-- x is no tuple, and is written -/
theorem TS.upd {H : Hp} {a : Addr} {o : HO} (h : ∀ xs, H a ≠ some (.tup xs)) : TS H (upd H a o) := fun b xs e => by
  rw [upd_ne (fun z => by subst z; exact h xs e)]; exact e
theorem Same.new {H : Hp} {a : Addr} {o : HO} (h : H a = none) : Same H (upd H a o) := fun b u e => by rw [upd_ne (ne_of_none e h)]; exact e
theorem TS.lst {H : Hp} {a : Addr} {xs : List V} {o : HO} (h : H a = some (.lst xs)) : TS H (L2.upd H a o) := TS.upd fun ys e => by rw [h] at e; cases e
mutual
theorem Is.mono {K : PySem.W.Frag} {H H' : Hp} (s : TS H H') : ∀ {v : V} {d : D}, Is K H v d → Is K H' v d
  | _, _, .none => .none
  | _, _, .num i => .num i
  | _, _, .text x => .text x
  | _, _, .tup h1 h2 => .tup (h1.mono s) (IsAll.mono s h2)
theorem IsAll.mono {K : PySem.W.Frag} {H H' : Hp} (s : TS H H') : ∀ {vs : List V} {ds : List D}, IsAll K H vs ds → IsAll K H' vs ds
  | _, _, .nil => .nil
  | _, _, .cons h1 h2 => .cons (Is.mono s h1) (IsAll.mono s h2)
end
theorem IsAll.length {K : PySem.W.Frag} {H : Hp} : ∀ {vs : List V} {ds : List D}, IsAll K H vs ds → vs.length = ds.length
  | _, _, .nil => rfl
  | _, _, .cons _ h => by simp [IsAll.length h]
theorem IsAll.get {K : PySem.W.Frag} {H : Hp} : ∀ {vs : List V} {ds : List D} {i : Nat} {v : V}, IsAll K H vs ds → vs[i]? = some v → ∃ d, ds[i]? = some d ∧ Is K H v d
  | _, _, _, _, .nil, e => by simp at e
  | _, _, 0, _, .cons h _, e => by simp at e; subst e; exact ⟨_, rfl, h⟩
  | _, _, i + 1, _, .cons _ h, e => by
    obtain ⟨d, h1, h2⟩ := IsAll.get (i := i) h (by simpa using e)
    exact ⟨d, by simpa using h1, h2⟩
theorem IsAll.get' {K : PySem.W.Frag} {H : Hp} : ∀ {vs : List V} {ds : List D} {i : Nat} {d : D}, IsAll K H vs ds → ds[i]? = some d → ∃ v, vs[i]? = some v ∧ Is K H v d
  | _, _, _, _, .nil, e => by simp at e
  | _, _, 0, _, .cons h _, e => by simp at e; subst e; exact ⟨_, rfl, h⟩
  | _, _, i + 1, _, .cons _ h, e => by
    obtain ⟨d, h1, h2⟩ := IsAll.get' (i := i) h (by simpa using e)
    exact ⟨d, by simpa using h1, h2⟩
theorem IsAll.append {K : PySem.W.Frag} {H : Hp} : ∀ {vs ws : List V} {ds es : List D}, IsAll K H vs ds → IsAll K H ws es → IsAll K H (vs ++ ws) (ds ++ es)
  | _, _, _, _, .nil, h => h
  | _, _, _, _, .cons h t, k => .cons h (IsAll.append t k)
theorem IsAll.take {K : PySem.W.Frag} {H : Hp} : ∀ {vs : List V} {ds : List D} (n : Nat), IsAll K H vs ds → IsAll K H (vs.take n) (ds.take n)
  | _, _, 0, _ => .nil
  | _, _, _ + 1, .nil => .nil
  | _, _, n + 1, .cons r t => .cons r (IsAll.take n t)
theorem IsAll.drop {K : PySem.W.Frag} {H : Hp} : ∀ {vs : List V} {ds : List D} (n : Nat), IsAll K H vs ds → IsAll K H (vs.drop n) (ds.drop n)
  | _, _, 0, h => h
  | _, _, _ + 1, .nil => .nil
  | _, _, n + 1, .cons _ t => IsAll.drop n t
theorem IsAll.reverse {K : PySem.W.Frag} {H : Hp} : ∀ {vs : List V} {ds : List D}, IsAll K H vs ds → IsAll K H vs.reverse ds.reverse
  | _, _, .nil => .nil
  | _, _, .cons h t => by rw [List.reverse_cons, List.reverse_cons]; exact (IsAll.reverse t).append (.cons h .nil)
theorem isAll_ints {K : PySem.W.Frag} {H : Hp} : ∀ ns : List Int, IsAll K H (ns.map V.int) (ns.map NestedKey.num)
  | [] => .nil
  | n :: ns => .cons (.num n) (isAll_ints ns)
theorem ints_of {K : PySem.W.Frag} {H : Hp} : ∀ {vs : List V} {ns : List Int}, IsAll K H vs (ns.map NestedKey.num) → vs = ns.map V.int
  | _, [], h => by cases h; rfl
  | _, n :: ns, h => by
    cases h with
    | cons h1 h2 => cases h1; rw [ints_of h2]; rfl
theorem Is.int_inv {K : PySem.W.Frag} {H : Hp} {v : V} {i : Int} (h : Is K H v (.num i)) : v = .int i := by cases h; rfl
theorem Is.none_inv {K : PySem.W.Frag} {H : Hp} {v : V} (h : Is K H v .none) : v = .non := by cases h; rfl
theorem Is.text_inv {K : PySem.W.Frag} {H : Hp} {v : V} {x : Str} (h : Is K H v (.text x)) : v = .str x := by cases h; rfl
theorem Is.tup_inv {K : PySem.W.Frag} {H : Hp} {v : V} {ds : List D} (h : Is K H v (.tup ds)) : ∃ a xs, v = .ref a ∧ TupAt K H a xs ∧ IsAll K H xs ds := by
  cases h with
  | tup h1 h2 => exact ⟨_, _, rfl, h1, h2⟩
mutual
theorem Is.dp {K : PySem.W.Frag} {H : Hp} : ∀ {v : V} {d : D}, Is K H v d → Dp K H v d.data
  | _, _, .none => .non
  | _, _, .num i => .int i
  | _, _, .text x => .str x
  | _, _, .tup h1 h2 => .tup h1.seq (IsAll.dp h2)
theorem IsAll.dp {K : PySem.W.Frag} {H : Hp} : ∀ {vs : List V} {ds : List D}, IsAll K H vs ds → DpAll K H vs (NestedKey.datas ds)
  | _, _, .nil => .nil
  | _, _, .cons h1 h2 => .cons (Is.dp h1) (IsAll.dp h2)
end
/-- ints as a tuple -/
abbrev tI (ns : List Int) : D := .tup (ns.map .num)
theorem Is.ints {K : PySem.W.Frag} {H : Hp} {v : V} {ns : List Int} (h : Is K H v (tI ns)) : ∃ a, v = .ref a ∧ TupAt K H a (ns.map V.int) := by
  obtain ⟨a, xs, e, t, i⟩ := h.tup_inv
  rw [ints_of i] at t
  exact ⟨a, e, t⟩
theorem is_ints {K : PySem.W.Frag} {H : Hp} {a : Addr} {ns : List Int} (h : TupAt K H a (ns.map V.int)) : Is K H (.ref a) (tI ns) := .tup h (isAll_ints ns)

section
variable {X : Cx} {pins : List (Addr × Obj)} {σ : L2.St} {H : Hp} {s : Shared}
mutual
theorem Is.nested (I : Inv X pins σ H s) : ∀ (d : D) (v : V) (u : Value), Is X.K H v d → RelV v u → NestedIs s.heap d u
  | .none, _, _, h, r => by cases h; cases r; exact .none
  | .num i, _, _, h, r => by cases h; obtain ⟨t, rfl⟩ := r; exact .int i t
  | .text x, _, _, h, r => by cases h; obtain ⟨t, rfl⟩ := r; exact .text x t
  | .tup ds, _, _, h, r => by
    cases h with
    | tup h1 h2 =>
      cases r
      obtain ⟨its, rv, ⟨o, ho, hc, n, hd⟩, _⟩ := I.tuple h1.seq
      exact .tup ho hc hd (by simpa using IsAll.nested I ds _ its h2 rv)
theorem IsAll.nested (I : Inv X pins σ H s) : ∀ (ds : List D) (vs : List V) (us : List Value), IsAll X.K H vs ds → Vals vs us → NestedAll s.heap ds us
  | [], _, _, h, r => by cases h; cases r; exact .nil
  | d :: ds, _, _, h, r => by
    cases h with
    | cons h1 h2 =>
      cases r with
      | cons r1 r2 => exact .cons (Is.nested I d _ _ h1 r1) (IsAll.nested I ds _ _ h2 r2)
end
end

/-! ### readings that add to the heap alone -/
/-- te gives some v with P, whatever was added ahead -/
def Gv (te : TE) (σ : L2.St) (H : Hp) (P : V → Hp → Prop) : Prop := ∀ H1, Same H H1 → ∀ Q : VK, (∀ v H', Same H1 H' → P v H' → Q v H') → te σ H1 Q
def Gt (t : TT) (σ : L2.St) (H : Hp) (b : Bool) : Prop := ∀ H1, Same H H1 → ∀ Q : Bool → Hp → Prop, (∀ H', Same H1 H' → Q b H') → t σ H1 Q
def Ga (t : TA) (σ : L2.St) (H : Hp) (P : List V → Hp → Prop) : Prop := ∀ H1, Same H H1 → ∀ Q : List V → Hp → Prop, (∀ vs H', Same H1 H' → P vs H' → Q vs H') → t σ H1 Q
/-- what stays when the heap grows -/
def Up (P : V → Hp → Prop) : Prop := ∀ v H H', Same H H' → P v H → P v H'
abbrev PD (K : PySem.W.Frag) (d : D) : V → Hp → Prop := fun v H => Is K H v d
abbrev PV (w : V) : V → Hp → Prop := fun v _ => v = w
/-- a list of data at its own address -/
abbrev PL (K : PySem.W.Frag) (ds : List D) : V → Hp → Prop := fun v H => ∃ l xs, v = .ref l ∧ H l = some (.lst xs) ∧ IsAll K H xs ds
theorem up_D {K : PySem.W.Frag} {d : D} : Up (PD K d) := fun _ _ _ s h => h.mono (.of s)
theorem up_V {w : V} : Up (PV w) := fun _ _ _ _ h => h
theorem up_L {K : PySem.W.Frag} {ds : List D} : Up (PL K ds) := by
  intro _ _ _ s ⟨l, xs, e, h, i⟩
  exact ⟨l, xs, e, s _ _ h, i.mono (.of s)⟩
section
variable {K : PySem.W.Frag} {σ : L2.St} {H : Hp} {te ta tb : TE} {t u : TT} {P P' : V → Hp → Prop} {d e : D} {v : V} {i : Nat} {b : Bool}
theorem Gv.imp (h : Gv te σ H P) (k : ∀ v H', P v H' → P' v H') : Gv te σ H P' := fun H1 s Q q => h H1 s Q fun v H' s' p => q v H' s' (k v H' p)
theorem Gv.later {H' : Hp} (h : Gv te σ H P) (s : Same H H') : Gv te σ H' P := fun H1 s1 => h H1 (s.trans s1)
theorem Gt.later {H' : Hp} (h : Gt t σ H b) (s : Same H H') : Gt t σ H' b := fun H1 s1 => h H1 (s.trans s1)
theorem Gv.run {Q : VK} (h : Gv te σ H P) (q : ∀ v H', Same H H' → P v H' → Q v H') : te σ H Q := h H (Same.refl H) Q q
theorem Gt.run {Q : Bool → Hp → Prop} (h : Gt t σ H b) (q : ∀ H', Same H H' → Q b H') : t σ H Q := h H (Same.refl H) Q q
theorem gv_var (h : σ[i]? = some (some v)) (p : P v H) (up : Up P) : Gv (tVar i) σ H P := fun H1 s Q q => ⟨v, h, q v H1 (Same.refl _) (up v H H1 s p)⟩
theorem gv_d (h : σ[i]? = some (some v)) (p : Is K H v d) : Gv (tVar i) σ H (PD K d) := gv_var h p up_D
theorem gv_v (h : σ[i]? = some (some v)) : Gv (tVar i) σ H (PV v) := gv_var h rfl up_V
theorem gv_c : Gv (tC v) σ H (PV v) := fun H1 s Q q => q v H1 (Same.refl _) rfl
theorem gv_num (k : Int) : Gv (tC (.int k)) σ H (PD K (.num k)) := fun H1 s Q q => q _ H1 (Same.refl _) (.num k)
theorem gv_none : Gv (tC .non) σ H (PD K .none) := fun H1 s Q q => q _ H1 (Same.refl _) .none
theorem gv_text (x : Str) : Gv (tC (.str x)) σ H (PD K (.text x)) := fun H1 s Q q => q _ H1 (Same.refl _) (.text x)
/-- two operands, then the rule -/
theorem gv_op {r : R2} {Pa Pb : V → Hp → Prop} (ha : Gv ta σ H Pa) (hb : Gv tb σ H Pb) (up : Up Pa) (hr : ∀ x y H' Q, Pa x H' → Pb y H' → (∀ z H'', Same H' H'' → P z H'' → Q z H'') → r x y H' Q) : Gv (tOp r ta tb) σ H P :=
  fun H1 s Q q => ha H1 s _ fun x H2 s2 px => hb H2 (s.trans s2) _ fun y H3 s3 py => hr x y H3 Q (up x H2 H3 s3 px) py fun z H4 s4 pz => q z H4 ((s2.trans s3).trans s4) pz
theorem gv_opI {g : Int → Int → V} {i j : Int} (ha : Gv ta σ H (PV (.int i))) (hb : Gv tb σ H (PV (.int j))) : Gv (tOp (rI0 g) ta tb) σ H (PV (g i j)) :=
  gv_op ha hb up_V fun x y H' Q ex ey q => ⟨i, j, ex, ey, q _ H' (Same.refl _) rfl⟩
theorem gv_opC {C : Int → Int → Prop} {g : Int → Int → V} {i j : Int} (ha : Gv ta σ H (PV (.int i))) (hb : Gv tb σ H (PV (.int j))) (c : C i j) : Gv (tOp (rI C g) ta tb) σ H (PV (g i j)) :=
  gv_op ha hb up_V fun x y H' Q ex ey q => ⟨i, j, ex, ey, c, q _ H' (Same.refl _) rfl⟩
theorem gv_eq {x y : V} (ha : Gv ta σ H (PV x)) (hb : Gv tb σ H (PV y)) (hs : scal x y = true) : Gv (tOp rEq ta tb) σ H (PV (.bl (decide (x = y)))) :=
  gv_op ha hb up_V fun a c H' Q ex ey q => by subst ex; subst ey; exact ⟨hs, q _ H' (Same.refl _) rfl⟩
theorem gv_ne {x y : V} (ha : Gv ta σ H (PV x)) (hb : Gv tb σ H (PV y)) (hs : scal x y = true) : Gv (tOp rNe ta tb) σ H (PV (.bl (!decide (x = y)))) :=
  gv_op ha hb up_V fun a c H' Q ex ey q => by subst ex; subst ey; exact ⟨hs, q _ H' (Same.refl _) rfl⟩
/-- tests -/
theorem gt_test (h : Gv te σ H (PV (.bl b))) : Gt (tTest te) σ H b := fun H1 s Q q => h H1 s _ fun v H' s' e => ⟨b, e, q H' s'⟩
theorem gt_val (h : Gv te σ H (PV (.bl b))) : Gt (tB te) σ H b := fun H1 s Q q => h H1 s _ fun v H' s' e => ⟨b, e, q H' s'⟩
theorem gt_not (h : Gt t σ H b) : Gt (tNot t) σ H (!b) := fun H1 s Q q => h H1 s _ fun H' s' => q H' s'
theorem gt_and {b1 b2 : Bool} (h1 : Gt t σ H b1) (h2 : b1 = true → Gt u σ H b2) : Gt (tAnd t u) σ H (b1 && b2) := fun H1 s Q q => h1 H1 s _ fun H' s' => by
  cases b1 with
  | true => rw [if_pos rfl]; exact h2 rfl H' (s.trans s') Q fun H'' s'' => q H'' (s'.trans s'')
  | false => rw [if_neg (by decide)]; exact q H' s'
theorem gt_or {b1 b2 : Bool} (h1 : Gt t σ H b1) (h2 : b1 = false → Gt u σ H b2) : Gt (tOr t u) σ H (b1 || b2) := fun H1 s Q q => h1 H1 s _ fun H' s' => by
  cases b1 with
  | true => rw [if_pos rfl]; exact q H' s'
  | false => rw [if_neg (by decide)]; exact h2 rfl H' (s.trans s') Q fun H'' s'' => q H'' (s'.trans s'')
theorem Gt.cast {b' : Bool} (h : Gt t σ H b) (e : b = b') : Gt t σ H b' := e ▸ h
/-- bools as values -/
theorem gv_andV {b1 b2 : Bool} (h1 : Gv ta σ H (PV (.bl b1))) (h2 : b1 = true → Gv tb σ H (PV (.bl b2))) : Gv (tAndV ta tb) σ H (PV (.bl (b1 && b2))) := fun H1 s Q q => h1 H1 s _ fun v H' s' e => by
  refine ⟨b1, e, ?_⟩
  cases b1 with
  | true => rw [if_pos rfl]; exact h2 rfl H' (s.trans s') Q fun v H'' s'' e => q v H'' (s'.trans s'') e
  | false => rw [if_neg (by decide)]; exact q _ H' s' rfl
theorem gv_orV {b1 b2 : Bool} (h1 : Gv ta σ H (PV (.bl b1))) (h2 : b1 = false → Gv tb σ H (PV (.bl b2))) : Gv (tOrV ta tb) σ H (PV (.bl (b1 || b2))) := fun H1 s Q q => h1 H1 s _ fun v H' s' e => by
  refine ⟨b1, e, ?_⟩
  cases b1 with
  | true => rw [if_pos rfl]; exact q _ H' s' rfl
  | false => rw [if_neg (by decide)]; exact h2 rfl H' (s.trans s') Q fun v H'' s'' e => q v H'' (s'.trans s'') e
theorem gv_notV (h : Gv ta σ H (PV (.bl b))) : Gv (tNotV ta) σ H (PV (.bl (!b))) := fun H1 s Q q => h H1 s _ fun v H' s' e => ⟨b, e, q _ H' s' rfl⟩
theorem gv_if (h : Gt t σ H b) (h1 : b = true → Gv ta σ H P) (h2 : b = false → Gv tb σ H P) : Gv (tIf t ta tb) σ H P := fun H1 s Q q => h H1 s _ fun H' s' => by
  cases b with
  | true => rw [if_pos rfl]; exact h1 rfl H' (s.trans s') Q fun v H'' s'' e => q v H'' (s'.trans s'') e
  | false => rw [if_neg (by decide)]; exact h2 rfl H' (s.trans s') Q fun v H'' s'' e => q v H'' (s'.trans s'') e
end
end K52
/-! Readings that only add to the heap: displays, items, calls, comprehensions. -/
namespace K52
open PySem PySem.Spec PyProof.Rows L2

mutual
theorem eqv_data : ∀ d e : D, PyData.eqv d.data e.data = NestedKey.beq d e
  | .none, .none => rfl
  | .num a, .num b => by
    show (a == b) = decide (a = b)
    exact Bool.beq_eq_decide_eq a b
  | .text a, .text b => by
    show (a == b) = decide (a = b)
    exact Bool.beq_eq_decide_eq a b
  | .tup a, .tup b => by
    show PyData.eqvAll (NestedKey.datas a) (NestedKey.datas b) = NestedKey.beqAll a b
    exact eqv_datas a b
  | .none, .num _ => rfl | .none, .text _ => rfl | .none, .tup _ => rfl
  | .num _, .none => rfl | .num _, .text _ => rfl | .num _, .tup _ => rfl
  | .text _, .none => rfl | .text _, .num _ => rfl | .text _, .tup _ => rfl
  | .tup _, .none => rfl | .tup _, .num _ => rfl | .tup _, .text _ => rfl
theorem eqv_datas : ∀ d e : List D, PyData.eqvAll (NestedKey.datas d) (NestedKey.datas e) = NestedKey.beqAll d e
  | [], [] => rfl
  | a :: as, b :: bs => by
    show (PyData.eqv a.data b.data && PyData.eqvAll (NestedKey.datas as) (NestedKey.datas bs)) = (NestedKey.beq a b && NestedKey.beqAll as bs)
    rw [eqv_data a b, eqv_datas as bs]
  | [], _ :: _ => rfl
  | _ :: _, [] => rfl
end
theorem eqv_dec (d e : D) : PyData.eqv d.data e.data = decide (d = e) := by rw [eqv_data, NestedKey.decide_eq]

section
variable {K : PySem.W.Frag} {σ : L2.St} {H : Hp} {te ta tb : TE} {t u : TT} {P P' : V → Hp → Prop} {d e : D} {v : V} {i : Nat} {b : Bool} {tl tr : TA}
/-- == and != of data -/
theorem gv_eqD (ha : Gv ta σ H (PD K d)) (hb : Gv tb σ H (PD K e)) (sd : SeqAt.shaped d.data = true := by decide) (se : SeqAt.shaped e.data = true := by decide) : Gv (tOp (rEqD K) ta tb) σ H (PV (.bl (decide (d = e)))) :=
  gv_op ha hb up_D fun x y H' Q hx hy q => ⟨_, _, hx.dp, hy.dp, sd, se, by rw [eqv_dec]; exact q _ H' (Same.refl _) rfl⟩
theorem gv_neD (ha : Gv ta σ H (PD K d)) (hb : Gv tb σ H (PD K e)) (sd : SeqAt.shaped d.data = true := by decide) (se : SeqAt.shaped e.data = true := by decide) : Gv (tOp (rNeD K) ta tb) σ H (PV (.bl (!decide (d = e)))) :=
  gv_op ha hb up_D fun x y H' Q hx hy q => ⟨_, _, hx.dp, hy.dp, sd, se, by rw [eqv_dec]; exact q _ H' (Same.refl _) rfl⟩

/-! ### argument lists, displays -/
/-- each item by its own P -/
inductive PAll : List (V → Hp → Prop) → List V → Hp → Prop
  | nil {H : Hp} : PAll [] [] H
  | cons {H : Hp} {P : V → Hp → Prop} {Ps : List (V → Hp → Prop)} {v : V} {vs : List V} : P v H → PAll Ps vs H → PAll (P :: Ps) (v :: vs) H
theorem ga_nil : Ga tNil σ H (PAll []) := fun H1 s Q q => q [] H1 (Same.refl _) .nil
theorem ga_cons {Ps : List (V → Hp → Prop)} (h : Gv te σ H P) (up : Up P) (hr : Ga tr σ H (PAll Ps)) : Ga (tCons te tr) σ H (PAll (P :: Ps)) :=
  fun H1 s Q q => h H1 s _ fun v H2 s2 p => hr H2 (s.trans s2) _ fun vs H3 s3 ps => q _ H3 (s2.trans s3) (.cons (up v H2 H3 s3 p) ps)
theorem Ga.imp {P P' : List V → Hp → Prop} (h : Ga tl σ H P) (k : ∀ v H', P v H' → P' v H') : Ga tl σ H P' := fun H1 s Q q => h H1 s Q fun v H' s' p => q v H' s' (k v H' p)
/-- all data -/
abbrev PDs (K : PySem.W.Frag) (ds : List D) : List V → Hp → Prop := fun vs H => IsAll K H vs ds
theorem gd_nil : Ga tNil σ H (PDs K []) := fun H1 s Q q => q [] H1 (Same.refl _) .nil
theorem gd_cons {ds : List D} (h : Gv te σ H (PD K d)) (hr : Ga tr σ H (PDs K ds)) : Ga (tCons te tr) σ H (PDs K (d :: ds)) :=
  fun H1 s Q q => h H1 s _ fun v H2 s2 p => hr H2 (s.trans s2) _ fun vs H3 s3 ps => q _ H3 (s2.trans s3) (.cons (p.mono (.of s3)) ps)
theorem Ga.run {P : List V → Hp → Prop} {Q : List V → Hp → Prop} (h : Ga tl σ H P) (q : ∀ v H', Same H H' → P v H' → Q v H') : tl σ H Q := h H (Same.refl H) Q q
theorem gv_tup {ds : List D} (h : Ga tl σ H (PDs K ds)) (hz : ds.length ≤ 16 := by first | decide | simp) : Gv (tTup tl) σ H (PD K (.tup ds)) :=
  fun H1 s Q q => h H1 s _ fun vs H2 s2 p => by
    have hl := p.length
    refine ⟨by rw [hl, sizeLine_eq]; omega, fun a ha => q _ _ (s2.trans (Same.new ha)) (.tup (.inl upd_same) (p.mono (.of (Same.new ha))))⟩
/-- a written list, at its own address -/
theorem gv_lst {ds : List D} (h : Ga tl σ H (PDs K ds)) (hz : ds.length ≤ 16 := by first | decide | simp) : Gv (tLst tl) σ H (PL K ds) :=
  fun H1 s Q q => h H1 s _ fun vs H2 s2 p => by
    have hl := p.length
    refine ⟨by rw [hl, sizeLine_eq]; omega, fun a ha => q _ _ (s2.trans (Same.new ha)) ⟨a, vs, rfl, upd_same, p.mono (.of (Same.new ha))⟩⟩

/-! ### items -/
theorem gv_ixT {ds : List D} {k : Int} (ha : Gv ta σ H (PD K (.tup ds))) (hb : Gv tb σ H (PV (.int k))) (hk : atI ds k = some d) : Gv (tOp (rIxT K) ta tb) σ H (PD K d) :=
  gv_op ha hb up_D fun x y H' Q hx hy q => by
    obtain ⟨a, xs, rfl, ht, hi⟩ := hx.tup_inv
    subst hy
    have hl := hi.length
    obtain ⟨j, hj⟩ : ∃ j, ixN ds.length k = some j ∧ ds[j]? = some d := by
      unfold atI at hk
      cases e : ixN ds.length k with
      | none => rw [e] at hk; cases hk
      | some j => rw [e] at hk; exact ⟨j, rfl, hk⟩
    obtain ⟨v, hv, hd⟩ := hi.get' hj.2
    refine ⟨a, xs, k, v, rfl, rfl, ht.seq, ?_, q v H' (Same.refl _) hd⟩
    unfold atI
    rw [hl, hj.1]
    exact hv
theorem gv_ixL {ds : List D} {k : Int} (ha : Gv ta σ H (PL K ds)) (hb : Gv tb σ H (PV (.int k))) (hk : atI ds k = some d) : Gv (tOp (rIxL K) ta tb) σ H (PD K d) :=
  gv_op ha hb up_L fun x y H' Q hx hy q => by
    obtain ⟨a, xs, rfl, ht, hi⟩ := hx
    subst hy
    have hl := hi.length
    obtain ⟨j, hj⟩ : ∃ j, ixN ds.length k = some j ∧ ds[j]? = some d := by
      unfold atI at hk
      cases e : ixN ds.length k with
      | none => rw [e] at hk; cases hk
      | some j => rw [e] at hk; exact ⟨j, rfl, hk⟩
    obtain ⟨v, hv, hd⟩ := hi.get' hj.2
    refine ⟨a, xs, k, v, rfl, rfl, SqL.of ht, ?_, q v H' (Same.refl _) hd⟩
    unfold atI
    rw [hl, hj.1]
    exact hv
/-- numbers as data, and back -/
theorem Gv.num {k : Int} (h : Gv te σ H (PV (.int k))) : Gv te σ H (PD K (.num k)) := h.imp fun v H' e => by subst e; exact .num k
theorem Gv.int {k : Int} (h : Gv te σ H (PD K (.num k))) : Gv te σ H (PV (.int k)) := h.imp fun v H' e => e.int_inv
theorem Gv.none (h : Gv te σ H (PD K .none)) : Gv te σ H (PV .non) := h.imp fun v H' e => e.none_inv
/-- t + u -/
theorem gv_cat {ds es : List D} (ha : Gv ta σ H (PD K (.tup ds))) (hb : Gv tb σ H (PD K (.tup es))) (hz : ds.length + es.length ≤ 100000) : Gv (tOp (rCatA K) ta tb) σ H (PD K (.tup (ds ++ es))) :=
  gv_op ha hb up_D fun x y H' Q hx hy q => by
    obtain ⟨a, xs, rfl, ht, hi⟩ := hx.tup_inv
    obtain ⟨c, ys, rfl, hu, hj⟩ := hy.tup_inv
    have l1 := hi.length
    have l2 := hj.length
    refine ⟨a, c, xs, ys, rfl, rfl, ht.seq, hu.seq, by rw [sizeLine_eq]; omega, fun e => ?_, fun e1 e2 => ?_, fun e1 e2 p hp => ?_⟩
    · subst e
      have : ds = [] := List.length_eq_zero_iff.mp (by simpa using l1.symm)
      subst this
      exact q _ H' (Same.refl _) hy
    · subst e2
      have : es = [] := List.length_eq_zero_iff.mp (by simpa using l2.symm)
      subst this
      rw [List.append_nil] at q
      exact q _ H' (Same.refl _) hx
    · exact q _ _ (Same.new hp) (.tup (.inl upd_same) ((hi.append hj).mono (.of (Same.new hp))))
/-- t[lo:hi], written bounds -/
theorem gv_slice {ds : List D} {lo hi : Option Int} {to tp : TO} (ha : Gv ta σ H (PD K (.tup ds))) (hl : to = tNoPart ∧ lo = Option.none ∨ ∃ j, to = tPart (tC (.int j)) ∧ lo = some j) (hh : tp = tNoPart ∧ hi = Option.none ∨ ∃ j, tp = tPart (tC (.int j)) ∧ hi = some j) :
    Gv (tSl (rSlA K) ta to tp) σ H (PD K (.tup ((ds.drop (HT.sIx ds.length 0 lo)).take (HT.sIx ds.length ds.length hi - HT.sIx ds.length 0 lo)))) := by
  intro H1 s Q q
  refine ha H1 s _ fun v H2 s2 hv => ?_
  obtain ⟨a, xs, rfl, ht, hi'⟩ := hv.tup_inv
  have l1 := hi'.length
  have go : rSlA K (.ref a) lo hi H2 Q := by
    refine ⟨a, xs, rfl, ht.seq, fun e => ?_, fun e p hp => ?_⟩
    · rw [l1] at e
      refine q _ H2 s2 ?_
      rw [e.1, e.2]
      simpa using hv
    · refine q _ _ (s2.trans (Same.new hp)) (.tup (.inl upd_same) ?_)
      unfold cutV
      rw [l1]
      exact (((hi'.drop _).take _).mono (.of (Same.new hp)))
  rcases hl with ⟨rfl, rfl⟩ | ⟨j, rfl, rfl⟩
  · rcases hh with ⟨rfl, rfl⟩ | ⟨j, rfl, rfl⟩
    · exact go
    · exact ⟨j, rfl, go⟩
  · rcases hh with ⟨rfl, rfl⟩ | ⟨j', rfl, rfl⟩
    · exact ⟨j, rfl, go⟩
    · exact ⟨j, rfl, j', rfl, go⟩

/-! ### calls of built-ins -/
def rTupOf (K : PySem.W.Frag) : List V → Hp → VK → Prop := fun xs H Q => ∃ p ys, xs = [.ref p] ∧ ((SqL K H p ys ∧ ∀ l, H l = .none → Q (.ref l) (upd H l (.tup ys))) ∨ (SqT K H p ys ∧ Q (.ref p) H))
theorem cr_tupOf {X : Cx} : CallR X (.type "tuple") (rTupOf X.K) := call_tuple_of
theorem gv_call1 {r : List V → Hp → VK → Prop} (ha : Gv ta σ H P) (hr : ∀ x H' Q, P x H' → (∀ z H'', Same H' H'' → P' z H'' → Q z H'') → r [x] H' Q) : Gv (tCB r (tCons ta tNil)) σ H P' :=
  fun H1 s Q q => ha H1 s _ fun x H2 s2 p => hr x H2 Q p fun z H3 s3 pz => q z H3 (s2.trans s3) pz
theorem gv_call2 {r : List V → Hp → VK → Prop} {P2 : V → Hp → Prop} (ha : Gv ta σ H P) (hb : Gv tb σ H P2) (up : Up P) (hr : ∀ x y H' Q, P x H' → P2 y H' → (∀ z H'', Same H' H'' → P' z H'' → Q z H'') → r [x, y] H' Q) : Gv (tCB r (tCons ta (tCons tb tNil))) σ H P' :=
  fun H1 s Q q => ha H1 s _ fun x H2 s2 p => hb H2 (s.trans s2) _ fun y H3 s3 p2 => hr x y H3 Q (up x H2 H3 s3 p) p2 fun z H4 s4 pz => q z H4 ((s2.trans s3).trans s4) pz
theorem gv_tupL {ds : List D} (ha : Gv ta σ H (PL K ds)) : Gv (tCB (rTupOf K) (tCons ta tNil)) σ H (PD K (.tup ds)) :=
  gv_call1 ha fun x H' Q hx q => by
    obtain ⟨l, xs, rfl, hl, hi⟩ := hx
    exact ⟨l, xs, rfl, .inl ⟨SqL.of hl, fun p hp => q _ _ (Same.new hp) (.tup (.inl upd_same) (hi.mono (.of (Same.new hp))))⟩⟩
def rLenS (K : PySem.W.Frag) : List V → Hp → VK → Prop := fun xs H Q => ∃ p ys, xs = [.ref p] ∧ (SqL K H p ys ∨ SqT K H p ys) ∧ Q (.int ys.length) H
theorem cr_lenS {X : Cx} : CallR X (.builtin "len") (rLenS X.K) := call_len_seq
theorem gv_lenT {ds : List D} (ha : Gv ta σ H (PD K (.tup ds))) : Gv (tCB (rLenS K) (tCons ta tNil)) σ H (PV (.int ds.length)) :=
  gv_call1 ha fun x H' Q hx q => by
    obtain ⟨a, xs, rfl, ht, hi⟩ := hx.tup_inv
    exact ⟨a, xs, rfl, .inr ht.seq, q _ H' (Same.refl _) (by rw [hi.length])⟩
theorem gv_lenL {ds : List D} (ha : Gv ta σ H (PL K ds)) : Gv (tCB (rLenS K) (tCons ta tNil)) σ H (PV (.int ds.length)) :=
  gv_call1 ha fun x H' Q hx q => by
    obtain ⟨a, xs, rfl, ht, hi⟩ := hx
    exact ⟨a, xs, rfl, .inl (SqL.of ht), q _ H' (Same.refl _) (by rw [hi.length])⟩
/-- sorted(a list of ints) -/
theorem srt_map (ns : List Int) : True := trivial
abbrev PLi (ns : List Int) : V → Hp → Prop := fun v H => ∃ l, v = .ref l ∧ H l = some (.lst (ns.map V.int))
theorem up_Li {ns : List Int} : Up (PLi ns) := by
  intro _ _ _ s ⟨l, e, h⟩
  exact ⟨l, e, s _ _ h⟩
theorem PL.ints {ns : List Int} {v : V} {H : Hp} (h : PL K (ns.map .num) v H) : PLi ns v H := by
  obtain ⟨l, xs, e, h, i⟩ := h
  rw [ints_of i] at h
  exact ⟨l, e, h⟩
theorem PLi.data {ns : List Int} {v : V} {H : Hp} (h : PLi ns v H) : PL K (ns.map .num) v H := by
  obtain ⟨l, e, h⟩ := h
  exact ⟨l, _, e, h, isAll_ints ns⟩
theorem gv_sortedI {ns ms : List Int} (ha : Gv ta σ H (PLi ns)) (hm : ∀ ns' : List Int, ns'.Perm ns → ns'.Pairwise (· ≤ ·) → ns' = ms) : Gv (tCB (rSortedI K) (tCons ta tNil)) σ H (PLi ms) :=
  gv_call1 ha fun x H' Q hx q => by
    obtain ⟨l, rfl, hl⟩ := hx
    exact ⟨l, ns, rfl, SqL.of hl, fun ns' p h1 h2 hp => q _ _ (Same.new hp) ⟨p, rfl, by rw [upd_same, hm ns' h1 h2]⟩⟩
end

/-! ### calls of defs -/
/-- a promise of a def that only adds to the heap: R: of which arguments it gives what -/
def spP (R : List V → Hp → (V → Hp → Prop) → Prop) : Sp := fun vs H Q _ => ∃ P, R vs H P ∧ ∀ v H', Same H H' → P v H' → Q v H'
section
variable {K : PySem.W.Frag} {σ : L2.St} {H : Hp} {te ta tb : TE} {P P' : V → Hp → Prop} {tl : TA} {E : XK} {R : List V → Hp → (V → Hp → Prop) → Prop}
theorem gv_call {PA : List V → Hp → Prop} (ha : Ga tl σ H PA) (hr : ∀ vs H', Same H H' → PA vs H' → R vs H' P) : Gv (tCall (spP R) [] E tl) σ H P :=
  fun H1 s Q q => ha H1 s _ fun vs H2 s2 p => by
    rw [List.append_nil]
    exact ⟨P, hr vs H2 (s.trans s2) p, fun v H3 s3 pv => q v H3 (s2.trans s3) pv⟩
end

/-! ### comprehensions -/
theorem wipe1 {σ : L2.St} {i : Nat} {x : V} : wipe ((wipe σ [i]).set i (some x)) [i] = wipe σ [i] := by
  show (((σ.set i none).set i (some x)).set i none) = σ.set i none
  rw [List.set_set, List.set_set]
theorem wipe_set {σ : L2.St} {i : Nat} {x : V} : (wipe σ [i]).set i (some x) = σ.set i (some x) := by
  show ((σ.set i none).set i (some x)) = _
  rw [List.set_set]
section
variable {K : PySem.W.Frag} {σ : L2.St} {H : Hp} {tl te : TE} {tt : TT} {i : Nat}
theorem take_succ {α : Type} {l : List α} {j : Nat} {x : α} (h : l[j]? = some x) : l.take (j + 1) = l.take j ++ [x] := by
  obtain ⟨h1, h2⟩ := List.getElem?_eq_some_iff.mp h
  rw [← h2]; exact (List.take_append_getElem h1).symm
/-- what a turn must do: f the item's data, none where it is left out -/
def CTurn (K : PySem.W.Frag) (σ : L2.St) (H : Hp) (tt : TT) (te : TE) (i : Nat) (f : V → Option D) (x : V) : Prop :=
  ∀ H', Same H H' → ∃ b, Gt tt (σ.set i (some x)) H' b ∧ (b = true → ∃ d, f x = some d ∧ Gv te (σ.set i (some x)) H' (PD K d)) ∧ (b = false → f x = none)
theorem turn_run {xs : List V} {f : V → Option D} {H1 Hc : Hp} {Dd : Addr} {j : Nat} {x : V} (hlen : xs.length ≤ 100000) (hD : H1 Dd = none) (hx : xs[j]? = some x) (T : CTurn K σ H1 tt te i f x)
    (p : Same H1 Hc ∧ ∃ acc, Hc Dd = some (.lst acc) ∧ IsAll K Hc acc ((xs.take j).filterMap f)) :
    gName i x (wipe σ [i]) Hc fun σ2 H2 => wipe σ2 [i] = wipe σ [i] ∧ tt σ2 H2 fun b H3 =>
      if b = true then te σ2 H3 fun y H4 => ∃ acc, H4 Dd = some (.lst acc) ∧ acc.length < sizeLine ∧ (Same H1 (upd H4 Dd (.lst (acc ++ [y]))) ∧ ∃ acc', (upd H4 Dd (.lst (acc ++ [y]))) Dd = some (.lst acc') ∧ IsAll K (upd H4 Dd (.lst (acc ++ [y]))) acc' ((xs.take (j + 1)).filterMap f))
      else (Same H1 H3 ∧ ∃ acc, H3 Dd = some (.lst acc) ∧ IsAll K H3 acc ((xs.take (j + 1)).filterMap f)) := by
  obtain ⟨s1, acc, ha, hi⟩ := p
  show wipe ((wipe σ [i]).set i (some x)) [i] = wipe σ [i] ∧ _
  refine ⟨wipe1, ?_⟩
  rw [wipe_set]
  obtain ⟨b, hb, h1, h2⟩ := T Hc s1
  refine hb.run fun H3 s3 => ?_
  rw [take_succ hx, List.filterMap_append]
  have hlj : acc.length ≤ j := by
    rw [hi.length]
    refine Nat.le_trans (List.length_filterMap_le _ _) ?_
    rw [List.length_take]; omega
  have hjx : j < xs.length := (List.getElem?_eq_some_iff.mp hx).1
  cases b with
  | true =>
    obtain ⟨d, hd, hg⟩ := h1 rfl
    rw [if_pos rfl]
    refine (hg.later s3).run fun y H4 s4 py => ?_
    have e4 : H4 Dd = some (.lst acc) := s4 _ _ (s3 _ _ ha)
    have t4 : TS H4 (upd H4 Dd (.lst (acc ++ [y]))) := TS.lst e4
    refine ⟨acc, e4, by rw [sizeLine_eq]; omega, fun a o e => ?_, _, upd_same, ?_⟩
    · rw [upd_ne (ne_of_none e hD)]; exact s4 _ _ (s3 _ _ (s1 _ _ e))
    · have e5 : List.filterMap f [x] = [d] := by simp [hd]
      rw [e5]
      exact ((hi.mono (.of (s3.trans s4))).mono t4).append (.cons (py.mono t4) .nil)
  | false =>
    rw [if_neg (by decide)]
    have e5 : List.filterMap f [x] = [] := by simp [h2 rfl]
    rw [e5, List.append_nil]
    exact ⟨s1.trans s3, acc, s3 _ _ ha, hi.mono (.of s3)⟩
theorem gv_lcT {xs : List V} {f : V → Option D} (hs : Gv tl σ H fun v H' => ∃ a, v = .ref a ∧ TupAt K H' a xs) (hlen : xs.length ≤ 100000) (T : ∀ H', Same H H' → ∀ x ∈ xs, CTurn K σ H' tt te i f x) :
    Gv (tLc (iTup K tl) (gName i) tt te [i]) σ H (PL K (xs.filterMap f)) := by
  intro H1 s Q q
  refine hs H1 s _ fun v H2 s2 hv => ?_
  obtain ⟨a, rfl, ht⟩ := hv
  refine ⟨a, rfl, ⟨xs, ht.seq⟩, fun Dd hD => ?_⟩
  refine lc_tup (K := K) (a := a) (xs := xs) (fun j Hc => Same H2 Hc ∧ ∃ acc, Hc Dd = some (.lst acc) ∧ IsAll K Hc acc ((xs.take j).filterMap f)) ⟨Same.new hD, [], upd_same, .nil⟩ (fun j Hc _ p => (ht.mono (.of p.1)).seq) (fun j x Hc hx p => ?_) fun Hc p => ?_
  · exact turn_run hlen hD hx (T H2 (s.trans s2) x (List.mem_of_getElem? hx)) p
  · obtain ⟨s3, acc, ha, hi⟩ := p
    rw [List.take_length] at hi
    exact q _ Hc (s2.trans s3) ⟨Dd, acc, rfl, ha, hi⟩
theorem gv_lcL {xs : List V} {f : V → Option D} (hs : Gv tl σ H fun v H' => ∃ a, v = .ref a ∧ H' a = some (.lst xs)) (hlen : xs.length ≤ 100000) (T : ∀ H', Same H H' → ∀ x ∈ xs, CTurn K σ H' tt te i f x) :
    Gv (tLc (iList K tl) (gName i) tt te [i]) σ H (PL K (xs.filterMap f)) := by
  intro H1 s Q q
  refine hs H1 s _ fun v H2 s2 hv => ?_
  obtain ⟨a, rfl, ht⟩ := hv
  refine ⟨a, rfl, ⟨xs, SqL.of ht⟩, fun Dd hD => ?_⟩
  refine lc_list (K := K) (a := a) (xs := xs) (fun j Hc => Same H2 Hc ∧ ∃ acc, Hc Dd = some (.lst acc) ∧ IsAll K Hc acc ((xs.take j).filterMap f)) ⟨Same.new hD, [], upd_same, .nil⟩ (fun j Hc _ p => SqL.of (p.1 _ _ ht)) (fun j x Hc hx p => ?_) fun Hc p => ?_
  · exact turn_run hlen hD hx (T H2 (s.trans s2) x (List.mem_of_getElem? hx)) p
  · obtain ⟨s3, acc, ha, hi⟩ := p
    rw [List.take_length] at hi
    exact q _ Hc (s2.trans s3) ⟨Dd, acc, rfl, ha, hi⟩
end
end K52
/-! What the top has left, the small words. -/
namespace K52
open PySem PySem.Spec PyProof.Rows L2

/-! ### what the top has left -/
/-- the built-ins that no name of the module hides -/
structure Tx (mg : Str → Option Value) : Prop where
  isinstance : mg "isinstance" = none
  int : mg "int" = none
  bool : mg "bool" = none
  str : mg "str" = none
  list : mg "list" = none
  tuple : mg "tuple" = none
  len : mg "len" = none
  all : mg "all" = none
  min : mg "min" = none
  max : mg "max" = none
  range : mg "range" = none
  sorted : mg "sorted" = none
  enumerate : mg "enumerate" = none
  super : mg "super" = none
  abs : mg "abs" = none
  repr : mg "repr" = none
/-- a def of the top, by its place in the text -/
def DefAt (K : PySem.W.Frag) (mg : Str → Option Value) (x : Str) (i : Nat) : Prop := ∃ f fd, mg x = some (.ref f) ∧ Fun K x x (top i) f fd
/-- a def that keeps its promise, as a caller wants it -/
def Cal (P : Program) (w : World) (K : PySem.W.Frag) (mg : Str → Option Value) (base : Heap) (x : Str) (k : Nat) (ps : List Str) (sp : Sp) : Prop :=
  ∃ f fd, mg x = some (.ref f) ∧ PySem.W.keepIn K (.ref f) = true ∧ Binds K fd ps [] ∧ FnOk P w K mg base (L2.CX P w) k f fd ps sp
theorem Cal.imp {P : Program} {w : World} {K : PySem.W.Frag} {mg : Str → Option Value} {base : Heap} {x : Str} {k : Nat} {ps : List Str} {sp sp' : Sp} (c : Cal P w K mg base x k ps sp) (h : ∀ vs H Q E, sp' vs H Q E → sp vs H Q E) : Cal P w K mg base x k ps sp' := by
  obtain ⟨f, fd, g, kp, b, F⟩ := c
  exact ⟨f, fd, g, kp, b, F.imp h⟩
section
variable {X : Cx} {k : Nat} {ps : List Str} {sp : Sp} {x : Str} {p pos : Pos} {e : Expr} {es : List Expr} {t : TA}
theorem pe_cal (c : Cal X.prog X.w X.K X.mg X.base x k ps sp) (hr : Room k X.A) (ha : PA X (e :: es) t) (hg : Gl X x := by rfl) (hdb : (x == ("__debug__" : Str)) = false := by decide)
    (he : starEach (e :: es) X.env = (false, eval e X.env) :: starEach es X.env := by rfl) (hpl : (backTo pos (starEach es X.env)).any (·.1) = false := by rfl) : PE X (.Call (.Name x p) (e :: es) [] pos) (tCall sp [] E0 t) := by
  obtain ⟨f, fd, g, kp, b, F⟩ := c
  exact pe_call F hr hg g kp b .nil passL ha hdb he hpl
theorem pe_cal0 (c : Cal X.prog X.w X.K X.mg X.base x k ps sp) (hr : Room k X.A) (hg : Gl X x := by rfl) (hdb : (x == ("__debug__" : Str)) = false := by decide) : PE X (.Call (.Name x p) [] [] pos) (tCall sp [] E0 tNil) := by
  obtain ⟨f, fd, g, kp, b, F⟩ := c
  exact pe_call0 F hr hg g kp b .nil passL hdb
end

/-! ### kinds -/
def tyName : D → String
  | .none => "NoneType"
  | .num _ => "int"
  | .text _ => "str"
  | .tup _ => "tuple"
inductive Ty6 (K : PySem.W.Frag) (H : Hp) : V → String → Prop
  | data {v : V} {d : D} : Is K H v d → Ty6 K H v (tyName d)
  | lst {a : Addr} {xs : List V} : H a = some (.lst xs) → Ty6 K H (.ref a) "list"
  | bl (b : Bool) : Ty6 K H (.bl b) "bool"
theorem Ty6.mono {K : PySem.W.Frag} {H H' : Hp} (s : Same H H') {v : V} {T : String} (h : Ty6 K H v T) : Ty6 K H' v T := by
  cases h with
  | data h => exact .data (h.mono (.of s))
  | lst h => exact .lst (s _ _ h)
  | bl b => exact .bl b
theorem Ty6.tyx {K : PySem.W.Frag} {H : Hp} {v : V} {T : String} (h : Ty6 K H v T) : TyX K H v (.type T) := by
  cases h with
  | data h =>
    cases h with
    | none => exact .base .non
    | num i => exact .base (.int i)
    | text x => exact .base (.str x)
    | tup h1 h2 =>
      rcases h1 with h1 | ⟨o, its, n, h1, h2, _⟩
      · exact .base (.tup h1)
      · exact .kTuple h1 h2
  | lst h => exact .base (.lst h)
  | bl b => exact .base (.bl b)
abbrev tys : List String := ["NoneType", "int", "str", "tuple", "list", "bool"]
theorem Ty6.mem {K : PySem.W.Frag} {H : Hp} {v : V} {T : String} (h : Ty6 K H v T) : T ∈ tys := by
  cases h with
  | data h =>
    cases h with
    | none => exact (by decide : "NoneType" ∈ tys)
    | num i => exact (by decide : "int" ∈ tys)
    | text x => exact (by decide : "str" ∈ tys)
    | tup h1 h2 => exact (by decide : "tuple" ∈ tys)
  | lst h => decide
  | bl b => decide
theorem kit_int {T : String} (h : T ∈ tys) : kitB T "int" = some (T == "int" || T == "bool") := by
  have : ∀ T ∈ tys, kitB T "int" = some (T == "int" || T == "bool") := by decide +kernel
  exact this T h
theorem kit_bool {T : String} (h : T ∈ tys) : kitB T "bool" = some (T == "bool") := by
  have : ∀ T ∈ tys, kitB T "bool" = some (T == "bool") := by decide +kernel
  exact this T h
theorem kit_str {T : String} (h : T ∈ tys) : kitB T "str" = some (T == "str") := by
  have : ∀ T ∈ tys, kitB T "str" = some (T == "str") := by decide +kernel
  exact this T h
theorem kit_tuple {T : String} (h : T ∈ tys) : kitB T "tuple" = some (T == "tuple") := by
  have : ∀ T ∈ tys, kitB T "tuple" = some (T == "tuple") := by decide +kernel
  exact this T h
theorem kit_list {T : String} (h : T ∈ tys) : kitB T "list" = some (T == "list") := by
  have : ∀ T ∈ tys, kitB T "list" = some (T == "list") := by decide +kernel
  exact this T h
abbrev PTy (K : PySem.W.Frag) (T : String) : V → Hp → Prop := fun v H => Ty6 K H v T
theorem up_Ty {K : PySem.W.Frag} {T : String} : Up (PTy K T) := fun _ _ _ s h => h.mono s
section
variable {K : PySem.W.Frag} {σ : L2.St} {H : Hp} {ta : TE} {T c : String} {b : Bool}
theorem gv_isi (ha : Gv ta σ H (PTy K T)) (hk : kitB T c = some b) : Gv (tCB (rIsi K) (tCons ta (tCons (tC (.ty c)) tNil))) σ H (PV (.bl b)) :=
  gv_call2 ha gv_c up_Ty fun x y H' Q hx hy q => by
    subst hy
    exact ⟨x, .ty c, .type T, .type c, b, rfl, .ty c, hx.tyx, hk, q _ H' (Same.refl _) rfl⟩
theorem gv_isi2 {c2 : String} {b2 : Bool} (ha : Gv ta σ H (PTy K T)) (hk : kitB T c = some b) (hk2 : kitB T c2 = some b2) : Gv (tCB (rIsiT K) (tCons ta (tCons (tTup (tCons (tC (.ty c)) (tCons (tC (.ty c2)) tNil))) tNil))) σ H (PV (.bl (b || b2))) := by
  intro H1 s Q q
  refine ha H1 s _ fun x H2 s2 hx => ?_
  refine ⟨by show 2 ≤ sizeLine; decide, fun p hp => ?_⟩
  refine ⟨x, p, [.ty c, .ty c2], .type T, [.type c, .type c2], b || b2, rfl, upd_same, .cons (.ty c) (.cons (.ty c2) .nil), (hx.mono (Same.new hp)).tyx, ?_, q _ _ (s2.trans (Same.new hp)) rfl⟩
  refine kitAny_cons (b := b) hk (fun e => ?_) (fun e => by rw [e]; rfl)
  subst e
  refine kitAny_cons (b := b2) hk2 (fun e => ?_) (fun e => by rw [e]; rfl)
  subst e
  exact kitAny_nil
end
theorem boot_int' : bootBuiltins "int" = some (.type "int") := by decide +kernel
theorem boot_bool' : bootBuiltins "bool" = some (.type "bool") := by decide +kernel
theorem boot_str' : bootBuiltins "str" = some (.type "str") := by decide +kernel
theorem boot_list' : bootBuiltins "list" = some (.type "list") := by decide +kernel
theorem boot_tuple' : bootBuiltins "tuple" = some (.type "tuple") := by decide +kernel
theorem boot_isi : bootBuiltins "isinstance" = some (.builtin "isinstance") := by decide +kernel
theorem boot_len' : bootBuiltins "len" = some (.builtin "len") := by decide +kernel

section
variable {P : Program} {w : World} {K : PySem.W.Frag} {mg : Str → Option Value} {base : Heap}
/-! ### is_integer, is_number, is_below, is_string, is_sequence, is_pair -/
def RTy (K : PySem.W.Frag) (g : String → Bool) : List V → Hp → (V → Hp → Prop) → Prop := fun vs H P => ∃ v T, vs = [v] ∧ Ty6 K H v T ∧ P = PV (.bl (g T))
theorem ok_is_integer (d : DefAt K mg "is_integer" 7) (T : Tx mg) : Cal P w K mg base "is_integer" 1 ["value"] (spP (RTy K fun t => t == "int")) := by
  obtain ⟨f, fd, g, F⟩ := d
  have sc : FnScope ["value"] ["value"] (defScope (top 7)) := ⟨rfl, rfl, rfl, by decide +kernel, rfl, by decide +kernel, by decide +kernel⟩
  refine ⟨f, fd, g, F.kp, F.binds fun _ _ _ _ _ _ us hl => match us, hl with | [_], _ => rfl, F.okX sc (fun vs H Q E h => ?_) (fun cdv A outer s H vs Q E hr h => ?_)⟩
  · obtain ⟨_, ⟨v, t, rfl, _⟩, _⟩ := h; rfl
  · obtain ⟨_, ⟨v, t, rfl, ht, rfl⟩, q⟩ := h
    refine ⟨_, pss_one (ps_ret (pe_and (pe_callB call_isi rfl T.isinstance boot_isi (pa_cons (pv 0) (pa_cons (pe_bltn (v := .ty "int") rfl T.int boot_int' rfl) pa_nil)))
      (pe_one (pe_not (pe_callB call_isi rfl T.isinstance boot_isi (pa_cons (pv 0) (pa_cons (pe_bltn (v := .ty "bool") rfl T.bool boot_bool' rfl) pa_nil))))))), ?_⟩
    have g0 : Gv (tVar 0) (start ["value"] [v]) H (PTy K t) := gv_var rfl ht up_Ty
    refine Gv.run ((gv_andV (gv_isi g0 (kit_int ht.mem)) fun _ => gv_notV (gv_isi g0 (kit_bool ht.mem))).imp fun v' H' e => ?_) q
    rw [e]
    have : ∀ T ∈ tys, ((T == "int" || T == "bool") && !(T == "bool")) = (T == "int") := by decide +kernel
    rw [this t ht.mem]
theorem ok_is_string (d : DefAt K mg "is_string" 10) (T : Tx mg) : Cal P w K mg base "is_string" 1 ["value"] (spP (RTy K fun t => t == "str")) := by
  obtain ⟨f, fd, g, F⟩ := d
  have sc : FnScope ["value"] ["value"] (defScope (top 10)) := ⟨rfl, rfl, rfl, by decide +kernel, rfl, by decide +kernel, by decide +kernel⟩
  refine ⟨f, fd, g, F.kp, F.binds fun _ _ _ _ _ _ us hl => match us, hl with | [_], _ => rfl, F.okX sc (fun vs H Q E h => ?_) (fun cdv A outer s H vs Q E hr h => ?_)⟩
  · obtain ⟨_, ⟨v, t, rfl, _⟩, _⟩ := h; rfl
  · obtain ⟨_, ⟨v, t, rfl, ht, rfl⟩, q⟩ := h
    refine ⟨_, pss_one (ps_ret (pe_callB call_isi rfl T.isinstance boot_isi (pa_cons (pv 0) (pa_cons (pe_bltn (v := .ty "str") rfl T.str boot_str' rfl) pa_nil)))), ?_⟩
    have g0 : Gv (tVar 0) (start ["value"] [v]) H (PTy K t) := gv_var rfl ht up_Ty
    exact Gv.run (gv_isi g0 (kit_str ht.mem)) q
theorem ok_is_sequence (d : DefAt K mg "is_sequence" 11) (T : Tx mg) : Cal P w K mg base "is_sequence" 1 ["value"] (spP (RTy K fun t => t == "list" || t == "tuple")) := by
  obtain ⟨f, fd, g, F⟩ := d
  have sc : FnScope ["value"] ["value"] (defScope (top 11)) := ⟨rfl, rfl, rfl, by decide +kernel, rfl, by decide +kernel, by decide +kernel⟩
  refine ⟨f, fd, g, F.kp, F.binds fun _ _ _ _ _ _ us hl => match us, hl with | [_], _ => rfl, F.okX sc (fun vs H Q E h => ?_) (fun cdv A outer s H vs Q E hr h => ?_)⟩
  · obtain ⟨_, ⟨v, t, rfl, _⟩, _⟩ := h; rfl
  · obtain ⟨_, ⟨v, t, rfl, ht, rfl⟩, q⟩ := h
    refine ⟨_, pss_one (ps_ret (pe_callB call_isiT rfl T.isinstance boot_isi (pa_cons (pv 0) (pa_cons (pe_tup (pa_cons (pe_bltn (v := .ty "list") rfl T.list boot_list' rfl) (pa_cons (pe_bltn (v := .ty "tuple") rfl T.tuple boot_tuple' rfl) pa_nil))) pa_nil)))), ?_⟩
    have g0 : Gv (tVar 0) (start ["value"] [v]) H (PTy K t) := gv_var rfl ht up_Ty
    exact Gv.run (gv_isi2 g0 (kit_list ht.mem) (kit_tuple ht.mem)) q
end
end K52
/-! Dicts whose keys are nested tuples: read, written, made, walked. -/
namespace K52
open PySem PySem.Spec PyProof.Rows L2

/-! ### what stands there -/
def DO (P : Program) (w : World) (a : Addr) (xs : List (D × Addr × Value)) : HO :=
  .ext fun h => ∃ o es ep, h.get? a = some o ∧ o.ExactDict ∧ o.data = .dict es ep ∧ es.toList = xs.map (entryOfKey (nestedKind P w)) ∧ (xs.map (·.1)).Nodup
abbrev KN (K : PySem.W.Frag) (H : Hp) : List (D × V) → List (D × Addr × Value) → Prop := Paired fun p q => p.1 = q.1 ∧ Is K H (.ref q.2.1) p.1 ∧ q.1.depth ≤ 8 ∧ RelV p.2 q.2.2
theorem KN.mono {K : PySem.W.Frag} {H H' : Hp} {kvs : List (D × V)} {xs : List (D × Addr × Value)} (s : TS H H') (r : KN K H kvs xs) : KN K H' kvs xs := Paired.mapP r fun _ _ z => ⟨z.1, z.2.1.mono s, z.2.2⟩
theorem KN.val {K : PySem.W.Frag} {H : Hp} {kvs : List (D × V)} {xs : List (D × Addr × Value)} (r : KN K H kvs xs) (k : D) : RelO (valV kvs k) ((atKey xs k).map (·.2)) := by
  induction r with
  | nil => trivial
  | @cons p q ps qs h t ih =>
    obtain ⟨h1, _, _, h2⟩ := h
    by_cases e : p.1 = k
    · have e' : q.1 = k := by rw [← h1]; exact e
      have b : atKey (q :: qs) k = some q.2 := by simp [atKey, List.find?_cons, e']
      rw [valV_pos e, b]
      exact h2
    · have e' : ¬ q.1 = k := by rw [← h1]; exact e
      have b : atKey (q :: qs) k = atKey qs k := by simp [atKey, List.find?_cons, e']
      rw [valV_neg e, b]
      exact ih
theorem KN.any {K : PySem.W.Frag} {H : Hp} {kvs : List (D × V)} {xs : List (D × Addr × Value)} (r : KN K H kvs xs) (k : D) : (kvs.any fun kv => decide (kv.1 = k)) = (atKey xs k).isSome := by
  rw [valV_any, (r.val k).isSome_eq, Option.isSome_map]
theorem KN.put {K : PySem.W.Frag} {H : Hp} {kvs : List (D × V)} {xs : List (D × Addr × Value)} (r : KN K H kvs xs) {k : D} {b : Addr} {y : V} {u : Value} (hb : Is K H (.ref b) k) (hd : k.depth ≤ 8) (ry : RelV y u) : KN K H (putK kvs k y) (storedH xs k b u) := by
  unfold putK storedH
  rw [r.any k]
  by_cases q : (atKey xs k).isSome = true
  · rw [if_pos q, if_pos q]
    clear q
    induction r with
    | nil => exact .nil
    | @cons p z ps zs h t ih =>
      obtain ⟨h1, h2, h3, h4⟩ := h
      rw [List.map_cons, List.map_cons]
      refine .cons ?_ ih
      by_cases e : p.1 = k
      · have e' : z.1 = k := by rw [← h1]; exact e
        unfold putAt
        rw [if_pos e, if_pos e']
        exact ⟨h1, h2, h3, ry⟩
      · have e' : ¬ z.1 = k := by rw [← h1]; exact e
        unfold putAt
        rw [if_neg e, if_neg e']
        exact ⟨h1, h2, h3, h4⟩
  · rw [if_neg q, if_neg q]
    exact Paired.snoc r ⟨rfl, hb, hd, ry⟩
/-- a dict with these keys and values, to be read -/
def DN (P : Program) (w : World) (K : PySem.W.Frag) (H : Hp) (a : Addr) (kvs : List (D × V)) : Prop :=
  kvs.length ≤ 100000 ∧ (a == sysModules) = false ∧ ∃ xs, Rd H a (DO P w a xs) ∧ KN K H kvs xs
/-- .. to be written too -/
def DW (P : Program) (w : World) (K : PySem.W.Frag) (H : Hp) (a : Addr) (kvs : List (D × V)) : Prop :=
  kvs.length ≤ 100000 ∧ (a == sysModules) = false ∧ ∃ xs, H a = some (DO P w a xs) ∧ KN K H kvs xs
section
variable {P : Program} {w : World} {K : PySem.W.Frag} {H H' : Hp} {a : Addr} {kvs : List (D × V)}
theorem DW.rd (h : DW P w K H a kvs) : DN P w K H a kvs := let ⟨l, y, xs, e, r⟩ := h; ⟨l, y, xs, .inl e, r⟩
theorem DW.mono (t : TS H H') (e : H' a = H a) (h : DW P w K H a kvs) : DW P w K H' a kvs := let ⟨l, y, xs, q, r⟩ := h; ⟨l, y, xs, e.trans q, r.mono t⟩
theorem DW.same (s : Same H H') (h : DW P w K H a kvs) : DW P w K H' a kvs := let ⟨l, y, xs, q, r⟩ := h; ⟨l, y, xs, s _ _ q, r.mono (.of s)⟩
theorem DN.mono (t : TS H H') (e : H' a = H a) (h : DN P w K H a kvs) : DN P w K H' a kvs := let ⟨l, y, xs, q, r⟩ := h; ⟨l, y, xs, by unfold Rd; rw [e]; exact q, r.mono t⟩
theorem DN.same (s : Same H H') (h : DN P w K H a kvs) : DN P w K H' a kvs := let ⟨l, y, xs, q, r⟩ := h; ⟨l, y, xs, q.imp (s _ _) fun ⟨o, e⟩ => ⟨o, s _ _ e⟩, r.mono (.of s)⟩
/-- while it is locked -/
theorem DW.frz {od : Obj} (h : DW P w K H a kvs) : ∃ xs, H a = some (DO P w a xs) ∧ DN P w K (upd H a (.frz od (DO P w a xs))) a kvs := by
  obtain ⟨l, y, xs, q, r⟩ := h
  exact ⟨xs, q, l, y, xs, .inr ⟨od, upd_same⟩, r.mono (TS.upd fun ys e => by rw [q] at e; cases e)⟩
theorem DO.notup {xs : List (D × Addr × Value)} {ys : List V} : DO P w a xs ≠ .tup ys := fun z => by
  have z' : HO.ext _ = HO.tup ys := z
  cases z'
theorem DW.ts (h : DW P w K H a kvs) (o : HO) : TS H (upd H a o) := TS.upd fun ys e => by
  obtain ⟨_, _, xs, q, _⟩ := h
  rw [q] at e
  exact DO.notup (Option.some.inj e)
end

section
variable {X : Cx} {pins : List (Addr × Obj)} {σ : L2.St} {H : Hp} {s : Shared} {a : Addr} {kvs : List (D × V)} {k : D} {y v : V} {u r : Value} {A : Around} {E : Value → Shared → Prop}
theorem rd_obj {xs : List (D × Addr × Value)} (I : Inv X pins σ H s) (e : Rd H a (DO X.prog X.w a xs)) :
    ∃ o es ep, s.heap.get? a = some o ∧ o.ExactDict ∧ o.data = .dict es ep ∧ es.toList = xs.map (entryOfKey (nestedKind X.prog X.w)) ∧ (xs.map (·.1)).Nodup := (e.ok I.hok : ObjOk X.prog X.w H s.heap a (DO X.prog X.w a xs)).1
theorem kn_is (I : Inv X pins σ H s) {xs : List (D × Addr × Value)} (q : KN X.K H kvs xs) : ∀ x ∈ xs, (nestedKind X.prog X.w).is s.heap x.1 x.2.1 := by
  induction q with
  | nil => intro x hx; cases hx
  | @cons p z ps zs h t ih =>
    intro x hx
    rcases List.mem_cons.mp hx with e | hx
    · subst e
      refine ⟨?_, h.2.2.1⟩
      rw [← h.1]
      exact Is.nested I _ _ _ h.2.1 rfl
    · exact ih x hx
theorem DN.of (I : Inv X pins σ H s) (h : DN X.prog X.w X.K H a kvs) : ∃ xs, KN X.K H kvs xs ∧ s.heap.DictOfH (nestedKind X.prog X.w) a xs := by
  obtain ⟨_, _, xs, e, q⟩ := h
  obtain ⟨o, es, ep, h1, h2, h3, h4, h5⟩ := rd_obj I e
  exact ⟨xs, q, o, es, ep, h1, h2, h3, h4, kn_is I q, h5⟩
theorem Is.ref_tup {K : PySem.W.Frag} {ds : List D} (h : Is K H y (.tup ds)) : ∃ b, y = .ref b := by
  obtain ⟨b, _, e, _⟩ := h.tup_inv
  exact ⟨b, e⟩
theorem room8 {k : Nat} (hr : A.units + 64 < cLine) : (nestedKind X.prog X.w).room A.in1 := by
  show A.units + 1 + 8 < cLine
  omega
theorem DN.key (I : Inv X pins σ H s) {b : Addr} (h : Is X.K H (.ref b) k) (hd : k.depth ≤ 8) : (nestedKind X.prog X.w).is s.heap k b := ⟨Is.nested I _ _ _ h rfl, hd⟩
/-- d[y] -/
theorem n_get {Q : Value → Shared → Prop} (hu : A.units + 64 < cLine) (I : Inv X pins σ H s) (g : DN X.prog X.w X.K H a kvs) {b : Addr} (hk : Is X.K H (.ref b) k) (hd : k.depth ≤ 8) (hv : valV kvs k = some v) (h : ∀ w' s', Inv X pins σ H s' → RelV v w' → Q w' s') :
    wpAny (model X.prog X.w) A (getItem (.ref a) (.ref b)) Q E s := by
  obtain ⟨xs, q, dd⟩ := g.of I
  obtain ⟨w', hw, rw'⟩ := RelO.some_of (v := v) (o := (atKey xs k).map (·.2)) (by rw [← hv]; exact q.val k)
  obtain ⟨p, hp, rfl⟩ := Option.map_eq_some_iff.mp hw
  exact wpAny_getItem_heap (room8 (k := 0) hu) (DN.key I hk hd) dd hp (h _ _ (I.tok _) rw')
theorem n_in {Q : Value → Shared → Prop} (hu : A.units + 64 < cLine) (I : Inv X pins σ H s) (g : DN X.prog X.w X.K H a kvs) {b : Addr} (hk : Is X.K H (.ref b) k) (hd : k.depth ≤ 8) (h : ∀ s', Inv X pins σ H s' → Q (.bool (valV kvs k).isSome) s') :
    wpAny (model X.prog X.w) A (compareOp .In (.ref b) (.ref a)) Q E s := by
  obtain ⟨xs, q, dd⟩ := g.of I
  refine wpAny_in_heap (room8 (k := 0) hu) (DN.key I hk hd) g.2.1 dd ?_
  have e := (q.val k).isSome_eq
  rw [Option.isSome_map] at e
  rw [← e]
  exact h _ (I.tok _)
theorem n_notIn {Q : Value → Shared → Prop} (hu : A.units + 64 < cLine) (I : Inv X pins σ H s) (g : DN X.prog X.w X.K H a kvs) {b : Addr} (hk : Is X.K H (.ref b) k) (hd : k.depth ≤ 8) (h : ∀ s', Inv X pins σ H s' → Q (.bool (!(valV kvs k).isSome)) s') :
    wpAny (model X.prog X.w) A (compareOp .NotIn (.ref b) (.ref a)) Q E s := by
  obtain ⟨xs, q, dd⟩ := g.of I
  refine wpAny_notIn_heap (room8 (k := 0) hu) (DN.key I hk hd) g.2.1 dd ?_
  have e := (q.val k).isSome_eq
  rw [Option.isSome_map] at e
  rw [← e]
  exact h _ (I.tok _)
theorem length_put (kvs : List (D × V)) (k : D) (v : V) : (putK kvs k v).length ≤ kvs.length + 1 := length_putK kvs k v
/-- the object of a dict, as tracked -/
theorem DO.ok {P : Program} {w : World} {Hx : Hp} {h : Heap} {xs : List (D × Addr × Value)} {o : Obj} {es : Array DictEntry} {ep : Nat} (h1 : h.get? a = some o) (h2 : o.ExactDict) (h3 : o.data = .dict es ep) (h4 : es.toList = xs.map (entryOfKey (nestedKind P w))) (h5 : (xs.map (·.1)).Nodup) :
    ObjOk P w Hx h a (DO P w a xs) := by
  refine ⟨⟨o, es, ep, h1, h2, h3, h4, h5⟩, ⟨o, h1⟩, fun g1 g2 q st => ?_⟩
  obtain ⟨o, es, ep, h1, r⟩ := q
  exact ⟨o, es, ep, st _ h1, r⟩
/-- d[y] = v -/
theorem n_put {Q : Unit → Shared → Prop} (hu : A.units + 64 < cLine) (I : Inv X pins σ H s) (g : DW X.prog X.w X.K H a kvs) {b : Addr} (hk : Is X.K H (.ref b) k) (hd : k.depth ≤ 8) (hl : kvs.length < 100000) (rv : RelV v r)
    (h : ∀ ob s', DW X.prog X.w X.K (upd H a ob) a (putK kvs k v) → Inv X pins σ (upd H a ob) s' → Q () s') : wpAny (model X.prog X.w) A (setItem (.ref a) (.ref b) r) Q E s := by
  obtain ⟨l, ys, xs, e, q⟩ := id g
  obtain ⟨xs', q', dd⟩ := g.rd.of I
  obtain ⟨o, es, ep, h1, h2, h3, h4, h5⟩ := rd_obj I (.inl e)
  have dd : s.heap.DictOfH (nestedKind X.prog X.w) a xs := ⟨o, es, ep, h1, h2, h3, h4, kn_is I q, h5⟩
  have hz : xs.length ≤ sizeLine := by
    have : kvs.length = xs.length := Paired.length q
    rw [sizeLine_eq]; omega
  refine wpAny_setItem_heap (hsz := hz) (room8 (k := 0) hu) (DN.key I hk hd) dd fun h' dd' hs => ?_
  obtain ⟨o', es', ep', g1, g2, g3, g4, _, g5⟩ := dd'
  refine h (DO X.prog X.w a (storedH xs k b r)) _ ⟨?_, ys, _, upd_same, ?_⟩ ?_
  · have := length_put kvs k v; omega
  · exact (q.put hk hd rv).mono (g.ts _)
  · exact I.write (x := a) (e := a) (by rw [e]; trivial) (.inl rfl) (fun c ob hc z => (hs.2 c hc).trans z) ⟨o', g1⟩ (DO.ok g1 g2 g3 g4 g5)
end

/-! ### readings and rules -/
def tNGet (P : Program) (w : World) (K : PySem.W.Frag) (td ty : TE) : TE := fun σ H Q => td σ H fun x H1 => ty σ H1 fun y H2 => ∃ a kvs k b v, x = .ref a ∧ DN P w K H2 a kvs ∧ y = .ref b ∧ Is K H2 (.ref b) k ∧ k.depth ≤ 8 ∧ valV kvs k = some v ∧ Q v H2
def tNIn (P : Program) (w : World) (K : PySem.W.Frag) (ng : Bool) (ty td : TE) : TE := fun σ H Q => ty σ H fun y H1 => td σ H1 fun x H2 => ∃ a kvs k b, x = .ref a ∧ DN P w K H2 a kvs ∧ y = .ref b ∧ Is K H2 (.ref b) k ∧ k.depth ≤ 8 ∧ Q (.bl (if ng then !(valV kvs k).isSome else (valV kvs k).isSome)) H2
/-- d[y] = v, by values -/
def rNPut (P : Program) (w : World) (K : PySem.W.Frag) : V → V → V → Hp → (Hp → Prop) → Prop := fun o i v H Q => ∃ a kvs k b, o = .ref a ∧ DW P w K H a kvs ∧ i = .ref b ∧ Is K H (.ref b) k ∧ k.depth ≤ 8 ∧ kvs.length < 100000 ∧ ∀ ob, DW P w K (upd H a ob) a (putK kvs k v) → Q (upd H a ob)
section
variable {X : Cx} {o i e value : Expr} {pos pos' : Pos} {td ty tv : TE}
theorem pe_nget (hu : X.A.units + 64 < cLine) (ho : PE X o td) (hi : PE X i ty) (hs : NoSl i) : PE X (.Subscript o i pos) (tNGet X.prog X.w X.K td ty) := by
  refine ⟨fun pins s σ H Q I h => ?_⟩
  refine subD_of PySem.F.slot_dict_getitem.lookup hs (thn (ho.run pins s σ H _ I h) fun u s1 ⟨x, H1, I1, rx, q1⟩ => thn (hi.run pins s1 σ H1 _ I1 q1) fun iv s2 ⟨y, H2, I2, ry, q2⟩ => ?_)
  obtain ⟨a, kvs, k, b, v, ex, g, ey, hk, hd, hv, q⟩ := q2
  subst ex; subst ey
  obtain rfl : u = Value.ref a := rx
  obtain rfl : iv = Value.ref b := ry
  obtain ⟨_, _, dd⟩ := g.of I2
  exact ⟨dd.typeIs, n_get hu I2 g hk hd hv fun w' s3 I3 rw' => ⟨v, H2, I3, rw', q⟩⟩
theorem pc_nin (hu : X.A.units + 64 < cLine) (hi : PE X i ty) (ho : PE X o td) : PC X .In i o (tNIn X.prog X.w X.K false ty td) := by
  refine ⟨fun pins s σ H Q I h => ?_⟩
  refine thn (hi.run pins s σ H _ I h) fun iv s1 ⟨y, H1, I1, ry, q1⟩ => thn (ho.run pins s1 σ H1 _ I1 q1) fun u s2 ⟨x, H2, I2, rx, q2⟩ => ?_
  obtain ⟨a, kvs, k, b, ex, g, ey, hk, hd, q⟩ := q2
  subst ex; subst ey
  obtain rfl : u = Value.ref a := rx
  obtain rfl : iv = Value.ref b := ry
  exact n_in hu I2 g hk hd fun s3 I3 => ⟨.bl (valV kvs k).isSome, H2, I3, rfl, q⟩
theorem pc_nnotin (hu : X.A.units + 64 < cLine) (hi : PE X i ty) (ho : PE X o td) : PC X .NotIn i o (tNIn X.prog X.w X.K true ty td) := by
  refine ⟨fun pins s σ H Q I h => ?_⟩
  refine thn (hi.run pins s σ H _ I h) fun iv s1 ⟨y, H1, I1, ry, q1⟩ => thn (ho.run pins s1 σ H1 _ I1 q1) fun u s2 ⟨x, H2, I2, rx, q2⟩ => ?_
  obtain ⟨a, kvs, k, b, ex, g, ey, hk, hd, q⟩ := q2
  subst ex; subst ey
  obtain rfl : u = Value.ref a := rx
  obtain rfl : iv = Value.ref b := ry
  exact n_notIn hu I2 g hk hd fun s3 I3 => ⟨.bl (!(valV kvs k).isSome), H2, I3, rfl, q⟩
theorem set_n (hu : X.A.units + 64 < cLine) : PSet X (rNPut X.prog X.w X.K) := by
  intro pins s σ H o i v ov iv u Q I ro ri rv h
  obtain ⟨a, kvs, k, b, eo, g, ei, hk, hd, hl, q⟩ := h
  subst eo; subst ei
  obtain rfl : ov = Value.ref a := ro
  obtain rfl : iv = Value.ref b := ri
  exact n_put hu I g hk hd hl rv fun ob s' g' I' => ⟨_, I', q ob g'⟩
end

/-! ### {}, one pair written -/
theorem DO.empty {P : Program} {w : World} {Hx : Hp} {h : Heap} : ObjOk P w Hx (h.push { cls := .type "dict", data := .dict #[] }) h.objs.size (DO P w h.objs.size []) :=
  DO.ok (Heap.get?_push_size _ rfl) ⟨rfl, rfl, rfl⟩ rfl rfl List.nodup_nil
def tNNew (P : Program) (w : World) (K : PySem.W.Frag) : TE := fun _ H Q => ∀ p ob, H p = none → DW P w K (upd H p ob) p [] → Q (.ref p) (upd H p ob)
section
variable {X : Cx} {pos : Pos}
theorem big_ne {pins : List (Addr × Obj)} {σ : L2.St} {H : Hp} {s : Shared} (I : Inv X pins σ H s) {p : Addr} (h : s.heap.objs.size ≤ p) : (p == sysModules) = false := by
  have := I.big
  exact beq_eq_false_iff_ne.mpr fun e => by subst e; exact absurd (Nat.lt_of_lt_of_le this h) (Nat.lt_irrefl _)
theorem pe_nnew : PE X (.Dict [] [] pos) (tNNew X.prog X.w X.K) := ⟨fun pins s σ H Q I h =>
  wpAny_Dict_empty ⟨.ref s.heap.objs.size, _, I.laid (a := s.heap.objs.size) (o := DO X.prog X.w s.heap.objs.size []) (t' := s.toks) (fun _ _ q => Heap.get?_push_of_some _ q) (Nat.le_refl _) DO.empty, rfl,
    h _ _ (I.hok.fresh (Nat.le_refl _)) ⟨Nat.zero_le _, big_ne I (Nat.le_refl _), [], upd_same, .nil⟩⟩⟩
/-- {k: v} -/
def tNDisp1 (P : Program) (w : World) (K : PySem.W.Frag) (tk tv : TE) : TE := fun σ H Q => ∀ p ob0, H p = none → DW P w K (upd H p ob0) p [] → tk σ (upd H p ob0) fun y H1 => tv σ H1 fun v H2 =>
  ∃ k b, y = .ref b ∧ Is K H2 (.ref b) k ∧ k.depth ≤ 8 ∧ DW P w K H2 p [] ∧ ∀ ob, DW P w K (upd H2 p ob) p [(k, v)] → Q (.ref p) (upd H2 p ob)
theorem pe_ndisp1 {k v : Expr} {tk tv : TE} (hu : X.A.units + 64 < cLine) (hk : PE X k tk) (hv : PE X v tv)
    (hshape : (evalEachOpt [some k] X.env).zip ((evalEach [v] X.env).map fun z => do let x ← z; standAt pos; pure x) = [(some (eval k X.env), do let x ← eval v X.env; standAt pos; pure x)] := by rfl) :
    PE X (.Dict [some k] [v] pos) (tNDisp1 X.prog X.w X.K tk tv) := by
  refine ⟨fun pins s σ H Q I h => ?_⟩
  have hp : H s.heap.objs.size = none := I.hok.fresh (Nat.le_refl _)
  have I0 : Inv X pins σ (upd H s.heap.objs.size (DO X.prog X.w s.heap.objs.size [])) { s with heap := s.heap.push { cls := .type "dict", data := .dict #[] } } :=
    I.laid (t' := s.toks) (fun _ _ q => Heap.get?_push_of_some _ q) (Nat.le_refl _) DO.empty
  have g0 : DW X.prog X.w X.K (upd H s.heap.objs.size (DO X.prog X.w s.heap.objs.size [])) s.heap.objs.size [] := ⟨Nat.zero_le _, big_ne I (Nat.le_refl _), [], upd_same, .nil⟩
  have q0 := h _ _ hp g0
  rw [PySem.arm_eval_Dict, hshape]
  show wpAny _ _ (do standAt pos; dictDisplay [(some (eval k X.env), do let x ← eval v X.env; standAt pos; pure x)]) _ _ _
  rw [show [((some (eval k X.env) : Option (Sem Value)), (do let x ← eval v X.env; standAt pos; pure x : Sem Value))] = ([(eval k X.env, do let x ← eval v X.env; standAt pos; pure x)] : List (Sem Value × Sem Value)).map fun p => (some p.1, p.2) from rfl, dictDisplay_pairs _ (by simp) (by simp)]
  refine wpAny_bind (wpAny_standAt (wpAny_bind (wpAny_subDictH (Q := fun d s' => wpAny (model X.prog X.w) X.A (pure (Value.ref d)) (EP X pins σ Q) X.xe s') (knd := nestedKind X.prog X.w) (by show X.A.units + 8 < cLine; omega) (by simp) ?_)))
  refine wpAny_mono (Q := fun vs s1 => ∃ kk b y u r H2, vs = [(Value.ref b, r)] ∧ Inv X pins σ H2 s1 ∧ RelV y r ∧ Is X.K H2 (.ref b) kk ∧ kk.depth ≤ 8 ∧ DW X.prog X.w X.K H2 s.heap.objs.size [] ∧ u = y ∧ ∀ ob, DW X.prog X.w X.K (upd H2 s.heap.objs.size ob) s.heap.objs.size [(kk, y)] → Q (.ref s.heap.objs.size) (upd H2 s.heap.objs.size ob)) ?_ (fun vs s1 hh => ?_) fun _ _ z => z
  · show wpAny _ _ (evalPairs [(eval k X.env, do let x ← eval v X.env; standAt pos; pure x)]) _ _ _
    unfold evalPairs
    refine wpAny_bind (thn (hk.run pins _ σ _ _ I0 q0) fun kv s1 ⟨y, H1, I1, ry, q1⟩ => ?_)
    refine wpAny_bind (wpAny_holding (wpAny_bind (thn (hv.run pins s1 σ H1 _ I1 q1) fun r s2 ⟨v', H2, I2, rv, q2⟩ => wpAny_bind (wpAny_standAt (wpAny_pure ?_)))))
    obtain ⟨kk, b, ey, h1, h2, h3, h4⟩ := q2
    subst ey
    obtain rfl : kv = Value.ref b := ry
    first
      | exact wpAny_bind (wpAny_holding (wpAny_pure (wpAny_pure ⟨kk, b, v', v', r, H2, rfl, I2, rv, h1, h2, h3, rfl, h4⟩)))
      | exact wpAny_pure ⟨kk, b, v', v', r, H2, rfl, I2, rv, h1, h2, h3, rfl, h4⟩
      | (unfold evalPairs; exact wpAny_bind (wpAny_holding (wpAny_pure (wpAny_pure ⟨kk, b, v', v', r, H2, rfl, I2, rv, h1, h2, h3, rfl, h4⟩))))
  · obtain ⟨kk, b, y, u, r, H2, rfl, I2, ry, h1, h2, h3, _, q⟩ := hh
    obtain ⟨xs, q3, dd⟩ := h3.rd.of I2
    cases q3
    obtain ⟨_, ys, xs', e, q4⟩ := id h3
    refine ⟨[(kk, b, r)], ⟨rfl, rfl, DN.key I2 h1 h2, trivial⟩, dd, fun h' tk d2 sb => wpAny_pure ?_⟩
    have d2 : h'.DictOfH (nestedKind X.prog X.w) s.heap.objs.size [(kk, b, r)] := d2
    obtain ⟨o, es, ep, g1, g2, g3, g4, g5, g6⟩ := d2
    have t2 : TS H2 (upd H2 s.heap.objs.size (DO X.prog X.w s.heap.objs.size [(kk, b, r)])) := h3.ts _
    exact ⟨.ref s.heap.objs.size, _, I2.write (t' := tk) (x := s.heap.objs.size) (e := s.heap.objs.size) (by rw [e]; trivial) (.inl rfl) (fun c ob hc z => (sb.2 c hc).trans z) ⟨o, g1⟩ (DO.ok g1 g2 g3 g4 g6), rfl,
      q (DO X.prog X.w s.heap.objs.size [(kk, b, r)]) ⟨by simp, ys, _, upd_same, .cons ⟨rfl, h1.mono t2, h2, ry⟩ .nil⟩⟩
end
end K52
/-! Set and dict comprehensions over any source: one core, three uses (ints, pairs of ints, dicts with nested keys). -/
namespace K52
open PySem PySem.Spec PyProof.Rows L2

/-- the reading: ob0 what is new at Dd, tb what a kept turn does with it -/
def tCc (ob0 : Addr → HO) (wi : TI) (g : TG) (tt : TT) (tb : Addr → L2.St → Hp → (Hp → Prop) → Prop) (vs : List Nat) : TE := fun σ H Q => wi σ H fun J H1 => ∀ Dd, H1 Dd = none → (Dd == sysModules) = false →
  ∃ W : Nat → Nat → Hp → Prop, (∃ m, W 0 m (upd H1 Dd (ob0 Dd))) ∧ ∀ i m H, W i m H → (J.stop i H ∧ Q (.ref Dd) H) ∨ (J.go i H ∧ ∃ Nx : Hp → Prop, (∀ H', Nx H' → ∃ m', m' < m ∧ W (i + 1) m' H') ∧
    ∀ x H', J.yld i H x H' → g x (wipe σ vs) H' fun σ2 H2 => wipe σ2 vs = wipe σ vs ∧ tt σ2 H2 fun b H3 => if b = true then tb Dd σ2 H3 Nx else Nx H3)
/-- a noted exception of the block -/
abbrev ntd (prog : Program) (w : World) (A : Around) (env : Env) (R : Result → Shared → Prop) : Value → Shared → Prop := notedBy (model prog w) A env fun e s' => R (.error e) s'
/-- the block's turn, as the model's loop rules ask it: bd what is done with a kept item -/
def LoopTurn (prog : Program) (w : World) (A : Around) (R : Result → Shared → Prop) (env : Env) (tg : Expr) (ifs : List Expr) (it : Value) (bd : (Shared → Prop) → Shared → Prop) (I : Nat → Shared → Prop) : Prop :=
  ∀ n s, I n s → wpAny (model prog w) A (pyNext it) (fun r s1 => match r with
    | none => R (.ok .next) s1
    | some v => wpAny (model prog w) A (letOwnedTupleGo tg it v) (fun _ s2 => wpAny (model prog w) A (assign tg env v) (fun _ s3 =>
        wpAny (model prog w) A (forIn ifs true fun c r => if r = true then do let ok ← isTrue c env (eval c env); pure (ForInStep.yield ok) else pure (ForInStep.yield r)) (fun ok s4 =>
          if ok = true then bd (fun s5 => ∃ m, m < n ∧ I m s5) s4 else ∃ m, m < n ∧ I m s4) (ntd prog w A env R) s3) (ntd prog w A env R) s2) (ntd prog w A env R) s1) (ntd prog w A env R) s
/-- what the core must know of a kind of comprehension -/
structure CompKind (X : Cx) (cx tg iter : Expr) (ifs : List Expr) (scope : Scope) (tb : Addr → L2.St → Hp → (Hp → Prop) → Prop) (ob0 : Addr → HO) (o0 : Obj) (mk : Sem Value)
    (bd : (Result → Shared → Prop) → Env → Addr → (Shared → Prop) → Shared → Prop) : Prop where
  cl : clausesOf cx = [⟨tg, iter, ifs, 0⟩]
  new : ∀ (s2 : Shared) (E : Value → Shared → Prop) (Q' : Value → Shared → Prop), Q' (.ref s2.heap.objs.size) { s2 with heap := s2.heap.push o0 } → wpAny (model X.prog X.w) X.A mk Q' E s2
  ok0 : ∀ (Hx : Hp) (h : Heap), sysModules < h.objs.size → ObjOk X.prog X.w Hx (h.push o0) h.objs.size (ob0 h.objs.size)
  loop : ∀ (R : Result → Shared → Prop) (env : Env) (it : Value) (Dd : Addr) (I : Nat → Shared → Prop) (n : Nat) (s : Shared), LoopTurn X.prog X.w X.A R env tg ifs it (bd R env Dd) I → I n s → codeAny (model X.prog X.w) X.A (.compLoop cx 0 it (.ref Dd) env) R s
  start : ∀ (R : Result → Shared → Prop) (env : Env) (it acc : Value) (s : Shared), codeAny (model X.prog X.w) X.A (.compLoop cx 0 it acc env) R s →
    wpAny (model X.prog X.w) X.A (pyIter it) (fun it' s' => codeAny (model X.prog X.w) X.A (.compLoop cx 0 it' acc env) R s') (ntd X.prog X.w X.A env R) s → codeAny (model X.prog X.w) X.A (.compStart cx 0 it acc env) R s
  body : ∀ (s0 : Shared) (H0 : Hp) (C : Addr) (clo : List (PySem.Str × Addr)) (fp : List Addr) (R : Result → Shared → Prop) (pins : List (Addr × Obj)) (s : Shared) (σ : L2.St) (H : Hp) (Dd : Addr) (Nx : Hp → Prop) (Qn : Shared → Prop),
    Inv (X.blk s0 H0 scope (compEnvC scope clo C X.env) fp) pins σ H s → tb Dd σ H Nx → (∀ s' H', Inv (X.blk s0 H0 scope (compEnvC scope clo C X.env) fp) pins σ H' s' → Nx H' → Qn s') → bd R (compEnvC scope clo C X.env) Dd Qn s
section
variable {X : Cx} {cx tg iter : Expr} {ifs : List Expr} {scope : Scope} {tb : Addr → L2.St → Hp → (Hp → Prop) → Prop} {ob0 : Addr → HO} {o0 : Obj} {mk : Sem Value} {bd : (Result → Shared → Prop) → Env → Addr → (Shared → Prop) → Shared → Prop}
  {own : List (PySem.Str × Nat)} {wi : TI} {g : TG} {tt : TT}
theorem cc_core (CK : CompKind X cx tg iter ifs scope tb ob0 o0 mk bd) (hc : X.calm = true) (hN : X.N.Nodup) (hi : PI X tg iter wi) (ok : BlkOk X.N X.env.scope scope own)
    (hg : ∀ s H C cl fp, PG (X.blk s H scope (compEnvC scope cl C X.env) fp) tg g) (ht : ∀ s H C cl fp, PTs (X.blk s H scope (compEnvC scope cl C X.env) fp) ifs tt) (hs : ∀ x, foldedSetIterable iter X.env x = pure x)
    {pins : List (Addr × Obj)} {s : Shared} {σ : L2.St} {H : Hp} {Q : VK} {pos' : Pos} (I : Inv X pins σ H s) (h : tCc ob0 wi g tt tb (own.map (·.2)) σ H Q) :
    wpAny (model X.prog X.w) X.A (comprehension cx scope X.env pos' mk false (eval iter X.env)) (EP X pins σ Q) X.xe s := by
  have caught : ∀ y ∈ scope.names, y.2 = .free → ∃ c, X.env.cells.lookup y.1 = some c := fun y hy e => (ok.free y hy e).elim (fun k => I.ok.has _ (.inl k)) fun k => I.ok.has _ (.inr k)
  refine wpAny_comprehension_free (use := none) CK.cl hs (closure_ok caught) ok.kind (fun y hy e => by rw [ok.uniq y hy, e]) (thn (hi.run pins s σ H _ I h) fun xv s1 hx => thn hx fun itv s2 h2 => ?_)
  obtain ⟨it, fp, tn, J, H2, e, I2, T, st2, f2, q⟩ := h2
  subst e
  refine CK.new s2 _ _ (newEnv_comp ?_)
  have hDn : H2 s2.heap.objs.size = none := I2.hok.fresh (Nat.le_refl _)
  obtain ⟨W, ⟨m0, w0⟩, turn⟩ := q _ hDn (big_ne I2 (Nat.le_refl _))
  -- behind the new object
  have hpush : ∀ b o, s2.heap.get? b = some o → (s2.heap.push o0).get? b = some o := fun b o e => Heap.get?_push_of_some _ e
  have I3 : Inv X pins σ (upd H2 s2.heap.objs.size (ob0 s2.heap.objs.size)) { s2 with heap := s2.heap.push o0 } := I2.laid (t' := s2.toks) hpush (Nat.le_refl _) (CK.ok0 _ _ I2.big)
  have hsz : (s2.heap.push o0).objs.size = s2.heap.objs.size + 1 := by rw [Heap.size_push]
  generalize hDd : s2.heap.objs.size = Dd at *
  generalize hs3 : ({ s2 with heap := s2.heap.push o0 } : Shared) = s3 at I3 ⊢
  have hs3h : s3.heap = s2.heap.push o0 := by rw [← hs3]
  have low : ∀ b ∈ fp, b < Dd := fun b hb => by
    obtain ⟨o, e, _⟩ := T.obj _ _ st2 b hb
    rw [← hDd]
    exact Heap.lt_size e
  have f3 : ∀ b ∈ fp, FpOk X pins (upd H2 Dd (ob0 Dd)) b ∧ b < s3.heap.objs.size := fun b hb => by
    refine ⟨⟨?_, (f2 b hb).2⟩, ?_⟩
    · rw [upd_ne (Nat.ne_of_lt (low b hb))]; exact (f2 b hb).1
    · rw [hs3h, hsz]; exact Nat.lt_succ_of_lt (low b hb)
  have st3 : tn 0 s3.heap := T.keep _ _ _ st2 fun b _ o e => by rw [hs3h]; exact hpush b o e
  have I4 := block_start I3 ok hN f3
  have pg := hg s3 (upd H2 Dd (ob0 Dd)) s3.heap.objs.size (cellsFrom (s3.heap.objs.size + 1) scope.names (cloFrom X.env.cells scope.names [])) fp
  have pt := ht s3 (upd H2 Dd (ob0 Dd)) s3.heap.objs.size (cellsFrom (s3.heap.objs.size + 1) scope.names (cloFrom X.env.cells scope.names [])) fp
  have pb := CK.body s3 (upd H2 Dd (ob0 Dd)) s3.heap.objs.size (cellsFrom (s3.heap.objs.size + 1) scope.names (cloFrom X.env.cells scope.names [])) fp
  show codeAny _ _ (.compStart cx 0 (.ref it) (.ref Dd) (compEnvC scope (cellsFrom (s3.heap.objs.size + 1) scope.names (cloFrom X.env.cells scope.names [])) s3.heap.objs.size X.env)) (compPost (model X.prog X.w) X.A X.xe none (EP X pins σ Q) (.ref Dd) s3.heap.objs.size)
    { s3 with heap := pushCells (s3.heap.push { cls := .type "dict", data := .dict #[] }) scope.names }
  have zero : ∀ b ∈ fp, (upd H2 Dd (ob0 Dd)) b = none := fun b hb => (f3 b hb).1.1
  generalize hce : compEnvC scope (cellsFrom (s3.heap.objs.size + 1) scope.names (cloFrom X.env.cells scope.names [])) s3.heap.objs.size X.env = ce at I4 pg pt pb ⊢
  have cL : ce.locals = s3.heap.objs.size := by rw [← hce] <;> rfl
  generalize hH3 : upd H2 Dd (ob0 Dd) = H3 at I3 I4 pg pt pb w0 zero f3
  generalize hs4 : ({ s3 with heap := pushCells (s3.heap.push { cls := .type "dict", data := .dict #[] }) scope.names } : Shared) = s4 at I4 ⊢
  have st4 : tn 0 s4.heap := T.keep _ _ _ st3 fun b _ o e => by rw [← hs4]; exact pushCells_keeps _ _ _ _ (Heap.get?_push_of_some _ e)
  have stat : ∀ {σ' : L2.St} {H' : Hp} {s' : Shared}, Inv (X.blk s3 H3 scope ce fp) [] σ' H' s' → (∀ b ∈ fp, H' b = none) → ∀ b ∈ fp, FpOk (X.blk s3 H3 scope ce fp) [] H' b := fun {σ' H' s'} I' hn b hb =>
    ⟨hn b hb, (I'.ok.exf b hb).1, I'.ok.exfs b hb, .inl hb, fun x c e => (I'.ok.exf b hb).2 x c e, fun p hp => by cases hp⟩
  have run : codeAny (model X.prog X.w) X.A (.compLoop cx 0 (.ref it) (.ref Dd) ce) (compPost (model X.prog X.w) X.A X.xe none (EP X pins σ Q) (.ref Dd) s3.heap.objs.size) s4 := by
    refine CK.loop _ ce (.ref it) Dd (fun n s' => ∃ i H', Inv (X.blk s3 H3 scope ce fp) [] (wipe σ (own.map (·.2))) H' s' ∧ tn i s'.heap ∧ (∀ b ∈ fp, H' b = none) ∧ W i n H') m0 s4 ?_ ⟨0, H3, I4, st4, zero, w0⟩
    rintro n s5 ⟨i, H5, I5, st5, n5, w5⟩
    rcases turn i n H5 w5 with ⟨stop, qq⟩ | ⟨go, Nx, hNx, step⟩
    · refine thnF (T.done (X.blk s3 H3 scope ce fp) rfl rfl rfl hc i [] s5 _ H5 (fun _ _ => False) I5 (stat I5 n5) st5 stop) fun r s6 hr => ?_
      obtain ⟨rfl, I6⟩ := hr
      have back : Inv X pins σ H5 s6 := I3.call' (ch := fp) I6.os I6.base I6.hok I6.bare fun b hb => ⟨(f3 b hb).1.2.2.2.1, (f3 b hb).1.2.1, (f3 b hb).1.2.2.2.2.1, (f3 b hb).1.2.2.2.2.2⟩
      have nC : H5 s3.heap.objs.size = none := by rw [← cL]; exact I6.free
      obtain ⟨m, hn, _⟩ := I6.loc
      refine ⟨m, by rw [← cL]; exact hn, fun h'' sb => ?_⟩
      obtain ⟨a0, a1, a2, a3, a4, a5⟩ := I3.fpOk (Nat.le_refl _) nC
      exact ⟨.ref Dd, H5, back.turned (t' := s6.toks) (fun b o hb e => (sb.2 b hb).trans e) a0 a1 a3 a4 a5, rfl, qq⟩
    · refine thnF (T.item (X.blk s3 H3 scope ce fp) rfl rfl rfl hc i [] s5 _ H5 (fun _ _ => False) I5 (stat I5 n5) st5 go) fun r s6 hr => ?_
      obtain ⟨u, rfl, h6⟩ := hr
      refine thnF h6 fun _ s7 ⟨x, H7, I7, r7, y7, st7, n7⟩ => ?_
      have I7' := I7.pinned (stat I7 n7) (T.obj _ _ st7)
      refine thnF (pg.run _ s7 _ H7 x u _ I7' r7 (step x H7 y7)) fun _ s8 ⟨σ8, H8, I8, hw8, q8⟩ => ?_
      refine thnF (pt.run _ s8 σ8 H8 _ I8 q8) fun b s9 ⟨H9, I9, q9⟩ => ?_
      have turned : ∀ (s' : Shared) (H' : Hp), Inv (X.blk s3 H3 scope ce fp) ([] ++ pinsAt fp s7.heap) σ8 H' s' → Nx H' → ∃ m, m < n ∧ ∃ i H', Inv (X.blk s3 H3 scope ce fp) [] (wipe σ (own.map (·.2))) H' s' ∧ tn i s'.heap ∧ (∀ b ∈ fp, H' b = none) ∧ W i m H' := fun s' H' I' nx => by
        obtain ⟨m', hm, w'⟩ := hNx H' nx
        have held : ∀ b ∈ fp, ∀ o, s7.heap.get? b = some o → s'.heap.get? b = some o ∧ H' b = none := fun b hb o e =>
          have z := I'.pin (b, o) (List.mem_append_right _ (List.mem_append_right _ (mem_pinsAt hb e)))
          ⟨z.1, z.2.1⟩
        have hl : (wipe σ (own.map (·.2))).length = σ8.length := by rw [← hw8, wipe_length]
        refine ⟨m', hm, i + 1, H', (I'.unpinned (pins := [])).weak hl (fun j v e => ?_), T.keep _ _ _ st7 fun b hb o e => (held b hb o e).1, fun b hb => ?_, w'⟩
        · rw [← hw8] at e
          exact (wipe_some e).1
        · obtain ⟨o, e, _⟩ := T.obj _ _ st7 b hb
          exact (held b hb o e).2
      cases b with
      | false => exact turned s9 H9 I9 q9
      | true =>
        show bd _ ce Dd _ s9
        exact pb _ _ s9 σ8 H9 Dd Nx _ I9 q9 turned
  exact CK.start _ ce _ _ _ run (T.self X.A 0 _ _ _ st4 run)
end

/-! ### a set of ints -/
def tbSet (w : World) (te : TE) : Addr → L2.St → Hp → (Hp → Prop) → Prop := fun Dd σ H N => te σ H fun y H4 => ∃ (c : Int) (S : Int → Bool) (n : Nat), y = .int c ∧ H4 Dd = some (SetO w Dd S n) ∧ n + 1 < scanBound ∧
  N (upd H4 Dd (SetO w Dd (fun j => S j || decide (j = c)) (if S c = true then n else n + 1)))
abbrev setObj (w : World) : Obj := { cls := .type "set", dict := none, data := .set #[] 0 (.fresh 0 0 (!w.params.followText "set-order")) }
theorem set_int_kind {X : Cx} {elt tg iter : Expr} {ifs : List Expr} {scope : Scope} {pos : Pos} {te : TE} (he : ∀ s H C cl fp, PE (X.blk s H scope (compEnvC scope cl C X.env) fp) elt te) :
    CompKind X (.SetComp elt [⟨tg, iter, ifs, 0⟩] scope pos) tg iter ifs scope (tbSet X.w te) (fun Dd => SetO X.w Dd (fun _ => false) 0) (setObj X.w) (newSet (.type "set"))
      (fun R env Dd Qn s => wpAny (model X.prog X.w) X.A (eval elt env) (fun x s4 => wpAny (model X.prog X.w) X.A (call (.builtin "set.add") [.ref Dd, x]) (fun _ s5 => Qn s5) (ntd X.prog X.w X.A env R) s4) (ntd X.prog X.w X.A env R) s) where
  cl := rfl
  new := fun s2 E Q' h => PpSet.newSet_ok h
  ok0 := fun Hx h _ => setO_new (setR_fresh X.w)
  loop := fun R env it Dd I n s t h => PpSet.compLoopS_any I t n h
  start := fun R env it acc s h0 h => PpSet.codeAny_compStart_set h0 h
  body := by
    intro s0 H0 C clo fp R pins s σ H Dd Nx Qn I h k
    refine thnF ((he s0 H0 C clo fp).run pins s σ H _ I h) fun x s4 hx => ?_
    obtain ⟨y, H4, I4, ry, c, S, n, rfl, hD, room, q⟩ := hx
    obtain ⟨t, rfl⟩ := ry
    refine thnF (mt_sadd (X := X.blk s0 H0 scope (compEnvC scope clo C X.env) fp) pins s4 σ H4 (.ref Dd) [.int c] (.ref Dd) [.int c t] (fun _ H' => Nx H') I4 rfl (.cons ⟨t, rfl⟩ .nil) ⟨Dd, c, S, n, rfl, rfl, hD, room, q⟩) fun _ s5 hh => ?_
    obtain ⟨_, H5, I5, _, q5⟩ := hh
    exact k s5 H5 I5 q5
theorem pe_setI {X : Cx} {elt tg iter : Expr} {ifs : List Expr} {scope : Scope} {own : List (PySem.Str × Nat)} {pos : Pos} {wi : TI} {g : TG} {tt : TT} {te : TE} (hc : X.calm = true) (hN : X.N.Nodup) (hi : PI X tg iter wi) (ok : BlkOk X.N X.env.scope scope own)
    (hg : ∀ s H C cl fp, PG (X.blk s H scope (compEnvC scope cl C X.env) fp) tg g) (ht : ∀ s H C cl fp, PTs (X.blk s H scope (compEnvC scope cl C X.env) fp) ifs tt) (he : ∀ s H C cl fp, PE (X.blk s H scope (compEnvC scope cl C X.env) fp) elt te)
    (hs : ∀ x, foldedSetIterable iter X.env x = pure x := by intro _; rfl) : PE X (.SetComp elt [⟨tg, iter, ifs, 0⟩] scope pos) (tCc (fun Dd => SetO X.w Dd (fun _ => false) 0) wi g tt (tbSet X.w te) (own.map (·.2))) := by
  refine ⟨fun pins s σ H Q I h => ?_⟩
  rw [PpSet.eval_SetComp]
  exact cc_core (set_int_kind he) hc hN hi ok hg ht hs I h
end K52
/-! Sets of pairs, dict comprehensions with nested keys, walks of such dicts. -/
namespace K52
open PySem PySem.Spec PyProof.Rows L2

/-! ### a set of tuples of ints -/
def tbSetT (P : Program) (w : World) (K : PySem.W.Frag) (te : TE) : Addr → L2.St → Hp → (Hp → Prop) → Prop := fun Dd σ H N => te σ H fun y H4 => ∃ (b : Addr) (k : List Int) (L : List (Addr × List Int)), y = .ref b ∧ SqT K H4 b (k.map V.int) ∧ H4 Dd = some (SetTO P w Dd L) ∧
  (∀ p ∈ L, SqT K H4 p.1 (p.2.map V.int)) ∧ L.length + 1 < 64 ∧ ∀ L', (k ∈ L.map (·.2) → L' = L) → (k ∉ L.map (·.2) → L'.Perm ((b, k) :: L)) → N (upd H4 Dd (SetTO P w Dd L'))
theorem setT_add {X : Cx} {pins : List (Addr × Obj)} {σ : L2.St} {H : Hp} {s : Shared} {E : Value → Shared → Prop} {Dd b : Addr} {k : List Int} {L : List (Addr × List Int)} {Q : Value → Shared → Prop} (hu : X.A.units + 64 < cLine) (I : Inv X pins σ H s)
    (hb : SqT X.K H b (k.map V.int)) (hD : H Dd = some (SetTO X.prog X.w Dd L)) (hL : ∀ p ∈ L, SqT X.K H p.1 (p.2.map V.int)) (hf : L.length + 1 < 64)
    (h : ∀ L' s', (k ∈ L.map (·.2) → L' = L) → (k ∉ L.map (·.2) → L'.Perm ((b, k) :: L)) → Inv X pins σ (upd H Dd (SetTO X.prog X.w Dd L')) s' → Q .none s') : wpAny (model X.prog X.w) X.A (call (.builtin "set.add") [.ref Dd, .ref b]) Q E s := by
  have R0 : SetT0 X.prog X.w s.heap Dd L := (I.hok Dd _ hD).1
  obtain ⟨es, ep, t, R⟩ := R0.full fun p hp => I.isT (hL p hp)
  obtain ⟨o, ho, hex, hd⟩ := R.ob
  refine wpAny_call_entry F.slot_set_add ⟨o, ho, hex.1⟩ F.entry_set_add ?_ (F.args_set_add_2 _ _)
  unfold Builtin.«set.add» Builtin.Frozenset.oneOther
  simp only [List.isEmpty_nil, bind_assoc]
  unfold Builtin.Frozenset.addrOf setAdd
  refine wpAny_bind (wpAny_pure ?_)
  try dsimp only
  refine wpAny_bind (wpAny_pure ?_)
  try dsimp only
  refine wpAny_bind (wpAny_holding ?_)
  have hx := I.isT hb
  refine wpAny_bind (wpAny_pyHash_tuple (by show X.A.units + 1 < cLine; omega) hx ?_)
  refine add_at (s := { s with toks := s.toks + (k.length + 1) }) R hx (by show X.A.units + 1 < cLine; omega) hf fun b' h' L' es' ep' t' sb R' c1 c2 => ?_
  show wpAny _ _ (ret Value.none) _ _ _
  obtain ⟨o', ho', _⟩ := R'.ob
  exact wpAny_pure ⟨_, rfl, h L' _ c1 c2 (I.write (x := Dd) (e := Dd) (t' := s.toks + (k.length + 1)) (by rw [hD]; trivial) (.inl rfl) (fun c u hc hq => (sb.2 c hc).trans hq) ⟨o', ho'⟩ (setTO_new R'.t0))⟩
theorem set_tup_kind {X : Cx} {elt tg iter : Expr} {ifs : List Expr} {scope : Scope} {pos : Pos} {te : TE} (hu : X.A.units + 64 < cLine) (he : ∀ s H C cl fp, PE (X.blk s H scope (compEnvC scope cl C X.env) fp) elt te) :
    CompKind X (.SetComp elt [⟨tg, iter, ifs, 0⟩] scope pos) tg iter ifs scope (tbSetT X.prog X.w X.K te) (fun Dd => SetTO X.prog X.w Dd []) (setObj X.w) (newSet (.type "set"))
      (fun R env Dd Qn s => wpAny (model X.prog X.w) X.A (eval elt env) (fun x s4 => wpAny (model X.prog X.w) X.A (call (.builtin "set.add") [.ref Dd, x]) (fun _ s5 => Qn s5) (ntd X.prog X.w X.A env R) s4) (ntd X.prog X.w X.A env R) s) where
  cl := rfl
  new := fun s2 E Q' h => PpSet.newSet_ok h
  ok0 := fun Hx h _ => setTO_new (setTR_fresh (Heap.get?_push_size _ rfl)).t0
  loop := fun R env it Dd I n s t h => PpSet.compLoopS_any I t n h
  start := fun R env it acc s h0 h => PpSet.codeAny_compStart_set h0 h
  body := by
    intro s0 H0 C clo fp R pins s σ H Dd Nx Qn I h k
    refine thnF ((he s0 H0 C clo fp).run pins s σ H _ I h) fun x s4 hx => ?_
    obtain ⟨y, H4, I4, ry, b, kk, L, rfl, hb, hD, hL, hf, q⟩ := hx
    obtain rfl : x = Value.ref b := ry
    exact setT_add (X := X.blk s0 H0 scope (compEnvC scope clo C X.env) fp) hu I4 hb hD hL hf fun L' s' c1 c2 I' => k s' _ I' (q L' c1 c2)
theorem pe_setT {X : Cx} {elt tg iter : Expr} {ifs : List Expr} {scope : Scope} {own : List (PySem.Str × Nat)} {pos : Pos} {wi : TI} {g : TG} {tt : TT} {te : TE} (hu : X.A.units + 64 < cLine) (hc : X.calm = true) (hN : X.N.Nodup) (hi : PI X tg iter wi) (ok : BlkOk X.N X.env.scope scope own)
    (hg : ∀ s H C cl fp, PG (X.blk s H scope (compEnvC scope cl C X.env) fp) tg g) (ht : ∀ s H C cl fp, PTs (X.blk s H scope (compEnvC scope cl C X.env) fp) ifs tt) (he : ∀ s H C cl fp, PE (X.blk s H scope (compEnvC scope cl C X.env) fp) elt te)
    (hs : ∀ x, foldedSetIterable iter X.env x = pure x := by intro _; rfl) : PE X (.SetComp elt [⟨tg, iter, ifs, 0⟩] scope pos) (tCc (fun Dd => SetTO X.prog X.w Dd []) wi g tt (tbSetT X.prog X.w X.K te) (own.map (·.2))) := by
  refine ⟨fun pins s σ H Q I h => ?_⟩
  rw [PpSet.eval_SetComp]
  exact cc_core (set_tup_kind hu he) hc hN hi ok hg ht hs I h

/-! ### a dict with nested keys -/
def tbDict (P : Program) (w : World) (K : PySem.W.Frag) (tk tv : TE) : Addr → L2.St → Hp → (Hp → Prop) → Prop := fun Dd σ H N => tk σ H fun y H4 => tv σ H4 fun v H5 => ∃ (b : Addr) (k : D) (kvs : List (D × V)), y = .ref b ∧ Is K H5 (.ref b) k ∧ k.depth ≤ 8 ∧ DW P w K H5 Dd kvs ∧ kvs.length < 100000 ∧
  ∀ ob, DW P w K (upd H5 Dd ob) Dd (putK kvs k v) → N (upd H5 Dd ob)
theorem n_dset {X : Cx} {pins : List (Addr × Obj)} {σ : L2.St} {H : Hp} {s : Shared} {A : Around} {E : Value → Shared → Prop} {a b : Addr} {k : D} {kvs : List (D × V)} {v : V} {r : Value} {Q : Unit → Shared → Prop} (hu : A.units + 64 < cLine) (I : Inv X pins σ H s) (g : DW X.prog X.w X.K H a kvs) (hk : Is X.K H (.ref b) k) (hd : k.depth ≤ 8) (hl : kvs.length < 100000) (rv : RelV v r)
    (h : ∀ ob s', DW X.prog X.w X.K (upd H a ob) a (putK kvs k v) → Inv X pins σ (upd H a ob) s' → Q () s') : wpAny (model X.prog X.w) A (dictSet a (.ref b) r) Q E s := by
  obtain ⟨l, ys, xs, e, q⟩ := id g
  obtain ⟨o, es, ep, h1, h2, h3, h4, h5⟩ := rd_obj I (.inl e)
  have dd : s.heap.DictOfH (nestedKind X.prog X.w) a xs := ⟨o, es, ep, h1, h2, h3, h4, kn_is I q, h5⟩
  have hz : xs.length ≤ sizeLine := by
    have : kvs.length = xs.length := Paired.length q
    rw [sizeLine_eq]; omega
  refine wpAny_dictSet_heap (hsz := hz) (by show A.units + 8 < cLine; omega) (DN.key I hk hd) dd fun h' dd' hs => ?_
  obtain ⟨o', es', ep', g1, g2, g3, g4, _, g5⟩ := dd'
  refine h (DO X.prog X.w a (storedH xs k b r)) _ ⟨?_, ys, _, upd_same, (q.put hk hd rv).mono (g.ts _)⟩ ?_
  · have := length_put kvs k v; omega
  · exact I.write (x := a) (e := a) (by rw [e]; trivial) (.inl rfl) (fun c ob hc z => (hs.2 c hc).trans z) ⟨o', g1⟩ (DO.ok g1 g2 g3 g4 g5)
theorem dict_kind {X : Cx} {kx vx tg iter : Expr} {ifs : List Expr} {scope : Scope} {pos : Pos} {tk tv : TE} (hu : X.A.units + 64 < cLine) (hk : ∀ s H C cl fp, PE (X.blk s H scope (compEnvC scope cl C X.env) fp) kx tk) (hv : ∀ s H C cl fp, PE (X.blk s H scope (compEnvC scope cl C X.env) fp) vx tv) :
    CompKind X (.DictComp kx vx [⟨tg, iter, ifs, 0⟩] scope pos) tg iter ifs scope (tbDict X.prog X.w X.K tk tv) (fun Dd => DO X.prog X.w Dd []) { cls := .type "dict", data := .dict #[] } newDict
      (fun R env Dd Qn s => wpAny (model X.prog X.w) X.A (eval kx env) (fun kv s4 => wpAny (model X.prog X.w) X.A (eval vx env) (fun vv s5 => wpAny (model X.prog X.w) X.A (dictSet Dd kv vv) (fun _ s6 => Qn s6) (ntd X.prog X.w X.A env R) s5) (ntd X.prog X.w X.A env R) s4) (ntd X.prog X.w X.A env R) s) where
  cl := rfl
  new := fun s2 E Q' h => wpAny_newObj_type h
  ok0 := fun Hx h _ => DO.empty
  loop := fun R env it Dd I n s t h => compLoop_anyD I t n h
  start := fun R env it acc s h0 h => codeAny_compStart_dict h0 h
  body := by
    intro s0 H0 C clo fp R pins s σ H Dd Nx Qn I h k
    refine thnF ((hk s0 H0 C clo fp).run pins s σ H _ I h) fun x s4 hx => ?_
    obtain ⟨y, H4, I4, ry, q4⟩ := hx
    refine thnF ((hv s0 H0 C clo fp).run pins s4 σ H4 _ I4 q4) fun u s5 hu5 => ?_
    obtain ⟨v, H5, I5, rv, b, kk, kvs, rfl, hb, hd, g, hl, q⟩ := hu5
    obtain rfl : x = Value.ref b := ry
    exact n_dset (X := X.blk s0 H0 scope (compEnvC scope clo C X.env) fp) hu I5 g hb hd hl rv fun ob s' g' I' => k s' _ I' (q ob g')
theorem pe_dictN {X : Cx} {kx vx tg iter : Expr} {ifs : List Expr} {scope : Scope} {own : List (PySem.Str × Nat)} {pos : Pos} {wi : TI} {g : TG} {tt : TT} {tk tv : TE} (hu : X.A.units + 64 < cLine) (hc : X.calm = true) (hN : X.N.Nodup) (hi : PI X tg iter wi) (ok : BlkOk X.N X.env.scope scope own)
    (hg : ∀ s H C cl fp, PG (X.blk s H scope (compEnvC scope cl C X.env) fp) tg g) (ht : ∀ s H C cl fp, PTs (X.blk s H scope (compEnvC scope cl C X.env) fp) ifs tt) (hk : ∀ s H C cl fp, PE (X.blk s H scope (compEnvC scope cl C X.env) fp) kx tk) (hv : ∀ s H C cl fp, PE (X.blk s H scope (compEnvC scope cl C X.env) fp) vx tv)
    (hs : ∀ x, foldedSetIterable iter X.env x = pure x := by intro _; rfl) : PE X (.DictComp kx vx [⟨tg, iter, ifs, 0⟩] scope pos) (tCc (fun Dd => DO X.prog X.w Dd []) wi g tt (tbDict X.prog X.w X.K tk tv) (own.map (·.2))) := by
  refine ⟨fun pins s σ H Q I h => ?_⟩
  rw [arm_eval_DictComp]
  exact cc_core (dict_kind hu hk hv) hc hN hi ok hg ht hs I h

/-! ### walks of such a dict, locked -/
/-- the keys -/
def ItNk (P : Program) (w : World) (K : PySem.W.Frag) (d : Addr) (o : Obj) (xs : List (D × Addr × Value)) (kvs : List (D × V)) : It :=
  ⟨fun i H => (H d = some (.frz o (DO P w d xs)) ∧ KN K H kvs xs) ∧ i < kvs.length, fun i H x H' => H' = H ∧ ∃ k v, kvs[i]? = some (k, v) ∧ Is K H x k, fun i H => (H d = some (.frz o (DO P w d xs)) ∧ KN K H kvs xs) ∧ kvs.length ≤ i⟩
/-- the pairs, each a new tuple -/
def ItNi (P : Program) (w : World) (K : PySem.W.Frag) (d : Addr) (o : Obj) (xs : List (D × Addr × Value)) (kvs : List (D × V)) : It :=
  ⟨fun i H => (H d = some (.frz o (DO P w d xs)) ∧ KN K H kvs xs) ∧ i < kvs.length, fun i H x H' => ∃ T q k v, kvs[i]? = some (k, v) ∧ x = .ref T ∧ H T = none ∧ Is K H q k ∧ H' = upd H T (.tup [q, v]), fun i H => (H d = some (.frz o (DO P w d xs)) ∧ KN K H kvs xs) ∧ kvs.length ≤ i⟩
section
variable {X : Cx} {pins : List (Addr × Obj)} {σ : L2.St} {H : Hp} {s : Shared} {d : Addr} {o : Obj} {xs : List (D × Addr × Value)} {kvs : List (D × V)}
theorem frzN (I : Inv X pins σ H s) (h : H d = some (.frz o (DO X.prog X.w d xs))) (q : KN X.K H kvs xs) : s.heap.get? d = some o ∧ o.ExactDict ∧ ∃ (es : Array DictEntry) (ep : Nat), o.data = .dict es ep ∧ es.size = kvs.length ∧
    ∀ (i : Nat) (k : D) (v : V), kvs[i]? = some (k, v) → ∃ (hi : i < es.size) (z : Addr), es[i].key = .ref z ∧ Is X.K H (.ref z) k ∧ RelV v es[i].val := by
  obtain ⟨hd, hx⟩ := I.hok d _ h
  obtain ⟨o', es, ep, h1, h2, h3, h4, h5⟩ := (hx : ObjOk X.prog X.w H s.heap d (DO X.prog X.w d xs)).1
  rw [hd] at h1; cases h1
  have l1 : es.size = xs.length := size_of_entries h4
  have l2 : kvs.length = xs.length := Paired.length q
  refine ⟨hd, h2, es, ep, h3, by omega, fun i k v e => ?_⟩
  obtain ⟨b, hb, e1, e2, _, e3⟩ := paired_get q e
  have hi : i < es.size := by rw [l1]; exact (List.getElem?_eq_some_iff.mp hb).1
  have z := entry_at h4 i
  rw [hb] at z
  have ee : es[i] = entryOfKey (nestedKind X.prog X.w) b := by
    have := Array.getElem?_eq_getElem hi
    rw [z] at this
    exact (Option.some.inj this).symm
  exact ⟨hi, b.2.1, by rw [ee] <;> rfl, e2, by rw [ee]; exact e3⟩
end
section
variable {P : Program} {w : World} {K : PySem.W.Frag} {tg : Expr} {d : Addr} {o : Obj} {es : Array DictEntry} {ep : Nat} {xs : List (D × Addr × Value)} {kvs : List (D × V)}
theorem dict_same {es' : Array DictEntry} {ep' : Nat} (h : o.data = .dict es ep) (h' : o.data = .dict es' ep') : es' = es ∧ ep' = ep := by
  rw [h] at h'; cases h'; exact ⟨rfl, rfl⟩
theorem turn_nkeys (it : Addr) (hod : o.data = .dict es ep) : Turn P w K tg (ItNk P w K d o xs kvs) [it] it (fun i h => h.IsKeyIter it d i kvs.length ep) where
  mem := by simp
  obj := fun i h st b hb => by
    obtain rfl : b = it := by simpa using hb
    obtain ⟨oi, e, c, dd⟩ := st
    exact ⟨oi, e, fun v z => by rw [dd] at z; cases z⟩
  keep := fun i h h' st k => st.at fun oi e => k it (by simp) oi e
  item := by
    intro X hP hw hK hc i pins s σ H E I hf st hg
    subst hP hw hK
    obtain ⟨⟨hd, hq⟩, hi⟩ := hg
    obtain ⟨a0, a1, a2, a3, a4, a5⟩ := hf it (by simp)
    obtain ⟨hgd, hx, es', ep', hdt, hsz, ent⟩ := frzN I hd hq
    obtain ⟨rfl, rfl⟩ := dict_same hod hdt
    obtain ⟨⟨k, v⟩, hkv⟩ : ∃ p, kvs[i]? = some p := ⟨kvs[i], List.getElem?_eq_getElem hi⟩
    obtain ⟨hie, q, hkey, hqk, _⟩ := ent i k v hkv
    refine next_key_item st hgd hdt hsz (Array.getElem?_eq_getElem hie) fun h' st' sb => ?_
    have I1 : Inv X pins σ H { s with heap := h' } := I.turned (t' := s.toks) (fun b ob hb e => (sb.2 b hb).trans e) a0 a1 a3 a4 a5
    obtain ⟨oi, e, c, dd⟩ := id st'
    exact ⟨_, rfl, go_of (s := { s with heap := h' }) e c dd (by decide) ⟨.ref q, H, I1, hkey, ⟨rfl, k, v, hkv, hqk⟩, st', fun b hb => (hf b hb).1⟩⟩
  done := by
    intro X hP hw hK hc i pins s σ H E I hf st hg
    subst hP hw hK
    obtain ⟨⟨hd, hq⟩, hi⟩ := hg
    obtain ⟨a0, a1, a2, a3, a4, a5⟩ := hf it (by simp)
    obtain ⟨hgd, hx, es', ep', hdt, hsz, ent⟩ := frzN I hd hq
    obtain ⟨rfl, rfl⟩ := dict_same hod hdt
    exact next_key_end (I.ok.hd hc) st hgd hdt hsz hi fun h' eb => ⟨rfl, I.turned (t' := s.toks) (fun b ob hb e => eb b ob hb e) a0 a1 a3 a4 a5⟩
  self := fun A i s Q E st h => wpAny_pyIter_keyiter st h
theorem turn_nitems {elts : List Expr} {kk : Nat} {tpos : Pos} (it : Addr) (hod : o.data = .dict es ep) : Turn P w K (.Tuple elts kk tpos) (ItNi P w K d o xs kvs) [it] it (fun i h => ∃ ok ov, IsItemIter h it d i kvs.length ep ok ov) where
  mem := by simp
  obj := fun i h st b hb => by
    obtain rfl : b = it := by simpa using hb
    obtain ⟨ok, ov, e⟩ := st
    exact ⟨_, e, fun v z => by cases z⟩
  keep := fun i h h' st k => by
    obtain ⟨ok, ov, e⟩ := st
    exact ⟨ok, ov, k it (by simp) _ e⟩
  item := by
    intro X hP hw hK hc i pins s σ H E I hf st hg
    subst hP hw hK
    obtain ⟨⟨hd, hq⟩, hi⟩ := hg
    obtain ⟨hgd, hx, es', ep', hdt, hsz, ent⟩ := frzN I hd hq
    obtain ⟨rfl, rfl⟩ := dict_same hod hdt
    obtain ⟨⟨k, v⟩, hkv⟩ : ∃ p, kvs[i]? = some p := ⟨kvs[i], List.getElem?_eq_getElem hi⟩
    obtain ⟨hie, q, hkey, hqk, hval⟩ := ent i k v hkv
    obtain ⟨ok, ov, he⟩ := st
    rw [← hsz] at he
    have hlt : it < s.heap.objs.size := Heap.lt_size he
    refine wpAny_pyNext_items_item_raw he ⟨o, hgd, hx, hdt⟩ hie fun h' ho hT hz hk => ?_
    refine ⟨_, rfl, wpAny_letOwnedTupleGo_items (s := { s with heap := h' }) ho fun h'' he' sb => ?_⟩
    have hT2 := (sb.2 _ (Nat.ne_of_gt hlt)).trans hT
    rw [hkey] at hT2
    have new : ObjOk X.prog X.w (upd H s.heap.objs.size (.tup [.ref q, v])) h'' s.heap.objs.size (.tup [.ref q, v]) := ⟨by show 2 ≤ sizeLine; decide, [.ref q, _], .cons rfl (.cons hval .nil), ⟨_, hT2, rfl, _, rfl⟩⟩
    have I1 := I.turnedNew (h' := h'') (t' := s.toks) (ch := [it]) (fun b ob hb e => (sb.2 b (by simpa using hb)).trans (hk b ob (by simpa using hb) e)) hf (Nat.le_refl _) new
    refine ⟨.ref s.heap.objs.size, _, I1, rfl, ⟨_, .ref q, k, v, hkv, rfl, I.hok.fresh (Nat.le_refl _), hqk, rfl⟩, ⟨_, _, by rw [← hsz]; exact he'⟩, fun b hb => ?_⟩
    obtain rfl : b = it := by simpa using hb
    rw [upd_ne (Nat.ne_of_lt hlt)]
    exact (hf b (by simp)).1
  done := by
    intro X hP hw hK hc i pins s σ H E I hf st hg
    subst hP hw hK
    obtain ⟨⟨hd, hq⟩, hi⟩ := hg
    obtain ⟨a0, a1, a2, a3, a4, a5⟩ := hf it (by simp)
    obtain ⟨hgd, hx, es', ep', hdt, hsz, ent⟩ := frzN I hd hq
    obtain ⟨rfl, rfl⟩ := dict_same hod hdt
    obtain ⟨ok, ov, he⟩ := st
    rw [← hsz] at he
    exact wpAny_pyNext_items_end_raw (I.ok.hd hc) he ⟨o, hgd, hx, hdt⟩ (by omega) fun h' eb => ⟨rfl, I.turned (t' := s.toks) (fun b ob hb e => eb b ob hb e) a0 a1 a3 a4 a5⟩
  self := fun A i s Q E st h => by
    obtain ⟨_, _, e⟩ := st
    exact PySem.W.kcp_self e h
end
/-- the dict is locked by the caller -/
def iNKeys (P : Program) (w : World) (K : PySem.W.Frag) (td : TE) : TI := fun σ H R => td σ H fun x H1 => ∃ d o xs kvs, x = .ref d ∧ (d == sysModules) = false ∧ H1 d = some (.frz o (DO P w d xs)) ∧ KN K H1 kvs xs ∧ R (ItNk P w K d o xs kvs) H1
def iNItems (P : Program) (w : World) (K : PySem.W.Frag) (td : TE) : TI := fun σ H R => td σ H fun x H1 => ∃ d o xs kvs, x = .ref d ∧ (d == sysModules) = false ∧ H1 d = some (.frz o (DO P w d xs)) ∧ KN K H1 kvs xs ∧ R (ItNi P w K d o xs kvs) H1
section
variable {X : Cx} {tg e : Expr} {td : TE} {apos cpos : Pos}
theorem pi_nkeys (he : PE X e td) : PI X tg e (iNKeys X.prog X.w X.K td) := by
  refine ⟨fun pins s σ H R I h => ?_⟩
  refine thn (he.run pins s σ H _ I h) fun u s1 hh => ?_
  obtain ⟨x, H1, I1, rx, d, o, xs, kvs, rfl, hs, hd, hq, q⟩ := hh
  obtain rfl : u = Value.ref d := rx
  obtain ⟨hgd, hx, es, ep, hdt, hsz, ent⟩ := frzN I1 hd hq
  refine iter_keys hs hgd hx hdt (pi_one (tk := s1.toks) I1 _ (turn_nkeys _ hdt) ⟨_, Heap.get?_push_size _ rfl, rfl, ?_⟩ q)
  rw [hsz] <;> rfl
theorem pi_nitems {elts : List Expr} {kk : Nat} {tpos : Pos} (he : PE X e td) (hbase : attributeBase e "items" X.env (eval e X.env) = eval e X.env := by rfl) (hline : (apos.endLine == cpos.line) = true := by rfl) :
    PI X (.Tuple elts kk tpos) (.Call (.Attribute e "items" apos) [] [] cpos) (iNItems X.prog X.w X.K td) := by
  refine ⟨fun pins s σ H R I h => ?_⟩
  refine wpAny_Call_method (T := "dict") (id := "dict.items") hbase rfl hline F.plainAttrs_dict F.slot_dict_items F.type_dict_items (thn (he.run pins s σ H _ I h) fun u s1 hh => ?_)
  obtain ⟨x, H1, I1, rx, d, o, xs, kvs, rfl, hs, hd, hq, q⟩ := hh
  obtain rfl : u = Value.ref d := rx
  obtain ⟨hgd, hx, es, ep, hdt, hsz, ent⟩ := frzN I1 hd hq
  have raw : s1.heap.DictRaw d es ep := ⟨o, hgd, hx, hdt⟩
  refine ⟨raw.typeIs, fun b z => by cases z; exact ⟨o, hgd, hx.2.1⟩, ?_⟩
  have I2 : Inv X pins σ H1 { s1 with heap := s1.heap.push { cls := .type "dict_items", data := .fields #[.ref d] } } := I1.kept (t' := s1.toks) fun b ob q => Heap.get?_push_of_some _ q
  have fin : wpAny (model X.prog X.w) X.A (pyIter (.ref s1.heap.objs.size)) (PIE X pins σ (.Tuple elts kk tpos) R) X.xe { s1 with heap := s1.heap.push { cls := .type "dict_items", data := .fields #[.ref d] } } := by
    refine wpAny_pyIter_items_raw (d := d) ⟨_, Heap.get?_push_size _ rfl, rfl, rfl⟩ (raw.at fun ob q => Heap.get?_push_of_some _ q) (pi_one (tk := s1.toks) I2 _ (turn_nitems _ hdt) ⟨.none, .none, ?_⟩ q)
    rw [← hsz]
    exact Heap.get?_push_size _ rfl
  show wpAny _ _ (callWith cpos (.builtin "dict.items") [.ref d] [] []) _ X.xe s1
  exact method_meetsIn F.slot_dict_items F.entry_dict_items rfl (PySem.evalArgs_none ⟨rfl, raw.typeIs, F.args_dict_items_1 _, _, meets_dict_items_raw d hs, ⟨es, ep, raw⟩, fin⟩)
end
section
variable {P : Program} {w : World} {K : PySem.W.Frag} {d : Addr} {o : Obj} {xs : List (D × Addr × Value)} {kvs : List (D × V)}
theorem walk_nkeys : Walk (ItNk P w K d o xs kvs) kvs.length (fun H => H d = some (.frz o (DO P w d xs)) ∧ KN K H kvs xs) (fun i H x H' => H' = H ∧ ∃ k v, kvs[i]? = some (k, v) ∧ Is K H x k) :=
  ⟨fun i H hi g => ⟨g, hi⟩, fun H g => ⟨g, Nat.le_refl _⟩, fun i H x H' _ _ y => y⟩
theorem walk_nitems : Walk (ItNi P w K d o xs kvs) kvs.length (fun H => H d = some (.frz o (DO P w d xs)) ∧ KN K H kvs xs) (fun i H x H' => ∃ T q k v, kvs[i]? = some (k, v) ∧ x = .ref T ∧ H T = none ∧ Is K H q k ∧ H' = upd H T (.tup [q, v])) :=
  ⟨fun i H hi g => ⟨g, hi⟩, fun H g => ⟨g, Nat.le_refl _⟩, fun i H x H' _ _ y => y⟩
end
end K52
/-! Sorts of data, membership of data, enumerate over a tuple, repr, sorted(d.items()). -/
namespace K52
open PySem PySem.Spec PyProof.Rows L2 L2.DX

/-! ### no text within -/
mutual
def nt : D → Bool
  | .none => true
  | .num _ => true
  | .text _ => false
  | .tup ds => ntAll ds
def ntAll : List D → Bool
  | [] => true
  | d :: ds => nt d && ntAll ds
end
mutual
theorem nt_lay : ∀ d : D, nt d = true → d.data.canLay0 = true
  | .none, _ => rfl
  | .num _, _ => rfl
  | .text _, h => (by cases h)
  | .tup ds, h => ntAll_lay ds h
theorem ntAll_lay : ∀ ds : List D, ntAll ds = true → PyData.canLayAll0 (NestedKey.datas ds) = true
  | [], _ => rfl
  | d :: ds, h => by
    have h : (nt d && ntAll ds) = true := h
    rw [Bool.and_eq_true] at h
    show (d.data.canLay0 && PyData.canLayAll0 (NestedKey.datas ds)) = true
    rw [nt_lay d h.1, ntAll_lay ds h.2]; rfl
end
mutual
theorem data_depth : ∀ d : D, d.data.depth = d.depth
  | .none => rfl
  | .num _ => rfl
  | .text _ => rfl
  | .tup ds => by
    show PyData.depthAll (NestedKey.datas ds) + 1 = NestedKey.depthAll ds + 1
    rw [datas_depth ds]
theorem datas_depth : ∀ ds : List D, PyData.depthAll (NestedKey.datas ds) = NestedKey.depthAll ds
  | [] => rfl
  | d :: ds => by
    show max (d.data.depth) (PyData.depthAll (NestedKey.datas ds)) = max d.depth (NestedKey.depthAll ds)
    rw [data_depth d, datas_depth ds]
end
theorem datas_map : ∀ ds : List D, NestedKey.datas ds = ds.map NestedKey.data
  | [] => rfl
  | d :: ds => by
    show d.data :: NestedKey.datas ds = d.data :: ds.map NestedKey.data
    rw [datas_map ds]
theorem ntAll_of {ds : List D} (h : ∀ d ∈ ds, nt d = true) : ntAll ds = true := by
  induction ds with
  | nil => rfl
  | cons d ds ih =>
    show (nt d && ntAll ds) = true
    rw [h d List.mem_cons_self, ih fun x hx => h x (List.mem_cons_of_mem _ hx)]; rfl
theorem depthAll_le {ds : List D} {n : Nat} (h : ∀ d ∈ ds, d.depth ≤ n) : NestedKey.depthAll ds ≤ n := by
  induction ds with
  | nil => exact Nat.zero_le _
  | cons d ds ih =>
    show max d.depth (NestedKey.depthAll ds) ≤ n
    have h1 := h d List.mem_cons_self
    have h2 := ih fun x hx => h x (List.mem_cons_of_mem _ hx)
    omega
theorem nt_ints (ns : List Int) : ntAll (ns.map NestedKey.num) = true := ntAll_of fun d hd => by
  obtain ⟨n, _, rfl⟩ := List.mem_map.mp hd; rfl
theorem nt_tI (ns : List Int) : nt (tI ns) = true := nt_ints ns
theorem depth_ints (ns : List Int) : NestedKey.depthAll (ns.map NestedKey.num) = 0 := Nat.le_zero.mp (depthAll_le fun d hd => by
  obtain ⟨n, _, rfl⟩ := List.mem_map.mp hd; exact Nat.le_refl _)
theorem depth_tI (ns : List Int) : (tI ns).depth = 1 := by
  show NestedKey.depthAll (ns.map NestedKey.num) + 1 = 1
  rw [depth_ints]
theorem nt_shaped {d : D} (h : nt d = true) (hd : d.depth ≤ 64) : SeqAt.shaped d.data = true := by
  unfold SeqAt.shaped
  rw [nt_lay d h, data_depth]
  simpa using hd

mutual
theorem reads_nil {h : Heap} : ∀ (d : D) (v : Value) (as : List Addr), Reads h v d.data as → as = []
  | .none, _, _, r => by cases r; rfl
  | .num _, _, _, r => by cases r; rfl
  | .text _, _, _, r => by cases r; rfl
  | .tup ds, _, as, r => by
    have r : Reads h _ (.tuple (NestedKey.datas ds)) as := r
    cases r with
    | tuple _ _ _ h4 => exact reads_nils ds _ _ h4
theorem reads_nils {h : Heap} : ∀ (ds : List D) (vs : List Value) (as : List Addr), ReadsAll h vs (NestedKey.datas ds) as → as = []
  | [], _, _, r => by
    have r : ReadsAll h _ [] _ := r
    cases r; rfl
  | d :: ds, _, as, r => by
    have r : ReadsAll h _ (d.data :: NestedKey.datas ds) as := r
    cases r with
    | cons r1 r2 => rw [reads_nil d _ _ r1, reads_nils ds _ _ r2]; rfl
end
theorem each_refs {bs : List D} : ∀ {vs : List Value} {ds : List D}, PySem.W.EachIs (fun v b => ∃ c : Addr, v = Value.ref c) vs ds → ∃ cs : List Addr, vs = cs.map Value.ref
  | _, _, .nil => ⟨[], rfl⟩
  | _, _, .cons ⟨c, h⟩ t => by
    obtain ⟨cs, e⟩ := each_refs (bs := bs) t
    exact ⟨c :: cs, by rw [h, e]; rfl⟩
section
variable {X : Cx} {pins : List (Addr × Obj)} {σ : L2.St} {H : Hp} {s : Shared}
theorem Is.reads (I : Inv X pins σ H s) {d : D} {v : V} {u : Value} (h : Is X.K H v d) (r : RelV v u) : ∃ as, Reads s.heap u d.data as := Dp.reads I _ _ _ h.dp r
theorem IsAll.readsAll (I : Inv X pins σ H s) {ds : List D} {vs : List V} {us : List Value} (h : IsAll X.K H vs ds) (r : Vals vs us) : ∃ as, ReadsAll s.heap us (NestedKey.datas ds) as := Dp.readsAll I _ _ _ h.dp r

/-! ### x in a tuple or a list of data -/
def rInN (K : PySem.W.Frag) (neg : Bool) : R2 := fun x y H Q => ∃ d p xs ds, Is K H x d ∧ y = .ref p ∧ (SqL K H p xs ∨ SqT K H p xs) ∧ IsAll K H xs ds ∧ nt d = true ∧ ntAll ds = true ∧ d.depth ≤ 64 ∧ Q (.bl (if neg then !decide (d ∈ ds) else decide (d ∈ ds))) H
theorem any_mem (d : D) : ∀ ds : List D, ((NestedKey.datas ds).any fun z => PyData.eqv z d.data) = decide (d ∈ ds)
  | [] => by simp [NestedKey.datas]
  | e :: ds => by
    show (PyData.eqv e.data d.data || (NestedKey.datas ds).any fun z => PyData.eqv z d.data) = decide (d ∈ e :: ds)
    rw [any_mem d ds, eqv_dec]
    by_cases h : e = d
    · subst h; simp
    · have h' : ¬ d = e := fun q => h q.symm
      simp [h, h']
theorem readsL (I : Inv X pins σ H s) {p : Addr} {xs : List V} {ds : List D} (hq : SqL X.K H p xs) (h : IsAll X.K H xs ds) : ∃ as, Reads s.heap (.ref p) (.list (NestedKey.datas ds)) as := Dp.reads I (.list _) (.ref p) _ (.lst hq h.dp) rfl
theorem readsT (I : Inv X pins σ H s) {p : Addr} {xs : List V} {ds : List D} (hq : SqT X.K H p xs) (h : IsAll X.K H xs ds) : ∃ as, Reads s.heap (.ref p) (.tuple (NestedKey.datas ds)) as := Dp.reads I (.tuple _) (.ref p) _ (.tup hq h.dp) rfl
theorem op_inN (hu : X.A.units + 66 < cLine) : OpR X (compareOp .In) (rInN X.K false) := by
  intro pins s σ H x y v u Q I rx ry h
  obtain ⟨d, p, xs, ds, hd, rfl, hq, hi, n1, n2, h64, q⟩ := h
  obtain ⟨as, r1⟩ := hd.reads I rx
  cases ry
  have room : X.A.units + 1 + min (PyData.depthAll (NestedKey.datas ds)) d.data.depth < cLine := by rw [data_depth]; omega
  rcases hq with hq | hq
  · obtain ⟨bs, r2⟩ := readsL I hq hi
    exact SeqAt.in_list_reads r2 r1 (ntAll_lay _ n2) (nt_lay _ n1) room ⟨.bl _, H, I, rfl, by rw [any_mem]; exact q⟩
  · obtain ⟨bs, r2⟩ := readsT I hq hi
    exact SeqAt.in_tuple_reads r2 r1 (ntAll_lay _ n2) (nt_lay _ n1) room ⟨.bl _, H, I, rfl, by rw [any_mem]; exact q⟩
theorem op_notInN (hu : X.A.units + 66 < cLine) : OpR X (compareOp .NotIn) (rInN X.K true) := by
  intro pins s σ H x y v u Q I rx ry h
  obtain ⟨d, p, xs, ds, hd, rfl, hq, hi, n1, n2, h64, q⟩ := h
  obtain ⟨as, r1⟩ := hd.reads I rx
  cases ry
  have room : X.A.units + 1 + min (PyData.depthAll (NestedKey.datas ds)) d.data.depth < cLine := by rw [data_depth]; omega
  rcases hq with hq | hq
  · obtain ⟨bs, r2⟩ := readsL I hq hi
    exact SeqAt.notIn_list_reads r2 r1 (ntAll_lay _ n2) (nt_lay _ n1) room ⟨.bl _, H, I, rfl, by rw [any_mem]; exact q⟩
  · obtain ⟨bs, r2⟩ := readsT I hq hi
    exact SeqAt.notIn_tuple_reads r2 r1 (ntAll_lay _ n2) (nt_lay _ n1) room ⟨.bl _, H, I, rfl, by rw [any_mem]; exact q⟩

/-! ### sorted(a list of data) -/
def rSortedD (K : PySem.W.Frag) : List V → Hp → VK → Prop := fun vs H Q => ∃ l xs ds, vs = [.ref l] ∧ H l = some (.lst xs) ∧ IsAll K H xs ds ∧ PySem.W.AllAlike (ds.map NestedKey.data) ∧ PySem.W.Sortable (ds.map NestedKey.data) ∧ (∀ d ∈ ds, d.depth ≤ 60) ∧
  ∀ p xs' ds', H p = none → ds'.Perm ds → IsAll K H xs' ds' → Q (.ref p) (upd H p (.lst xs'))
theorem eachIs_of {K : PySem.W.Frag} : ∀ {xs : List V} {us : List Value} {ds : List D}, Vals xs us → IsAll K H xs ds → PySem.W.EachIs (fun v b => ∃ x, RelV x v ∧ Is K H x b) us ds
  | _, _, _, .nil, .nil => .nil
  | _, _, _, .cons r rs, .cons i is => .cons ⟨_, r, i⟩ (eachIs_of rs is)
theorem eachIs_back {K : PySem.W.Frag} : ∀ {us : List Value} {ds : List D}, PySem.W.EachIs (fun v b => ∃ x, RelV x v ∧ Is K H x b) us ds → ∃ xs, Vals xs us ∧ IsAll K H xs ds
  | _, _, .nil => ⟨[], .nil, .nil⟩
  | _, _, .cons ⟨x, r, i⟩ t => by
    obtain ⟨xs, h1, h2⟩ := eachIs_back t
    exact ⟨x :: xs, .cons r h1, .cons i h2⟩
theorem eachIs_reads (I : Inv X pins σ H s) {us : List Value} {ds : List D} (e : PySem.W.EachIs (fun v b => ∃ x, RelV x v ∧ Is X.K H x b) us ds) : PySem.W.EachIs (fun v b => ∃ as, Reads s.heap v (NestedKey.data b) as) us ds :=
  e.mono fun v b ⟨x, r, i⟩ => i.reads I r
theorem cr_sortedD (hu : X.A.units + 64 < cLine) : CallR X (.builtin "sorted") (rSortedD X.K) := by
  intro pins s σ H vs us Q I r h
  obtain ⟨l, xs, ds, rfl, hl, hi, al, so, hd, q⟩ := h
  obtain ⟨its, rv, hL, hz⟩ := I.list (SqL.of hl)
  rw [Vals.ref1 r]
  have e := eachIs_of rv hi
  have hlen : ds.length ≤ sizeLine := by rw [← hi.length]; exact hz
  refine PySem.W.sorted_data (vs := its) (bs := ds) (enc := NestedKey.data) (R := fun v b => ∃ x, RelV x v ∧ Is X.K H x b) hL.isList e (eachIs_reads I e) al so hlen (fun b hb => ?_) fun out h1 h2 => ?_
  · rw [data_depth]
    have := hd b hb
    have hc : cLine = cLine := rfl
    omega
  · obtain ⟨xs', k1, k2⟩ := eachIs_back h2
    obtain ⟨ep, he'⟩ := PyProof.Rows.sortedAll_at s.heap its out.toArray
    exact ⟨.ref _, upd H (s.heap.objs.size + 1) (.lst xs'), I.laid (t' := s.toks) (fun _ _ => PyProof.Rows.sortedAll_old) (Nat.le_succ _) ⟨by rw [k1.length, h1]; exact hlen, out, ep, k1, he'⟩, rfl, q _ _ _ (I.hok.fresh (Nat.le_succ _)) (List.mergeSort_perm _ _) k2⟩

/-! ### repr of a number or None -/
def rReprN : List V → Hp → VK → Prop := fun xs H Q => (∃ i, xs = [.int i] ∧ i.natAbs.log2 < 1920 ∧ Q (.str (toString i)) H) ∨ xs = [.non] ∧ Q (.str "None") H
theorem cr_reprN : CallR X (.builtin "repr") rReprN := by
  intro pins s σ H xs us Q I r h
  rcases h with ⟨i, rfl, hz, q⟩ | ⟨rfl, q⟩
  · cases r with
    | cons r1 r2 =>
      cases r2
      obtain ⟨t, rfl⟩ := r1
      exact PySem.P.repr_of_int hz ⟨.str _, H, I.tok _, ⟨_, rfl⟩, q⟩
  · cases r with
    | cons r1 r2 =>
      cases r2
      cases r1
      exact PySem.P.repr_of_none ⟨.str _, H, I.tok _, ⟨_, rfl⟩, q⟩
end

/-! ### sorted(d.items()) -/
section
variable {X : Cx} {e : Expr} {td : TE} {apos cpos : Pos}
def tItemsV (P : Program) (w : World) (K : PySem.W.Frag) (td : TE) : TE := fun σ H Q => td σ H fun x H1 => ∃ a kvs, x = .ref a ∧ DN P w K H1 a kvs ∧ ∀ p, H1 p = none → Q (.ref p) (upd H1 p (itemsO p a))
theorem pe_itemsV (he : PE X e td) (hbase : attributeBase e "items" X.env (eval e X.env) = eval e X.env := by rfl) (hline : (apos.endLine == cpos.line) = true := by rfl) :
    PE X (.Call (.Attribute e "items" apos) [] [] cpos) (tItemsV X.prog X.w X.K td) := by
  refine ⟨fun pins s σ H Q I h => ?_⟩
  refine wpAny_Call_method (T := "dict") (id := "dict.items") hbase rfl hline F.plainAttrs_dict F.slot_dict_items F.type_dict_items (thn (he.run pins s σ H _ I h) fun u s1 hh => ?_)
  obtain ⟨x, H1, I1, rx, a, kvs, rfl, hd, q⟩ := hh
  obtain rfl : u = Value.ref a := rx
  obtain ⟨_, hs, _⟩ := id hd
  obtain ⟨xs, _, o, es, ep, hgd, hx, hdt, _⟩ := hd.of I1
  have raw : s1.heap.DictRaw a es ep := ⟨o, hgd, hx, hdt⟩
  refine ⟨raw.typeIs, fun b z => by cases z; exact ⟨o, hgd, hx.2.1⟩, ?_⟩
  show wpAny _ _ (callWith cpos (.builtin "dict.items") [.ref a] [] []) _ X.xe s1
  refine method_meetsIn F.slot_dict_items F.entry_dict_items rfl (PySem.evalArgs_none ⟨rfl, raw.typeIs, F.args_dict_items_1 _, _, meets_dict_items_raw a hs, ⟨es, ep, raw⟩, ?_⟩)
  exact ⟨.ref s1.heap.objs.size, upd H1 s1.heap.objs.size (itemsO s1.heap.objs.size a), I1.laid (t' := s1.toks) (fun b u e => Heap.get?_push_of_some _ e) (Nat.le_refl _) (itemsO_ok (Heap.get?_push_size _ rfl)), rfl, q _ (I1.hok.fresh (Nat.le_refl _))⟩
/-- the pair of a key and a number, as data -/
abbrev pairD (p : D × V) : D := .tup [p.1, match p.2 with | .int i => .num i | _ => .none]
def rSortIt (P : Program) (w : World) (K : PySem.W.Frag) : List V → Hp → VK → Prop := fun vs H Q => ∃ (p a : Addr) (kvs : List (D × V)), vs = [.ref p] ∧ H p = some (itemsO p a) ∧ DN P w K H a kvs ∧ (∀ kv ∈ kvs, ∃ i, kv.2 = .int i) ∧
  PySem.W.AllAlike ((kvs.map pairD).map NestedKey.data) ∧ (∀ kv ∈ kvs, kv.1.depth ≤ 8) ∧ ∀ l zs, H l = none → Q (.ref l) (upd H l (.lst zs))
theorem vals_self : ∀ as : List Addr, Vals (as.map V.ref) (as.map Value.ref)
  | [] => .nil
  | a :: as => .cons rfl (vals_self as)
theorem cr_sortIt (hc : X.calm = true) (hu : X.A.units + 64 < cLine) : CallR X (.builtin "sorted") (rSortIt X.prog X.w X.K) := by
  intro pins s σ H vs us Q I r h
  obtain ⟨p, a, kvs, rfl, hp, hd, hv, al, hdep, q⟩ := h
  rw [Vals.ref1 r]
  have view : s.heap.IsItemsView p a := (show ObjOk X.prog X.w H s.heap p (itemsO p a) from I.hok p _ hp).1
  obtain ⟨hl0, _, _⟩ := id hd
  obtain ⟨xs, kn, o, es, ep, hgd, hx, hdt, hes, hk, hnd⟩ := hd.of I
  have hh : X.A.handled = none := I.ok.hd hc
  have l1 : kvs.length = xs.length := Paired.length kn
  have l2 : es.size = xs.length := size_of_entries hes
  refine DT.sortedI (es := es) (ep := ep) hh view ⟨o, hgd, hx, hdt⟩ (by rw [sizeLine_eq]; omega) fun h' tk as hkp hlt hl hG => ?_
  have I1 : Inv X pins σ H { s with heap := h', toks := tk } := I.kept (t' := tk) hkp
  have hln : as.length = kvs.length := by omega
  -- the pairs read
  have rd : PySem.W.EachIs (fun v b => (∃ as, Reads h' v (NestedKey.data b) as ∧ h'.objs.size ∉ as) ∧ ∃ c, v = Value.ref c) (as.map Value.ref) (kvs.map pairD) := by
    refine PySem.W.EachIs.of_zip (by simp [hln]) fun z hz => ?_
    obtain ⟨j, hj⟩ := List.mem_iff_getElem?.mp hz
    obtain ⟨h1, h2⟩ := List.getElem?_zip_eq_some.mp hj
    rw [List.getElem?_map] at h1 h2
    obtain ⟨b, hb, e1⟩ := Option.map_eq_some_iff.mp h1
    obtain ⟨kv, hkv, e2⟩ := Option.map_eq_some_iff.mp h2
    obtain ⟨en, he, hg⟩ := hG.pairs j b hb
    obtain ⟨x, hxj, r1, r2, r3, r4⟩ := paired_get kn (show kvs[j]? = some (kv.1, kv.2) from hkv)
    rw [entry_at hes j, hxj] at he
    have een : entryOfKey (nestedKind X.prog X.w) x = en := Option.some.inj he
    have hkey : en.key = .ref x.2.1 := congrArg DictEntry.key een.symm
    have hval : en.val = x.2.2 := congrArg DictEntry.val een.symm
    obtain ⟨i, hi⟩ := hv kv (List.mem_of_getElem? hkv)
    obtain ⟨t, ht⟩ : ∃ t, x.2.2 = Value.int i t := by
      have r4' : RelV kv.2 x.2.2 := r4
      rw [hi] at r4'
      exact r4'
    obtain ⟨as1, ra⟩ := (show Is X.K H (.ref x.2.1) kv.1 from r2).reads I1 (u := .ref x.2.1) rfl
    have rt : Reads h' (.ref b) (.tuple [kv.1.data, .int i]) (as1 ++ ([] ++ [])) := by
      refine Reads.tuple hg rfl rfl ?_
      rw [hkey, hval, ht]
      exact .cons ra (.cons (.int i t) .nil)
    rw [reads_nil _ _ _ ra] at rt
    have en' : NestedKey.data z.2 = .tuple [kv.1.data, .int i] := by
      rw [← e2]
      show PyData.tuple [kv.1.data, NestedKey.data (match kv.2 with | .int i => .num i | _ => .none)] = _
      rw [hi] <;> rfl
    refine ⟨⟨_, by rw [← e1, en']; exact rt, fun hm => ?_⟩, b, e1.symm⟩
    cases hm
  have hob : (h'.push { cls := .type "list", data := .seq (as.map Value.ref).toArray }).get? h'.objs.size = some (seqObj "list" (as.map Value.ref).toArray 0) := Heap.get?_push_size _ rfl
  have kb : ∀ b o, h'.get? b = some o → (h'.push { cls := .type "list", data := .seq (as.map Value.ref).toArray }).get? b = some o := fun b o e => Heap.get?_push_of_some _ e
  generalize hh2 : h'.push { cls := .type "list", data := .seq (as.map Value.ref).toArray } = h2 at hob kb ⊢
  refine PySem.W.list_sort_data (s := { s with heap := h2, toks := tk }) (R := fun v b => ∃ c, v = Value.ref c) hob (rd.mono fun v b x => x.2) (rd.mono fun v b x => ?_) al (.inl fun d hd' => ?_) (by rw [List.length_map, sizeLine_eq]; omega) (fun b hb => ?_) fun out h1 h2' => ?_
  · obtain ⟨⟨bs, rb, nb⟩, _⟩ := x
    exact ⟨bs, PyProof.Rows.Reads.keeps kb rb, nb⟩
  · obtain ⟨b, hb, rfl⟩ := List.mem_map.mp hd'
    obtain ⟨kv, _, rfl⟩ := List.mem_map.mp hb
    exact ⟨_, _, rfl⟩
  · obtain ⟨kv, hkv, rfl⟩ := List.mem_map.mp hb
    have := hdep kv hkv
    obtain ⟨i, hi⟩ := hv kv hkv
    have e : (pairD kv).depth ≤ 9 := by
      show max kv.1.depth (max (NestedKey.depth (match kv.2 with | .int i => .num i | _ => .none)) 0) + 1 ≤ 9
      rw [hi]
      show max kv.1.depth (max 0 0) + 1 ≤ 9
      omega
    rw [data_depth]
    show X.A.units + 1 + 1 + (pairD kv).depth < cLine
    omega
  · obtain ⟨cs, hcs⟩ : ∃ cs : List Addr, out = cs.map Value.ref := each_refs (bs := []) h2'
    have kF : ∀ b o, b ≠ h'.objs.size → h2.get? b = some o → (sortedHeap h2 h'.objs.size (as.map Value.ref) out.toArray).get? b = some o := fun b o hb e => (PyProof.Rows.sortedHeap_old hb (Heap.lt_size e)).trans e
    have kS : ∀ b o, s.heap.get? b = some o → (sortedHeap h2 h'.objs.size (as.map Value.ref) out.toArray).get? b = some o := fun b o e => kF b o (Nat.ne_of_lt (Heap.lt_size (hkp b o e))) (kb b o (hkp b o e))
    obtain ⟨eF, heF⟩ := PyProof.Rows.sortedHeap_at (vs := as.map Value.ref) (out := out.toArray) hob
    have hn0 : H h'.objs.size = none := I.hok.fresh (Nat.le_of_lt hlt)
    have I2 : Inv X pins σ H { s with heap := sortedHeap h2 h'.objs.size (as.map Value.ref) out.toArray, toks := tk } := I.kept (t' := tk) kS
    have hz : (cs.map V.ref).length ≤ sizeLine := by
      rw [hcs] at h1
      rw [List.length_map] at h1 ⊢
      rw [h1, List.length_map, sizeLine_eq]; omega
    exact ⟨.ref h'.objs.size, upd H h'.objs.size (.lst (cs.map V.ref)), I2.take (h' := sortedHeap h2 h'.objs.size (as.map Value.ref) out.toArray) (t' := tk) (fun b ob _ e => e) (I.fpOk (Nat.le_of_lt hlt) hn0) ⟨hz, out, eF, by rw [hcs]; exact vals_self cs, heF⟩, rfl, q _ _ hn0⟩
end

/-! ### enumerate(a tuple) -/
set_option maxHeartbeats 1000000 in
theorem meets_enum1 {v : Value} {o : Obj} {H : Heap → Prop} (B : Begins v o H) :
    Meets (Builtin.«enumerate.__new__» ⟨[.type "enumerate", v], []⟩) (fun _ R s => H s.heap ∧
      R (.ok (.ret (.ref (s.heap.push o).objs.size))) { s with heap := (s.heap.push o).push { cls := .type "enumerate", data := .fields #[.none, .bool false, .ref s.heap.objs.size, rawInt 0, .none, .none] } }) :=
  .of_wp fun prog w A R s h => by
    obtain ⟨hp, g, d, tk, os⟩ := s; obtain ⟨h1, h⟩ := h
    have hsub := sub_enumerate
    have q1 : ∀ {A' : Around} {E : Value → Shared → Prop} {Q : Value → Shared → Prop}, Q (.ref hp.objs.size) ⟨hp.push o, g, d, tk, os⟩ → wpAny (model prog w) A' (pyIter v) Q E ⟨hp, g, d, tk, os⟩ :=
      fun q => B.iter prog w _ _ ⟨hp, g, d, tk, os⟩ _ h1 q
    wp_walk using q1
    refine wpAny_stack_any fun st => wpAny_pure ?_
    split
    · rename_i c _ _ _ _ _
      cases (c == Value.type "enumerate")
      · wp_walk using q1
        exact ⟨_, rfl, h⟩
      · wp_walk using q1
        exact ⟨_, rfl, h⟩
    · wp_walk using q1
      exact ⟨_, rfl, h⟩
theorem call_enum1 {prog : Program} {w : World} {A : Around} {E : Value → Shared → Prop} {s : Shared} {v : Value} {o : Obj} {H : Heap → Prop} {Q : Value → Shared → Prop} (B : Begins v o H) (h1 : H s.heap)
    (h : ∀ h', IsEnum h' (s.heap.objs.size + 1) s.heap.objs.size 0 .none → h'.get? s.heap.objs.size = some o → h'.objs.size = s.heap.objs.size + 2 → (∀ b o, s.heap.get? b = some o → h'.get? b = some o) → Q (.ref (s.heap.objs.size + 1)) { s with heap := h' }) :
    wpAny (model prog w) A (call (.type "enumerate") [v]) Q E s := by
  refine callType_new F.called_enumerate (by decide) (F.typeCall_enumerate_1 _) (F.newCall_enumerate_1 _) (fun obj => F.args_object_init_2 obj _) F.entry_enumerate_new (meets_enum1 B) ⟨h1, ?_⟩
  have hz : (s.heap.push o).objs.size = s.heap.objs.size + 1 := Heap.size_push ..
  show _ ∧ _
  rw [hz]
  have he : IsEnum ((s.heap.push o).push { cls := .type "enumerate", data := .fields #[.none, .bool false, .ref s.heap.objs.size, rawInt 0, .none, .none] }) (s.heap.objs.size + 1) s.heap.objs.size 0 .none := by
    have := Heap.get?_push_size (s.heap.push o) (o := { cls := .type "enumerate", data := .fields #[.none, .bool false, .ref s.heap.objs.size, rawInt 0, .none, .none] }) rfl
    rw [hz] at this; exact this
  exact ⟨⟨_, he, rfl⟩, h _ he (Heap.get?_push_of_some _ (Heap.get?_push_size _ B.free)) (by rw [Heap.size_push, hz]) fun b o x => Heap.get?_push_of_some _ (Heap.get?_push_of_some _ x)⟩
/-- the tuple at a, each item in a new pair -/
def ItEt (K : PySem.W.Frag) (a : Addr) : It :=
  ⟨fun i H => ∃ (xs : List V) (x : V), SqT K H a xs ∧ xs[i]? = some x, fun i H v H' => ∃ T x, v = .ref T ∧ H T = none ∧ H' = upd H T (.tup [.int (i : Nat), x]) ∧ ∀ xs, SqT K H a xs → xs[i]? = some x, fun i H => ∃ xs : List V, SqT K H a xs ∧ xs.length ≤ i⟩
theorem turn_enumT {P : Program} {w : World} {K : PySem.W.Frag} {elts : List Expr} {kk : Nat} {tpos : Pos} (a e it : Addr) :
    Turn P w K (.Tuple elts kk tpos) (ItEt K a) [e, it] e (fun i h => (∃ old, IsEnum h e it ((i : Nat) : Int) old) ∧ h.IsTupleIter it a i ∧ e ≠ it ∧ a ≠ it ∧ a ≠ e) where
  mem := by simp
  obj := fun i h st b hb => by
    obtain ⟨⟨old, he⟩, ⟨o, ho, hc, hd⟩, _⟩ := st
    have e' : b = e ∨ b = it := by simpa using hb
    rcases e' with z | z
    · rw [z]; exact ⟨_, he, fun v q => nomatch q⟩
    · rw [z]; exact ⟨o, ho, fun v q => by rw [hd] at q; cases q⟩
  keep := fun i h h' st k => let ⟨⟨old, he⟩, hi, hne⟩ := st; ⟨⟨old, k e (by simp) _ he⟩, hi.at fun o q => k it (by simp) o q, hne⟩
  item := by
    intro X hP hw hK hc i pins s σ H E I hf st hg
    subst hP hw hK
    obtain ⟨⟨old, he⟩, hit, hne, nai, nae⟩ := st
    obtain ⟨xs, x, hq, hx⟩ := hg
    obtain ⟨its, rv, p, hz⟩ := I.tuple hq
    obtain ⟨u, hu, ru⟩ := rv.get hx
    have hh : X.A.in1.handled = none := I.ok.hd hc
    have hel : e < s.heap.objs.size := Heap.lt_size he
    have hil : it < s.heap.objs.size := by obtain ⟨_, q, _⟩ := hit; exact Heap.lt_size q
    have hlt : i < its.toArray.size := by
      have := (List.getElem?_eq_some_iff.mp hu).1
      simpa using this
    refine wpAny_pyNext_enum_itemD (Draws.tuple hh it a nai its.toArray) he ⟨hit, p⟩ hlt hne (by simp [hne, Ne.symm nae]) fun y h' tk hy ho hst' hT hsz hk => ?_
    have ey : y = u := by
      have : its[i]? = some y := by simpa using hy
      rw [hu] at this
      exact (Option.some.inj this).symm
    subst ey
    refine ⟨_, rfl, wpAny_letOwnedTupleGo_enum (s := { s with heap := h', toks := tk + 1 }) ho fun h'' he' sb => ?_⟩
    have hT2 : h''.get? s.heap.objs.size = some { cls := .type "tuple", data := .seq #[.int i tk, y] } := (sb.2 _ (Nat.ne_of_gt hel)).trans hT
    have new : ObjOk X.prog X.w (upd H s.heap.objs.size (.tup [.int (i : Nat), x])) h'' s.heap.objs.size (.tup [.int (i : Nat), x]) :=
      ⟨by show 2 ≤ sizeLine; decide, [.int i tk, y], .cons ⟨_, rfl⟩ (.cons ru .nil), ⟨_, hT2, rfl, _, rfl⟩⟩
    have I1 : Inv X pins σ (upd H s.heap.objs.size (.tup [.int (i : Nat), x])) { s with heap := h'', toks := tk + 1 } :=
      I.turnedNew (ch := [e, it]) (fun b ob hb q => (sb.2 b (fun z => hb (by simp [z]))).trans (hk b ob (fun z => hb (by simp [z])) (fun z => hb (by simp [z])) q)) hf (Nat.le_refl _) new
    refine ⟨.ref s.heap.objs.size, _, I1, rfl, ⟨_, x, rfl, I.hok.fresh (Nat.le_refl _), rfl, fun ys hy => by rw [I.tuple_inj hy hq]; exact hx⟩, ⟨⟨y, ?_⟩, hst'.1.at fun o q => (sb.2 it (Ne.symm hne)).trans q, hne, nai, nae⟩, fun b hb => ?_⟩
    · have e1 : ((i + 1 : Nat) : Int) = (i : Int) + 1 := by omega
      rw [e1]; exact he'
    · have hb' : b < s.heap.objs.size := by
        have e' : b = e ∨ b = it := by simpa using hb
        rcases e' with z | z
        · rw [z]; exact hel
        · rw [z]; exact hil
      rw [upd_ne (Nat.ne_of_lt hb')]
      exact (hf b hb).1
  done := by
    intro X hP hw hK hc i pins s σ H E I hf st hg
    subst hP hw hK
    obtain ⟨⟨old, he⟩, hit, hne, nai, nae⟩ := st
    obtain ⟨xs, hq, hx⟩ := hg
    obtain ⟨its, rv, p, hz⟩ := I.tuple hq
    obtain ⟨f0, f1, f2, f3, f4, f5⟩ := hf it (by simp)
    have hl := rv.length
    have hh : X.A.in1.handled = none := I.ok.hd hc
    have hT : s.TypeIs (.ref e) "enumerate" := ⟨_, he, rfl⟩
    unfold pyNext
    refine wpAny_bind (wpAny_attempt (wpAny_callSpecial?_slot (name := Str.ofString "__next__") hT F.slot_enumerate_next (wpAny_call_entry F.slot_enumerate_next hT F.entry_enumerate_next ?_ (F.args_enumerate_next_1 _))))
    show wpAny _ _ (field (.ref e) 2 >>= _) _ _ _
    refine wpAny_bind (wpAny_field he rfl (x := .ref it) rfl ?_)
    refine wpAny_bind (wpAny_nextOf_tuple_end hh hit p (by simp; omega) fun h' x he' hx' => ?_)
    obtain ⟨o, ho, hcx⟩ := hx'
    refine wpAny_bind (wpAny_isInstance (T := "StopIteration") (b := true) ⟨o, ho, hcx⟩ isSubtype_stop ?_)
    exact wpAny_pure ⟨rfl, I.turned (t' := s.toks) (fun b o hb q => he' b o hb q) f0 f1 f3 f4 f5⟩
  self := fun A i s Q E st h => let ⟨⟨_, he⟩, _⟩ := st; wpAny_pyIter_enum he h
def iEnumT (K : PySem.W.Frag) (ta : TA) : TI := fun σ H R => ta σ H fun vs H1 => ∃ a xs, vs = [.ref a] ∧ SqT K H1 a xs ∧ R (ItEt K a) H1
theorem pi_enumT {X : Cx} {e : Expr} {ta : TA} {p pos tpos : Pos} {elts : List Expr} {kk : Nat} (hg : Gl X "enumerate") (hm : X.mg "enumerate" = none) (ha : PA X [e] ta) (hs : starEach [e] X.env = [(false, eval e X.env)] := by rfl) :
    PI X (.Tuple elts kk tpos) (.Call (.Name "enumerate" p) [e] [] pos) (iEnumT X.K ta) := by
  refine ⟨fun pins s σ H R I h => ?_⟩
  refine Call_ (ld_blt I hg hm boot_enumerate (PyProof.Rows.callWith_type1 (thn (ha.run pos pins s σ H _ I h) fun us s1 hh => ?_) hs rfl))
  obtain ⟨vs, H1, I1, r1, a, xs, rfl, hq, q⟩ := hh
  rw [Vals.ref1 r1]
  obtain ⟨its, rv, p', hz⟩ := I1.tuple hq
  have ha0 : a < s1.heap.objs.size := by obtain ⟨_, q, _⟩ := p'; exact Heap.lt_size q
  refine call_enum1 (begins_tuple a its.toArray) p' fun h' he hit hsz hk => wpAny_pyIter_enum he ?_
  have I2 : Inv X pins σ H1 { s1 with heap := h' } := I1.kept (t' := s1.toks) hk
  refine ⟨s1.heap.objs.size + 1, [s1.heap.objs.size + 1, s1.heap.objs.size], _, _, H1, rfl, I2, turn_enumT a (s1.heap.objs.size + 1) s1.heap.objs.size, ⟨⟨.none, he⟩, ⟨_, hit, rfl, rfl⟩, Nat.succ_ne_self _, Nat.ne_of_lt ha0, Nat.ne_of_lt (Nat.lt_succ_of_lt ha0)⟩, fun b hb => ?_, q⟩
  have e' : b = s1.heap.objs.size + 1 ∨ b = s1.heap.objs.size := by simpa using hb
  have hle : s1.heap.objs.size ≤ b := by
    rcases e' with z | z
    · rw [z]; exact Nat.le_add_right _ _
    · rw [z]; exact Nat.le_refl _
  exact I1.fpOk hle (I1.hok.fresh hle)
theorem walk_enumT {K : PySem.W.Frag} {a : Addr} {xs : List V} : Walk (ItEt K a) xs.length (fun H => SqT K H a xs) (YPair (fun i => some (.int (i : Nat))) (fun i => xs[i]?)) := by
  refine ⟨fun i _ hi q => ⟨xs, xs[i], q, by simp [hi]⟩, fun _ q => ⟨xs, q, Nat.le_refl _⟩, fun i H v H' _ q y => ?_⟩
  obtain ⟨T, x, h1, h2, h3, h4⟩ := y
  exact ⟨T, .int (i : Nat), x, h1, h2, h3, rfl, h4 xs q⟩
end K52
/-! Comprehensions and sets as readings; chains; ranges. -/
namespace K52
open PySem PySem.Spec PyProof.Rows L2

section
variable {J : It} {n : Nat} {G : Hp → Prop} {Y : Nat → Hp → V → Hp → Prop}
/-- a set or dict comprehension over a walk -/
theorem cc_it (w : Walk J n G Y) {g : TG} {tt : TT} {tb : Addr → L2.St → Hp → (Hp → Prop) → Prop} {vs : List Nat} {σ : L2.St} {H1 : Hp} {Dd : Addr} {Qd : Hp → Prop} (Pv : Nat → Hp → Prop) (h0 : Pv 0 H1) (hG : ∀ i H, i ≤ n → Pv i H → G H)
    (hs : ∀ i x H H', i < n → Pv i H → Y i H x H' → g x (wipe σ vs) H' fun σ2 H2 => wipe σ2 vs = wipe σ vs ∧ tt σ2 H2 fun b H3 => if b = true then tb Dd σ2 H3 (Pv (i + 1)) else Pv (i + 1) H3) (hd : ∀ H, Pv n H → Qd H) :
    ∃ W : Nat → Nat → Hp → Prop, (∃ m, W 0 m H1) ∧ ∀ i m H, W i m H → (J.stop i H ∧ Qd H) ∨ (J.go i H ∧ ∃ Nx : Hp → Prop, (∀ H', Nx H' → ∃ m', m' < m ∧ W (i + 1) m' H') ∧
      ∀ x H', J.yld i H x H' → g x (wipe σ vs) H' fun σ2 H2 => wipe σ2 vs = wipe σ vs ∧ tt σ2 H2 fun b H3 => if b = true then tb Dd σ2 H3 Nx else Nx H3) := by
  refine ⟨fun i m H => m = n - i ∧ i ≤ n ∧ Pv i H, ⟨n, by simp, Nat.zero_le _, h0⟩, ?_⟩
  rintro i m H ⟨rfl, hi, p⟩
  have q := hG i H hi p
  by_cases hlt : i < n
  · exact .inr ⟨w.goes i H hlt q, Pv (i + 1), fun H' p' => ⟨n - (i + 1), by omega, rfl, hlt, p'⟩, fun x H' y => hs i x H H' hlt p (w.yields i H x H' hlt q y)⟩
  · have e : i = n := by omega
    subst e
    exact .inl ⟨w.stops H q, hd H p⟩
end
theorem wipe1' {σ : L2.St} {i : Nat} {x : V} : wipe ((wipe σ [i]).set i (some x)) [i] = wipe σ [i] := wipe1

section
variable {P : Program} {w : World} {K : PySem.W.Frag} {σ : L2.St} {H : Hp} {tl te ta tb tc : TE} {tt : TT} {i : Nat} {wi : TI} {tA : TA}
/-! ### lists -/
/-- [value of x for x in a tuple] -/
theorem gv_lcTV {xs : List V} {f : V → V} (hs : Gv tl σ H fun v H' => ∃ a, v = .ref a ∧ TupAt K H' a xs) (hlen : xs.length ≤ 100000) (T : ∀ H', Same H H' → ∀ x ∈ xs, Gv te (σ.set i (some x)) H' (PV (f x))) :
    Gv (tLc (iTup K tl) (gName i) tYes te [i]) σ H fun v H' => ∃ l, v = .ref l ∧ H' l = some (.lst (xs.map f)) := by
  intro H1 s Q q
  refine hs H1 s _ fun v H2 s2 hv => ?_
  obtain ⟨a, rfl, ht⟩ := hv
  refine ⟨a, rfl, ⟨xs, ht.seq⟩, fun Dd hD => ?_⟩
  refine lc_tup (K := K) (a := a) (xs := xs) (fun j Hc => Same H2 Hc ∧ Hc Dd = some (.lst ((xs.take j).map f))) ⟨Same.new hD, upd_same⟩ (fun j Hc _ p => (ht.mono (.of p.1)).seq) (fun j x Hc hx p => ?_) fun Hc p => ?_
  · obtain ⟨s1, ha⟩ := p
    refine ⟨wipe1, ?_⟩
    rw [wipe_set]
    refine ((T H2 (s.trans s2) x (List.mem_of_getElem? hx)).later s1).run fun y H4 s4 py => ?_
    rw [py]
    have hjx : j < xs.length := (List.getElem?_eq_some_iff.mp hx).1
    refine ⟨_, s4 _ _ ha, by rw [List.length_map, List.length_take, sizeLine_eq]; omega, fun b o e => ?_, ?_⟩
    · rw [upd_ne (ne_of_none e hD)]; exact s4 _ _ (s1 _ _ e)
    · rw [upd_same, take_succ hx, List.map_append]; rfl
  · obtain ⟨s3, ha⟩ := p
    rw [List.take_length] at ha
    exact q _ Hc (s2.trans s3) ⟨Dd, rfl, ha⟩
theorem gv_all {bs : List Bool} (ha : Gv ta σ H fun v H' => ∃ l, v = .ref l ∧ H' l = some (.lst (bs.map V.bl))) : Gv (tCB (rAll K) (tCons ta tNil)) σ H (PV (.bl (bs.all id))) :=
  gv_call1 ha fun x H' Q hx q => by
    obtain ⟨l, rfl, hl⟩ := hx
    exact ⟨l, bs, rfl, SqL.of hl, q _ H' (Same.refl _) rfl⟩
/-- the item where the test holds -/
def pickI (p : Int → Bool) : V → Option D
  | .int k => if p k = true then some (NestedKey.num k) else none
  | _ => none
theorem pick_filter (p : Int → Bool) : ∀ ns : List Int, (ns.map V.int).filterMap (pickI p) = (ns.filter p).map NestedKey.num
  | [] => rfl
  | a :: as => by
    rw [List.map_cons, List.filterMap_cons]
    by_cases h : p a = true
    · have e : pickI p (.int a) = some (.num a) := if_pos h
      rw [e, List.filter_cons_of_pos h, List.map_cons, ← pick_filter p as]
    · have e : pickI p (.int a) = none := if_neg h
      rw [e, List.filter_cons_of_neg h, ← pick_filter p as]
/-- [x for x in a tuple of ints if test] -/
theorem gv_filtI {ns : List Int} {p : Int → Bool} (hs : Gv tl σ H (PD K (tI ns))) (hlen : ns.length ≤ 100000) (hi : i < σ.length) (T : ∀ H', Same H H' → ∀ x ∈ ns, Gt tt (σ.set i (some (.int x))) H' (p x)) :
    Gv (tLc (iTup K tl) (gName i) tt (tVar i) [i]) σ H (PLi (ns.filter p)) := by
  have h := gv_lcT (K := K) (tt := tt) (te := tVar i) (i := i) (xs := ns.map V.int) (f := pickI p) (hs.imp fun v H' h => h.ints) (by simpa using hlen) fun H' s x hx => by
    obtain ⟨k, hk, rfl⟩ := List.mem_map.mp hx
    intro H2 s2
    refine ⟨p k, (T H2 (s.trans s2) k hk), fun e => ⟨.num k, if_pos e, ?_⟩, fun e => if_neg (by simp [e])⟩
    exact gv_d (v := .int k) (by rw [List.getElem?_set_self hi]) (.num k)
  refine h.imp fun v H' z => ?_
  rw [pick_filter] at z
  exact z.ints
/-- over a range -/
theorem gv_lcRng {lo : Int} {n : Nat} {f : V → Option D} (hw : ∀ H1, Same H H1 → ∀ R, (∀ H2, Same H1 H2 → R (Itr lo n) H2) → wi σ H1 R) (hn : n ≤ 100000) (T : ∀ H', Same H H' → ∀ k, k < n → CTurn K σ H' tt te i f (.int (lo + (k : Nat)))) :
    Gv (tLc wi (gName i) tt te [i]) σ H (PL K (((List.range n).map fun k => V.int (lo + (k : Nat))).filterMap f)) := by
  intro H1 s Q q
  refine hw H1 s _ fun H2 s2 => ?_
  intro Dd hD
  have hl : ((List.range n).map fun k => V.int (lo + (k : Nat))).length = n := by simp
  refine lc_range (lo := lo) (n := n) (fun j Hc => Same H2 Hc ∧ ∃ acc, Hc Dd = some (.lst acc) ∧ IsAll K Hc acc ((((List.range n).map fun k => V.int (lo + (k : Nat))).take j).filterMap f)) ⟨Same.new hD, [], upd_same, .nil⟩ (fun j Hc hj p => ?_) fun Hc p => ?_
  · exact turn_run (by rw [hl]; exact hn) hD (by simp [hj]) (T H2 (s.trans s2) j hj) p
  · obtain ⟨s3, acc, ha, hi⟩ := p
    rw [List.take_of_length_le (by rw [hl]; exact Nat.le_refl _)] at hi
    exact q _ Hc (s2.trans s3) ⟨Dd, acc, rfl, ha, hi⟩
theorem wi_rng1 {j : Int} (h : Ga tA σ H (PAll [PV (.int j)])) (b1 : -(2 ^ 62) ≤ j := by omega) (b2 : j < 2 ^ 62 := by omega) : ∀ H1, Same H H1 → ∀ R, (∀ H2, Same H1 H2 → R (Itr 0 j.toNat) H2) → iRng1 tA σ H1 R := fun H1 s R q => h H1 s _ fun vs H2 s2 p => by
  cases p with
  | cons e p =>
    cases p
    cases e
    exact ⟨j, rfl, b1, b2, q H2 s2⟩
theorem wi_rng2 {i j : Int} (h : Ga tA σ H (PAll [PV (.int i), PV (.int j)])) (b1 : -(2 ^ 62) ≤ i ∧ i < 2 ^ 62 ∧ -(2 ^ 62) ≤ j ∧ j < 2 ^ 62) : ∀ H1, Same H H1 → ∀ R, (∀ H2, Same H1 H2 → R (Itr i (j - i).toNat) H2) → iRng2 tA σ H1 R := fun H1 s R q => h H1 s _ fun vs H2 s2 p => by
  cases p with
  | cons e p =>
    cases p with
    | cons e' p =>
      cases p
      cases e
      cases e'
      exact ⟨i, j, rfl, b1, q H2 s2⟩
theorem ga_one {Pa : V → Hp → Prop} (h : Gv ta σ H Pa) (up : Up Pa) : Ga (tCons ta tNil) σ H (PAll [Pa]) := ga_cons h up ga_nil
theorem ga_two {Pa Pb : V → Hp → Prop} (h : Gv ta σ H Pa) (up : Up Pa) (h' : Gv tb σ H Pb) (up' : Up Pb) : Ga (tCons ta (tCons tb tNil)) σ H (PAll [Pa, Pb]) := ga_cons h up (ga_cons h' up' ga_nil)

/-! ### sets -/
/-- {x for x in a tuple of ints} -/
theorem gv_setI {ns : List Int} (hs : Gv tl σ H (PD K (tI ns))) (hlen : ns.length ≤ 60) (hi : i < σ.length) :
    Gv (tCc (fun Dd => SetO w Dd (fun _ => false) 0) (iTup K tl) (gName i) tYes (tbSet w (tVar i)) [i]) σ H fun v H' => ∃ Dd S n, v = .ref Dd ∧ H' Dd = some (SetO w Dd S n) ∧ (∀ k, S k = decide (k ∈ ns)) ∧ n ≤ ns.length := by
  intro H1 s Q q
  refine hs H1 s _ fun v H2 s2 hv => ?_
  obtain ⟨a, rfl, ht⟩ := hv.ints
  refine ⟨a, rfl, ⟨_, ht.seq⟩, fun Dd hD _ => ?_⟩
  have hl : (ns.map V.int).length = ns.length := by simp
  refine cc_it (walk_tup (K := K) (a := a) (xs := ns.map V.int)) (fun j Hc => Same H2 Hc ∧ ∃ S n, Hc Dd = some (SetO w Dd S n) ∧ (∀ k, S k = decide (k ∈ ns.take j)) ∧ n ≤ j) ⟨Same.new hD, _, _, upd_same, fun k => by simp, Nat.le_refl _⟩
    (fun j Hc _ p => (ht.mono (.of p.1)).seq) (fun j x Hc Hc' hj p y => ?_) fun Hc p => ?_
  · obtain ⟨rfl, hx⟩ := y
    obtain ⟨s1, S, n, ha, hS, hn⟩ := p
    rw [List.getElem?_map] at hx
    obtain ⟨c, hc, rfl⟩ := Option.map_eq_some_iff.mp hx
    refine ⟨wipe1, ?_⟩
    rw [wipe_set]
    unfold tYes
    simp only [if_true]
    refine ⟨_, by rw [List.getElem?_set_self hi], c, S, n, rfl, ha, (by rw [hl] at hj; exact Nat.lt_of_le_of_lt (show n + 1 ≤ 61 by omega) (by decide)), ?_⟩
    refine ⟨fun b o e => ?_, _, _, upd_same, fun k => ?_, ?_⟩
    · rw [upd_ne (ne_of_none e hD)]; exact s1 _ _ e
    · show (S k || decide (k = c)) = _
      rw [hS, take_succ hc]
      simp [Bool.or_comm]
    · split <;> omega
  · obtain ⟨s3, S, n, ha, hS, hn⟩ := p
    rw [hl] at hS hn
    rw [List.take_length] at hS
    exact q _ Hc (s2.trans s3) ⟨Dd, S, n, rfl, ha, hS, hn⟩
theorem gv_sortedS {ns ms : List Int} (ha : Gv ta σ H fun v H' => ∃ Dd S n, v = .ref Dd ∧ H' Dd = some (SetO w Dd S n) ∧ (∀ k, S k = decide (k ∈ ns)) ∧ n ≤ ns.length) (hlen : ns.length ≤ 60)
    (hm : ∀ ns' : List Int, ns'.Pairwise (· < ·) → (∀ k, k ∈ ns' ↔ k ∈ ns) → ns' = ms) : Gv (tCB (rSortedSet w) (tCons ta tNil)) σ H (PLi ms) :=
  gv_call1 ha fun x H' Q hx q => by
    obtain ⟨Dd, S, n, rfl, hS, hk, hn⟩ := hx
    exact ⟨Dd, S, n, rfl, hS, by omega, fun ns' p h1 h2 _ hp => q _ _ (Same.new hp) ⟨p, rfl, by rw [upd_same, hm ns' h1 fun k => by rw [h2, hk]; simp]⟩⟩
/-- {a tuple of ints made of x for x in a tuple of data} -/
theorem gv_setT {ds : List D} {g : D → List Int} (hs : Gv tl σ H (PD K (.tup ds))) (hlen : ds.length ≤ 60) (T : ∀ H', Same H H' → ∀ x d, d ∈ ds → Is K H' x d → Gv te (σ.set i (some x)) H' (PD K (tI (g d)))) :
    Gv (tCc (fun Dd => SetTO P w Dd []) (iTup K tl) (gName i) tYes (tbSetT P w K te) [i]) σ H fun v H' => ∃ Dd L, v = .ref Dd ∧ H' Dd = some (SetTO P w Dd L) ∧ (∀ p ∈ L, TupAt K H' p.1 (p.2.map V.int)) ∧ (L.map (·.2)).Nodup ∧ (∀ k, k ∈ L.map (·.2) ↔ k ∈ ds.map g) ∧ L.length ≤ ds.length := by
  intro H1 s Q q
  refine hs H1 s _ fun v H2 s2 hv => ?_
  obtain ⟨a, xs, rfl, ht, hi⟩ := hv.tup_inv
  refine ⟨a, rfl, ⟨_, ht.seq⟩, fun Dd hD _ => ?_⟩
  have hl := hi.length
  refine cc_it (walk_tup (K := K) (a := a) (xs := xs)) (fun j Hc => Same H2 Hc ∧ ∃ L, Hc Dd = some (SetTO P w Dd L) ∧ (∀ p ∈ L, TupAt K Hc p.1 (p.2.map V.int)) ∧ (L.map (·.2)).Nodup ∧ (∀ k, k ∈ L.map (·.2) ↔ k ∈ (ds.take j).map g) ∧ L.length ≤ j)
    ⟨Same.new hD, [], upd_same, (fun _ h => by cases h), List.nodup_nil, fun k => by simp, Nat.le_refl _⟩
    (fun j Hc _ p => (ht.mono (.of p.1)).seq) (fun j x Hc Hc' hj p y => ?_) fun Hc p => ?_
  · obtain ⟨rfl, hx⟩ := y
    obtain ⟨s1, L, ha, hL, nd, mem, hn⟩ := p
    obtain ⟨d, hd, hxd⟩ := hi.get hx
    refine ⟨wipe1, ?_⟩
    rw [wipe_set]
    unfold tYes
    simp only [if_true]
    refine ((T H2 (s.trans s2) x d (List.mem_of_getElem? hd) hxd).later s1).run fun y H4 s4 py => ?_
    obtain ⟨b, rfl, hb⟩ := py.ints
    refine ⟨b, g d, L, rfl, hb.seq, s4 _ _ ha, fun p hp => ((hL p hp).mono (.of s4)).seq, by omega, fun L' c1 c2 => ?_⟩
    have ts : TS H4 (upd H4 Dd (SetTO P w Dd L')) := TS.upd fun ys e => by
      rw [s4 _ _ ha] at e
      have e := Option.some.inj e
      exact absurd (show HO.ext _ = HO.tup ys from e) (fun z => by cases z)
    refine ⟨fun b o e => ?_, L', upd_same, ?_, ?_, ?_, ?_⟩
    · rw [upd_ne (ne_of_none e hD)]; exact s4 _ _ (s1 _ _ e)
    · intro p hp
      by_cases hk : g d ∈ L.map (·.2)
      · rw [c1 hk] at hp
        exact ((hL p hp).mono (.of s4)).mono ts
      · rcases List.mem_cons.mp ((c2 hk).mem_iff.mp hp) with rfl | hp
        · exact hb.mono ts
        · exact ((hL p hp).mono (.of s4)).mono ts
    · by_cases hk : g d ∈ L.map (·.2)
      · rw [c1 hk]; exact nd
      · have := ((c2 hk).map (·.2)).nodup_iff.mpr (List.nodup_cons.mpr ⟨hk, nd⟩)
        exact this
    · intro k
      rw [take_succ hd, List.map_append, List.mem_append, ← mem]
      by_cases hk : g d ∈ L.map (·.2)
      · rw [c1 hk]
        constructor
        · exact .inl
        · rintro (h | h)
          · exact h
          · have : k = g d := by simpa using h
            subst this; exact hk
      · have e := ((c2 hk).map (·.2)).mem_iff (a := k)
        rw [e, List.map_cons, List.mem_cons]
        constructor
        · rintro (h | h)
          · exact .inr (by simp [h])
          · exact .inl h
        · rintro (h | h)
          · exact .inr h
          · exact .inl (by simpa using h)
    · by_cases hk : g d ∈ L.map (·.2)
      · rw [c1 hk]; omega
      · rw [(c2 hk).length_eq]; simp; omega
  · obtain ⟨s3, L, ha, hL, nd, mem, hn⟩ := p
    rw [hl] at hn
    rw [hl, List.take_length] at mem
    exact q _ Hc (s2.trans s3) ⟨Dd, L, rfl, ha, hL, nd, mem, hn⟩
theorem isAll_refs {H : Hp} : ∀ {L : List (Addr × List Int)}, (∀ p ∈ L, TupAt K H p.1 (p.2.map V.int)) → IsAll K H (L.map fun q => V.ref q.1) ((L.map (·.2)).map tI)
  | [], _ => .nil
  | p :: L, h => .cons (is_ints (h p List.mem_cons_self)) (isAll_refs fun q hq => h q (List.mem_cons_of_mem _ hq))
theorem gv_sortedT {ks : List (List Int)} {B : Int} {d m : Nat} (ha : Gv ta σ H fun v H' => ∃ Dd L, v = .ref Dd ∧ H' Dd = some (SetTO P w Dd L) ∧ (∀ p ∈ L, TupAt K H' p.1 (p.2.map V.int)) ∧ (L.map (·.2)).Nodup ∧ (∀ k, k ∈ L.map (·.2) ↔ k ∈ ks) ∧ L.length ≤ m)
    (hd : 1 ≤ d) (hb : ∀ k ∈ ks, k.length = d ∧ TS.Bd B k) {Pk : List (List Int) → Prop} (hP : ∀ ks' : List (List Int), ks'.Nodup → (∀ k, k ∈ ks' ↔ k ∈ ks) → ks'.length ≤ m → Pk ks') :
    Gv (tCB (rSortedT K P w) (tCons ta tNil)) σ H fun v H' => ∃ ks', PL K (ks'.map tI) v H' ∧ Pk ks' :=
  gv_call1 ha fun x H' Q hx q => by
    obtain ⟨Dd, L, rfl, hS, hL, nd, mem, hm⟩ := hx
    refine ⟨Dd, L, d, B, rfl, hS, fun p hp => (hL p hp).seq, hd, fun p hp => hb _ ((mem _).mp (List.mem_map.mpr ⟨p, hp, rfl⟩)), fun L' p pm h1 h2 h3 hp => ?_⟩
    refine q _ _ (Same.new hp) ⟨L'.map (·.2), ⟨p, _, rfl, upd_same, isAll_refs fun z hz => (hL z (pm.mem_iff.mp hz)).mono (.of (Same.new hp))⟩, hP _ h1 (fun k => ?_) ?_⟩
    · rw [← mem, (pm.map (·.2)).mem_iff]
    · rw [List.length_map, pm.length_eq]; exact hm

/-! ### chains, bounds, items of the program's kinds -/
theorem gt_chainI {p q : Int → Int → Bool} {a b c : Int} (ha : Gv ta σ H (PV (.int a))) (hb : Gv tb σ H (PV (.int b))) (hc : Gv tc σ H (PV (.int c))) : Gt (tTest (tChain (rI0 fun i j => .bl (p i j)) (rI0 fun i j => .bl (q i j)) ta tb tc)) σ H (p a b && q b c) := fun H1 s Q k => ha H1 s _ fun x H2 s2 ex => hb H2 (s.trans s2) _ fun y H3 s3 ey => by
  have ex : x = .int a := ex
  have ey : y = .int b := ey
  subst ex; subst ey
  refine ⟨a, b, rfl, rfl, p a b, rfl, ?_⟩
  cases e : p a b with
  | true =>
    rw [if_pos rfl]
    refine hc H3 ((s.trans s2).trans s3) _ fun z H4 s4 ez => ?_
    have ez : z = .int c := ez
    subst ez
    exact ⟨b, c, rfl, rfl, _, rfl, by rw [e, Bool.true_and] at k; exact k H4 ((s2.trans s3).trans s4)⟩
  | false =>
    rw [if_neg (by decide)]
    refine ⟨false, rfl, ?_⟩
    rw [e, Bool.false_and] at k
    exact k H3 (s2.trans s3)
theorem gt_isN {v : V} (ha : Gv ta σ H (PV v)) : Gt (tTest (tOp (fun x y H Q => y = .non ∧ Q (.bl (decide (x = .non))) H) ta (tC .non))) σ H (decide (v = .non)) :=
  gt_test (gv_op ha gv_c up_V fun x y H' Q ex ey q => ⟨ey, by rw [show x = v from ex]; exact q _ H' (Same.refl _) rfl⟩)
theorem gt_notN {v : V} (ha : Gv ta σ H (PV v)) : Gt (tTest (tOp (fun x y H Q => y = .non ∧ Q (.bl (!decide (x = .non))) H) ta (tC .non))) σ H (!decide (v = .non)) :=
  gt_test (gv_op ha gv_c up_V fun x y H' Q ex ey q => ⟨ey, by rw [show x = v from ex]; exact q _ H' (Same.refl _) rfl⟩)
theorem gv_neg {k : Int} (ha : Gv ta σ H (PV (.int k))) : Gv (tUn (rU fun i => .int (-i)) ta) σ H (PV (.int (-k))) := fun H1 s Q q => ha H1 s _ fun v H' s' e => ⟨k, e, q _ H' s' rfl⟩
theorem eqV_int (a : Int) : ∀ ns : List Int, inV (V.int a) (ns.map V.int) = decide (a ∈ ns)
  | [] => by simp [inV]
  | n :: ns => by
    have ih := eqV_int a ns
    unfold inV at ih ⊢
    rw [List.map_cons, List.any_cons, ih]
    have : eqV (V.int n) (V.int a) = decide (n = a) := Bool.beq_eq_decide_eq n a
    rw [this]
    by_cases h : n = a
    · subst h; simp
    · have h' : ¬ a = n := fun q => h q.symm
      simp [h, h']
theorem flat_ints : ∀ ns : List Int, (ns.map V.int).all flatV = true
  | [] => rfl
  | n :: ns => by
    rw [List.map_cons, List.all_cons, flat_ints ns]; rfl
/-- i in a tuple of ints -/
theorem gv_inI {a : Int} {ns : List Int} (ha : Gv ta σ H (PV (.int a))) (hb : Gv tb σ H (PD K (tI ns))) : Gv (tOp (rIn K false) ta tb) σ H (PV (.bl (decide (a ∈ ns)))) :=
  gv_op ha hb up_V fun x y H' Q ex ey q => by
    obtain ⟨p, rfl, ht⟩ := ey.ints
    have ex : x = .int a := ex
    subst ex
    refine ⟨p, ns.map V.int, rfl, .inr ht.seq, rfl, flat_ints ns, ?_⟩
    rw [eqV_int]
    exact q _ H' (Same.refl _) rfl
theorem gv_notInI {a : Int} {ns : List Int} (ha : Gv ta σ H (PV (.int a))) (hb : Gv tb σ H (PD K (tI ns))) : Gv (tOp (rIn K true) ta tb) σ H (PV (.bl (!decide (a ∈ ns)))) :=
  gv_op ha hb up_V fun x y H' Q ex ey q => by
    obtain ⟨p, rfl, ht⟩ := ey.ints
    have ex : x = .int a := ex
    subst ex
    refine ⟨p, ns.map V.int, rfl, .inr ht.seq, rfl, flat_ints ns, ?_⟩
    rw [eqV_int]
    exact q _ H' (Same.refl _) rfl
theorem PLi.up {ns : List Int} : Up (PLi ns) := up_Li
/-- a list of ints as a list of data -/
theorem Gv.liD {ns : List Int} (h : Gv te σ H (PLi ns)) : Gv te σ H (PL K (ns.map .num)) := h.imp fun v H' z => z.data
theorem gv_tupLi {ns : List Int} (h : Gv ta σ H (PLi ns)) : Gv (tCB (rTupOf K) (tCons ta tNil)) σ H (PD K (tI ns)) := gv_tupL h.liD
/-- min, max -/
theorem gv_min {a b : Int} (ha : Gv ta σ H (PV (.int a))) (hb : Gv tb σ H (PV (.int b))) : Gv (tCB (fun xs H Q => ∃ i j, xs = [.int i, .int j] ∧ Q (.int (if j < i then j else i)) H) (tCons ta (tCons tb tNil))) σ H (PV (.int (min a b))) :=
  gv_call2 ha hb up_V fun x y H' Q ex ey q => ⟨a, b, by rw [show x = .int a from ex, show y = .int b from ey], by
    have : (if b < a then b else a) = min a b := by split <;> omega
    rw [this]; exact q _ H' (Same.refl _) rfl⟩
theorem gv_max {a b : Int} (ha : Gv ta σ H (PV (.int a))) (hb : Gv tb σ H (PV (.int b))) : Gv (tCB (fun xs H Q => ∃ i j, xs = [.int i, .int j] ∧ Q (.int (if j > i then j else i)) H) (tCons ta (tCons tb tNil))) σ H (PV (.int (max a b))) :=
  gv_call2 ha hb up_V fun x y H' Q ex ey q => ⟨a, b, by rw [show x = .int a from ex, show y = .int b from ey], by
    have : (if b > a then b else a) = max a b := by split <;> omega
    rw [this]; exact q _ H' (Same.refl _) rfl⟩
end
end K52
/-! The program's data as plain lists. -/
namespace K52
open PySem PySem.Spec PyProof.Rows L2
def prD (p : Int × Int) : D := tI [p.1, p.2]
def webD (n : Int) (L : List (Int × Int)) : D := .tup [.num n, .tup (L.map prD)]
def adj (L : List (Int × Int)) (i j : Int) : Bool := decide ((i, j) ∈ L) || decide ((j, i) ∈ L)
def upto (n : Nat) : List Int := (List.range n).map Int.ofNat
def rowsC (n : Nat) (L : List (Int × Int)) : List (List Int) := (upto n).map fun i => (upto n).filter fun j => adj L i j
def GoodL (n : Int) (L : List (Int × Int)) : Prop := ∀ p ∈ L, (0 ≤ p.1 ∧ p.1 < n) ∧ (0 ≤ p.2 ∧ p.2 < n) ∧ p.1 ≠ p.2
def sdD (s : Sd) : D := .tup [tI s.st, tI s.me, .num s.pl, tI s.ma]
def stD (p : Stp) : D := .tup [.num p.b, tI p.gone, .num p.mv, .num p.co, sdD p.to]
theorem num_inj {a b : List Int} (h : a.map NestedKey.num = b.map NestedKey.num) : a = b := by
  induction a generalizing b with
  | nil => cases b with
    | nil => rfl
    | cons x xs => simp at h
  | cons y ys ih => cases b with
    | nil => simp at h
    | cons x xs =>
      rw [List.map_cons, List.map_cons] at h
      have h := List.cons.inj h
      rw [NestedKey.num.inj h.1, ih h.2]
theorem tI_inj {a b : List Int} (h : tI a = tI b) : a = b := num_inj (NestedKey.tup.inj h)
theorem sdD_inj {s t : Sd} (h : sdD s = sdD t) : s = t := by
  have h := NestedKey.tup.inj h
  simp only [List.cons.injEq, NestedKey.num.injEq, and_true] at h
  obtain ⟨h1, h2, h3, h4⟩ := h
  cases s; cases t
  simp only at h1 h2 h3 h4
  rw [tI_inj h1, tI_inj h2, h3, tI_inj h4]
theorem prD_inj {p q : Int × Int} (h : prD p = prD q) : p = q := by
  have := tI_inj h
  simp at this
  exact Prod.ext this.1 this.2
theorem sdD_depth (s : Sd) : (sdD s).depth = 2 := by
  show max (tI s.st).depth (max (tI s.me).depth (max 0 (max (tI s.ma).depth 0))) + 1 = 2
  rw [depth_tI, depth_tI, depth_tI]; rfl
theorem stD_depth (p : Stp) : (stD p).depth = 3 := by
  show max 0 (max (tI p.gone).depth (max 0 (max 0 (max (sdD p.to).depth 0)))) + 1 = 3
  rw [depth_tI, sdD_depth]; rfl
theorem upto_len (n : Nat) : (upto n).length = n := by simp [upto]
theorem upto_mem {n : Nat} {x : Int} : x ∈ upto n ↔ 0 ≤ x ∧ x < (n : Int) := by
  unfold upto
  rw [List.mem_map]
  constructor
  · rintro ⟨k, hk, rfl⟩
    have := List.mem_range.mp hk
    exact ⟨Int.natCast_nonneg k, Int.ofNat_lt.mpr this⟩
  · rintro ⟨h1, h2⟩
    exact ⟨x.toNat, List.mem_range.mpr (by omega), by show ((x.toNat : Nat) : Int) = x; omega⟩
theorem upto_sorted (n : Nat) : (upto n).Pairwise (· < ·) := by
  unfold upto
  rw [List.pairwise_map]
  exact (List.pairwise_lt_range (n := n)).imp fun h => Int.ofNat_lt.mpr h
theorem upto_get {n k : Nat} (h : k < n) : (upto n)[k]? = some (k : Int) := by
  unfold upto
  rw [List.getElem?_map, List.getElem?_range h]; rfl
theorem upto_succ (n : Nat) : upto (n + 1) = upto n ++ [(n : Int)] := by
  unfold upto
  rw [List.range_succ, List.map_append]; rfl
theorem lt_nodup {l : List Int} (h : l.Pairwise (· < ·)) : l.Nodup := h.imp fun h => by omega
theorem lt_le {l : List Int} (h : l.Pairwise (· < ·)) : l.Pairwise (· ≤ ·) := h.imp fun h => by omega
/-- rising lists with the same members are the same -/
theorem rising_eq {l m : List Int} (h1 : l.Pairwise (· < ·)) (h2 : m.Pairwise (· < ·)) (h : ∀ k, k ∈ l ↔ k ∈ m) : l = m :=
  sorted_eq ((List.perm_ext_iff_of_nodup (lt_nodup h1) (lt_nodup h2)).mpr h) (lt_le h1) (lt_le h2)
theorem srt_rising {l : List Int} (h : l.Nodup) : (srt l).Pairwise (· < ·) := by
  have h1 := srt_sorted l
  have h2 := srt_nodup h
  exact (h1.and h2).imp fun h => by omega
theorem rowsC_len (n : Nat) (L : List (Int × Int)) : (rowsC n L).length = n := by
  unfold rowsC
  rw [List.length_map, upto_len]
theorem rowsC_get {n k : Nat} {L : List (Int × Int)} (h : k < n) : (rowsC n L)[k]? = some ((upto n).filter fun j => adj L k j) := by
  unfold rowsC
  rw [List.getElem?_map, upto_get h]; rfl
theorem rowsC_eq {n : Nat} {L M : List (Int × Int)} (h : ∀ i j, adj L i j = adj M i j) : rowsC n L = rowsC n M := by
  unfold rowsC
  congr 1
  funext i
  congr 1
  funext j
  exact h i j
theorem nt_sdD (s : Sd) : nt (sdD s) = true := by
  show (nt (tI s.st) && (nt (tI s.me) && (true && (nt (tI s.ma) && true)))) = true
  rw [nt_tI, nt_tI, nt_tI]; rfl
theorem nt_stD (p : Stp) : nt (stD p) = true := by
  show (true && (nt (tI p.gone) && (true && (true && (nt (sdD p.to) && true))))) = true
  rw [nt_tI, nt_sdD]; rfl

theorem boot_sorted' : bootBuiltins "sorted" = some (.builtin "sorted") := by decide +kernel
theorem boot_min' : bootBuiltins "min" = some (.builtin "min") := by decide +kernel
theorem boot_max' : bootBuiltins "max" = some (.builtin "max") := by decide +kernel
theorem boot_abs' : bootBuiltins "abs" = some (.builtin "abs") := by decide +kernel
theorem boot_all' : bootBuiltins "all" = some (.builtin "all") := by decide +kernel
theorem boot_repr' : bootBuiltins "repr" = some (.builtin "repr") := by decide +kernel
/-! ### constants of the module -/
structure Co (K : PySem.W.Frag) (mg : Str → Option Value) : Prop where
  blocks : ∃ t, mg "MOST_BLOCKS" = some (.int 40 t)
  rooms : ∃ t, mg "MOST_ROOMS" = some (.int 5 t)
  met : ∃ t, mg "MOST_MET" = some (.int 20000 t)
  words : ∃ a o its n, mg "RULE_WORDS" = some (.ref a) ∧ K.lookup a = some o ∧ o.cls = .type "tuple" ∧ o.data = .seq its n ∧ its.size ≤ sizeLine ∧ Vals [.str "last used", .str "first in"] its.toList
end K52
/-! Stores, targets, neighbours. -/
namespace K52
open PySem PySem.Spec PyProof.Rows L2
theorem same_wr {H0 H1 : Hp} {l : Addr} {o : HO} (s : Same H0 H1) (h : H0 l = none) : Same H0 (upd H1 l o) := fun b u e => by
  rw [upd_ne (ne_of_none e h)]; exact s _ _ e
theorem same_none {H0 H1 : Hp} {l : Addr} (s : Same H0 H1) (h : H1 l = none) : H0 l = none := by
  cases e : H0 l with
  | none => rfl
  | some o => rw [s _ _ e] at h; cases h
section
variable {K : PySem.W.Frag} {σ : L2.St} {H : Hp} {ta tb te to : TE} {i j k m : Nat}
theorem gtup2 {a : Addr} {x y : V} {Q : L2.St → Hp → Prop} (h : TupAt K H a [x, y]) (q : Q ((σ.set i (some x)).set j (some y)) H) : gTup K 2 (gCons (gName i) (gCons (gName j) gNil)) (.ref a) σ H Q :=
  ⟨a, _, rfl, h.seq, rfl, x, _, rfl, y, _, rfl, rfl, q⟩
theorem gtup3 {a : Addr} {x y z : V} {Q : L2.St → Hp → Prop} (h : TupAt K H a [x, y, z]) (q : Q (((σ.set i (some x)).set j (some y)).set k (some z)) H) : gTup K 3 (gCons (gName i) (gCons (gName j) (gCons (gName k) gNil))) (.ref a) σ H Q :=
  ⟨a, _, rfl, h.seq, rfl, x, _, rfl, y, _, rfl, z, _, rfl, rfl, q⟩
theorem app_run {l : Addr} {xs : List V} {Pe : V → Hp → Prop} {Q : VK} (ho : Gv to σ H (PV (.ref l))) (hl : H l = some (.lst xs)) (he : Gv te σ H Pe) (hz : xs.length ≤ 100000) (q : ∀ y H2, Same H H2 → Pe y H2 → Q .non (upd H2 l (.lst (xs ++ [y])))) :
    tBM K "list" rAppend to (tCons te tNil) σ H Q := by
  refine ho.run fun x H1 s1 ex => ?_
  have ex : x = .ref l := ex
  subst ex
  refine ⟨.inl ⟨rfl, _, SqL.of (s1 _ _ hl)⟩, ?_⟩
  refine (he.later s1).run fun y H2 s2 py => ?_
  exact ⟨l, xs, y, rfl, rfl, s2 _ _ (s1 _ _ hl), by rw [sizeLine_eq]; omega, q y H2 (s1.trans s2) py⟩
theorem lst_run {Q : VK} (q : ∀ l, H l = none → Q (.ref l) (upd H l (.lst []))) : tLst tNil σ H Q := ⟨Nat.zero_le _, q⟩
/-- (a, b) where b is known up to R -/
theorem gv_tup2X {α : Type} {d : D} {g : α → D} {R : α → Prop} (ha : Gv ta σ H (PD K d)) (hb : Gv tb σ H fun v H' => ∃ z, PD K (g z) v H' ∧ R z) : Gv (tTup (tCons ta (tCons tb tNil))) σ H fun v H' => ∃ z, PD K (.tup [d, g z]) v H' ∧ R z :=
  fun H1 s Q q => ha H1 s _ fun x H2 s2 px => hb H2 (s.trans s2) _ fun y H3 s3 py => by
    obtain ⟨z, hz, r⟩ := py
    refine ⟨by show 2 ≤ sizeLine; decide, fun p hp => q _ _ ((s2.trans s3).trans (Same.new hp)) ⟨z, .tup (.inl upd_same) ?_, r⟩⟩
    exact .cons ((px.mono (.of s3)).mono (.of (Same.new hp))) (.cons (hz.mono (.of (Same.new hp))) .nil)
theorem gv_tupLX {α : Type} {g : α → List D} {R : α → Prop} (ha : Gv ta σ H fun v H' => ∃ z, PL K (g z) v H' ∧ R z) : Gv (tCB (rTupOf K) (tCons ta tNil)) σ H fun v H' => ∃ z, PD K (.tup (g z)) v H' ∧ R z :=
  gv_call1 ha fun x H' Q hx q => by
    obtain ⟨z, ⟨l, xs, rfl, hl, hi⟩, r⟩ := hx
    exact ⟨l, xs, rfl, .inl ⟨SqL.of hl, fun p hp => q _ _ (Same.new hp) ⟨z, .tup (.inl upd_same) (hi.mono (.of (Same.new hp))), r⟩⟩⟩
end
/-! ### neighbours -/
def piece (p : Int × Int) (i : Int) : List Int := (if p.1 = i then [p.2] else []) ++ (if p.2 = i then [p.1] else [])
def nb (L : List (Int × Int)) (i : Int) : List Int := L.flatMap fun p => piece p i
theorem nb_nil (i : Int) : nb [] i = [] := rfl
theorem nb_snoc (L : List (Int × Int)) (p : Int × Int) (i : Int) : nb (L ++ [p]) i = nb L i ++ piece p i := by simp [nb]
theorem nb_mem {L : List (Int × Int)} {i j : Int} : j ∈ nb L i ↔ (i, j) ∈ L ∨ (j, i) ∈ L := by
  unfold nb piece
  rw [List.mem_flatMap]
  constructor
  · rintro ⟨p, hp, h⟩
    rw [List.mem_append] at h
    rcases h with h | h
    · split at h
      · rename_i e
        simp at h
        left; rw [← e, h]; exact hp
      · cases h
    · split at h
      · rename_i e
        simp at h
        right; rw [← e, h]; exact hp
      · cases h
  · rintro (h | h)
    · exact ⟨_, h, by simp⟩
    · exact ⟨_, h, by simp⟩
theorem nb_nodup {i : Int} : ∀ {L : List (Int × Int)}, L.Nodup → (∀ p ∈ L, p.1 < p.2) → (nb L i).Nodup
  | [], _, _ => List.nodup_nil
  | p :: L, nd, h => by
    have nd' := List.nodup_cons.mp nd
    have ih := nb_nodup (i := i) nd'.2 fun q hq => h q (List.mem_cons_of_mem _ hq)
    have hp := h p List.mem_cons_self
    show (piece p i ++ nb L i).Nodup
    unfold piece
    by_cases e1 : p.1 = i
    · have e2 : ¬ p.2 = i := by omega
      rw [if_pos e1, if_neg e2, List.append_nil]
      refine List.nodup_cons.mpr ⟨fun hm => ?_, ih⟩
      rcases nb_mem.mp hm with q | q
      · exact nd'.1 (by rw [← e1] at q; exact q)
      · have := h _ (List.mem_cons_of_mem _ q)
        simp only at this; omega
    · rw [if_neg e1, List.nil_append]
      by_cases e2 : p.2 = i
      · rw [if_pos e2]
        refine List.nodup_cons.mpr ⟨fun hm => ?_, ih⟩
        rcases nb_mem.mp hm with q | q
        · have := h _ (List.mem_cons_of_mem _ q)
          simp only at this; omega
        · exact nd'.1 (by rw [← e2] at q; exact q)
      · rw [if_neg e2]; exact ih
structure CanonL (n : Int) (L : List (Int × Int)) : Prop where
  nd : L.Nodup
  lt : ∀ p ∈ L, 0 ≤ p.1 ∧ p.1 < p.2 ∧ p.2 < n
theorem CanonL.good {n : Int} {L : List (Int × Int)} (h : CanonL n L) : GoodL n L := fun p hp => by
  have := h.lt p hp
  exact ⟨⟨by omega, by omega⟩, ⟨by omega, by omega⟩, by omega⟩
theorem nb_srt {n : Nat} {L : List (Int × Int)} (h : CanonL n L) (i : Int) : srt (nb L i) = (upto n).filter fun j => adj L i j := by
  refine rising_eq (srt_rising (nb_nodup h.nd fun p hp => (h.lt p hp).2.1)) ((upto_sorted n).filter _) fun j => ?_
  rw [srt_mem, nb_mem, List.mem_filter]
  unfold adj
  constructor
  · intro q
    refine ⟨upto_mem.mpr ?_, by simpa using q⟩
    rcases q with q | q
    · have := h.lt _ q; simp only at this; omega
    · have := h.lt _ q; simp only at this; omega
  · rintro ⟨_, q⟩; simpa using q
end K52
namespace K52
open PySem PySem.Spec PyProof.Rows L2
/-! ### the same rules with the written part named (within a block) -/
section
variable {X : Cx} {K : PySem.W.Frag}
theorem crK {f : Value} {r : PySem.W.Frag → List V → Hp → VK → Prop} (c : CallR X f (r X.K)) (h : X.K = K := by rfl) : CallR X f (r K) := h ▸ c
theorem opK {f : Value → Value → Sem Value} {r : PySem.W.Frag → R2} (c : OpR X f (r X.K)) (h : X.K = K := by rfl) : OpR X f (r K) := h ▸ c
end
end K52
namespace K52
open PySem PySem.Spec PyProof.Rows L2
theorem ixK {X : Cx} {K : PySem.W.Frag} {r : PySem.W.Frag → R2} (c : IxR X (r X.K)) (h : X.K = K := by rfl) : IxR X (r K) := h ▸ c
end K52
namespace K52
open PySem PySem.Spec PyProof.Rows L2
section
variable {t u : L2.TS} {te : TE} {wi : TI} {g : TG} {tt : TT} {vs : List Nat} {En : L2.Ends} {σ : L2.St} {H : Hp} {i : Nat} {Q : VK}
/-- a statement and the rest -/
theorem seq_in (h : t { En with nx := u En } σ H) : tSeq t u En σ H := h
/-- name = e -/
theorem asg_in (h : te σ H fun x H1 => En.nx (σ.set i (some x)) H1) : tAsg te (gName i) En σ H := h
/-- a comprehension -/
theorem lc_in (h : wi σ H fun J H1 => ∀ D, H1 D = none → ∃ W : Nat → Nat → Hp → Prop, (∃ m, W 0 m (upd H1 D (.lst []))) ∧ ∀ i m H, W i m H → (J.stop i H ∧ Q (.ref D) H) ∨ (J.go i H ∧ ∃ Nx : Hp → Prop, (∀ H', Nx H' → ∃ m', m' < m ∧ W (i + 1) m' H') ∧
    ∀ x H', J.yld i H x H' → g x (wipe σ vs) H' fun σ2 H2 => wipe σ2 vs = wipe σ vs ∧ tt σ2 H2 fun b H3 => if b = true then te σ2 H3 fun y H4 => ∃ acc, H4 D = some (.lst acc) ∧ acc.length < sizeLine ∧ Nx (upd H4 D (.lst (acc ++ [y]))) else Nx H3)) : tLc wi g tt te vs σ H Q := h
theorem drop_in (h : te σ H fun _ H1 => En.nx σ H1) : tDrop te En σ H := h
end
end K52
namespace K52
open PySem PySem.Spec PyProof.Rows L2
section
variable {K : PySem.W.Frag} {ta tb tc : TE} {En : L2.Ends} {σ : L2.St} {H : Hp} {i j k : Nat}
theorem par_run {Pa Pb : V → Hp → Prop} (ha : Gv ta σ H Pa) (up : Up Pa) (hb : Gv tb σ H Pb) (q : ∀ x y H1, Same H H1 → Pa x H1 → Pb y H1 → En.nx ((σ.set i (some x)).set j (some y)) H1) : tPar i j (tCons ta (tCons tb tNil)) En σ H := by
  refine ha.run fun x H1 s1 px => (hb.later s1).run fun y H2 s2 py => ?_
  exact ⟨x, y, rfl, q x y H2 (s1.trans s2) (up _ _ _ s2 px) py⟩
theorem par3_run {Pa Pb Pc : V → Hp → Prop} (ha : Gv ta σ H Pa) (up : Up Pa) (hb : Gv tb σ H Pb) (up' : Up Pb) (hc : Gv tc σ H Pc) (q : ∀ x y z H1, Same H H1 → Pa x H1 → Pb y H1 → Pc z H1 → En.nx (((σ.set i (some x)).set j (some y)).set k (some z)) H1) : tPar3 i j k (tCons ta (tCons tb (tCons tc tNil))) En σ H := by
  refine ha.run fun x H1 s1 px => (hb.later s1).run fun y H2 s2 py => (hc.later (s1.trans s2)).run fun z H3 s3 pz => ?_
  exact ⟨x, y, z, rfl, q x y z H3 ((s1.trans s2).trans s3) (up _ _ _ (s2.trans s3) px) (up' _ _ _ s3 py) pz⟩
end
/-- a pair's key -/
def ordK : D → List Int
  | .tup [.num a, .num b] => [min a b, max a b]
  | _ => []
def ordP (p : Int × Int) : Int × Int := (min p.1 p.2, max p.1 p.2)
theorem ordK_pr (p : Int × Int) : ordK (prD p) = [(ordP p).1, (ordP p).2] := rfl
theorem canon_of {n : Int} {L : List (Int × Int)} (G : GoodL n L) {ks : List (List Int)} (nd : ks.Nodup) (mem : ∀ k, k ∈ ks ↔ k ∈ (L.map prD).map ordK) (hl : ks.length ≤ L.length) :
    ∃ L', ks = L'.map (fun p => [p.1, p.2]) ∧ CanonL n L' ∧ L'.length ≤ L.length ∧ ∀ i j, adj L' i j = adj L i j := by
  have mem' : ∀ k, k ∈ ks ↔ ∃ p ∈ L, k = [(ordP p).1, (ordP p).2] := fun k => by
    rw [mem, List.map_map, List.mem_map]
    constructor
    · rintro ⟨p, hp, rfl⟩; exact ⟨p, hp, rfl⟩
    · rintro ⟨p, hp, rfl⟩; exact ⟨p, hp, rfl⟩
  have e : ks = (ks.map fun k => (k.headD 0, k.getD 1 0)).map fun p => [p.1, p.2] := by
    rw [List.map_map]
    refine (List.map_id _).symm.trans (List.map_congr_left fun k hk => ?_)
    obtain ⟨p, _, rfl⟩ := (mem' k).mp hk
    rfl
  have mL : ∀ q, q ∈ (ks.map fun k => (k.headD 0, k.getD 1 0)) ↔ ∃ p ∈ L, q = ordP p := fun q => by
    rw [List.mem_map]
    constructor
    · rintro ⟨k, hk, rfl⟩
      obtain ⟨p, hp, rfl⟩ := (mem' k).mp hk
      exact ⟨p, hp, rfl⟩
    · rintro ⟨p, hp, rfl⟩
      exact ⟨_, (mem' _).mpr ⟨p, hp, rfl⟩, rfl⟩
  refine ⟨ks.map fun k => (k.headD 0, k.getD 1 0), e, ⟨?_, fun q hq => ?_⟩, by rw [List.length_map]; exact hl, fun i j => ?_⟩
  · rw [e] at nd
    exact List.Pairwise.of_map _ (fun a b h z => h (by rw [z])) nd
  · obtain ⟨p, hp, rfl⟩ := (mL q).mp hq
    have := G p hp
    unfold ordP
    simp only
    omega
  · unfold adj
    rw [← Bool.decide_or, ← Bool.decide_or]
    refine decide_eq_decide.mpr ?_
    rw [mL, mL]
    constructor
    · rintro (⟨p, hp, e⟩ | ⟨p, hp, e⟩)
      · unfold ordP at e
        have e := Prod.mk.inj e
        rcases Int.le_total p.1 p.2 with h | h
        · left; have : (i, j) = p := Prod.ext (by show i = p.1; omega) (by show j = p.2; omega); rw [this]; exact hp
        · right; have : (j, i) = p := Prod.ext (by show j = p.1; omega) (by show i = p.2; omega); rw [this]; exact hp
      · unfold ordP at e
        have e := Prod.mk.inj e
        rcases Int.le_total p.1 p.2 with h | h
        · right; have : (j, i) = p := Prod.ext (by show j = p.1; omega) (by show i = p.2; omega); rw [this]; exact hp
        · left; have : (i, j) = p := Prod.ext (by show i = p.1; omega) (by show j = p.2; omega); rw [this]; exact hp
    · rintro (h | h)
      · rcases Int.le_total i j with q | q
        · left; exact ⟨_, h, Prod.ext (by show i = min i j; omega) (by show j = max i j; omega)⟩
        · right; exact ⟨_, h, Prod.ext (by show j = min i j; omega) (by show i = max i j; omega)⟩
      · rcases Int.le_total j i with q | q
        · right; exact ⟨_, h, Prod.ext (by show j = min j i; omega) (by show i = max j i; omega)⟩
        · left; exact ⟨_, h, Prod.ext (by show i = min j i; omega) (by show j = max j i; omega)⟩
end K52
/-! sorted(a tuple of ints); objects. -/
namespace K52
open PySem PySem.Spec PyProof.Rows L2
def rSortedIT (K : PySem.W.Frag) : List V → Hp → VK → Prop := fun vs H Q => ∃ (a : Addr) (ns : List Int), vs = [V.ref a] ∧ SqT K H a (ns.map V.int) ∧
  ∀ (ns' : List Int) (p : Addr), ns'.Perm ns → ns'.Pairwise (· ≤ ·) → H p = none → Q (.ref p) (upd H p (.lst (ns'.map V.int)))
theorem cr_sortedIT {X : Cx} : CallR X (.builtin "sorted") (rSortedIT X.K) := by
  intro pins s σ H vs us Q I r h
  obtain ⟨a, ns, rfl, hs, q⟩ := h
  obtain ⟨its, rv, p, hz⟩ := I.tuple hs
  rw [Vals.ref1 r]
  have hi := rv.ints
  have hzl : its.length ≤ sizeLine := by rw [← rv.length]; exact hz
  refine Calls.call_function_entry kind_sorted plain_sorted entry_sorted (args_sorted1 _) ?_
  unfold Builtin.«sorted»
  refine wpAny_bind (m := checkCount "sorted" 1 1 _) (wpAny_pure ?_)
  obtain ⟨o, ho, hc, n, hd⟩ := p
  refine wpAny_bind (wpAny_collect_seq a (.inr rfl) ho hc hd (fun h' hk => ?_) (by simpa using hzl))
  refine wpAny_bind (wpAny_newList ?_ (by simpa using hzl))
  have I1 : Inv X pins σ H { s with heap := h' } := I.kept (t' := s.toks) hk
  have hoL : (h'.push (seqObj "list" its.toArray 0)).get? h'.objs.size = some (seqObj "list" its.toArray 0) := Heap.get?_push_size _ rfl
  show wpAny _ _ _ _ _ { s with heap := h'.push (seqObj "list" its.toArray 0) }
  refine wpAny_bind (wpAny_holding (wpAny_call_entry slot_list_sort ⟨_, hoL, rfl⟩ entry_list_sort (SrtO.list_sort_ord SrtO.swo_int hoL hzl (fun h2 => SrtO.ints_sortable hi h2) fun out h1 h2 => ⟨_, rfl, ?_⟩) (args_list_sort _)))
  obtain ⟨k1, k2, k3⟩ := SrtO.ints_out hi h1 h2
  obtain ⟨eF, heF⟩ := PyProof.Rows.sortedHeap_at (vs := its) (out := out.toArray) hoL
  have kF : ∀ b o, h'.get? b = some o → (sortedHeap (h'.push (seqObj "list" its.toArray 0)) h'.objs.size its out.toArray).get? b = some o := fun b o e =>
    (PyProof.Rows.sortedHeap_old (Nat.ne_of_lt (Heap.lt_size e)) (Heap.lt_size (Heap.get?_push_of_some _ e))).trans (Heap.get?_push_of_some _ e)
  have hlen : ((out.map SrtO.iv).map V.int).length ≤ sizeLine := by
    rw [List.length_map, k2.length_eq]
    rw [List.length_map] at hz
    exact hz
  exact wpAny_pure ⟨_, rfl, ⟨.ref h'.objs.size, upd H h'.objs.size (.lst ((out.map SrtO.iv).map V.int)), I1.laid (t' := s.toks) kF (Nat.le_refl _) ⟨hlen, out, eF, vals_of_ints k1, heF⟩, rfl, q _ _ k2 k3 (I1.hok.fresh (Nat.le_refl _))⟩⟩
section
variable {K : PySem.W.Frag} {σ : L2.St} {H : Hp} {ta tb te to : TE}
theorem gv_sortedIT {ns : List Int} (ha : Gv ta σ H (PD K (tI ns))) : Gv (tCB (rSortedIT K) (tCons ta tNil)) σ H (PLi (srt ns)) :=
  gv_call1 ha fun x H' Q hx q => by
    obtain ⟨p, rfl, ht⟩ := hx.ints
    exact ⟨p, ns, rfl, ht.seq, fun ns' l h1 h2 hl => q _ _ (Same.new hl) ⟨l, rfl, by rw [upd_same, srt_of h1 h2]⟩⟩
theorem tI_snoc (ns : List Int) (b : Int) : tI (ns ++ [b]) = .tup (ns.map NestedKey.num ++ [.num b]) := by
  show NestedKey.tup _ = _
  rw [List.map_append]; rfl
/-- t + (b,) -/
theorem gv_snoc {ns : List Int} {b : Int} (ha : Gv ta σ H (PD K (tI ns))) (hb : Gv tb σ H (PV (.int b))) (hz : ns.length ≤ 1000) : Gv (tOp (rCatA K) ta (tTup (tCons tb tNil))) σ H (PD K (tI (ns ++ [b]))) := by
  rw [tI_snoc]
  exact gv_cat ha (gv_tup (gd_cons hb.num gd_nil)) (by simp; omega)
/-- a field -/
theorem gv_fld {p C dx : Addr} {fs : List (Str × V)} {f : Str} {v : V} (ho : Gv to σ H (PV (.ref p))) (hp : H p = some (.ins C dx fs)) (c : Cls K C) (n : NoAttr K C f) (l : fs.lookup f = some v) : Gv (tFld K to f) σ H (PV v) := fun H1 s Q q =>
  ho H1 s _ fun x H2 s2 e => ⟨p, C, dx, fs, v, e, s2 _ _ (s _ _ hp), c, n, l, q _ _ s2 rfl⟩
end
/-! ### words -/
def wordS (lru : Bool) : Str := if lru then "last used" else "first in"
theorem word_first (lru : Bool) : decide (V.str (wordS lru) = V.str "first in") = !lru := by
  cases lru <;> decide +kernel
theorem word_last (lru : Bool) : decide (V.str (wordS lru) = V.str "last used") = lru := by
  cases lru <;> decide +kernel
theorem word_in (lru : Bool) : inV (V.str (wordS lru)) [.str "last used", .str "first in"] = true := by
  cases lru <;> decide +kernel
/-- a statement or an expression that is not reached -/
def tNo : TE := fun _ _ _ => False
theorem pe_no {X : Cx} {e : Expr} : PE X e tNo := ⟨fun _ _ _ _ _ _ h => h.elim⟩
end K52
namespace K52
open PySem PySem.Spec PyProof.Rows L2
section
variable {K : PySem.W.Frag} {H : Hp} {xs : List V} {a b c d e : D}
theorem isAll1 (h : IsAll K H xs [a]) : ∃ x, xs = [x] ∧ Is K H x a := by
  cases h with
  | cons h1 h => cases h; exact ⟨_, rfl, h1⟩
theorem isAll2 (h : IsAll K H xs [a, b]) : ∃ x y, xs = [x, y] ∧ Is K H x a ∧ Is K H y b := by
  cases h with
  | cons h1 h => obtain ⟨y, rfl, h2⟩ := isAll1 h; exact ⟨_, y, rfl, h1, h2⟩
theorem isAll3 (h : IsAll K H xs [a, b, c]) : ∃ x y z, xs = [x, y, z] ∧ Is K H x a ∧ Is K H y b ∧ Is K H z c := by
  cases h with
  | cons h1 h => obtain ⟨y, z, rfl, h2⟩ := isAll2 h; exact ⟨_, y, z, rfl, h1, h2⟩
theorem isAll4 (h : IsAll K H xs [a, b, c, d]) : ∃ x y z u, xs = [x, y, z, u] ∧ Is K H x a ∧ Is K H y b ∧ Is K H z c ∧ Is K H u d := by
  cases h with
  | cons h1 h => obtain ⟨y, z, u, rfl, h2⟩ := isAll3 h; exact ⟨_, y, z, u, rfl, h1, h2⟩
theorem isAll5 (h : IsAll K H xs [a, b, c, d, e]) : ∃ x y z u v, xs = [x, y, z, u, v] ∧ Is K H x a ∧ Is K H y b ∧ Is K H z c ∧ Is K H u d ∧ Is K H v e := by
  cases h with
  | cons h1 h => obtain ⟨y, z, u, v, rfl, h2⟩ := isAll4 h; exact ⟨_, y, z, u, v, rfl, h1, h2⟩
end
end K52
namespace K52
open PySem PySem.Spec PyProof.Rows L2
theorem next_in {En : L2.Ends} {σ : L2.St} {H : Hp} (h : En.nx σ H) : tNext En σ H := h
end K52
namespace K52
open PySem PySem.Spec PyProof.Rows L2
/-- a list of data at an address that H0 has not -/
abbrev PLn (K : PySem.W.Frag) (H0 : Hp) (ds : List D) : V → Hp → Prop := fun v H => ∃ l xs, v = .ref l ∧ H l = some (.lst xs) ∧ IsAll K H xs ds ∧ H0 l = none
theorem gv_lstN {K : PySem.W.Frag} {σ : L2.St} {H : Hp} {tl : TA} {ds : List D} (h : Ga tl σ H (PDs K ds)) (hz : ds.length ≤ 16 := by first | decide | simp) : Gv (tLst tl) σ H (PLn K H ds) :=
  fun H1 s Q q => h H1 s _ fun vs H2 s2 p => by
    have hl := p.length
    refine ⟨by rw [hl, sizeLine_eq]; omega, fun a ha => q _ _ (s2.trans (Same.new ha)) ⟨a, vs, rfl, upd_same, p.mono (.of (Same.new ha)), same_none (s.trans s2) ha⟩⟩
theorem PLn.old {K : PySem.W.Frag} {H0 H1 H : Hp} {ds : List D} {v : V} (s : Same H0 H1) (h : PLn K H1 ds v H) : PLn K H0 ds v H := let ⟨l, xs, e, a, b, c⟩ := h; ⟨l, xs, e, a, b, same_none s c⟩
end K52
/-! Tables of standings; whiles. -/
namespace K52
open PySem PySem.Spec PyProof.Rows L2
/-- a while whose test only adds to the heap; Pv by a falling measure -/
theorem while_gt {c : TT} {tb : L2.TS} {En : L2.Ends} {σ : L2.St} {H : Hp} {m0 : Nat} (Pv : Nat → L2.St → Hp → Prop) (h0 : Pv m0 σ H)
    (hs : ∀ m σ H, Pv m σ H → ∃ b, Gt c σ H b ∧ ∀ H1, Same H H1 → if b = true then tb { En with nx := fun σ' H' => ∃ m', m' < m ∧ Pv m' σ' H', ct := fun σ' H' => ∃ m', m' < m ∧ Pv m' σ' H', bk := En.nx } σ H1 else En.nx σ H1) : tWhile c tb En σ H := by
  refine ⟨Pv, ⟨m0, h0⟩, fun m σ H p => ?_⟩
  obtain ⟨b, g, k⟩ := hs m σ H p
  refine g.run fun H1 s1 => ?_
  have k1 := k H1 s1
  cases b with
  | true => exact ⟨_, fun σ' H' h => h, k1⟩
  | false => exact k1
def tabL (f : Sd → V) (W : List Sd) : List (D × V) := W.map fun s => (sdD s, f s)
theorem tab_len (f : Sd → V) (W : List Sd) : (tabL f W).length = W.length := by simp [tabL]
theorem tab_val (f : Sd → V) (s : Sd) : ∀ W : List Sd, valV (tabL f W) (sdD s) = if s ∈ W then some (f s) else none
  | [] => by simp [tabL, valV]
  | t :: W => by
    have ih := tab_val f s W
    by_cases e : t = s
    · subst e
      have : valV (tabL f (t :: W)) (sdD t) = some (f t) := valV_pos (p := (sdD t, f t)) rfl
      rw [this, if_pos List.mem_cons_self]
    · have : valV (tabL f (t :: W)) (sdD s) = valV (tabL f W) (sdD s) := valV_neg (p := (sdD t, f t)) (fun z => e (sdD_inj z))
      rw [this, ih]
      have : s ∈ t :: W ↔ s ∈ W := by
        rw [List.mem_cons]
        exact ⟨fun h => h.resolve_left fun z => e z.symm, .inr⟩
      by_cases h : s ∈ W
      · rw [if_pos h, if_pos (this.mpr h)]
      · rw [if_neg h, if_neg (fun z => h (this.mp z))]
theorem tab_any (f : Sd → V) (s : Sd) (W : List Sd) : ((tabL f W).any fun kv => decide (kv.1 = sdD s)) = decide (s ∈ W) := by
  rw [valV_any, tab_val]
  by_cases h : s ∈ W <;> simp [h]
theorem tab_in {f : Sd → V} {s : Sd} {W : List Sd} {v : V} (h : s ∈ W) : putK (tabL f W) (sdD s) v = tabL (ups f s v) W := by
  unfold putK
  rw [if_pos (by rw [tab_any]; simpa using h)]
  unfold tabL
  rw [List.map_map]
  refine List.map_congr_left fun t _ => ?_
  show (if sdD t = sdD s then (sdD t, v) else (sdD t, f t)) = (sdD t, ups f s v t)
  by_cases e : t = s
  · subst e; rw [if_pos rfl, ups_same]
  · rw [if_neg (fun z => e (sdD_inj z)), ups_ne e]
theorem tab_new {f : Sd → V} {s : Sd} {W : List Sd} {v : V} (h : s ∉ W) : putK (tabL f W) (sdD s) v = tabL (ups f s v) (W ++ [s]) := by
  rw [putK_new v (by rw [tab_val, if_neg h])]
  unfold tabL
  rw [List.map_append]
  congr 1
  · refine List.map_congr_left fun t ht => ?_
    have e : t ≠ s := fun z => h (z ▸ ht)
    rw [ups_ne e]
  · show [(sdD s, v)] = [(sdD s, ups f s v s)]
    rw [ups_same]
section
variable {P : Program} {w : World} {K : PySem.W.Frag} {σ : L2.St} {H : Hp} {td ty te : TE} {T : Addr} {kvs : List (D × V)} {s : Sd} {En : L2.Ends}
theorem sd_ref {H' : Hp} {v : V} (h : Is K H' v (sdD s)) : ∃ b, v = .ref b ∧ Is K H' (.ref b) (sdD s) := by
  obtain ⟨b, _, rfl, _⟩ := h.tup_inv
  exact ⟨b, rfl, h⟩
theorem sd8 (s : Sd) : (sdD s).depth ≤ 8 := by rw [sdD_depth]; decide
theorem gv_nget {v : V} (hd : Gv td σ H (PV (.ref T))) (hk : Gv ty σ H (PD K (sdD s))) (dn : DN P w K H T kvs) (hv : valV kvs (sdD s) = some v) : Gv (tNGet P w K td ty) σ H (PV v) := fun H1 s1 Q q =>
  hd H1 s1 _ fun x H2 s2 ex => hk H2 (s1.trans s2) _ fun y H3 s3 hy => by
    obtain ⟨b, rfl, hb⟩ := sd_ref hy
    exact ⟨T, kvs, sdD s, b, v, ex, dn.same ((s1.trans s2).trans s3), rfl, hb, sd8 s, hv, q v H3 (s2.trans s3) rfl⟩
theorem gt_nin {ng : Bool} (hd : Gv td σ H (PV (.ref T))) (hk : Gv ty σ H (PD K (sdD s))) (dn : DN P w K H T kvs) : Gt (tB (tNIn P w K ng ty td)) σ H (if ng then !(valV kvs (sdD s)).isSome else (valV kvs (sdD s)).isSome) := fun H1 s1 Q q =>
  hk H1 s1 _ fun y H2 s2 hy => hd H2 (s1.trans s2) _ fun x H3 s3 ex => by
    obtain ⟨b, rfl, hb⟩ := sd_ref (show Is K H3 y (sdD s) from hy.mono (.of s3))
    exact ⟨T, kvs, sdD s, b, ex, dn.same ((s1.trans s2).trans s3), rfl, hb, sd8 s, _, rfl, q H3 (s2.trans s3)⟩
theorem nput_run {Pe : V → Hp → Prop} (hv : Gv te σ H Pe) (up : Up Pe) (hd : Gv td σ H (PV (.ref T))) (hk : Gv ty σ H (PD K (sdD s))) (dw : DW P w K H T kvs) (hl : kvs.length < 100000)
    (q : ∀ x H2 ob, Same H H2 → Pe x H2 → DW P w K H2 T kvs → DW P w K (upd H2 T ob) T (putK kvs (sdD s) x) → En.nx σ (upd H2 T ob)) : tAsg te (gSub td ty (rNPut P w K)) En σ H := by
  refine hv.run fun x H1 s1 px => ?_
  refine (hd.later s1).run fun o H2 s2 eo => ?_
  refine (hk.later (s1.trans s2)).run fun y H3 s3 hy => ?_
  obtain ⟨b, rfl, hb⟩ := sd_ref hy
  have s := (s1.trans s2).trans s3
  exact ⟨T, kvs, _, b, eo, dw.same s, rfl, hb, sd8 _, hl, fun ob d => q x H3 ob s (up _ _ _ (s2.trans s3) px) (dw.same s) d⟩
end
/-- a list that holds a standing's steps -/
def LstAt (K : PySem.W.Frag) (H : Hp) (a : Addr) (ps : List Stp) : Prop := ∃ xs, H a = some (.lst xs) ∧ IsAll K H xs (ps.map stD)
theorem LstAt.same {K : PySem.W.Frag} {H H' : Hp} {a : Addr} {ps : List Stp} (s : Same H H') (h : LstAt K H a ps) : LstAt K H' a ps := let ⟨xs, e, i⟩ := h; ⟨xs, s _ _ e, i.mono (.of s)⟩
theorem LstAt.mono {K : PySem.W.Frag} {H H' : Hp} {a : Addr} {ps : List Stp} (t : TS H H') (e : H' a = H a) (h : LstAt K H a ps) : LstAt K H' a ps := let ⟨xs, e', i⟩ := h; ⟨xs, e.trans e', i.mono t⟩
structure Small (S : Setg) : Prop where
  n : S.n ≤ 4
  own : S.own ≤ 5
  rooms : S.rooms ≤ 5
  row : ∀ r ∈ S.rows, r.length ≤ 4
theorem rowsC_small {n : Nat} {L : List (Int × Int)} (h : n ≤ 4) : ∀ r ∈ rowsC n L, r.length ≤ 4 := fun r hr => by
  unfold rowsC at hr
  obtain ⟨i, _, rfl⟩ := List.mem_map.mp hr
  exact Nat.le_trans (List.length_filter_le _ _) (by rw [upto_len]; exact h)
end K52
set_option maxHeartbeats 4000000
/-! Words, pairs, rooms, blocks. -/
namespace K52
open PySem PySem.Spec PyProof.Rows L2
def RNum : List V → Hp → (V → Hp → Prop) → Prop := fun vs _ P => ∃ n : Int, vs = [.int n] ∧ P = PV (.bl (decide (0 ≤ n)))
def RBelow : List V → Hp → (V → Hp → Prop) → Prop := fun vs _ P => ∃ n m : Int, vs = [.int n, .int m] ∧ P = PV (.bl (decide (0 ≤ n) && decide (n < m)))
def RPair (K : PySem.W.Frag) : List V → Hp → (V → Hp → Prop) → Prop := fun vs H P => ∃ v ds, vs = [v] ∧ Is K H v (.tup ds) ∧ P = PV (.bl (decide (ds.length = 2)))
def ROrd (K : PySem.W.Frag) : List V → Hp → (V → Hp → Prop) → Prop := fun vs _ P => ∃ n m : Int, vs = [.int n, .int m] ∧ P = PD K (tI [min n m, max n m])
def RRooms : List V → Hp → (V → Hp → Prop) → Prop := fun vs _ P => ∃ n : Int, vs = [.int n] ∧ 1 ≤ n ∧ n ≤ 5 ∧ P = PV (.int n)
def RWith (K : PySem.W.Frag) : List V → Hp → (V → Hp → Prop) → Prop := fun vs H P => ∃ v ns b, vs = [v, .int b] ∧ Is K H v (tI ns) ∧ ns.Nodup ∧ b ∉ ns ∧ ns.length ≤ 40 ∧ P = PD K (tI (srt (ns ++ [b])))
section
variable {P : Program} {w : World} {K : PySem.W.Frag} {mg : Str → Option Value} {base : Heap}
abbrev N_is_number : List Str := ["value"]
theorem sc_is_number : FnScope N_is_number ["value"] (defScope (top 8)) := ⟨rfl, rfl, rfl, by decide +kernel, rfl, by decide +kernel, by decide +kernel⟩
theorem ok_is_number (d : DefAt K mg "is_number" 8) (T : Tx mg) (c_is_integer : Cal P w K mg base "is_integer" 1 ["value"] (spP (RTy K fun t => t == "int"))) : Cal P w K mg base "is_number" 2 ["value"] (spP RNum) := by
  obtain ⟨f, fd, g, F⟩ := d
  refine ⟨f, fd, g, F.kp, F.binds fun _ _ _ _ _ _ us hl => match us, hl with | [_], _ => rfl, F.okX sc_is_number (fun vs H Q E h => ?_) (fun cdv A outer s H vs Q E hr h => ?_)⟩
  · obtain ⟨_, ⟨n, rfl, _⟩, _⟩ := h; rfl
  · obtain ⟨_, ⟨n, rfl, rfl⟩, q⟩ := h
    refine ⟨_, 
        (pss_one (ps_ret (pe_and (pe_cal c_is_integer (hr.mono (by decide)) (pa_cons (pv 0) pa_nil)) (pe_one (pe_cmpR op_ge (pv 0) pe_int (nomark _)))))), ?_⟩
    refine Gv.run ((gv_andV (b1 := true) (gv_call (ga_one (gv_v rfl) up_V) fun vs H' s p => ?_) fun _ => gv_opI (gv_v rfl) gv_c).imp fun v H' e => ?_) q
    · cases p with
      | cons e p => cases p; cases e; exact ⟨.int n, "int", rfl, .data (.num n), rfl⟩
    · rw [e]; rfl
abbrev N_is_below : List Str := ["value", "many"]
theorem sc_is_below : FnScope N_is_below ["value", "many"] (defScope (top 9)) := ⟨rfl, rfl, rfl, by decide +kernel, rfl, by decide +kernel, by decide +kernel⟩
theorem ok_is_below (d : DefAt K mg "is_below" 9) (c_is_number : Cal P w K mg base "is_number" 2 ["value"] (spP RNum)) : Cal P w K mg base "is_below" 3 ["value", "many"] (spP RBelow) := by
  obtain ⟨f, fd, g, F⟩ := d
  refine ⟨f, fd, g, F.kp, F.binds fun _ _ _ _ _ _ us hl => match us, hl with | [_, _], _ => rfl, F.okX sc_is_below (fun vs H Q E h => ?_) (fun cdv A outer s H vs Q E hr h => ?_)⟩
  · obtain ⟨_, ⟨n, m, rfl, _⟩, _⟩ := h; rfl
  · obtain ⟨_, ⟨n, m, rfl, rfl⟩, q⟩ := h
    refine ⟨_, 
        (pss_one (ps_ret (pe_and (pe_cal c_is_number (hr.mono (by decide)) (pa_cons (pv 0) pa_nil)) (pe_one (pe_cmpR op_lt (pv 0) (pv 1) (nomark _)))))), ?_⟩
    refine Gv.run (gv_andV (b1 := decide (0 ≤ n)) (gv_call (ga_one (gv_v (v := .int n) rfl) up_V) fun vs H' s p => ?_) fun _ => gv_opI (gv_v rfl) (gv_v rfl)) q
    · cases p with
      | cons e p => cases p; cases e; exact ⟨n, rfl, rfl⟩
abbrev N_is_pair : List Str := ["value"]
theorem sc_is_pair : FnScope N_is_pair ["value"] (defScope (top 12)) := ⟨rfl, rfl, rfl, by decide +kernel, rfl, by decide +kernel, by decide +kernel⟩
theorem ok_is_pair (d : DefAt K mg "is_pair" 12) (T : Tx mg) (c_is_sequence : Cal P w K mg base "is_sequence" 1 ["value"] (spP (RTy K fun t => t == "list" || t == "tuple"))) : Cal P w K mg base "is_pair" 2 ["value"] (spP (RPair K)) := by
  obtain ⟨f, fd, g, F⟩ := d
  refine ⟨f, fd, g, F.kp, F.binds fun _ _ _ _ _ _ us hl => match us, hl with | [_], _ => rfl, F.okX sc_is_pair (fun vs H Q E h => ?_) (fun cdv A outer s H vs Q E hr h => ?_)⟩
  · obtain ⟨_, ⟨v, ds, rfl, _⟩, _⟩ := h; rfl
  · obtain ⟨_, ⟨v, ds, rfl, hv, rfl⟩, q⟩ := h
    refine ⟨_, 
        (pss_one (ps_ret (pe_and (pe_cal c_is_sequence (hr.mono (by decide)) (pa_cons (pv 0) pa_nil)) (pe_one (pe_cmpR op_eq (pe_callB cr_lenS rfl T.len boot_len' (pa_cons (pv 0) pa_nil)) pe_int (nomark _)))))), ?_⟩
    refine Gv.run ((gv_andV (b1 := true) (gv_call (ga_one (gv_d rfl hv) up_D) fun vs H' s p => ?_) fun _ => gv_eq (gv_lenT (gv_d rfl hv)) gv_c rfl).imp fun v H' e => ?_) q
    · cases p with
      | cons e p => cases p; exact ⟨_, "tuple", rfl, .data e, rfl⟩
    · rw [e]
      have : decide (V.int (ds.length : Int) = V.int 2) = decide (ds.length = 2) := by
        by_cases h : ds.length = 2
        · rw [h]; rfl
        · have : ¬ V.int (ds.length : Int) = V.int 2 := fun z => h (by have := V.int.inj z; omega)
          simp [h, this]
      rw [this]; rfl
abbrev N_ordered_pair : List Str := ["one", "other"]
theorem sc_ordered_pair : FnScope N_ordered_pair ["one", "other"] (defScope (top 15)) := ⟨rfl, rfl, rfl, by decide +kernel, rfl, by decide +kernel, by decide +kernel⟩
theorem ok_ordered_pair (d : DefAt K mg "ordered_pair" 15) (T : Tx mg) : Cal P w K mg base "ordered_pair" 1 ["one", "other"] (spP (ROrd K)) := by
  obtain ⟨f, fd, g, F⟩ := d
  refine ⟨f, fd, g, F.kp, F.binds fun _ _ _ _ _ _ us hl => match us, hl with | [_, _], _ => rfl, F.okX sc_ordered_pair (fun vs H Q E h => ?_) (fun cdv A outer s H vs Q E hr h => ?_)⟩
  · obtain ⟨_, ⟨n, m, rfl, _⟩, _⟩ := h; rfl
  · obtain ⟨_, ⟨n, m, rfl, rfl⟩, q⟩ := h
    refine ⟨_, 
        (pss_one (ps_ret (pe_tup (pa_cons (pe_callB (call_min2 rfl) rfl T.min boot_min' (pa_cons (pv 0) (pa_cons (pv 1) pa_nil))) (pa_cons (pe_callB (call_max2 rfl) rfl T.max boot_max' (pa_cons (pv 0) (pa_cons (pv 1) pa_nil))) pa_nil))))), ?_⟩
    exact Gv.run (gv_tup (gd_cons (gv_min (gv_v rfl) (gv_v rfl)).num (gd_cons (gv_max (gv_v rfl) (gv_v rfl)).num gd_nil))) q
abbrev N_need_rooms : List Str := ["value"]
theorem sc_need_rooms : FnScope N_need_rooms ["value"] (defScope (top 23)) := ⟨rfl, rfl, rfl, by decide +kernel, rfl, by decide +kernel, by decide +kernel⟩
theorem ok_need_rooms (d : DefAt K mg "need_rooms" 23) (C : Co K mg) (c_is_number : Cal P w K mg base "is_number" 2 ["value"] (spP RNum)) : Cal P w K mg base "need_rooms" 3 ["value"] (spP RRooms) := by
  obtain ⟨t5, e5⟩ := C.rooms
  obtain ⟨f, fd, g, F⟩ := d
  refine ⟨f, fd, g, F.kp, F.binds fun _ _ _ _ _ _ us hl => match us, hl with | [_], _ => rfl, F.okX sc_need_rooms (fun vs H Q E h => ?_) (fun cdv A outer s H vs Q E hr h => ?_)⟩
  · obtain ⟨_, ⟨n, rfl, _⟩, _⟩ := h; rfl
  · obtain ⟨_, ⟨n, rfl, h1, h5, rfl⟩, q⟩ := h
    refine ⟨_, 
        (pss_cons (ps_if (PW.pt (pw_or (pt_not (pt_val (pe_cal c_is_number (hr.mono (by decide)) (pa_cons (pv 0) pa_nil)))) (pw_or1 (pt_not (pt_chain op_le op_le pe_int (pv 0) (pe_glob (v := .int 5) rfl e5 ⟨_, rfl⟩)))))) 
          (pss_one ps_never) pss_nil) 
        (pss_one (ps_ret (pv 0)))), ?_⟩
    refine Gt.run ((gt_or (gt_not (gt_val (gv_call (P := PV (.bl (decide (0 ≤ n)))) (ga_one (gv_v (v := .int n) rfl) up_V) fun vs H' s p => ?_))) fun _ => gt_not (gt_chainI gv_c (gv_v rfl) gv_c)).cast (b' := false) ?_) fun H1 s1 => ?_
    · cases p with
      | cons e p => cases p; cases e; exact ⟨n, rfl, rfl⟩
    · have : 0 ≤ n := by omega
      simp [this, h1, h5]
    · rw [if_neg (by decide)]
      exact Gv.run (gv_v rfl) fun v H' s' e => q v H' (s1.trans s') e
abbrev N_with_block : List Str := ["memory", "block", "one"]
theorem sc_with_block : FnScope N_with_block ["memory", "block"] (defScope (top 25)) := ⟨rfl, rfl, rfl, by decide +kernel, rfl, by decide +kernel, by decide +kernel⟩
theorem ok_with_block (d : DefAt K mg "with_block" 25) (T : Tx mg) : Cal P w K mg base "with_block" 1 ["memory", "block"] (spP (RWith K)) := by
  obtain ⟨f, fd, g, F⟩ := d
  refine ⟨f, fd, g, F.kp, F.binds fun _ _ _ _ _ _ us hl => match us, hl with | [_, _], _ => rfl, F.okX sc_with_block (fun vs H Q E h => ?_) (fun cdv A outer s H vs Q E hr h => ?_)⟩
  · obtain ⟨_, ⟨v, ns, b, rfl, _⟩, _⟩ := h; rfl
  · obtain ⟨_, ⟨v, ns, b, rfl, hv, nd, hb, hl, rfl⟩, q⟩ := h
    refine ⟨_, 
        (pss_one (ps_ret (pe_callTy cr_tupOf rfl T.tuple boot_tuple' (pa_cons (pe_callB (cr_sortedSet rfl) rfl T.sorted boot_sorted' (pa_cons (pe_setI (own := [("one", 2)]) (g := gName 2) (tt := tYes) rfl sc_with_block.nd (pi_tup (pe_op op_catA (pv 0) (pe_tup (pa_cons (pv 1) pa_nil)))) (blkOk_by (N := N_with_block) (sc := defScope (top 25)) (by decide +kernel)) (fun _ _ _ _ _ => (pg_name (i := 2) sc_with_block.nd rfl (Or.inl rfl))) (fun _ _ _ _ _ => pts_nil) (fun _ _ _ _ _ => (pv 2))) pa_nil)) pa_nil)))), ?_⟩
    have hsrc : Gv (tOp (rCatA K) (tVar 0) (tTup (tCons (tVar 1) tNil))) (start N_with_block [v, .int b]) H (PD K (tI (ns ++ [b]))) :=
      (gv_cat (gv_d rfl hv) (gv_tup (gd_cons (gv_v rfl).num gd_nil)) (by simp; omega)).imp fun v H' e => by
        have : tI (ns ++ [b]) = .tup (ns.map NestedKey.num ++ [.num b]) := by
          show NestedKey.tup _ = _
          rw [List.map_append]; rfl
        rw [this]; exact e
    refine Gv.run (gv_tupLi (gv_sortedS (gv_setI hsrc (by simp; omega) (by show 2 < 3; decide)) (by simp; omega) fun ns' h1 h2 => ?_)) q
    refine rising_eq h1 (srt_rising ?_) fun k => by rw [h2, srt_mem]
    rw [List.nodup_append]
    exact ⟨nd, by simp, fun a ha c hc e => hb (by simp at hc; rw [← hc, ← e]; exact ha)⟩
end
end K52
set_option maxHeartbeats 4000000
/-! Links, rows, webs. -/
namespace K52
open PySem PySem.Spec PyProof.Rows L2
def linkB (n a b : Int) : Bool := (decide (0 ≤ a) && decide (a < n)) && ((decide (0 ≤ b) && decide (b < n)) && !decide (a = b))
def RLink (K : PySem.W.Frag) : List V → Hp → (V → Hp → Prop) → Prop := fun vs H P => ∃ v n a b, vs = [.int n, v] ∧ Is K H v (tI [a, b]) ∧ P = PV (.bl (linkB n a b))
def RBeside (K : PySem.W.Frag) : List V → Hp → (V → Hp → Prop) → Prop := fun vs H P => ∃ v L, ∃ n : Nat, vs = [.int n, v] ∧ Is K H v (.tup (L.map prD)) ∧ n ≤ 40 ∧ L.length ≤ 60 ∧ CanonL n L ∧ P = PD K (.tup ((rowsC n L).map tI))
def RWeb (K : PySem.W.Frag) : List V → Hp → (V → Hp → Prop) → Prop := fun vs H P => ∃ v n L, vs = [v] ∧ Is K H v (webD n L) ∧ 1 ≤ n ∧ n ≤ 40 ∧ L.length ≤ 60 ∧ GoodL n L ∧
  P = fun v' H' => ∃ L', PD K (webD n L') v' H' ∧ (CanonL n L' ∧ L'.length ≤ L.length ∧ ∀ i j, adj L' i j = adj L i j)
def RNei (K : PySem.W.Frag) : List V → Hp → (V → Hp → Prop) → Prop := fun vs H P => ∃ v L, ∃ n : Nat, vs = [v] ∧ Is K H v (webD n L) ∧ 1 ≤ n ∧ n ≤ 40 ∧ L.length ≤ 60 ∧ GoodL n L ∧ P = PD K (.tup ((rowsC n L).map tI))
section
variable {P : Program} {w : World} {K : PySem.W.Frag} {mg : Str → Option Value} {base : Heap}
def belowV (n : Int) : V → V
  | .int k => .bl (decide (0 ≤ k) && decide (k < n))
  | _ => .non
abbrev N_is_link : List Str := ["many", "value", "block"]
theorem sc_is_link : FnScope N_is_link ["many", "value"] (defScope (top 20)) := ⟨rfl, rfl, rfl, by decide +kernel, rfl, by decide +kernel, by decide +kernel⟩
theorem ok_is_link (d : DefAt K mg "is_link" 20) (T : Tx mg) (c_is_pair : Cal P w K mg base "is_pair" 2 ["value"] (spP (RPair K))) (c_is_below : Cal P w K mg base "is_below" 3 ["value", "many"] (spP RBelow)) : Cal P w K mg base "is_link" 4 ["many", "value"] (spP (RLink K)) := by
  obtain ⟨f, fd, g, F⟩ := d
  refine ⟨f, fd, g, F.kp, F.binds fun _ _ _ _ _ _ us hl => match us, hl with | [_, _], _ => rfl, F.okX sc_is_link (fun vs H Q E h => ?_) (fun cdv A outer s H vs Q E hr h => ?_)⟩
  · obtain ⟨_, ⟨v, n, a, b, rfl, _⟩, _⟩ := h; rfl
  · obtain ⟨_, ⟨v, n, a, b, rfl, hv, rfl⟩, q⟩ := h
    refine ⟨_, 
        (pss_one (ps_ret (pe_and (pe_cal c_is_pair (hr.mono (by decide)) (pa_cons (pv 1) pa_nil)) (pe_and (pe_callB (cr_all rfl) rfl T.all boot_all' (pa_cons (pe_lc (own := [("block", 2)]) (g := gName 2) (tt := tYes) rfl sc_is_link.nd (pi_tup (pv 1)) (blkOk_by (N := N_is_link) (sc := defScope (top 20)) (by decide +kernel)) (fun _ _ _ _ _ => (pg_name (i := 2) sc_is_link.nd rfl (Or.inl rfl))) (fun _ _ _ _ _ => pts_nil) (fun _ _ _ _ _ => (pe_cal c_is_below (hr.mono (by decide)) (pa_cons (pv 2) (pa_cons (pv 0) pa_nil))))) pa_nil)) (pe_one (pe_cmpR op_ne (pe_ix ix_tup (pv 1) pe_int (fun _ _ => rfl)) (pe_ix ix_tup (pv 1) pe_int (fun _ _ => rfl)) (nomark _))))))), ?_⟩
    have g1 : Gv (tVar 1) (start N_is_link [.int n, v]) H (PD K (tI [a, b])) := gv_d rfl hv
    have bl : Gv (tCB (rAll K) (tCons (tLc (iTup K (tVar 1)) (gName 2) tYes (tCall (spP RBelow) [] E0 (tCons (tVar 2) (tCons (tVar 0) tNil))) [2]) tNil)) (start N_is_link [.int n, v]) H (PV (.bl ([decide (0 ≤ a) && decide (a < n), decide (0 ≤ b) && decide (b < n)].all id))) := by
      refine gv_all (gv_lcTV (xs := [.int a, .int b]) (f := belowV n) (g1.imp fun v' H' h => h.ints) (by show 2 ≤ 100000; decide) fun H' s x hx => ?_)
      obtain ⟨k, rfl⟩ : ∃ k, x = V.int k := by
        rcases List.mem_cons.mp hx with e | hx
        · exact ⟨a, e⟩
        · exact ⟨b, by simpa using hx⟩
      refine gv_call (ga_two (gv_v (v := .int k) rfl) up_V (gv_v (v := .int n) rfl) up_V) fun vs H2 s2 p => ?_
      cases p with
      | cons e p => cases p with
        | cons e' p => cases p; cases e; cases e'; exact ⟨k, n, rfl, rfl⟩
    refine Gv.run ((gv_andV (b1 := true) (gv_call (ga_one g1 up_D) fun vs H' s p => ?_) fun _ => gv_andV bl fun _ => gv_ne (x := .int a) (y := .int b) (gv_ixT (d := .num a) (ds := [.num a, .num b]) g1 gv_c rfl).int (gv_ixT (d := .num b) (ds := [.num a, .num b]) g1 gv_c rfl).int rfl).imp fun v' H' e => ?_) q
    · cases p with
      | cons e p => cases p; exact ⟨_, _, rfl, e, rfl⟩
    · rw [e]
      have : decide (V.int a = V.int b) = decide (a = b) := by
        by_cases h : a = b
        · subst h; simp
        · have : ¬ V.int a = V.int b := fun z => h (V.int.inj z)
          simp [h, this]
      rw [this]
      unfold linkB
      simp [List.all_cons, Bool.and_assoc]

/-- the lists of the rows -/
def RowsAt (H : Hp) (R : Addr) (as : List Addr) (f : Int → List Int) : Prop := H R = some (.lst (as.map V.ref)) ∧ as.Nodup ∧ R ∉ as ∧ ∀ (i : Nat) a, as[i]? = some a → H a = some (.lst ((f (i : Int)).map V.int))
theorem RowsAt.app {H : Hp} {R : Addr} {as : List Addr} {f : Int → List Int} (h : RowsAt H R as f) {i : Nat} {a : Addr} {x : Int} (ha : as[i]? = some a) : RowsAt (upd H a (.lst ((f i).map V.int ++ [V.int x]))) R as fun k => if k = (i : Int) then f k ++ [x] else f k := by
  obtain ⟨h1, h2, h3, h4⟩ := h
  refine ⟨?_, h2, h3, fun k b hb => ?_⟩
  · rw [upd_ne (fun e => h3 (by rw [e]; exact List.mem_of_getElem? ha))]; exact h1
  · by_cases e : k = i
    · subst e
      rw [ha] at hb; cases hb
      rw [upd_same]
      dsimp only
      rw [if_pos rfl, List.map_append]; rfl
    · have hne : b ≠ a := fun z => by
        subst z
        exact e ((List.getElem?_inj (List.getElem?_eq_some_iff.mp hb).1 h2).mp (hb.trans ha.symm))
      rw [upd_ne hne]
      dsimp only
      rw [if_neg (by omega)]
      exact h4 k b hb
theorem RowsAt.same {H H' : Hp} {R : Addr} {as : List Addr} {f : Int → List Int} (s : Same H H') (h : RowsAt H R as f) : RowsAt H' R as f := ⟨s _ _ h.1, h.2.1, h.2.2.1, fun i a e => s _ _ (h.2.2.2 i a e)⟩
abbrev N_beside_rows : List Str := ["many", "links", "rows", "thing", "one", "other", "row"]
theorem sc_beside_rows : FnScope N_beside_rows ["many", "links"] (defScope (top 16)) := ⟨rfl, rfl, rfl, by decide +kernel, rfl, by decide +kernel, by decide +kernel⟩
theorem ok_beside_rows (d : DefAt K mg "beside_rows" 16) (T : Tx mg) : Cal P w K mg base "beside_rows" 1 ["many", "links"] (spP (RBeside K)) := by
  obtain ⟨f, fd, g, F⟩ := d
  refine ⟨f, fd, g, F.kp, F.binds fun _ _ _ _ _ _ us hl => match us, hl with | [_, _], _ => rfl, F.okX sc_beside_rows (fun vs H Q E h => ?_) (fun cdv A outer s H vs Q E hr h => ?_)⟩
  · obtain ⟨_, ⟨v, L, n, rfl, _⟩, _⟩ := h; rfl
  · obtain ⟨_, ⟨v, L, n, rfl, hv, hn, hL, hC, rfl⟩, q⟩ := h
    refine ⟨_, 
        (pss_cons (ps_setLc (i := 2) (own := [("thing", 3)]) (g := gName 3) (tt := tYes) rfl sc_beside_rows.nd rfl rfl (sw_true rfl rfl rfl (by decide +kernel)) (pi_range1 rfl T.range (pa_cons (pv 0) pa_nil)) (blkOk_by (N := N_beside_rows) (sc := defScope (top 16)) (by decide +kernel)) (fun _ _ _ _ _ => (pg_name (i := 3) sc_beside_rows.nd rfl (Or.inl rfl))) (fun _ _ _ _ _ => pts_nil) (fun _ _ _ _ _ => (pe_lst pa_nil))) 
        (pss_cons (ps_for (passes_of rfl) rfl (pi_tup (pv 1)) (pg_tup rfl (pgs_cons (pg_name (i := 4) sc_beside_rows.nd rfl (Or.inl rfl)) (pgs_cons (pg_name (i := 5) sc_beside_rows.nd rfl (Or.inl rfl)) pgs_nil))) 
          (pss_cons (ps_expr (pe_bm PySem.F.plainAttrs_list PySem.F.slot_list_append PySem.F.type_list_append mt_append (pe_ix ix_list (pv 2) (pv 4) (fun _ _ => rfl)) (pa_cons (pv 5) pa_nil))) 
          (pss_one (ps_expr (pe_bm PySem.F.plainAttrs_list PySem.F.slot_list_append PySem.F.type_list_append mt_append (pe_ix ix_list (pv 2) (pv 5) (fun _ _ => rfl)) (pa_cons (pv 4) pa_nil)))))) 
        (pss_one (ps_ret (pe_callTy cr_tupOf rfl T.tuple boot_tuple' (pa_cons (pe_lc (own := [("row", 6)]) (g := gName 6) (tt := tYes) rfl sc_beside_rows.nd (pi_list (pv 2)) (blkOk_by (N := N_beside_rows) (sc := defScope (top 16)) (by decide +kernel)) (fun _ _ _ _ _ => (pg_name (i := 6) sc_beside_rows.nd rfl (Or.inl rfl))) (fun _ _ _ _ _ => pts_nil) (fun _ _ _ _ _ => (pe_callTy (crK (r := rTupOf) cr_tupOf) rfl T.tuple boot_tuple' (pa_cons (pe_callB (crK (r := rSortedI) cr_sortedI) rfl T.sorted boot_sorted' (pa_cons (pv 6) pa_nil)) pa_nil)))) pa_nil)))))), ?_⟩
    -- rows = [[] ..]
    refine seq_in (asg_in (lc_in ?_))
    refine wi_rng1 (ga_one (gv_v (σ := start N_beside_rows [.int (n : Int), v]) (i := 0) (v := .int (n : Int)) rfl) up_V) (by omega) (by omega) H (Same.refl H) _ fun H1 s1 => ?_
    intro R hR
    refine lc_range (lo := 0) (n := ((n : Nat) : Int).toNat) (fun j Hc => Same H1 Hc ∧ ∃ as, RowsAt Hc R as (fun _ => []) ∧ as.length = j ∧ ∀ a ∈ as, H1 a = none) ⟨Same.new hR, [], ⟨upd_same, List.nodup_nil, by simp, fun i a e => by simp at e⟩, rfl, fun _ h => by cases h⟩ (fun j Hc hj p => ?_) fun Hc p => ?_
    · obtain ⟨s2, as, hA, hl, ha⟩ := p
      refine ⟨wipe1, ?_⟩
      unfold tYes
      simp only [if_true]
      refine lst_run fun a hna => ?_
      obtain ⟨h1, h2, h3, h4⟩ := id hA
      have nR : R ≠ a := ne_of_none h1 hna
      have nas : a ∉ as := fun hm => by
        obtain ⟨i, hi⟩ := List.mem_iff_getElem?.mp hm
        rw [h4 i a hi] at hna; cases hna
      refine ⟨as.map V.ref, by rw [upd_ne nR]; exact h1, by rw [List.length_map, sizeLine_eq]; omega, ?_⟩
      refine ⟨same_wr (same_wr s2 (same_none s2 hna)) hR, as ++ [a], ⟨?_, ?_, ?_, fun i b hb => ?_⟩, by simp [hl], fun b hb => ?_⟩
      · rw [upd_same, List.map_append]; rfl
      · rw [List.nodup_append]; exact ⟨h2, by simp, fun x hx y hy e => by simp at hy; subst hy; subst e; exact nas hx⟩
      · simp [h3, nR]
      · rcases Nat.lt_or_ge i as.length with hlt | hge
        · rw [List.getElem?_append_left hlt] at hb
          have hba : b ≠ a := fun z => nas (by rw [← z]; exact List.mem_of_getElem? hb)
          have hbR : b ≠ R := fun z => h3 (by rw [← z]; exact List.mem_of_getElem? hb)
          rw [upd_ne hbR, upd_ne hba]; exact h4 i b hb
        · rw [List.getElem?_append_right hge] at hb
          have : b = a := by
            cases e : i - as.length with
            | zero => rw [e] at hb; simpa using hb.symm
            | succ k => rw [e] at hb; simp at hb
          subst this
          rw [upd_ne (Ne.symm nR), upd_same]; rfl
      · rcases List.mem_append.mp hb with hb | hb
        · exact ha b hb
        · have : b = a := by simpa using hb
          subst this; exact same_none s2 hna
    obtain ⟨s2, as, hA, hl, ha⟩ := p
    have hl : as.length = n := by omega
    have fre : ∀ a ∈ as, H a = none := fun a hm => same_none s1 (ha a hm)
    have freR : H R = none := same_none s1 hR
    have s3 : Same H Hc := s1.trans s2
    obtain ⟨lv, xs, rfl, ht, hi⟩ := hv.tup_inv
    -- the links
    refine ⟨_, rfl, lv, rfl, ⟨_, (ht.mono (.of s3)).seq⟩, for_tup (K := K) (a := lv) (xs := xs) (fun j σ H' => (∃ x1 x2 x3 x4, σ = [some (.int (n : Int)), some (.ref lv), some (.ref R), x1, x2, x3, x4]) ∧ Same H H' ∧ RowsAt H' R as (nb (L.take j)))
      ⟨⟨none, none, none, none, rfl⟩, s3, hA⟩ (fun j σ H' _ p => (ht.mono (.of p.2.1)).seq) (fun j x σ H' hx p => ?_) fun σ H' p => ?_⟩
    · obtain ⟨⟨x1, x2, x3, x4, rfl⟩, s4, hA⟩ := p
      obtain ⟨dd, hd, hxd⟩ := hi.get hx
      rw [List.getElem?_map] at hd
      obtain ⟨p, hp, rfl⟩ := Option.map_eq_some_iff.mp hd
      obtain ⟨pa, rfl, hpt⟩ := (show Is K H x (tI [p.1, p.2]) from hxd).ints
      have good := hC.good p (List.mem_of_getElem? hp)
      refine gtup2 (hpt.mono (.of s4)) ?_
      obtain ⟨i, hi1⟩ : ∃ i : Nat, p.1 = i := ⟨p.1.toNat, by omega⟩
      obtain ⟨k, hk1⟩ : ∃ k : Nat, p.2 = k := ⟨p.2.toNat, by omega⟩
      have hin : i < as.length := by omega
      have hkn : k < as.length := by omega
      have hne : i ≠ k := by omega
      obtain ⟨a, hai⟩ : ∃ a, as[i]? = some a := ⟨_, List.getElem?_eq_getElem hin⟩
      obtain ⟨b, hbk⟩ : ∃ b, as[k]? = some b := ⟨_, List.getElem?_eq_getElem hkn⟩
      have ixg : ∀ (σ : L2.St) (H5 : Hp) (m z : Nat) (c : Addr), σ[2]? = some (some (.ref R)) → σ[z]? = some (some (V.int (m : Int))) → RowsAt H5 R as (nb (L.take j)) ∨ (∃ f, RowsAt H5 R as f) → as[m]? = some c → Gv (tOp (rIxL K) (tVar 2) (tVar z)) σ H5 (PV (.ref c)) := fun σ H5 m z c e1 e2 hR5 hc => by
        have hR6 : ∃ f, RowsAt H5 R as f := hR5.elim (fun h => ⟨_, h⟩) id
        obtain ⟨f, hf⟩ := hR6
        intro H6 s6 Q q
        refine ⟨_, e1, _, e2, R, as.map V.ref, m, .ref c, rfl, rfl, SqL.of (s6 _ _ hf.1), ?_, q _ H6 (Same.refl _) rfl⟩
        exact atI_nat (by rw [List.getElem?_map, hc]; rfl)
      refine app_run (l := a) (ixg _ _ i 4 a rfl (by rw [← hi1]; rfl) (.inl hA) hai) (hA.2.2.2 i a hai) (gv_v (v := .int p.2) rfl) ?_ fun y H5 s5 ey => ?_
      · rw [List.length_map]
        refine Nat.le_trans (?_ : _ ≤ 2 * (L.take j).length) (by rw [List.length_take]; omega)
        generalize L.take j = M
        induction M with
        | nil => exact Nat.le_refl _
        | cons p' M ih =>
          have e : nb (p' :: M) i = piece p' i ++ nb M i := rfl
          have e2 : (piece p' i).length ≤ 2 := by unfold piece; split <;> split <;> simp
          rw [e, List.length_append, List.length_cons]; omega
      have ey : y = .int p.2 := ey
      subst ey
      have hA2 := (hA.same s5).app (x := p.2) hai
      refine app_run (l := b) (ixg _ _ k 5 b rfl (by rw [← hk1]; rfl) (.inr ⟨_, hA2⟩) hbk) (hA2.2.2.2 k b hbk) (gv_v (v := .int p.1) rfl) ?_ fun y H6 s6 ey => ?_
      · rw [List.length_map]
        dsimp only
        rw [if_neg (by omega)]
        refine Nat.le_trans (?_ : _ ≤ 2 * (L.take j).length) (by rw [List.length_take]; omega)
        generalize L.take j = M
        induction M with
        | nil => exact Nat.le_refl _
        | cons p' M ih =>
          have e : nb (p' :: M) k = piece p' k ++ nb M k := rfl
          have e2 : (piece p' k).length ≤ 2 := by unfold piece; split <;> split <;> simp
          rw [e, List.length_append, List.length_cons]; omega
      have ey : y = .int p.1 := ey
      subst ey
      have hA3 := (hA2.same s6).app (x := p.1) hbk
      refine ⟨⟨_, _, _, _, rfl⟩, same_wr (Same.trans (same_wr (Same.trans s4 s5) (fre a (List.mem_of_getElem? hai))) s6) (fre b (List.mem_of_getElem? hbk)), ?_⟩
      have ef : nb (L.take (j + 1)) = fun z => if z = (k : Int) then (if z = (i : Int) then nb (L.take j) z ++ [p.2] else nb (L.take j) z) ++ [p.1] else (if z = (i : Int) then nb (L.take j) z ++ [p.2] else nb (L.take j) z) := by
        funext z
        rw [take_succ hp, nb_snoc]
        unfold piece
        by_cases z1 : z = (k : Int)
        · have z2 : ¬ z = (i : Int) := by omega
          rw [if_pos z1, if_neg z2, if_neg (by omega), if_pos (by omega)]; rfl
        · rw [if_neg z1]
          by_cases z2 : z = (i : Int)
          · rw [if_pos z2, if_pos (by omega), if_neg (by omega), List.append_nil]
          · rw [if_neg z2, if_neg (by omega), if_neg (by omega)]; simp
      rw [ef]
      exact hA3
    · obtain ⟨⟨x1, x2, x3, x4, rfl⟩, s4, hA⟩ := p
      have hxl : xs.length = L.length := by rw [hi.length, List.length_map]
      rw [hxl, List.take_length] at hA
      -- the rows sorted
      have body : Gv (tLc (iList K (tVar 2)) (gName 6) tYes (tCB (rTupOf K) (tCons (tCB (rSortedI K) (tCons (tVar 6) tNil)) tNil)) [6]) [some (.int (n : Int)), some (.ref lv), some (.ref R), x1, x2, x3, x4] H' (PL K ((rowsC n L).map tI)) := by
        intro H5 s5 Q q
        refine ⟨_, rfl, R, rfl, ⟨_, SqL.of (s5 _ _ hA.1)⟩, fun Dd hD => ?_⟩
        have hA5 := hA.same s5
        refine lc_list (K := K) (a := R) (xs := as.map V.ref) (fun j Hc => Same H5 Hc ∧ ∃ acc, Hc Dd = some (.lst acc) ∧ IsAll K Hc acc (((rowsC n L).take j).map tI)) ⟨Same.new hD, [], upd_same, .nil⟩ (fun j Hc _ p => SqL.of (p.1 _ _ hA5.1)) (fun j x Hc hx p => ?_) fun Hc p => ?_
        · obtain ⟨s6, acc, hacc, hia⟩ := p
          rw [List.getElem?_map] at hx
          obtain ⟨a, haj, rfl⟩ := Option.map_eq_some_iff.mp hx
          have hjl : j < as.length := (List.getElem?_eq_some_iff.mp haj).1
          refine ⟨wipe1, ?_⟩
          rw [wipe_set]
          unfold tYes
          simp only [if_true]
          have ha6 : Hc a = some (.lst ((nb L j).map V.int)) := s6 _ _ (hA5.2.2.2 j a haj)
          have hgl : Gv (tVar 6) (List.set [some (.int (n : Int)), some (.ref lv), some (.ref R), x1, x2, x3, x4] 6 (some (V.ref a))) Hc (PLi (nb L j)) := gv_var (v := .ref a) rfl ⟨a, rfl, ha6⟩ up_Li
          refine (gv_tupLi (gv_sortedI (ms := srt (nb L j)) hgl fun ns' h1 h2 => srt_of h1 h2)).run fun y H7 s7 py => ?_
          have e7 := s7 _ _ hacc
          have t7 : TS H7 (upd H7 Dd (.lst (acc ++ [y]))) := TS.lst e7
          have hjn : j < n := by omega
          refine ⟨acc, e7, by rw [hia.length, List.length_map, List.length_take, rowsC_len, sizeLine_eq]; omega, same_wr (Same.trans s6 s7) hD, _, upd_same, ?_⟩
          rw [take_succ (rowsC_get (L := L) hjn), List.map_append]
          rw [nb_srt hC] at py
          exact ((hia.mono (.of s7)).mono t7).append (.cons (py.mono t7) .nil)
        · obtain ⟨s6, acc, hacc, hia⟩ := p
          rw [List.length_map, List.take_of_length_le (by rw [rowsC_len]; omega)] at hia
          exact q _ Hc s6 ⟨Dd, acc, rfl, hacc, hia⟩
      exact Gv.run (gv_tupL body) fun v H7 s7 hv7 => q v H7 (s4.trans s7) hv7
end
end K52
set_option maxHeartbeats 4000000
/-! Webs. -/
namespace K52
open PySem PySem.Spec PyProof.Rows L2
section
variable {P : Program} {w : World} {K : PySem.W.Frag} {mg : Str → Option Value} {base : Heap}
abbrev N_need_web : List Str := ["value", "many", "links", "at", "link"]
theorem sc_need_web : FnScope N_need_web ["value"] (defScope (top 21)) := ⟨rfl, rfl, rfl, by decide +kernel, rfl, by decide +kernel, by decide +kernel⟩
theorem linkB_good {n : Int} {p : Int × Int} (h : (0 ≤ p.1 ∧ p.1 < n) ∧ (0 ≤ p.2 ∧ p.2 < n) ∧ p.1 ≠ p.2) : linkB n p.1 p.2 = true := by
  unfold linkB
  simp [h.1.1, h.1.2, h.2.1.1, h.2.1.2, h.2.2]
theorem ok_need_web (d : DefAt K mg "need_web" 21) (T : Tx mg) (C : Co K mg) (c_is_pair : Cal P w K mg base "is_pair" 2 ["value"] (spP (RPair K))) (c_is_number : Cal P w K mg base "is_number" 2 ["value"] (spP RNum)) (c_is_sequence : Cal P w K mg base "is_sequence" 1 ["value"] (spP (RTy K fun t => t == "list" || t == "tuple")))
    (c_is_link : Cal P w K mg base "is_link" 4 ["many", "value"] (spP (RLink K))) (c_ordered_pair : Cal P w K mg base "ordered_pair" 1 ["one", "other"] (spP (ROrd K))) : Cal P w K mg base "need_web" 5 ["value"] (spP (RWeb K)) := by
  obtain ⟨t40, e40⟩ := C.blocks
  obtain ⟨f, fd, g, F⟩ := d
  refine ⟨f, fd, g, F.kp, F.binds fun _ _ _ _ _ _ us hl => match us, hl with | [_], _ => rfl, F.okX sc_need_web (fun vs H Q E h => ?_) (fun cdv A outer s H vs Q E hr h => ?_)⟩
  · obtain ⟨_, ⟨v, n, L, rfl, _⟩, _⟩ := h; rfl
  · obtain ⟨_, ⟨v, n, L, rfl, hv, h1, h40, hL, hG, rfl⟩, q⟩ := h
    have hu := hr.units
    refine ⟨_, 
        (pss_cons (ps_if (PW.pt (pw_or (pt_not (pt_val (pe_cal c_is_pair (hr.mono (by decide)) (pa_cons (pv 0) pa_nil)))) (pw_or (pt_not (pt_val (pe_cal c_is_number (hr.mono (by decide)) (pa_cons (pe_ix ix_tup (pv 0) pe_int (fun _ _ => rfl)) pa_nil)))) (pw_or (pt_not (pt_chain op_le op_le pe_int (pe_ix ix_tup (pv 0) pe_int (fun _ _ => rfl)) (pe_glob (v := .int 40) rfl e40 ⟨_, rfl⟩))) (pw_or1 (pt_not (pt_val (pe_cal c_is_sequence (hr.mono (by decide)) (pa_cons (pe_ix ix_tup (pv 0) pe_int (fun _ _ => rfl)) pa_nil))))))))) 
          (pss_one ps_never) pss_nil) 
        (pss_cons (ps_par (i := 1) (j := 2) rfl sc_need_web.nd rfl rfl (by decide) rfl rfl (pa_cons (pe_ix ix_tup (pv 0) pe_int (fun _ _ => rfl)) (pa_cons (pe_ix ix_tup (pv 0) pe_int (fun _ _ => rfl)) pa_nil)) (by rfl)) 
        (pss_cons (ps_for (passes_of rfl) rfl (pi_enumT rfl T.enumerate (pa_cons (pv 2) pa_nil)) (pg_tup rfl (pgs_cons (pg_name (i := 3) sc_need_web.nd rfl (Or.inl rfl)) (pgs_cons (pg_name (i := 4) sc_need_web.nd rfl (Or.inl rfl)) pgs_nil))) 
          (pss_one (ps_if (pt_not (pt_val (pe_cal c_is_link (hr.mono (by decide)) (pa_cons (pv 1) (pa_cons (pv 4) pa_nil))))) 
            (pss_one ps_never) pss_nil))) 
        (pss_one (ps_ret (pe_tup (pa_cons (pv 1) (pa_cons (pe_callTy cr_tupOf rfl T.tuple boot_tuple' (pa_cons (pe_callB (cr_sortedT rfl) rfl T.sorted boot_sorted' (pa_cons (pe_setT (own := [("link", 4)]) (g := gName 4) (tt := tYes) hu rfl sc_need_web.nd (pi_tup (pv 2)) (blkOk_by (N := N_need_web) (sc := defScope (top 21)) (by decide +kernel)) (fun _ _ _ _ _ => (pg_name (i := 4) sc_need_web.nd rfl (Or.inl rfl))) (fun _ _ _ _ _ => pts_nil) (fun _ _ _ _ _ => (pe_cal c_ordered_pair (hr.mono (by decide)) (pa_cons (pe_ix (ixK (r := rIxT) ix_tup) (pv 4) pe_int (fun _ _ => rfl)) (pa_cons (pe_ix (ixK (r := rIxT) ix_tup) (pv 4) pe_int (fun _ _ => rfl)) pa_nil))))) pa_nil)) pa_nil)) pa_nil)))))))), ?_⟩
    have g0 : ∀ {σ : L2.St} {H' : Hp}, σ[0]? = some (some v) → Same H H' → Gv (tVar 0) σ H' (PD K (webD n L)) := fun e s => gv_d e (hv.mono (.of s))
    have ix0 : ∀ {σ : L2.St} {H' : Hp}, σ[0]? = some (some v) → Same H H' → Gv (tOp (rIxT K) (tVar 0) (tC (.int 0))) σ H' (PV (.int n)) := fun e s => (gv_ixT (d := .num n) (g0 e s) gv_c rfl).int
    have ix1 : ∀ {σ : L2.St} {H' : Hp}, σ[0]? = some (some v) → Same H H' → Gv (tOp (rIxT K) (tVar 0) (tC (.int 1))) σ H' (PD K (.tup (L.map prD))) := fun e s => gv_ixT (d := .tup (L.map prD)) (g0 e s) gv_c rfl
    refine Gt.run ((gt_or (gt_not (gt_val (gv_call (P := PV (.bl true)) (ga_one (g0 rfl (Same.refl _)) up_D) fun vs H' s p => ?_))) fun _ => gt_or (gt_not (gt_val (gv_call (P := PV (.bl (decide (0 ≤ n)))) (ga_one (ix0 rfl (Same.refl _)) up_V) fun vs H' s p => ?_))) fun _ =>
      gt_or (gt_not (gt_chainI gv_c (ix0 rfl (Same.refl _)) gv_c)) fun _ => gt_not (gt_val (gv_call (P := PV (.bl true)) (ga_one (ix1 rfl (Same.refl _)) up_D) fun vs H' s p => ?_))).cast (b' := false) ?_) fun H1 s1 => ?_
    · cases p with
      | cons e p => cases p; exact ⟨_, _, rfl, e, rfl⟩
    · cases p with
      | cons e p => cases p; cases e; exact ⟨n, rfl, rfl⟩
    · cases p with
      | cons e p => cases p; exact ⟨_, _, rfl, .data e, rfl⟩
    · have : 0 ≤ n := by omega
      simp [this, h1, h40]
    rw [if_neg (by decide)]
    -- many, links = ..
    refine seq_in (par_run (ix0 rfl s1) up_V (ix1 rfl s1) fun x y H2 s2 ex ey => ?_)
    have ex : x = .int n := ex
    subst ex
    have s02 := s1.trans s2
    obtain ⟨la, xs, rfl, ht, hi⟩ := ey.tup_inv
    have hxl : xs.length = L.length := by rw [hi.length, List.length_map]
    -- each is a link
    refine seq_in ⟨_, rfl, la, xs, rfl, ht.seq, for_it walk_enumT (fun j σ H' => (∃ x1 x2, σ = [some v, some (.int n), some (.ref la), x1, x2]) ∧ Same H2 H') ⟨⟨none, none, rfl⟩, Same.refl _⟩ (fun j σ H' _ p => (ht.mono (.of p.2)).seq) (fun j x σ H' H'' hj p y => ?_) fun σ H' p => ?_⟩
    · obtain ⟨⟨x1, x2, rfl⟩, s3⟩ := p
      obtain ⟨T', x, y, rfl, hT, rfl, ex, ey⟩ := y
      cases ex
      have sT : Same H' (upd H' T' (.tup [.int (j : Int), y])) := Same.new hT
      refine gtup2 (.inl upd_same) ?_
      obtain ⟨dd, hd, hxd⟩ := hi.get ey
      rw [List.getElem?_map] at hd
      obtain ⟨p, hp, rfl⟩ := Option.map_eq_some_iff.mp hd
      have hy : Is K (upd H' T' (.tup [.int (j : Int), y])) y (tI [p.1, p.2]) := hxd.mono (.of (s3.trans sT))
      refine Gt.run ((gt_not (gt_val (gv_call (P := PV (.bl true)) (ga_two (gv_v (v := .int n) rfl) up_V (gv_d (v := y) (d := tI [p.1, p.2]) rfl hy) up_D) fun vs H3 s4 pp => ?_))).cast (b' := false) rfl) fun H3 s4 => ?_
      · cases pp with
        | cons e pp => cases pp with
          | cons e' pp =>
            cases pp; cases e
            exact ⟨_, n, p.1, p.2, rfl, e', by rw [linkB_good (hG p (List.mem_of_getElem? hp))]⟩
      · rw [if_neg (by decide)]
        exact ⟨⟨_, _, rfl⟩, (s3.trans sT).trans s4⟩
    · obtain ⟨⟨x1, x2, rfl⟩, s3⟩ := p
      have s03 := s02.trans s3
      have gl : Gv (tVar 2) [some v, some (.int n), some (.ref la), x1, x2] H' (PD K (.tup (L.map prD))) := gv_d rfl (ey.mono (.of s3))
      have hset := gv_setT (P := P) (w := w) (i := 4) (te := tCall (spP (ROrd K)) [] E0 (tCons (tOp (rIxT K) (tVar 4) (tC (.int 0))) (tCons (tOp (rIxT K) (tVar 4) (tC (.int 1))) tNil))) (g := ordK) gl (by rw [List.length_map]; exact hL) fun H4 s4 x dd hdd hx => by
        obtain ⟨p, hp, rfl⟩ := List.mem_map.mp hdd
        have gx : Gv (tVar 4) (List.set [some v, some (.int n), some (.ref la), x1, x2] 4 (some x)) H4 (PD K (tI [p.1, p.2])) := gv_d rfl hx
        refine gv_call (ga_two (gv_ixT (d := .num p.1) gx gv_c rfl).int up_V (gv_ixT (d := .num p.2) gx gv_c rfl).int up_V) fun vs H5 s5 pp => ?_
        cases pp with
        | cons e pp => cases pp with
          | cons e' pp => cases pp; cases e; cases e'; exact ⟨p.1, p.2, rfl, rfl⟩
      have hsort := gv_sortedT (B := 64) (d := 2) (Pk := fun ks => ∃ L', ks = L'.map (fun p => [p.1, p.2]) ∧ CanonL n L' ∧ L'.length ≤ L.length ∧ ∀ i j, adj L' i j = adj L i j) hset (by decide) (fun k hk => ?_) fun ks nd mem hl => canon_of hG nd mem (by rw [List.length_map] at hl; exact hl)
      · refine Gv.run (gv_tup2X (gv_v (v := .int n) rfl).num (gv_tupLX hsort)) fun x H5 s5 hx => ?_
        obtain ⟨ks, hx, L', rfl, hC, hl, had⟩ := hx
        refine q x H5 (s03.trans s5) ⟨L', ?_, hC, hl, had⟩
        have e : (L'.map fun p => [p.1, p.2]).map tI = L'.map prD := by rw [List.map_map]; rfl
        rw [e] at hx
        exact hx
      · obtain ⟨dd, hdd, rfl⟩ := List.mem_map.mp hk
        obtain ⟨p, hp, rfl⟩ := List.mem_map.mp hdd
        have := hG p hp
        refine ⟨rfl, fun m hm => ?_⟩
        rw [ordK_pr] at hm
        have hm : m = min p.1 p.2 ∨ m = max p.1 p.2 := by simpa [ordP] using hm
        omega
abbrev N_neighbours : List Str := ["web", "many", "links"]
theorem sc_neighbours : FnScope N_neighbours ["web"] (defScope (top 22)) := ⟨rfl, rfl, rfl, by decide +kernel, rfl, by decide +kernel, by decide +kernel⟩
theorem ok_neighbours (d : DefAt K mg "neighbours" 22) (c_need_web : Cal P w K mg base "need_web" 5 ["value"] (spP (RWeb K))) (c_beside_rows : Cal P w K mg base "beside_rows" 1 ["many", "links"] (spP (RBeside K))) : Cal P w K mg base "neighbours" 6 ["web"] (spP (RNei K)) := by
  obtain ⟨f, fd, g, F⟩ := d
  refine ⟨f, fd, g, F.kp, F.binds fun _ _ _ _ _ _ us hl => match us, hl with | [_], _ => rfl, F.okX sc_neighbours (fun vs H Q E h => ?_) (fun cdv A outer s H vs Q E hr h => ?_)⟩
  · obtain ⟨_, ⟨v, L, n, rfl, _⟩, _⟩ := h; rfl
  · obtain ⟨_, ⟨v, L, n, rfl, hv, h1, h40, hL, hG, rfl⟩, q⟩ := h
    refine ⟨_, 
        (pss_cons (ps_asg (pe_cal c_need_web (hr.mono (by decide)) (pa_cons (pv 0) pa_nil)) (pg_tup rfl (pgs_cons (pg_name (i := 1) sc_neighbours.nd rfl (Or.inl rfl)) (pgs_cons (pg_name (i := 2) sc_neighbours.nd rfl (Or.inl rfl)) pgs_nil)))) 
        (pss_one (ps_ret (pe_cal c_beside_rows (hr.mono (by decide)) (pa_cons (pv 1) (pa_cons (pv 2) pa_nil)))))), ?_⟩
    have hcall : Gv (tCall (spP (RWeb K)) [] E0 (tCons (tVar 0) tNil)) (start N_neighbours [v]) H (fun v' H' => ∃ L', PD K (webD n L') v' H' ∧ (CanonL n L' ∧ L'.length ≤ L.length ∧ ∀ i j, adj L' i j = adj L i j)) :=
      gv_call (ga_one (gv_d (v := v) rfl hv) up_D) fun vs H' s p => by
        cases p with
        | cons e p => cases p; exact ⟨_, n, L, rfl, e, by omega, by omega, hL, hG, rfl⟩
    refine seq_in (hcall.run fun x H1 s1 hx => ?_)
    obtain ⟨L', hx, hC, hl, had⟩ := hx
    obtain ⟨a, xs, rfl, ht, hi⟩ := hx.tup_inv
    cases hi with
    | cons h1' hi => cases hi with
      | cons h2' hi =>
        cases hi
        cases h1'
        refine gtup2 ht ?_
        have hcall2 := gv_call (R := RBeside K) (P := PD K (.tup ((rowsC n L').map tI))) (E := E0) (ga_two (gv_v (σ := [some v, some (.int (n : Int)), some _]) (i := 1) (H := H1) (v := .int (n : Int)) rfl) up_V (gv_d (i := 2) rfl h2') up_D) fun vs H' s p => by
          cases p with
          | cons e p => cases p with
            | cons e' p => cases p; cases e; exact ⟨_, L', n, rfl, e', h40, by omega, hC, rfl⟩
        refine hcall2.run fun v' H' s' hv' => q v' H' (s1.trans s') ?_
        rw [← rowsC_eq had]
        exact hv'
end
end K52
set_option maxHeartbeats 4000000
/-! Rules and runners. -/
namespace K52
open PySem PySem.Spec PyProof.Rows L2
def RRule : List V → Hp → (V → Hp → Prop) → Prop := fun vs _ P => ∃ (n : Int) (lru : Bool), vs = [.int n, .str (wordS lru)] ∧ 1 ≤ n ∧ n ≤ 5 ∧ P = PV (.str (wordS lru))
def RWord (K : PySem.W.Frag) : List V → Hp → (V → Hp → Prop) → Prop := fun vs H P => ∃ v lru st b isIn isFull, vs = [.str (wordS lru), v, .int b, .bl isIn, .bl isFull] ∧ Is K H v (tI st) ∧ st.length ≤ 60 ∧ (isFull = true → st ≠ []) ∧
  P = PD K (.tup [tI (wordStep lru st b isIn isFull).1, .num (wordStep lru st b isIn isFull).2])
def fol (rows : List (List Int)) (pl : Int) : List Int := if pl = -1 then upto rows.length else rows.getD pl.toNat []
def RFol (K : PySem.W.Frag) : List V → Hp → (V → Hp → Prop) → Prop := fun vs H P => ∃ v, ∃ rows : List (List Int), ∃ pl : Int, vs = [v, .int pl] ∧ Is K H v (.tup (rows.map tI)) ∧ rows.length ≤ 40 ∧ (pl = -1 ∨ (0 ≤ pl ∧ pl < (rows.length : Int))) ∧ P = PD K (tI (fol rows pl))
def mtD (m : Int × List Int × List Int) : D := .tup [.num m.1, tI m.2.1, tI m.2.2]
def RMates (K : PySem.W.Frag) : List V → Hp → (V → Hp → Prop) → Prop := fun vs H P => ∃ v ma b, ∃ R : Nat, vs = [.int (R : Int), v, .int b] ∧ Is K H v (tI ma) ∧ ma.Nodup ∧ ma.length ≤ 40 ∧ ∀ v' H', PLn K H ((mates R ma b).map mtD) v' H' → P v' H'
def RGain (K : PySem.W.Frag) : List V → Hp → (V → Hp → Prop) → Prop := fun vs H P => ∃ v, ∃ p : Stp, vs = [v, .int 1, .int 1] ∧ Is K H v (stD p) ∧ (p.mv = 0 ∨ p.mv = 1) ∧ (p.co = 0 ∨ p.co = 1) ∧ P = PV (.int p.gain)
def RTouch (K : PySem.W.Frag) : List V → Hp → (V → Hp → Prop) → Prop := fun vs H P => ∃ v, ∃ ps : List Stp, vs = [v] ∧ PL K (ps.map stD) v H ∧ ps.length ≤ 100000 ∧ P = PD K (tI (ps.map (·.b)))
/-! ### the runner -/
structure RC (K : PySem.W.Frag) (C : Addr) : Prop where
  cl : Cls K C
  n1 : NoAttr K C "rooms"
  n2 : NoAttr K C "rule"
  n3 : NoAttr K C "rows"
def RunAt (C : Addr) (H : Hp) (p : Addr) (own : Nat) (lru : Bool) : Prop := ∃ dx fs, H p = some (.ins C dx fs) ∧ fs.lookup ("rooms" : Str) = some (.int own) ∧ fs.lookup ("rule" : Str) = some (.str (wordS lru)) ∧ fs.lookup ("step" : Str) = none ∧ fs.lookup ("begin" : Str) = none
theorem RunAt.same {C : Addr} {H H' : Hp} {p : Addr} {own : Nat} {lru : Bool} (s : Same H H') (h : RunAt C H p own lru) : RunAt C H' p own lru := let ⟨dx, fs, e, r⟩ := h; ⟨dx, fs, s _ _ e, r⟩
def DefM (K : PySem.W.Frag) (C : Addr) (m q : Str) (st : Stmt) : Prop := ∃ f fd, Meth K C m f ∧ Fun K m q st f fd
def CalM (P : Program) (w : World) (K : PySem.W.Frag) (mg : Str → Option Value) (base : Heap) (C : Addr) (m : Str) (k : Nat) (ps : List Str) (sp : Sp) : Prop :=
  ∃ f fd, Meth K C m f ∧ Binds K fd ps [] ∧ FnOk P w K mg base (L2.CX P w) k f fd ps sp
def CalI (P : Program) (w : World) (K : PySem.W.Frag) (mg : Str → Option Value) (base : Heap) (C : Addr) (x : Str) (k : Nat) (ps : List Str) (sp : Sp) : Prop :=
  ∃ f fd, mg x = some (.ref C) ∧ Mk K C f ∧ Binds K fd ps [] ∧ FnOk P w K mg base (L2.CX P w) k f fd ps sp
section
variable {X : Cx} {k : Nat} {ps : List Str} {sp : Sp} {x m : Str} {C : Addr} {p pos apos : Pos} {o e : Expr} {es : List Expr} {ta : TE} {t : TA}
theorem pe_calI (c : CalI X.prog X.w X.K X.mg X.base C x k ps sp) (hr : Room (k + 1) X.A) (ha : PA X (e :: es) t) (hg : Gl X x := by rfl) (hdb : (x == ("__debug__" : Str)) = false := by decide)
    (he : starEach (e :: es) X.env = (false, eval e X.env) :: starEach es X.env := by rfl) (hpl : (backTo pos (starEach es X.env)).any (·.1) = false := by rfl) : PE X (.Call (.Name x p) (e :: es) [] pos) (tMake C sp [] E0 t) := by
  obtain ⟨f, fd, g, M, b, F⟩ := c
  exact pe_make M F hr hg g b .nil passL ha hdb he hpl
end
def RStepM (K : PySem.W.Frag) (C : Addr) : List V → Hp → (V → Hp → Prop) → Prop := fun vs H P => ∃ p v b st me pl own lru, vs = [.ref p, v, .int b] ∧ RunAt C H p own lru ∧ Is K H v (.tup [tI st, tI me, .num pl]) ∧ st.length ≤ 50 ∧ me.length ≤ 50 ∧ (b ∉ me → me.length = own → st ≠ []) ∧
  P = PD K (.tup [.num (ruleStep lru own st me b).1, .num (ruleStep lru own st me b).2.1, .tup [tI (ruleStep lru own st me b).2.2.1, tI (ruleStep lru own st me b).2.2.2, .num b]])
def RBegin (K : PySem.W.Frag) (C : Addr) : List V → Hp → (V → Hp → Prop) → Prop := fun vs H P => ∃ p own lru, vs = [.ref p] ∧ RunAt C H p own lru ∧ P = PD K (.tup [tI [], tI [], .num (-1)])
def spInit (C : Addr) : Sp := fun vs H Q _ => ∃ (p dx : Addr) (own : Nat) (lru : Bool), vs = [.ref p, .int (own : Int), .str (wordS lru)] ∧ H p = some (.ins C dx []) ∧ 1 ≤ own ∧ own ≤ 5 ∧ ∀ H', RunAt C H' p own lru → (∀ b o, H b = some o → b ≠ p → H' b = some o) → Q .non H'
section
variable {P : Program} {w : World} {K : PySem.W.Frag} {mg : Str → Option Value} {base : Heap} {C : Addr}
abbrev N_need_rule : List Str := ["rooms", "value", "rows", "at", "row"]
theorem sc_need_rule : FnScope N_need_rule ["rooms", "value"] (defScope (top 32)) := ⟨rfl, rfl, rfl, by decide +kernel, rfl, by decide +kernel, by decide +kernel⟩
theorem ok_need_rule (d : DefAt K mg "need_rule" 32) (T : Tx mg) (Cc : Co K mg) (c_need_rooms : Cal P w K mg base "need_rooms" 3 ["value"] (spP RRooms)) (c_is_string : Cal P w K mg base "is_string" 1 ["value"] (spP (RTy K fun t => t == "str"))) : Cal P w K mg base "need_rule" 4 ["rooms", "value"] (spP RRule) := by
  obtain ⟨aRW, oRW, itsRW, nRW, eRW, lRW, cRW, dRW, zRW, vRW⟩ := Cc.words
  obtain ⟨f, fd, g, F⟩ := d
  refine ⟨f, fd, g, F.kp, F.binds fun _ _ _ _ _ _ us hl => match us, hl with | [_, _], _ => rfl, F.okX sc_need_rule (fun vs H Q E h => ?_) (fun cdv A outer s H vs Q E hr h => ?_)⟩
  · obtain ⟨_, ⟨n, lru, rfl, _⟩, _⟩ := h; rfl
  · obtain ⟨_, ⟨n, lru, rfl, h1, h5, rfl⟩, q⟩ := h
    refine ⟨_, 
        (pss_cons (ps_set (i := 0) sc_need_rule.nd rfl (Or.inl rfl) (pe_cal c_need_rooms (hr.mono (by decide)) (pa_cons (pv 0) pa_nil))) 
        (pss_cons (ps_if (PW.pt (pw_and (pt_val (pe_cal c_is_string (hr.mono (by decide)) (pa_cons (pv 1) pa_nil))) (pw_and1 (pt_cmpR op_in_seq (pv 1) (pe_glob (v := .ref aRW) rfl eRW rfl) (by rfl))))) 
          (pss_one (ps_ret (pv 1))) pss_nil) 
        (pss_cons ps_never 
        (pss_cons ps_never 
        (pss_cons ps_never 
        (pss_one ps_never)))))), ?_⟩
    refine seq_in (asg_in (Gv.run (gv_call (P := PV (.int n)) (ga_one (gv_v (v := .int n) rfl) up_V) fun vs H' s p => ?_) fun x H1 s1 ex => ?_))
    · cases p with
      | cons e p => cases p; cases e; exact ⟨n, rfl, h1, h5, rfl⟩
    have ex : x = .int n := ex
    subst ex
    have gin : Gv (tOp (rIn K false) (tVar 1) (tC (.ref aRW))) [some (V.int n), some (.str (wordS lru)), none, none, none] H1 (PV (.bl true)) := gv_op (gv_v (v := .str (wordS lru)) rfl) gv_c up_V fun x y H' Q ex ey q => by
      have ex : x = .str (wordS lru) := ex
      have ey : y = .ref aRW := ey
      subst ex; subst ey
      refine ⟨aRW, [.str "last used", .str "first in"], rfl, .inr ((show TupAt K H' aRW _ from .inr ⟨oRW, itsRW, nRW, lRW, cRW, dRW, zRW, vRW⟩).seq), rfl, rfl, ?_⟩
      rw [word_in]
      exact q _ H' (Same.refl _) rfl
    refine Gt.run ((gt_and (b1 := true) (b2 := true) (gt_val (gv_call (ga_one (gv_v (v := .str (wordS lru)) rfl) up_V) fun vs H' s p => ?_)) fun _ => gt_test gin).cast (b' := true) rfl) fun H2 s2 => ?_
    · cases p with
      | cons e p => cases p; cases e; exact ⟨_, "str", rfl, .data (.text _), rfl⟩
    · rw [if_pos rfl]
      exact Gv.run (gv_v rfl) fun v H' s' e => q v H' ((s1.trans s2).trans s') e
abbrev N_word_step : List Str := ["word", "order", "block", "is_in", "is_full", "out", "one"]
theorem sc_word_step : FnScope N_word_step ["word", "order", "block", "is_in", "is_full"] (defScope (top 33)) := ⟨rfl, rfl, rfl, by decide +kernel, rfl, by decide +kernel, by decide +kernel⟩
theorem ok_word_step (d : DefAt K mg "word_step" 33) (T : Tx mg) : Cal P w K mg base "word_step" 1 ["word", "order", "block", "is_in", "is_full"] (spP (RWord K)) := by
  obtain ⟨f, fd, g, F⟩ := d
  refine ⟨f, fd, g, F.kp, F.binds fun _ _ _ _ _ _ us hl => match us, hl with | [_, _, _, _, _], _ => rfl, F.okX sc_word_step (fun vs H Q E h => ?_) (fun cdv A outer s H vs Q E hr h => ?_)⟩
  · obtain ⟨_, ⟨v, lru, st, b, isIn, isFull, rfl, _⟩, _⟩ := h; rfl
  · obtain ⟨_, ⟨v, lru, st, b, isIn, isFull, rfl, hv, hl, hf, rfl⟩, q⟩ := h
    refine ⟨_, 
        (pss_cons (ps_if (PW.pt (pw_and (pt_val (pv 3)) (pw_and1 (pt_cmpR op_eq (pv 0) pe_str (nomark _))))) 
          (pss_one (ps_ret (pe_tup (pa_cons (pv 1) (pa_cons (pe_un un_neg pe_int) pa_nil))))) pss_nil) 
        (pss_cons (ps_set (i := 5) sc_word_step.nd rfl (Or.inr rfl) (pe_ifExp (pt_val (pv 4)) (pe_ix ix_tup (pv 1) pe_int (fun _ _ => rfl)) (pe_un un_neg pe_int))) 
        (pss_one (ps_ret (pe_tup (pa_cons (pe_op op_catA (pe_callTy cr_tupOf rfl T.tuple boot_tuple' (pa_cons (pe_lc (own := [("one", 6)]) (g := gName 6) (tt := _) rfl sc_word_step.nd (pi_tup (pv 1)) (blkOk_by (N := N_word_step) (sc := defScope (top 33)) (by decide +kernel)) (fun _ _ _ _ _ => (pg_name (i := 6) sc_word_step.nd rfl (Or.inl rfl))) (fun _ _ _ _ _ => (pts_one (pt_cmpR (opK (r := fun K => rIn K true) op_notIn_seq) (pv 6) (pe_tup (pa_cons (pv 2) (pa_cons (pv 5) pa_nil))) (by rfl)))) (fun _ _ _ _ _ => (pv 6))) pa_nil)) (pe_tup (pa_cons (pv 2) pa_nil))) (pa_cons (pv 5) pa_nil))))))), ?_⟩
    refine Gt.run (gt_and (b1 := isIn) (gt_val (gv_v rfl)) fun _ => gt_test (gv_eq (x := .str (wordS lru)) (y := .str "first in") (gv_v rfl) gv_c rfl)) fun H1 s1 => ?_
    rw [word_first]
    cases hc : isIn && !lru with
    | true =>
      rw [if_pos rfl]
      refine Gv.run (gv_tup (gd_cons (gv_d (d := tI st) rfl (hv.mono (.of s1))) (gd_cons (gv_neg gv_c).num gd_nil))) fun v' H' s' h' => q v' H' (s1.trans s') ?_
      unfold wordStep
      rw [if_pos hc]
      exact h'
    | false =>
      rw [if_neg (by decide)]
      have gst : Gv (tVar 1) (start N_word_step [.str (wordS lru), v, .int b, .bl isIn, .bl isFull]) H1 (PD K (tI st)) := gv_d rfl (hv.mono (.of s1))
      refine seq_in (asg_in (Gv.run (gv_if (P := PV (.int (if isFull then st.headD (-1) else -1))) (gt_val (gv_v (v := .bl isFull) rfl)) (fun e => ?_) fun e => ?_) fun x H2 s2 ex => ?_))
      · cases st with
        | nil => exact absurd rfl (hf e)
        | cons a as =>
          rw [e]
          exact (gv_ixT (d := .num a) (ds := .num a :: as.map .num) gst gv_c (show atI (NestedKey.num a :: as.map .num) ((0 : Nat) : Int) = _ from atI_nat rfl)).int
      · rw [e]
        exact gv_neg gv_c
      have ex : x = .int (if isFull then st.headD (-1) else -1) := ex
      generalize hout : (if isFull then st.headD (-1) else -1) = out at ex
      subst ex
      have gst2 : ∀ {σ : L2.St} {H' : Hp}, σ[1]? = some (some v) → Same H2 H' → Gv (tVar 1) σ H' (PD K (tI st)) := fun e s => gv_d e (hv.mono (.of ((s1.trans s2).trans s)))
      have gf := gv_filtI (i := 6) (tt := tTest (tOp (rIn K true) (tVar 6) (tTup (tCons (tVar 2) (tCons (tVar 5) tNil))))) (p := fun o => !(o == b || o == out)) (gst2 (σ := [some (V.str (wordS lru)), some v, some (.int b), some (.bl isIn), some (.bl isFull), some (.int out), none]) rfl (Same.refl _)) (by omega) (by show 6 < 7; decide) fun H3 s3 k hk =>
        (gt_test (gv_notInI (a := k) (ns := [b, out]) (gv_v rfl) (gv_tup (gd_cons (gv_v (v := .int b) rfl).num (gd_cons (gv_v (v := .int out) rfl).num gd_nil))))).cast (by rw [Bool.beq_eq_decide_eq, Bool.beq_eq_decide_eq]; simp)
      have hfin := gv_tup (K := K) (ds := [tI (st.filter (fun o => !(o == b || o == out)) ++ [b]), .num out]) (gd_cons (gv_snoc (gv_tupLi gf) (gv_v (i := 2) (v := .int b) rfl) (Nat.le_trans (List.length_filter_le _ _) (by omega))) (gd_cons (gv_v (i := 5) (v := .int out) rfl).num gd_nil))
      refine Gv.run hfin fun v' H' s' h' => q v' H' ((s1.trans s2).trans s') ?_
      unfold wordStep
      rw [if_neg (by simp [hc]), hout]
      exact h'
abbrev N_following_blocks : List Str := ["rows", "place"]
theorem sc_following_blocks : FnScope N_following_blocks ["rows", "place"] (defScope (top 35)) := ⟨rfl, rfl, rfl, by decide +kernel, rfl, by decide +kernel, by decide +kernel⟩
theorem ok_following_blocks (d : DefAt K mg "following_blocks" 35) (T : Tx mg) : Cal P w K mg base "following_blocks" 1 ["rows", "place"] (spP (RFol K)) := by
  obtain ⟨f, fd, g, F⟩ := d
  refine ⟨f, fd, g, F.kp, F.binds fun _ _ _ _ _ _ us hl => match us, hl with | [_, _], _ => rfl, F.okX sc_following_blocks (fun vs H Q E h => ?_) (fun cdv A outer s H vs Q E hr h => ?_)⟩
  · obtain ⟨_, ⟨v, rows, pl, rfl, _⟩, _⟩ := h; rfl
  · obtain ⟨_, ⟨v, rows, pl, rfl, hv, hl, hp, rfl⟩, q⟩ := h
    refine ⟨_, 
        (pss_one (ps_ret (pe_ifExp (pt_cmpR op_eq (pv 1) (pe_un un_neg pe_int) (nomark _)) (pe_tupRg rfl rfl T.tuple (prg_1 rfl T.range (pe_callB cr_lenS rfl T.len boot_len' (pa_cons (pv 0) pa_nil)))) (pe_ix ix_tup (pv 0) (pv 1) (fun _ _ => rfl))))), ?_⟩
    have g0 : Gv (tVar 0) (start N_following_blocks [v, .int pl]) H (PD K (.tup (rows.map tI))) := gv_d rfl hv
    refine Gv.run (gv_if (b := decide (V.int pl = V.int (-1))) (gt_test (gv_eq (gv_v rfl) (gv_neg gv_c) rfl)) (fun e => ?_) fun e => ?_) q
    · have e : pl = -1 := V.int.inj (of_decide_eq_true e)
      intro H1 s1 Q q1
      refine (gv_lenT g0) H1 s1 _ fun x H2 s2 ex => ⟨_, ex, ?_⟩
      refine ⟨RgOk.of_le (by omega) (by rw [List.length_map]; omega) (by omega) (by omega), fun r hr => q1 _ _ (s2.trans (Same.new hr)) ?_⟩
      unfold fol
      rw [if_pos e]
      refine is_ints (.inl ?_)
      rw [upd_same]
      unfold rgV upto
      rw [List.length_map, List.map_map]
      congr 2
      have : ((rows.length : Int) - 0).toNat = rows.length := by omega
      rw [this]
      refine List.map_congr_left fun k _ => ?_
      show V.int (0 + (k : Int)) = V.int (Int.ofNat k)
      rw [Int.zero_add]; rfl
    · have e : ¬ pl = -1 := fun z => of_decide_eq_false e (by rw [z])
      have hp : 0 ≤ pl ∧ pl < (rows.length : Int) := hp.resolve_left e
      unfold fol
      rw [if_neg e]
      refine gv_ixT g0 (gv_v (v := .int pl) rfl) ?_
      obtain ⟨k, rfl⟩ : ∃ k : Nat, pl = k := ⟨pl.toNat, by omega⟩
      have hk : k < rows.length := by omega
      refine atI_nat ?_
      rw [List.getElem?_map, List.getElem?_eq_getElem hk]
      show some (tI rows[k]) = some (tI (rows.getD k []))
      rw [List.getD_eq_getElem?_getD, List.getElem?_eq_getElem hk]; rfl
abbrev N_step_gain : List Str := ["step", "up", "down"]
theorem sc_step_gain : FnScope N_step_gain ["step", "up", "down"] (defScope (top 43)) := ⟨rfl, rfl, rfl, by decide +kernel, rfl, by decide +kernel, by decide +kernel⟩
theorem ok_step_gain (d : DefAt K mg "step_gain" 43) : Cal P w K mg base "step_gain" 1 ["step", "up", "down"] (spP (RGain K)) := by
  obtain ⟨f, fd, g, F⟩ := d
  refine ⟨f, fd, g, F.kp, F.binds fun _ _ _ _ _ _ us hl => match us, hl with | [_, _, _], _ => rfl, F.okX sc_step_gain (fun vs H Q E h => ?_) (fun cdv A outer s H vs Q E hr h => ?_)⟩
  · obtain ⟨_, ⟨v, p, rfl, _⟩, _⟩ := h; rfl
  · obtain ⟨_, ⟨v, p, rfl, hv, h1, h2, rfl⟩, q⟩ := h
    refine ⟨_, 
        (pss_one (ps_ret (pe_op op_sub (pe_op op_mul (pv 1) (pe_ix ix_tup (pv 0) pe_int (fun _ _ => rfl))) (pe_op op_mul (pv 2) (pe_ix ix_tup (pv 0) pe_int (fun _ _ => rfl)))))), ?_⟩
    have g0 : Gv (tVar 0) (start N_step_gain [v, .int 1, .int 1]) H (PD K (stD p)) := gv_d rfl hv
    refine Gv.run ((gv_opI (gv_opC (i := 1) (j := p.mv) (gv_v rfl) (gv_ixT (d := .num p.mv) g0 gv_c rfl).int (.inl ⟨by decide, by decide⟩)) (gv_opC (i := 1) (j := p.co) (gv_v rfl) (gv_ixT (d := .num p.co) g0 gv_c rfl).int (.inl ⟨by decide, by decide⟩))).imp fun v' H' e => ?_) q
    rw [e]
    show V.int (1 * p.mv - 1 * p.co) = V.int (p.mv - p.co)
    rw [Int.one_mul, Int.one_mul]
abbrev N_RuleRunner___init__ : List Str := ["self", "rooms", "rule", "row"]
theorem sc_RuleRunner___init__ : FnScope N_RuleRunner___init__ ["self", "rooms", "rule"] (defScope (inClass (top 34) 0)) := ⟨rfl, rfl, rfl, by decide +kernel, rfl, by decide +kernel, by decide +kernel⟩
theorem ok_rr_init (d : DefM K C "__init__" "RuleRunner.__init__" (inClass (top 34) 0)) (R : RC K C) (c_need_rooms : Cal P w K mg base "need_rooms" 3 ["value"] (spP RRooms)) (c_need_rule : Cal P w K mg base "need_rule" 4 ["rooms", "value"] (spP RRule)) (c_is_string : Cal P w K mg base "is_string" 1 ["value"] (spP (RTy K fun t => t == "str"))) :
    ∃ f fd, Meth K C "__init__" f ∧ Binds K fd ["self", "rooms", "rule"] [] ∧ FnOk P w K mg base (L2.CX P w) 5 f fd ["self", "rooms", "rule"] (spInit C) := by
  obtain ⟨f, fd, M, F⟩ := d
  refine ⟨f, fd, M, F.binds fun _ _ _ _ _ _ us hl => match us, hl with | [_, _, _], _ => rfl, F.okX sc_RuleRunner___init__ (fun vs H Q E h => ?_) (fun cdv A outer s H vs Q E hr h => ?_)⟩
  · obtain ⟨p, dx, own, lru, rfl, _⟩ := h; rfl
  · obtain ⟨p, dx, own, lru, rfl, hp, h1, h5, q⟩ := h
    refine ⟨_, 
        (pss_cons (ps_fld (pv 0) (pe_cal c_need_rooms (hr.mono (by decide)) (pa_cons (pv 1) pa_nil)) rfl) 
        (pss_cons (ps_fld (pv 0) (pe_cal c_need_rule (hr.mono (by decide)) (pa_cons (pv 1) (pa_cons (pv 2) pa_nil))) rfl) 
        (pss_one (ps_fld (pv 0) (pe_ifExp (pt_val (pe_cal c_is_string (hr.mono (by decide)) (pa_cons (pe_fld (pv 0) rfl) pa_nil))) pe_nnew pe_no) rfl)))), ?_⟩
    -- self.rooms
    refine seq_in (Gv.run (gv_call (P := PV (.int (own : Int))) (ga_one (gv_v (v := .int (own : Int)) rfl) up_V) fun vs H' s p => ?_) fun x H1 s1 ex => ?_)
    · cases p with
      | cons e p => cases p; cases e; exact ⟨_, rfl, by omega, by omega, rfl⟩
    have ex : x = .int own := ex
    subst ex
    refine ⟨_, rfl, p, C, dx, [], rfl, s1 _ _ hp, R.cl, R.n1, by show 0 < 1000; decide, ?_⟩
    -- self.rule
    refine seq_in (Gv.run (gv_call (P := PV (.str (wordS lru))) (ga_two (gv_v (v := .int (own : Int)) rfl) up_V (gv_v (v := .str (wordS lru)) rfl) up_V) fun vs H' s p => ?_) fun x H2 s2 ex => ?_)
    · cases p with
      | cons e p => cases p with
        | cons e' p => cases p; cases e; cases e'; exact ⟨_, lru, rfl, by omega, by omega, rfl⟩
    have ex : x = .str (wordS lru) := ex
    subst ex
    refine ⟨_, rfl, p, C, dx, _, rfl, s2 _ _ upd_same, R.cl, R.n2, by show 1 < 1000; decide, ?_⟩
    -- self.rows
    have hp3 : (upd H2 p (.ins C dx (putF "rule" (.str (wordS lru)) (putF "rooms" (.int (own : Int)) [])))) p = _ := upd_same
    refine Gt.run (gt_val (gv_call (P := PV (.bl true)) (ga_one (gv_fld (v := .str (wordS lru)) (gv_v (v := .ref p) rfl) hp3 R.cl R.n2 (by rw [lookup_putF, if_pos rfl])) up_V) fun vs H' s pp => ?_)) fun H3 s3 => ?_
    · cases pp with
      | cons e pp => cases pp; cases e; exact ⟨_, "str", rfl, .data (.text _), rfl⟩
    refine iteT ?_
    intro d ob hd _
    have npd : p ≠ d := ne_of_none (s3 _ _ hp3) hd
    refine ⟨_, rfl, p, C, dx, _, rfl, by rw [upd_ne npd]; exact s3 _ _ hp3, R.cl, R.n3, by show 2 < 1000; decide, ?_⟩
    refine q _ ⟨dx, _, upd_same, ?_, ?_, ?_, ?_⟩ fun b o e hb => ?_
    · rw [lookup_putF, if_neg (by decide +kernel), lookup_putF, if_neg (by decide +kernel), lookup_putF, if_pos rfl]
    · rw [lookup_putF, if_neg (by decide +kernel), lookup_putF, if_pos rfl]
    · rw [lookup_putF, if_neg (by decide +kernel), lookup_putF, if_neg (by decide +kernel), lookup_putF, if_neg (by decide +kernel)]; rfl
    · rw [lookup_putF, if_neg (by decide +kernel), lookup_putF, if_neg (by decide +kernel), lookup_putF, if_neg (by decide +kernel)]; rfl
    · have e3 : H3 b = some o := s3 _ _ (by rw [upd_ne hb]; exact s2 _ _ (by rw [upd_ne hb]; exact s1 _ _ e))
      rw [upd_ne hb, upd_ne (ne_of_none e3 hd)]
      exact e3
abbrev N_RuleRunner_begin : List Str := ["self"]
theorem sc_RuleRunner_begin : FnScope N_RuleRunner_begin ["self"] (defScope (inClass (top 34) 1)) := ⟨rfl, rfl, rfl, by decide +kernel, rfl, by decide +kernel, by decide +kernel⟩
theorem ok_rr_begin (d : DefM K C "begin" "RuleRunner.begin" (inClass (top 34) 1)) (R : RC K C) (c_is_string : Cal P w K mg base "is_string" 1 ["value"] (spP (RTy K fun t => t == "str"))) : CalM P w K mg base C "begin" 2 ["self"] (spP (RBegin K C)) := by
  obtain ⟨f, fd, M, F⟩ := d
  refine ⟨f, fd, M, F.binds fun _ _ _ _ _ _ us hl => match us, hl with | [_], _ => rfl, F.okX sc_RuleRunner_begin (fun vs H Q E h => ?_) (fun cdv A outer s H vs Q E hr h => ?_)⟩
  · obtain ⟨_, ⟨p, own, lru, rfl, _⟩, _⟩ := h; rfl
  · obtain ⟨_, ⟨p, own, lru, rfl, hA, rfl⟩, q⟩ := h
    obtain ⟨dx, fs, hp, l1, l2, _, _⟩ := hA
    refine ⟨_, 
        (pss_one (ps_ret (pe_tup (pa_cons (pe_ifExp (pt_val (pe_cal c_is_string (hr.mono (by decide)) (pa_cons (pe_fld (pv 0) rfl) pa_nil))) (pe_tup pa_nil) pe_int) (pa_cons (pe_tup pa_nil) (pa_cons (pe_un un_neg pe_int) pa_nil)))))), ?_⟩
    refine Gv.run (gv_tup (gd_cons (gv_if (b := true) (gt_val (gv_call (ga_one (gv_fld (v := .str (wordS lru)) (gv_v (v := .ref p) rfl) hp R.cl R.n2 l2) up_V) fun vs H' s pp => ?_)) (fun _ => gv_tup (ds := []) gd_nil) fun e => by cases e) (gd_cons (gv_tup (ds := []) gd_nil) (gd_cons (gv_neg gv_c).num gd_nil)))) q
    cases pp with
    | cons e pp => cases pp; cases e; exact ⟨_, "str", rfl, .data (.text _), rfl⟩
abbrev N_RuleRunner_step : List Str := ["self", "standing", "block", "state", "memory", "place", "is_in", "is_full", "out", "kept", "one"]
theorem sc_RuleRunner_step : FnScope N_RuleRunner_step ["self", "standing", "block"] (defScope (inClass (top 34) 2)) := ⟨rfl, rfl, rfl, by decide +kernel, rfl, by decide +kernel, by decide +kernel⟩
theorem ok_rr_step (d : DefM K C "step" "RuleRunner.step" (inClass (top 34) 2)) (T : Tx mg) (R : RC K C) (c_is_string : Cal P w K mg base "is_string" 1 ["value"] (spP (RTy K fun t => t == "str"))) (c_word_step : Cal P w K mg base "word_step" 1 ["word", "order", "block", "is_in", "is_full"] (spP (RWord K))) : CalM P w K mg base C "step" 2 ["self", "standing", "block"] (spP (RStepM K C)) := by
  obtain ⟨f, fd, M, F⟩ := d
  refine ⟨f, fd, M, F.binds fun _ _ _ _ _ _ us hl => match us, hl with | [_, _, _], _ => rfl, F.okX sc_RuleRunner_step (fun vs H Q E h => ?_) (fun cdv A outer s H vs Q E hr h => ?_)⟩
  · obtain ⟨_, ⟨p, v, b, st, me, pl, own, lru, rfl, _⟩, _⟩ := h; rfl
  · obtain ⟨_, ⟨p, v, b, st, me, pl, own, lru, rfl, hA, hv, hl1, hl2, hne, rfl⟩, q⟩ := h
    obtain ⟨dx, fs, hp, l1, l2, _, _⟩ := hA
    refine ⟨_, 
        (pss_cons (ps_asg (pv 1) (pg_tup rfl (pgs_cons (pg_name (i := 3) sc_RuleRunner_step.nd rfl (Or.inl rfl)) (pgs_cons (pg_name (i := 4) sc_RuleRunner_step.nd rfl (Or.inl rfl)) (pgs_cons (pg_name (i := 5) sc_RuleRunner_step.nd rfl (Or.inl rfl)) pgs_nil))))) 
        (pss_cons (ps_set (i := 6) sc_RuleRunner_step.nd rfl (Or.inl rfl) (pe_cmpR op_in_seq (pv 2) (pv 4) (by rfl))) 
        (pss_cons (ps_set (i := 7) sc_RuleRunner_step.nd rfl (Or.inl rfl) (pe_and (pe_not (pv 6)) (pe_one (pe_cmpR op_eq (pe_callB cr_lenS rfl T.len boot_len' (pa_cons (pv 4) pa_nil)) (pe_fld (pv 0) rfl) (nomark _))))) 
        (pss_cons (ps_if (pt_val (pe_cal c_is_string (hr.mono (by decide)) (pa_cons (pe_fld (pv 0) rfl) pa_nil))) 
          (pss_one (ps_asg (pe_cal c_word_step (hr.mono (by decide)) (pa_cons (pe_fld (pv 0) rfl) (pa_cons (pv 3) (pa_cons (pv 2) (pa_cons (pv 6) (pa_cons (pv 7) pa_nil)))))) (pg_tup rfl (pgs_cons (pg_name (i := 3) sc_RuleRunner_step.nd rfl (Or.inl rfl)) (pgs_cons (pg_name (i := 8) sc_RuleRunner_step.nd rfl (Or.inr rfl)) pgs_nil))))) 
          (pss_one ps_never)) 
        (pss_cons (ps_set (i := 9) sc_RuleRunner_step.nd rfl (Or.inl rfl) (pe_callTy cr_tupOf rfl T.tuple boot_tuple' (pa_cons (pe_lc (own := [("one", 10)]) (g := gName 10) (tt := _) rfl sc_RuleRunner_step.nd (pi_tup (pv 4)) (blkOk_by (N := N_RuleRunner_step) (sc := defScope (inClass (top 34) 2)) (by decide +kernel)) (fun _ _ _ _ _ => (pg_name (i := 10) sc_RuleRunner_step.nd rfl (Or.inl rfl))) (fun _ _ _ _ _ => (pts_one (pt_cmpR op_ne (pv 10) (pv 8) (nomark _)))) (fun _ _ _ _ _ => (pv 10))) pa_nil))) 
        (pss_one (ps_ret (pe_tup (pa_cons (pe_ifExp (pt_val (pv 6)) pe_int pe_int) (pa_cons (pv 8) (pa_cons (pe_tup (pa_cons (pv 3) (pa_cons (pe_ifExp (pt_val (pv 6)) (pv 9) (pe_callTy cr_tupOf rfl T.tuple boot_tuple' (pa_cons (pe_callB cr_sortedIT rfl T.sorted boot_sorted' (pa_cons (pe_op op_catA (pv 9) (pe_tup (pa_cons (pv 2) pa_nil))) pa_nil)) pa_nil))) (pa_cons (pv 2) pa_nil)))) pa_nil))))))))))), ?_⟩
    obtain ⟨a, xs, rfl, ht, hi⟩ := hv.tup_inv
    obtain ⟨v1, v2, v3, rfl, i1, i2, i3⟩ := isAll3 hi
    obtain rfl := i3.int_inv
    all_goals
      all_goals
        -- state, memory, place = standing
        refine seq_in ⟨_, rfl, ?_⟩
        refine gtup3 ht ?_
        show tSeq _ _ _ [some (.ref p), some (.ref a), some (.int b), some v1, some v2, some (.int pl), none, none, none, none, none] _
        -- is_in
        refine seq_in (asg_in (Gv.run (gv_inI (a := b) (ns := me) (gv_v rfl) (gv_d (v := v2) rfl i2)) fun x H1 s1 ex => ?_))
        have ex : x = .bl (decide (b ∈ me)) := ex
        subst ex
        -- is_full
        have gme : ∀ {σ : L2.St} {H' : Hp}, σ[4]? = some (some v2) → Same H H' → Gv (tVar 4) σ H' (PD K (tI me)) := fun e s => gv_d e (i2.mono (.of s))
        refine seq_in (asg_in (Gv.run (gv_andV (gv_notV (gv_v (v := .bl (decide (b ∈ me))) rfl)) fun _ => gv_eq (x := .int me.length) (y := .int own) ((gv_lenT (gme rfl s1)).imp fun v' H' e => by rw [e, List.length_map]) (gv_fld (v := .int own) (gv_v (v := .ref p) rfl) (s1 _ _ hp) R.cl R.n1 l1) rfl) fun x H2 s2 ex => ?_))
        have hfull : (!decide (b ∈ me) && decide (V.int me.length = V.int own)) = (!me.contains b && me.length == own) := by
          have e1 : decide (b ∈ me) = me.contains b := by rw [List.contains_eq_mem]
          have e2 : decide (V.int me.length = V.int own) = (me.length == own) := by
            by_cases h : me.length = own
            · rw [h]; simp
            · have : ¬ V.int (me.length : Int) = V.int (own : Int) := fun z => h (by have := V.int.inj z; omega)
              simp [h, this]
          rw [e1, e2]
        have ex : x = .bl (!me.contains b && me.length == own) := by rw [← hfull]; exact ex
        subst ex
        have hcon : decide (b ∈ me) = me.contains b := by rw [List.contains_eq_mem]
        rw [hcon]
        have s02 := s1.trans s2
        generalize hw : wordStep lru st b (me.contains b) (!me.contains b && me.length == own) = ws
        -- state, out = word_step(..)
        refine seq_in (Gt.run (gt_val (gv_call (P := PV (.bl true)) (ga_one (gv_fld (v := .str (wordS lru)) (gv_v (v := .ref p) rfl) (s02 _ _ hp) R.cl R.n2 l2) up_V) fun vs H' s pp => ?_)) fun H3 s3 => ?_)
        · cases pp with
          | cons e pp => cases pp; cases e; exact ⟨_, "str", rfl, .data (.text _), rfl⟩
        refine iteT ?_
        have s03 := s02.trans s3
        refine Gv.run (gv_call (P := PD K (.tup [tI ws.1, .num ws.2])) (ga_cons (gv_fld (v := .str (wordS lru)) (gv_v (v := .ref p) rfl) (s03 _ _ hp) R.cl R.n2 l2) up_V (ga_cons (gv_d (v := v1) (d := tI st) rfl (i1.mono (.of s03))) up_D (ga_cons (gv_v (v := .int b) rfl) up_V (ga_cons (gv_v (v := .bl (me.contains b)) rfl) up_V (ga_cons (gv_v (v := .bl (!me.contains b && me.length == own)) rfl) up_V ga_nil))))) fun vs H' s pp => ?_) fun x H4 s4 hx => ?_
        · cases pp with
          | cons e1 pp => cases pp with
            | cons e2 pp => cases pp with
              | cons e3 pp => cases pp with
                | cons e4 pp => cases pp with
                  | cons e5 pp =>
                    cases pp; cases e1; cases e3; cases e4; cases e5
                    refine ⟨_, lru, st, b, _, _, rfl, e2, by omega, fun hf => ?_, by rw [hw]⟩
                    rw [Bool.and_eq_true] at hf
                    exact hne (by simpa using hf.1) (by simpa using hf.2)
        have s04 := s03.trans s4
        obtain ⟨a4, xs4, rfl, ht4, hi4⟩ := hx.tup_inv
        obtain ⟨u1, u2, rfl, j1, j2⟩ := isAll2 hi4
        obtain rfl := j2.int_inv
        all_goals
          refine gtup2 ht4 ?_
          show tSeq _ _ _ [some (.ref p), some (.ref a), some (.int b), some u1, some v2, some (.int pl), some (.bl (me.contains b)), some (.bl (!me.contains b && me.length == own)), some (.int ws.2), none, none] _
          -- kept
          have gf := gv_filtI (K := K) (i := 10) (tt := tTest (tOp rNe (tVar 10) (tVar 8))) (p := fun o => o != ws.2) (gme (σ := [some (.ref p), some (.ref a), some (.int b), some u1, some v2, some (.int pl), some (.bl (me.contains b)), some (.bl (!me.contains b && me.length == own)), some (.int ws.2), none, none]) rfl s04) (by omega) (by show 10 < 11; decide) fun H5 s5 k hk =>
            (gt_test (gv_ne (x := .int k) (y := .int ws.2) (gv_v rfl) (gv_v rfl) rfl)).cast (by
              by_cases h : k = ws.2
              · subst h; simp
              · have : ¬ V.int k = V.int ws.2 := fun z => h (V.int.inj z)
                simp [h, this])
          refine seq_in (asg_in (Gv.run (gv_tupLi gf) fun x H5 s5 hx => ?_))
          have s05 := s04.trans s5
          dsimp only
          have gk : ∀ {H' : Hp}, Same H5 H' → Gv (tVar 9) [some (.ref p), some (.ref a), some (.int b), some u1, some v2, some (.int pl), some (.bl (me.contains b)), some (.bl (!me.contains b && me.length == own)), some (.int ws.2), some x, none] H' (PD K (tI (me.filter (· != ws.2)))) := fun s => gv_d rfl (hx.mono (.of s))
          have gin : Gt (tB (tVar 6)) [some (.ref p), some (.ref a), some (.int b), some u1, some v2, some (.int pl), some (.bl (me.contains b)), some (.bl (!me.contains b && me.length == own)), some (.int ws.2), some x, none] H5 (me.contains b) := gt_val (gv_v rfl)
          have hf : (me.filter (· != ws.2)).length ≤ 1000 := Nat.le_trans (List.length_filter_le _ _) (by omega)
          have r1 := gv_if (P := PD K (.num (if me.contains b then 0 else 1))) (ta := tC (.int 0)) (tb := tC (.int 1)) gin (fun e => (gv_num 0).imp fun v' H' z => by rw [if_pos e]; exact z) fun e => (gv_num 1).imp fun v' H' z => by rw [if_neg (by rw [e]; decide)]; exact z
          have r2 := gv_if (P := PD K (tI (if me.contains b then me.filter (· != ws.2) else srt (me.filter (· != ws.2) ++ [b])))) gin (fun e => (gk (Same.refl _)).imp fun v' H' z => by rw [if_pos e]; exact z) fun e => (gv_tupLi (gv_sortedIT (gv_snoc (gk (Same.refl _)) (gv_v (i := 2) (v := .int b) rfl) hf))).imp fun v' H' z => by rw [if_neg (by rw [e]; decide)]; exact z
          have hst : Is K H5 u1 (tI ws.1) := j1.mono (.of s5)
          refine Gv.run (gv_tup (gd_cons r1 (gd_cons (gv_v (i := 8) (v := .int ws.2) rfl).num (gd_cons (gv_tup (gd_cons (gv_d (i := 3) rfl hst) (gd_cons r2 (gd_cons (gv_v (i := 2) (v := .int b) rfl).num gd_nil)))) gd_nil)))) fun v' H' s' h' => q v' H' (s05.trans s') ?_
          unfold ruleStep
          simp only [hw]
          exact h'
abbrev N_mate_steps : List Str := ["rooms", "mate", "block", "found", "out", "left", "one"]
theorem sc_mate_steps : FnScope N_mate_steps ["rooms", "mate", "block"] (defScope (top 40)) := ⟨rfl, rfl, rfl, by decide +kernel, rfl, by decide +kernel, by decide +kernel⟩
theorem ok_mate_steps (d : DefAt K mg "mate_steps" 40) (T : Tx mg) (c_with_block : Cal P w K mg base "with_block" 1 ["memory", "block"] (spP (RWith K))) : Cal P w K mg base "mate_steps" 2 ["rooms", "mate", "block"] (spP (RMates K)) := by
  obtain ⟨f, fd, g, F⟩ := d
  refine ⟨f, fd, g, F.kp, F.binds fun _ _ _ _ _ _ us hl => match us, hl with | [_, _, _], _ => rfl, F.okX sc_mate_steps (fun vs H Q E h => ?_) (fun cdv A outer s H vs Q E hr h => ?_)⟩
  · obtain ⟨_, ⟨v, ma, b, R, rfl, _⟩, _⟩ := h; rfl
  · obtain ⟨_, ⟨v, ma, b, R, rfl, hv, nd, hl, hP⟩, q⟩ := h
    refine ⟨_, 
        (pss_cons (ps_if (pt_cmpR op_in_seq (pv 2) (pv 1) (by rfl)) 
          (pss_one (ps_ret (pe_lst (pa_cons (pe_tup (pa_cons pe_int (pa_cons (pe_tup pa_nil) (pa_cons (pv 1) pa_nil)))) pa_nil)))) pss_nil) 
        (pss_cons (ps_if (pt_cmpR op_lt (pe_callB cr_lenS rfl T.len boot_len' (pa_cons (pv 1) pa_nil)) (pv 0) (nomark _)) 
          (pss_one (ps_ret (pe_lst (pa_cons (pe_tup (pa_cons pe_int (pa_cons (pe_tup pa_nil) (pa_cons (pe_cal c_with_block (hr.mono (by decide)) (pa_cons (pv 1) (pa_cons (pv 2) pa_nil))) pa_nil)))) pa_nil)))) pss_nil) 
        (pss_cons (ps_set (i := 3) sc_mate_steps.nd rfl (Or.inl rfl) (pe_lst pa_nil)) 
        (pss_cons (ps_for (passes_of rfl) rfl (pi_tup (pv 1)) (pg_name (i := 4) sc_mate_steps.nd rfl (Or.inr rfl)) 
          (pss_cons (ps_set (i := 5) sc_mate_steps.nd rfl (Or.inl rfl) (pe_callTy cr_tupOf rfl T.tuple boot_tuple' (pa_cons (pe_lc (own := [("one", 6)]) (g := gName 6) (tt := _) rfl sc_mate_steps.nd (pi_tup (pv 1)) (blkOk_by (N := N_mate_steps) (sc := defScope (top 40)) (by decide +kernel)) (fun _ _ _ _ _ => (pg_name (i := 6) sc_mate_steps.nd rfl (Or.inl rfl))) (fun _ _ _ _ _ => (pts_one (pt_cmpR op_ne (pv 6) (pv 4) (nomark _)))) (fun _ _ _ _ _ => (pv 6))) pa_nil))) 
          (pss_one (ps_expr (pe_bm PySem.F.plainAttrs_list PySem.F.slot_list_append PySem.F.type_list_append mt_append (pv 3) (pa_cons (pe_tup (pa_cons pe_int (pa_cons (pe_tup (pa_cons (pv 4) pa_nil)) (pa_cons (pe_cal c_with_block (hr.mono (by decide)) (pa_cons (pv 5) (pa_cons (pv 2) pa_nil))) pa_nil)))) pa_nil)))))) 
        (pss_one (ps_ret (pv 3))))))), ?_⟩
    have g1 : ∀ {σ : L2.St} {H' : Hp}, σ[1]? = some (some v) → Same H H' → Gv (tVar 1) σ H' (PD K (tI ma)) := fun e s => gv_d e (hv.mono (.of s))
    refine Gt.run (gt_test (gv_inI (a := b) (ns := ma) (gv_v rfl) (g1 rfl (Same.refl _)))) fun H1 s1 => ?_
    have hcon : ma.contains b = decide (b ∈ ma) := List.contains_eq_mem ..
    cases hc : decide (b ∈ ma) with
    | true =>
      rw [if_pos rfl]
      refine Gv.run (gv_lstN (gd_cons (gv_tup (gd_cons (gv_num 0) (gd_cons (gv_tup (ds := []) gd_nil) (gd_cons (g1 rfl s1) gd_nil)))) gd_nil)) fun v' H' s' h' => q v' H' (s1.trans s') (hP _ _ ?_)
      replace h' := PLn.old s1 h'
      unfold mates
      rw [if_pos (by rw [hcon, hc])]
      exact h'
    | false =>
      rw [if_neg (by decide)]
      have hb : b ∉ ma := of_decide_eq_false hc
      refine next_in ?_
      dsimp only
      refine seq_in (Gt.run (gt_test (gv_opI (i := (ma.length : Int)) (j := (R : Int)) ((gv_lenT (g1 rfl s1)).imp fun v' H' e => by rw [e, List.length_map]) (gv_v rfl))) fun H2 s2 => ?_)
      have s02 := s1.trans s2
      by_cases hr' : ma.length < R
      · rw [if_pos (by simp; omega)]
        refine Gv.run (gv_lstN (gd_cons (gv_tup (gd_cons (gv_num 1) (gd_cons (gv_tup (ds := []) gd_nil) (gd_cons (gv_call (P := PD K (tI (srt (ma ++ [b])))) (ga_two (g1 rfl s02) up_D (gv_v (v := .int b) rfl) up_V) fun vs H' s pp => ?_) gd_nil)))) gd_nil)) fun v' H' s' h' => q v' H' (s02.trans s') (hP _ _ (PLn.old s02 ?_))
        · cases pp with
          | cons e1 pp => cases pp with
            | cons e2 pp => cases pp; cases e2; exact ⟨_, ma, b, rfl, e1, nd, hb, hl, rfl⟩
        · unfold mates
          rw [if_neg (by rw [hcon, hc]; decide), if_pos hr']
          exact h'
      · rw [if_neg (by simp; omega)]
        -- found = []
        refine seq_in (asg_in (lst_run fun l hln => ?_))
        have s03 : Same H (upd H2 l (.lst [])) := s02.trans (Same.new hln)
        have hl0 : H l = none := same_none s02 hln
        obtain ⟨ap, rfl, hta⟩ := hv.ints
        have hmap : (ma.map V.int).length = ma.length := by simp
        refine seq_in ⟨_, rfl, ap, rfl, ⟨_, (hta.mono (.of s03)).seq⟩, for_tup (K := K) (a := ap) (xs := ma.map V.int) (fun j σ H' => (∃ x1 x2 x3, σ = [some (.int (R : Int)), some (.ref ap), some (.int b), some (.ref l), x1, x2, x3]) ∧ Same H H' ∧ ∃ acc, H' l = some (.lst acc) ∧ IsAll K H' acc (((ma.take j).map fun o => ((1, [o], srt (ma.filter (· != o) ++ [b])) : Int × List Int × List Int)).map mtD))
          ⟨⟨none, none, none, rfl⟩, s03, [], upd_same, .nil⟩ (fun j σ H' _ p => (hta.mono (.of p.2.1)).seq) (fun j x σ H' hx p => ?_) fun σ H' p => ?_⟩
        · obtain ⟨⟨x1, x2, x3, rfl⟩, s4, acc, hacc, hia⟩ := p
          rw [List.getElem?_map] at hx
          obtain ⟨o, ho, rfl⟩ := Option.map_eq_some_iff.mp hx
          have hjm : j < ma.length := (List.getElem?_eq_some_iff.mp ho).1
          show tSeq _ _ _ [some (.int (R : Int)), some (.ref ap), some (.int b), some (.ref l), some (.int o), x2, x3] _
          have gf := gv_filtI (K := K) (i := 6) (tt := tTest (tOp rNe (tVar 6) (tVar 4))) (p := fun z => z != o) (g1 (σ := [some (.int (R : Int)), some (.ref ap), some (.int b), some (.ref l), some (.int o), x2, x3]) rfl s4) (by omega) (by show 6 < 7; decide) fun H5 s5 k hk =>
            (gt_test (gv_ne (x := .int k) (y := .int o) (gv_v rfl) (gv_v rfl) rfl)).cast (by
              by_cases h : k = o
              · subst h; simp
              · have : ¬ V.int k = V.int o := fun z => h (V.int.inj z)
                simp [h, this])
          refine seq_in (asg_in (Gv.run (gv_tupLi gf) fun x H5 s5 hx5 => ?_))
          dsimp only
          have hlt := filter_len_lt (List.mem_of_getElem? ho)
          refine app_run (l := l) (Pe := PD K (mtD (1, [o], srt (ma.filter (· != o) ++ [b])))) (gv_v rfl) (s5 _ _ hacc) (gv_tup (gd_cons (gv_num 1) (gd_cons (gv_tup (gd_cons (gv_v (i := 4) (v := .int o) rfl).num gd_nil)) (gd_cons (gv_call (P := PD K (tI (srt (ma.filter (· != o) ++ [b])))) (ga_two (gv_d (i := 5) (v := x) rfl hx5) up_D (gv_v (i := 2) (v := .int b) rfl) up_V) fun vs H' s pp => ?_) gd_nil)))) ?_ fun y H6 s6 hy => ?_
          · cases pp with
            | cons e1 pp => cases pp with
              | cons e2 pp =>
                cases pp; cases e2
                exact ⟨_, _, b, rfl, e1, nd.sublist List.filter_sublist, fun hm => hb (List.mem_filter.mp hm).1, Nat.le_trans (List.length_filter_le _ _) hl, rfl⟩
          · rw [hia.length, List.length_map, List.length_map, List.length_take]; omega
          · have e6 := s6 _ _ (s5 _ _ hacc)
            have t6 : TS H6 (upd H6 l (.lst (acc ++ [y]))) := TS.lst e6
            refine ⟨⟨_, _, _, rfl⟩, same_wr (Same.trans (Same.trans s4 s5) s6) hl0, _, upd_same, ?_⟩
            rw [take_succ ho, List.map_append, List.map_append]
            exact ((hia.mono (.of (Same.trans s5 s6))).mono t6).append (.cons (hy.mono t6) .nil)
        · obtain ⟨⟨x1, x2, x3, rfl⟩, s4, acc, hacc, hia⟩ := p
          rw [hmap, List.take_length] at hia
          refine Gv.run (gv_v (i := 3) (v := .ref l) rfl) fun v' H' s' e => q v' H' (s4.trans s') (hP _ _ ?_)
          have e : v' = .ref l := e
          subst e
          refine ⟨l, acc, rfl, s' _ _ hacc, ?_, hl0⟩
          unfold mates
          rw [if_neg (by rw [hcon, hc]; decide), if_neg hr']
          exact hia.mono (.of s')
abbrev N_touches_in : List Str := ["steps", "step"]
theorem sc_touches_in : FnScope N_touches_in ["steps"] (defScope (top 49)) := ⟨rfl, rfl, rfl, by decide +kernel, rfl, by decide +kernel, by decide +kernel⟩
theorem ok_touches_in (d : DefAt K mg "touches_in" 49) (T : Tx mg) : Cal P w K mg base "touches_in" 1 ["steps"] (spP (RTouch K)) := by
  obtain ⟨f, fd, g, F⟩ := d
  refine ⟨f, fd, g, F.kp, F.binds fun _ _ _ _ _ _ us hl => match us, hl with | [_], _ => rfl, F.okX sc_touches_in (fun vs H Q E h => ?_) (fun cdv A outer s H vs Q E hr h => ?_)⟩
  · obtain ⟨_, ⟨v, ps, rfl, _⟩, _⟩ := h; rfl
  · obtain ⟨_, ⟨v, ps, rfl, hv, hl, rfl⟩, q⟩ := h
    refine ⟨_, 
        (pss_one (ps_ret (pe_callTy cr_tupOf rfl T.tuple boot_tuple' (pa_cons (pe_lc (own := [("step", 1)]) (g := gName 1) (tt := tYes) rfl sc_touches_in.nd (pi_list (pv 0)) (blkOk_by (N := N_touches_in) (sc := defScope (top 49)) (by decide +kernel)) (fun _ _ _ _ _ => (pg_name (i := 1) sc_touches_in.nd rfl (Or.inl rfl))) (fun _ _ _ _ _ => pts_nil) (fun _ _ _ _ _ => (pe_ix (ixK (r := rIxT) ix_tup) (pv 1) pe_int (fun _ _ => rfl)))) pa_nil)))), ?_⟩
    obtain ⟨l, xs, rfl, hL, hi⟩ := hv
    have body : Gv (tLc (iList K (tVar 0)) (gName 1) tYes (tOp (rIxT K) (tVar 1) (tC (.int 0))) [1]) (start N_touches_in [.ref l]) H (PL K ((ps.map (·.b)).map .num)) := by
      intro H5 s5 Q' q'
      refine ⟨_, rfl, l, rfl, ⟨_, SqL.of (s5 _ _ hL)⟩, fun Dd hD => ?_⟩
      refine lc_list (K := K) (a := l) (xs := xs) (fun j Hc => Same H5 Hc ∧ ∃ acc, Hc Dd = some (.lst acc) ∧ IsAll K Hc acc (((ps.take j).map (·.b)).map .num)) ⟨Same.new hD, [], upd_same, .nil⟩ (fun j Hc _ p => SqL.of (p.1 _ _ (s5 _ _ hL))) (fun j x Hc hx p => ?_) fun Hc p => ?_
      · obtain ⟨s6, acc, hacc, hia⟩ := p
        obtain ⟨dd, hd, hxd⟩ := hi.get hx
        rw [List.getElem?_map] at hd
        obtain ⟨p, hp, rfl⟩ := Option.map_eq_some_iff.mp hd
        refine ⟨wipe1, ?_⟩
        rw [wipe_set]
        unfold tYes
        simp only [if_true]
        have gx : Gv (tVar 1) (List.set (start N_touches_in [.ref l]) 1 (some x)) Hc (PD K (stD p)) := gv_d rfl (hxd.mono (.of (Same.trans s5 s6)))
        refine (gv_ixT (d := .num p.b) gx gv_c rfl).run fun y H7 s7 py => ?_
        have e7 := s7 _ _ hacc
        have t7 : TS H7 (upd H7 Dd (.lst (acc ++ [y]))) := TS.lst e7
        have hjn : j < ps.length := (List.getElem?_eq_some_iff.mp hp).1
        refine ⟨acc, e7, by rw [hia.length, List.length_map, List.length_map, List.length_take, sizeLine_eq]; omega, same_wr (Same.trans s6 s7) hD, _, upd_same, ?_⟩
        rw [take_succ hp, List.map_append, List.map_append]
        exact ((hia.mono (.of s7)).mono t7).append (.cons (py.mono t7) .nil)
      · obtain ⟨s6, acc, hacc, hia⟩ := p
        have hxl : xs.length = ps.length := by rw [hi.length, List.length_map]
        rw [hxl, List.take_length] at hia
        exact q' _ Hc s6 ⟨Dd, acc, rfl, hacc, hia⟩
    exact Gv.run (gv_tupL body) q
end
end K52
set_option maxHeartbeats 4000000
/-! Settings, steps of a standing. -/
namespace K52
open PySem PySem.Spec PyProof.Rows L2
def SetAt (K : PySem.W.Frag) (C : Addr) (H : Hp) (v : V) (S : Setg) : Prop := ∃ a rv p, v = .ref a ∧ TupAt K H a [rv, .int (S.rooms : Int), .ref p] ∧ Is K H rv (.tup (S.rows.map tI)) ∧ RunAt C H p S.own S.lru
theorem SetAt.same {K : PySem.W.Frag} {C : Addr} {H H' : Hp} {v : V} {S : Setg} (s : Same H H') (h : SetAt K C H v S) : SetAt K C H' v S := let ⟨a, rv, p, e, t, i, r⟩ := h; ⟨a, rv, p, e, t.mono (.of s), i.mono (.of s), r.same s⟩
theorem up_Set {K : PySem.W.Frag} {C : Addr} {S : Setg} : Up (fun v H => SetAt K C H v S) := fun _ _ _ s h => h.same s
def RNeed (K : PySem.W.Frag) (C : Addr) : List V → Hp → (V → Hp → Prop) → Prop := fun vs H P => ∃ v L lru, ∃ n rooms own : Nat, vs = [v, .int (rooms : Int), .int (own : Int), .str (wordS lru)] ∧ Is K H v (webD n L) ∧ 1 ≤ n ∧ n ≤ 40 ∧ L.length ≤ 60 ∧ GoodL n L ∧ 1 ≤ rooms ∧ rooms ≤ 5 ∧ 1 ≤ own ∧ own ≤ 5 ∧
  P = fun v' H' => SetAt K C H' v' ⟨rowsC n L, rooms, own, lru⟩
def RFirst (K : PySem.W.Frag) (C : Addr) : List V → Hp → (V → Hp → Prop) → Prop := fun vs H P => ∃ v S, vs = [v] ∧ SetAt K C H v S ∧ P = PD K (sdD first)
def RSteps (K : PySem.W.Frag) (C : Addr) : List V → Hp → (V → Hp → Prop) → Prop := fun vs H P => ∃ v u S s, vs = [v, u] ∧ SetAt K C H v S ∧ Is K H u (sdD s) ∧ WfS S ∧ Small S ∧ Good S s ∧ ∀ v' H', PLn K H ((steps S s).map stD) v' H' → P v' H'
section
variable {P : Program} {w : World} {K : PySem.W.Frag} {mg : Str → Option Value} {base : Heap} {C : Addr}
abbrev N_need_setting : List Str := ["web", "rooms", "own", "rule"]
theorem sc_need_setting : FnScope N_need_setting ["web", "rooms", "own", "rule"] (defScope (top 38)) := ⟨rfl, rfl, rfl, by decide +kernel, rfl, by decide +kernel, by decide +kernel⟩
theorem ok_need_setting (d : DefAt K mg "need_setting" 38) (c_need_web : Cal P w K mg base "need_web" 5 ["value"] (spP (RWeb K))) (c_need_rooms : Cal P w K mg base "need_rooms" 3 ["value"] (spP RRooms)) (c_neighbours : Cal P w K mg base "neighbours" 6 ["web"] (spP (RNei K)))
    (c_RuleRunner : CalI P w K mg base C "RuleRunner" 5 ["self", "rooms", "rule"] (spInit C)) : Cal P w K mg base "need_setting" 7 ["web", "rooms", "own", "rule"] (spP (RNeed K C)) := by
  obtain ⟨f, fd, g, F⟩ := d
  refine ⟨f, fd, g, F.kp, F.binds fun _ _ _ _ _ _ us hl => match us, hl with | [_, _, _, _], _ => rfl, F.okX sc_need_setting (fun vs H Q E h => ?_) (fun cdv A outer s H vs Q E hr h => ?_)⟩
  · obtain ⟨_, ⟨v, L, lru, n, rooms, own, rfl, _⟩, _⟩ := h; rfl
  · obtain ⟨_, ⟨v, L, lru, n, rooms, own, rfl, hv, h1, h40, hL, hG, r1, r5, o1, o5, rfl⟩, q⟩ := h
    refine ⟨_, 
        (pss_cons (ps_par3 (i := 0) (j := 1) (l := 2) rfl sc_need_setting.nd rfl rfl rfl (by decide) (by decide) (by decide) rfl rfl rfl (pa_cons (pe_cal c_need_web (hr.mono (by decide)) (pa_cons (pv 0) pa_nil)) (pa_cons (pe_cal c_need_rooms (hr.mono (by decide)) (pa_cons (pv 1) pa_nil)) (pa_cons (pe_cal c_need_rooms (hr.mono (by decide)) (pa_cons (pv 2) pa_nil)) pa_nil))) (by rfl)) 
        (pss_one (ps_ret (pe_tup (pa_cons (pe_cal c_neighbours (hr.mono (by decide)) (pa_cons (pv 0) pa_nil)) (pa_cons (pv 1) (pa_cons (pe_calI c_RuleRunner (hr.mono (by decide)) (pa_cons (pv 2) (pa_cons (pv 3) pa_nil))) pa_nil))))))), ?_⟩
    have g1 : Gv (tCall (spP (RWeb K)) [] E0 (tCons (tVar 0) tNil)) (start N_need_setting [v, .int (rooms : Int), .int (own : Int), .str (wordS lru)]) H (fun v' H' => ∃ L', PD K (webD n L') v' H' ∧ (CanonL n L' ∧ L'.length ≤ L.length ∧ ∀ i j, adj L' i j = adj L i j)) :=
      gv_call (ga_one (gv_d (v := v) rfl hv) up_D) fun vs H' s p => by
        cases p with
        | cons e p => cases p; exact ⟨_, n, L, rfl, e, by omega, by omega, hL, hG, rfl⟩
    have gr : ∀ {i : Nat} {m : Nat}, 1 ≤ m → m ≤ 5 → (start N_need_setting [v, .int (rooms : Int), .int (own : Int), .str (wordS lru)])[i]? = some (some (.int (m : Int))) → Gv (tCall (spP RRooms) [] E0 (tCons (tVar i) tNil)) (start N_need_setting [v, .int (rooms : Int), .int (own : Int), .str (wordS lru)]) H (PV (.int (m : Int))) := fun a b e =>
      gv_call (ga_one (gv_v e) up_V) fun vs H' s p => by
        cases p with
        | cons e p => cases p; cases e; exact ⟨_, rfl, by omega, by omega, rfl⟩
    refine seq_in (par3_run g1 (fun _ _ _ s ⟨L', h, r⟩ => ⟨L', h.mono (.of s), r⟩) (gr r1 r5 rfl) up_V (gr o1 o5 rfl) fun x y z H1 s1 px ey ez => ?_)
    have ey : y = .int rooms := ey
    have ez : z = .int own := ez
    subst ey; subst ez
    obtain ⟨L', hx, hC, hl, had⟩ := px
    dsimp only
    have gn : Gv (tCall (spP (RNei K)) [] E0 (tCons (tVar 0) tNil)) [some x, some (.int (rooms : Int)), some (.int (own : Int)), some (.str (wordS lru))] H1 (PD K (.tup ((rowsC n L).map tI))) :=
      gv_call (ga_one (gv_d (v := x) rfl hx) up_D) fun vs H' s p => by
        cases p with
        | cons e p => cases p; exact ⟨_, L', n, rfl, e, h1, h40, by omega, hC.good, by rw [rowsC_eq had]⟩
    refine gn.run fun rv H2 s2 hrv => ?_
    refine ⟨_, rfl, ?_⟩
    refine ⟨_, rfl, _, rfl, ?_⟩
    intro p dx hp hdx hne
    refine ⟨p, dx, own, lru, rfl, upd_same, o1, o5, fun H3 hrun keep => ⟨rfl, ?_⟩⟩
    have s23 : Same H2 H3 := fun b o e => by
      refine keep b o ?_ (ne_of_none e hp)
      rw [upd_ne (ne_of_none e hp), upd_ne (ne_of_none e hdx)]; exact e
    refine ⟨by show 3 ≤ sizeLine; decide, fun a ha => ?_⟩
    have s34 : Same H3 (upd H3 a (.tup [rv, .int (rooms : Int), .ref p])) := Same.new ha
    refine q _ _ (((s1.trans s2).trans s23).trans s34) ⟨a, rv, p, rfl, .inl upd_same, hrv.mono (.of (s23.trans s34)), hrun.same s34⟩
abbrev N_first_standing : List Str := ["setting"]
theorem sc_first_standing : FnScope N_first_standing ["setting"] (defScope (top 39)) := ⟨rfl, rfl, rfl, by decide +kernel, rfl, by decide +kernel, by decide +kernel⟩
theorem ok_first_standing (d : DefAt K mg "first_standing" 39) (R : RC K C) (c_begin : CalM P w K mg base C "begin" 2 ["self"] (spP (RBegin K C))) : Cal P w K mg base "first_standing" 3 ["setting"] (spP (RFirst K C)) := by
  obtain ⟨f2, fd2, M2, b2, F2⟩ := c_begin
  obtain ⟨f, fd, g, F⟩ := d
  refine ⟨f, fd, g, F.kp, F.binds fun _ _ _ _ _ _ us hl => match us, hl with | [_], _ => rfl, F.okX sc_first_standing (fun vs H Q E h => ?_) (fun cdv A outer s H vs Q E hr h => ?_)⟩
  · obtain ⟨_, ⟨v, S, rfl, _⟩, _⟩ := h; rfl
  · obtain ⟨_, ⟨v, S, rfl, hS, rfl⟩, q⟩ := h
    obtain ⟨a, rv, p, rfl, ht, hi, hrun⟩ := hS
    refine ⟨_, 
        (pss_one (ps_ret (pe_op op_catA (pe_meth0 (pe_ix ix_tup (pv 0) pe_int (fun _ _ => rfl)) R.cl M2 F2 (hr.mono (by decide)) b2 .nil passL) (pe_tup (pa_cons (pe_tup pa_nil) pa_nil))))), ?_⟩
    have gb : Gv (tMeth C "begin" (spP (RBegin K C)) [] E0 (tOp (rIxT K) (tVar 0) (tC (.int 2))) tNil) (start N_first_standing [.ref a]) H (PD K (.tup [tI [], tI [], .num (-1)])) := fun H1 s1 Q q => by
      obtain ⟨dx, fs, e, l1, l2, l3, l4⟩ := hrun
      refine ⟨_, rfl, ?_⟩
      refine ⟨a, _, 2, .ref p, rfl, rfl, (ht.mono (.of s1)).seq, rfl, ?_⟩
      exact ⟨p, dx, fs, rfl, s1 _ _ e, l4, _, ⟨p, S.own, S.lru, rfl, ⟨dx, fs, s1 _ _ e, l1, l2, l3, l4⟩, rfl⟩, q⟩
    exact Gv.run (gv_cat gb (gv_tup (gd_cons (gv_tup (ds := []) gd_nil) gd_nil)) (by decide)) q
theorem take_map_snoc {α β γ : Type} {A : List β} {l : List α} {m : Nat} {x : α} {f : α → β} {g : β → γ} (h : l[m]? = some x) : (A ++ (l.take (m + 1)).map f).map g = (A ++ (l.take m).map f).map g ++ [g (f x)] := by
  rw [take_succ h]; simp
theorem tup_drop (a b c d : D) : (([a, b, c, d] : List D).drop (HT.sIx 4 0 none)).take (HT.sIx 4 4 (some 3) - HT.sIx 4 0 none) = [a, b, c] := by rfl
abbrev N_standing_steps : List Str := ["setting", "standing", "rows", "rooms", "runner", "place", "found", "block", "moved", "out", "after", "cost", "gone", "mate"]
theorem sc_standing_steps : FnScope N_standing_steps ["setting", "standing"] (defScope (top 41)) := ⟨rfl, rfl, rfl, by decide +kernel, rfl, by decide +kernel, by decide +kernel⟩
theorem ok_standing_steps (d : DefAt K mg "standing_steps" 41) (R : RC K C) (c_step : CalM P w K mg base C "step" 2 ["self", "standing", "block"] (spP (RStepM K C))) (c_following_blocks : Cal P w K mg base "following_blocks" 1 ["rows", "place"] (spP (RFol K)))
    (c_mate_steps : Cal P w K mg base "mate_steps" 2 ["rooms", "mate", "block"] (spP (RMates K))) : Cal P w K mg base "standing_steps" 3 ["setting", "standing"] (spP (RSteps K C)) := by
  obtain ⟨f2, fd2, M2, b2, F2⟩ := c_step
  obtain ⟨f, fd, g, F⟩ := d
  refine ⟨f, fd, g, F.kp, F.binds fun _ _ _ _ _ _ us hl => match us, hl with | [_, _], _ => rfl, F.okX sc_standing_steps (fun vs H Q E h => ?_) (fun cdv A outer s H vs Q E hr h => ?_)⟩
  · obtain ⟨_, ⟨v, u, S, s, rfl, _⟩, _⟩ := h; rfl
  · obtain ⟨_, ⟨v, u, S, s, rfl, hS, hu0, W, Sm, G, hP⟩, q⟩ := h
    obtain ⟨a, rv, p, rfl, ht, hi, hrun⟩ := hS
    refine ⟨_, 
        (pss_cons (ps_asg (pv 0) (pg_tup rfl (pgs_cons (pg_name (i := 2) sc_standing_steps.nd rfl (Or.inl rfl)) (pgs_cons (pg_name (i := 3) sc_standing_steps.nd rfl (Or.inl rfl)) (pgs_cons (pg_name (i := 4) sc_standing_steps.nd rfl (Or.inl rfl)) pgs_nil))))) 
        (pss_cons (ps_par (i := 5) (j := 6) rfl sc_standing_steps.nd rfl rfl (by decide) rfl rfl (pa_cons (pe_ix ix_tup (pv 1) pe_int (fun _ _ => rfl)) (pa_cons (pe_lst pa_nil) pa_nil)) (by rfl)) 
        (pss_cons (ps_for (passes_of rfl) rfl (pi_tup (pe_cal c_following_blocks (hr.mono (by decide)) (pa_cons (pv 2) (pa_cons (pv 5) pa_nil)))) (pg_name (i := 7) sc_standing_steps.nd rfl (Or.inl rfl)) 
          (pss_cons (ps_asg (pe_meth (pv 4) R.cl M2 F2 (hr.mono (by decide)) b2 .nil passL (pa_cons (pe_slice sl_tupA (pv 1) po_none (po_some pe_int)) (pa_cons (pv 7) pa_nil))) (pg_tup rfl (pgs_cons (pg_name (i := 8) sc_standing_steps.nd rfl (Or.inl rfl)) (pgs_cons (pg_name (i := 9) sc_standing_steps.nd rfl (Or.inl rfl)) (pgs_cons (pg_name (i := 10) sc_standing_steps.nd rfl (Or.inl rfl)) pgs_nil))))) 
          (pss_one (ps_for (passes_of rfl) rfl (pi_list (pe_cal c_mate_steps (hr.mono (by decide)) (pa_cons (pv 3) (pa_cons (pe_ix ix_tup (pv 1) pe_int (fun _ _ => rfl)) (pa_cons (pv 7) pa_nil))))) (pg_tup rfl (pgs_cons (pg_name (i := 11) sc_standing_steps.nd rfl (Or.inl rfl)) (pgs_cons (pg_name (i := 12) sc_standing_steps.nd rfl (Or.inl rfl)) (pgs_cons (pg_name (i := 13) sc_standing_steps.nd rfl (Or.inl rfl)) pgs_nil)))) 
            (pss_one (ps_expr (pe_bm PySem.F.plainAttrs_list PySem.F.slot_list_append PySem.F.type_list_append mt_append (pv 6) (pa_cons (pe_tup (pa_cons (pv 7) (pa_cons (pv 12) (pa_cons (pv 8) (pa_cons (pv 11) (pa_cons (pe_op op_catA (pv 10) (pe_tup (pa_cons (pv 13) pa_nil))) pa_nil)))))) pa_nil)))))))) 
        (pss_one (ps_ret (pv 6)))))), ?_⟩
    refine seq_in ⟨_, rfl, ?_⟩
    refine gtup3 ht ?_
    have gs : ∀ {σ : L2.St} {H' : Hp}, σ[1]? = some (some u) → Same H H' → Gv (tVar 1) σ H' (PD K (sdD s)) := fun e s' => gv_d e (hu0.mono (.of s'))
    dsimp only
    refine seq_in (par_run (Pa := PV (.int s.pl)) (Pb := fun v' H' => ∃ l, v' = .ref l ∧ H' l = some (.lst []) ∧ H l = none) (gv_ixT (d := .num s.pl) (gs rfl (Same.refl _)) gv_c rfl).int up_V (fun H1 s1 Q q1 => lst_run fun l hl => q1 _ _ (Same.new hl) ⟨l, rfl, upd_same, same_none s1 hl⟩) fun x y H1 s1 ex ey => ?_)
    have ex : x = .int s.pl := ex
    subst ex
    obtain ⟨l, rfl, hl1, hl0⟩ := ey
    -- the blocks
    have hfn : fol S.rows s.pl = follow S s.pl := rfl
    have hfl : (follow S s.pl).length ≤ 4 := by
      unfold follow
      split
      · rw [List.length_map, List.length_range]; exact Sm.n
      · rw [List.getD_eq_getElem?_getD]
        cases e : S.rows[s.pl.toNat]? with
        | none => simp
        | some r => simpa using Sm.row r (List.mem_of_getElem? e)
    have gfol : Gv (tCall (spP (RFol K)) [] E0 (tCons (tVar 2) (tCons (tVar 5) tNil))) [some (.ref a), some u, some rv, some (.int (S.rooms : Int)), some (.ref p), some (.int s.pl), some (.ref l), none, none, none, none, none, none, none] H1 (PD K (tI (follow S s.pl))) :=
      gv_call (ga_two (gv_d (v := rv) rfl (hi.mono (.of s1))) up_D (gv_v (v := .int s.pl) rfl) up_V) fun vs H' s' pp => by
        cases pp with
        | cons e pp => cases pp with
          | cons e' pp => cases pp; cases e'; exact ⟨_, S.rows, s.pl, rfl, e, by have := Sm.n; show S.rows.length ≤ 40; have : S.n = S.rows.length := rfl; omega, G.pl, by rw [hfn]⟩
    refine seq_in (gfol.run fun vf H2 s2 hvf => ?_)
    obtain ⟨af, rfl, htf⟩ := hvf.ints
    refine ⟨af, rfl, ⟨_, htf.seq⟩, ?_⟩
    have s02 := s1.trans s2
    have hmapl : ((follow S s.pl).map V.int).length = (follow S s.pl).length := by simp
    have mlen : ∀ b, (stepsAt S s b).length ≤ 5 := fun b => by
      unfold stepsAt mates
      rw [List.length_map]
      have := G.mlen
      have := Sm.rooms
      split
      · simp
      · split
        · simp
        · rw [List.length_map]; omega
    have flen : ∀ M : List Int, (M.flatMap (stepsAt S s)).length ≤ 5 * M.length := fun M => by
      induction M with
      | nil => simp
      | cons b M ih =>
        rw [List.flatMap_cons, List.length_append, List.length_cons]
        have := mlen b
        omega
    refine for_tup (K := K) (a := af) (xs := (follow S s.pl).map V.int) (fun j σ H' => (∃ x1 x2 x3 x4 x5 x6 x7, σ = [some (.ref a), some u, some rv, some (.int (S.rooms : Int)), some (.ref p), some (.int s.pl), some (.ref l), x1, x2, x3, x4, x5, x6, x7]) ∧ Same H H' ∧ TS H2 H' ∧ ∃ acc, H' l = some (.lst acc) ∧ IsAll K H' acc ((((follow S s.pl).take j).flatMap (stepsAt S s)).map stD))
      ⟨⟨none, none, none, none, none, none, none, rfl⟩, s02, TS.refl _, [], s2 _ _ hl1, .nil⟩ (fun j σ H' _ pp => (htf.mono pp.2.2.1).seq) (fun j x σ H' hx pp => ?_) fun σ H' pp => ?_
    · obtain ⟨⟨x1, x2, x3, x4, x5, x6, x7, rfl⟩, s3, t3, acc, hacc, hia⟩ := pp
      rw [List.getElem?_map] at hx
      obtain ⟨b, hb, rfl⟩ := Option.map_eq_some_iff.mp hx
      have hbf := List.mem_of_getElem? hb
      have hbr := follow_rng W hbf
      have hjf : j < (follow S s.pl).length := (List.getElem?_eq_some_iff.mp hb).1
      show tSeq _ _ _ [some (.ref a), some u, some rv, some (.int (S.rooms : Int)), some (.ref p), some (.int s.pl), some (.ref l), some (.int b), x2, x3, x4, x5, x6, x7] _
      generalize hr : ruleStep S.lru S.own s.st s.me b = r
      -- the rule's step
      have gst : Gv (tMeth C "step" (spP (RStepM K C)) [] E0 (tVar 4) (tCons (tSl (rSlA K) (tVar 1) tNoPart (tPart (tC (.int 3)))) (tCons (tVar 7) tNil))) [some (.ref a), some u, some rv, some (.int (S.rooms : Int)), some (.ref p), some (.int s.pl), some (.ref l), some (.int b), x2, x3, x4, x5, x6, x7] H'
          (PD K (.tup [.num r.1, .num r.2.1, .tup [tI r.2.2.1, tI r.2.2.2, .num b]])) := fun H4 s4 Q q4 => by
        have hrun4 := (hrun.same s3).same s4
        obtain ⟨dx, fs, e, l1, l2, l3, l4⟩ := id hrun4
        refine ⟨_, rfl, p, dx, fs, rfl, e, l3, ?_⟩
        have gsl : Gv (tSl (rSlA K) (tVar 1) tNoPart (tPart (tC (.int 3)))) [some (.ref a), some u, some rv, some (.int (S.rooms : Int)), some (.ref p), some (.int s.pl), some (.ref l), some (.int b), x2, x3, x4, x5, x6, x7] H4 (PD K (.tup [tI s.st, tI s.me, .num s.pl])) :=
          gv_slice (ds := [tI s.st, tI s.me, .num s.pl, tI s.ma]) (gs rfl (s3.trans s4)) (.inl ⟨rfl, rfl⟩) (.inr ⟨3, rfl, rfl⟩)
        refine gsl.run fun y H5 s5 hy => ?_
        refine ⟨_, rfl, ?_⟩
        have hl5 := G.len
        have ho5 := Sm.own
        refine ⟨_, ⟨p, y, b, s.st, s.me, s.pl, S.own, S.lru, rfl, hrun4.same s5, hy, by omega, by rw [G.me, srt_len]; omega, fun _ hme => ?_, rfl⟩, fun v' H6 s6 hv' => q4 v' H6 (s5.trans s6) (by rw [hr] at hv'; exact hv')⟩
        intro z
        rw [G.me, z] at hme
        have := W.own
        rw [srt_len] at hme
        simp at hme
        omega
      refine seq_in (gst.run fun y H4 s4 hy => ?_)
      obtain ⟨a4, xs4, rfl, ht4, hi4⟩ := hy.tup_inv
      obtain ⟨z1, z2, z3, rfl, k1, k2, k3⟩ := isAll3 hi4
      refine gtup3 ht4 ?_
      dsimp only
      obtain rfl := k1.int_inv
      obtain rfl := k2.int_inv
      have s04 := s3.trans s4
      -- the mates
      have gma : Gv (tCall (spP (RMates K)) [] E0 (tCons (tVar 3) (tCons (tOp (rIxT K) (tVar 1) (tC (.int 3))) (tCons (tVar 7) tNil)))) [some (.ref a), some u, some rv, some (.int (S.rooms : Int)), some (.ref p), some (.int s.pl), some (.ref l), some (.int b), some (.int r.1), some (.int r.2.1), some z3, x5, x6, x7] H4 (PLn K H4 ((mates S.rooms s.ma b).map mtD)) :=
        gv_call (ga_cons (gv_v (v := .int (S.rooms : Int)) rfl) up_V (ga_cons (gv_ixT (d := tI s.ma) (ds := [tI s.st, tI s.me, .num s.pl, tI s.ma]) (gs rfl s04) gv_c rfl) up_D (ga_cons (gv_v (v := .int b) rfl) up_V ga_nil))) fun vs H' s' pp => by
          cases pp with
          | cons e1 pp => cases pp with
            | cons e2 pp => cases pp with
              | cons e3 pp =>
                cases pp; cases e1; cases e3
                exact ⟨_, s.ma, b, S.rooms, rfl, e2, G.mnd, by have := G.mlen; have := Sm.rooms; omega, fun v' H6 h6 => PLn.old s' h6⟩
      refine gma.run fun vm H5 s5 hvm => ?_
      obtain ⟨lm, xm, rfl, hlm, him, hnew⟩ := hvm
      refine ⟨lm, rfl, ⟨_, SqL.of hlm⟩, ?_⟩
      have hxm : xm.length = (mates S.rooms s.ma b).length := by rw [him.length, List.length_map]
      have hacc5 : H5 l = some (.lst acc) := s5 _ _ (s4 _ _ hacc)
      have hia5 := hia.mono (.of (s4.trans s5))
      have t5 : TS H2 H5 := t3.trans (.of (s4.trans s5))
      have s05 := s04.trans s5
      have hz3 : Is K H5 z3 (.tup [tI r.2.2.1, tI r.2.2.2, .num b]) := k3.mono (.of s5)
      -- a list's own address
      have hll : lm ≠ l := fun z => by rw [z, s4 _ _ hacc] at hnew; cases hnew
      refine for_list (K := K) (a := lm) (xs := xm) (fun m σ H' => (∃ x5 x6 x7, σ = [some (.ref a), some u, some rv, some (.int (S.rooms : Int)), some (.ref p), some (.int s.pl), some (.ref l), some (.int b), some (.int r.1), some (.int r.2.1), some z3, x5, x6, x7]) ∧ Same H H' ∧ TS H5 H' ∧ H' lm = some (.lst xm) ∧ ∃ acc', H' l = some (.lst acc') ∧
          IsAll K H' acc' ((((follow S s.pl).take j).flatMap (stepsAt S s) ++ ((mates S.rooms s.ma b).take m).map fun m => (⟨b, m.2.1, r.1, m.1, ⟨r.2.2.1, r.2.2.2, b, m.2.2⟩⟩ : Stp)).map stD))
        ⟨⟨x5, x6, x7, rfl⟩, s05, TS.refl _, hlm, acc, hacc5, by simpa using hia5⟩ (fun m σ H' _ pp => SqL.of pp.2.2.2.1) (fun m x σ H' hx pp => ?_) fun σ H' pp => ?_
      · obtain ⟨⟨x5, x6, x7, rfl⟩, s6, t6, hlm6, acc', hacc', hia'⟩ := pp
        obtain ⟨dd, hd, hxd⟩ := him.get hx
        rw [List.getElem?_map] at hd
        obtain ⟨mm, hm, rfl⟩ := Option.map_eq_some_iff.mp hd
        obtain ⟨am, xsm, rfl, htm, him2⟩ := (hxd.mono t6).tup_inv
        obtain ⟨y1, y2, y3, rfl, q1, q2, q3⟩ := isAll3 him2
        refine gtup3 htm ?_
        obtain rfl := q1.int_inv
        dsimp only
        have hml : m < (mates S.rooms s.ma b).length := (List.getElem?_eq_some_iff.mp hm).1
        have bound : acc'.length ≤ 100000 := by
          rw [hia'.length, List.length_map, List.length_append, List.length_map, List.length_take]
          have := flen ((follow S s.pl).take j)
          have e1 : ((follow S s.pl).take j).length ≤ 4 := by rw [List.length_take]; omega
          have e2 : (mates S.rooms s.ma b).length ≤ 5 := by have := mlen b; unfold stepsAt at this; rw [List.length_map] at this; exact this
          omega
        refine app_run (l := l) (Pe := PD K (stD ⟨b, mm.2.1, r.1, mm.1, ⟨r.2.2.1, r.2.2.2, b, mm.2.2⟩⟩)) (gv_v rfl) hacc' (gv_tup (gd_cons (gv_v (i := 7) (v := .int b) rfl).num (gd_cons (gv_d (i := 12) rfl q2) (gd_cons (gv_v (i := 8) (v := .int r.1) rfl).num (gd_cons (gv_v (i := 11) (v := .int mm.1) rfl).num
          (gd_cons (gv_cat (ds := [tI r.2.2.1, tI r.2.2.2, .num b]) (es := [tI mm.2.2]) (gv_d (i := 10) rfl (hz3.mono t6)) (gv_tup (gd_cons (gv_d (i := 13) rfl q3) gd_nil)) (by simp)) gd_nil)))))) bound fun y H7 s7 hy => ?_
        have e7 := s7 _ _ hacc'
        have t7 : TS H7 (upd H7 l (.lst (acc' ++ [y]))) := TS.lst e7
        refine ⟨⟨_, _, _, rfl⟩, same_wr (Same.trans s6 s7) hl0, (t6.trans (.of s7)).trans t7, by rw [upd_ne hll]; exact s7 _ _ hlm6, _, upd_same, ?_⟩
        rw [take_map_snoc hm]
        exact ((hia'.mono (.of s7)).mono t7).append (.cons (hy.mono t7) .nil)
      · obtain ⟨⟨x5, x6, x7, rfl⟩, s6, t6, hlm6, acc', hacc', hia'⟩ := pp
        rw [hxm, List.take_length] at hia'
        refine ⟨⟨_, _, _, _, _, _, _, rfl⟩, s6, t5.trans t6, acc', hacc', ?_⟩
        rw [take_succ hb, List.flatMap_append]
        have : [b].flatMap (stepsAt S s) = (mates S.rooms s.ma b).map fun m => (⟨b, m.2.1, r.1, m.1, ⟨r.2.2.1, r.2.2.2, b, m.2.2⟩⟩ : Stp) := by
          rw [List.flatMap_cons, List.flatMap_nil, List.append_nil]
          unfold stepsAt
          rw [hr]
        rw [this]
        exact hia'
    · obtain ⟨⟨x1, x2, x3, x4, x5, x6, x7, rfl⟩, s3, t3, acc, hacc, hia⟩ := pp
      rw [hmapl, List.take_length] at hia
      refine Gv.run (gv_v (i := 6) (v := .ref l) rfl) fun v' H' s' e => q v' H' (s3.trans s') ?_
      have e : v' = .ref l := e
      subst e
      exact hP _ _ ⟨l, acc, rfl, s' _ _ hacc, hia.mono (.of s'), hl0⟩
end
end K52
set_option maxHeartbeats 4000000
/-! The table of what is met. -/
namespace K52
open PySem PySem.Spec PyProof.Rows L2
section
variable {P : Program} {w : World} {K : PySem.W.Frag} {σ : L2.St} {H : Hp} {tk te : TE} {s : Sd}
theorem gv_disp1 (hk : Gv tk σ H (PD K (sdD s))) (hup : ∀ H', Same H H' → Gv tk σ H' (PD K (sdD s))) : Gv (tNDisp1 P w K tk (tLst tNil)) σ H (fun v' H' => ∃ T l, v' = .ref T ∧ DW P w K H' T [(sdD s, .ref l)] ∧ H T = none) := fun H1 s1 Q q => by
  intro p ob0 hp d0
  have sp : Same H1 (upd H1 p ob0) := Same.new hp
  refine (hup _ (s1.trans sp)).run fun y H2 s2 hy => ?_
  refine lst_run fun l hl => ?_
  obtain ⟨b, rfl, hb⟩ := sd_ref hy
  have sl : Same H2 (upd H2 l (.lst [])) := Same.new hl
  have d2 : DW P w K (upd H2 l (.lst [])) p [] := d0.same (s2.trans sl)
  refine ⟨sdD s, b, rfl, hb.mono (.of sl), sd8 s, d2, fun ob d3 => ?_⟩
  have hp1 : H1 p = none := hp
  refine q _ _ (same_wr ((sp.trans s2).trans sl) hp1) ⟨p, l, rfl, d3, same_none s1 hp⟩
theorem up_Ln {H0 : Hp} {ds : List D} : Up (PLn K H0 ds) := fun _ _ _ s h => let ⟨l, xs, e, a, b, c⟩ := h; ⟨l, xs, e, s _ _ a, b.mono (.of s), c⟩
end
/-! ### what holds while the table is made -/
structure MInv (P : Program) (w : World) (K : PySem.W.Frag) (S : Setg) (H0 H : Hp) (T Wl : Addr) (W : List Sd) (f : Sd → Addr) (j : Nat) : Prop where
  dw : DW P w K H T (tabL (fun s => .ref (f s)) W)
  wl : ∃ ws, H Wl = some (.lst ws) ∧ IsAll K H ws (W.map sdD)
  nd : W.Nodup
  fi : first ∈ W
  gd : ∀ s ∈ W, Good S s
  mt : Met S W
  ls : ∀ i, i < j → ∀ s, W[i]? = some s → LstAt K H (f s) (steps S s) ∧ f s ≠ Wl
  cl : ∀ i, i < j → ∀ s, W[i]? = some s → ∀ p ∈ steps S s, p.to ∈ W
  nT : H0 T = none
  nW : H0 Wl = none
section
variable {P : Program} {w : World} {K : PySem.W.Frag} {S : Setg} {H0 H H' : Hp} {T Wl : Addr} {W : List Sd} {f : Sd → Addr} {j : Nat}
theorem MInv.same (s : Same H H') (I : MInv P w K S H0 H T Wl W f j) : MInv P w K S H0 H' T Wl W f j :=
  ⟨I.dw.same s, (let ⟨ws, e, i⟩ := I.wl; ⟨ws, s _ _ e, i.mono (.of s)⟩), I.nd, I.fi, I.gd, I.mt, fun i hi s' e => ⟨(I.ls i hi s' e).1.same s, (I.ls i hi s' e).2⟩, I.cl, I.nT, I.nW⟩
theorem nodup_sub {α : Type} [BEq α] [LawfulBEq α] {l m : List α} (h : l.Nodup) (hs : ∀ x ∈ l, x ∈ m) : l.length ≤ m.length := h.length_le_of_subset hs
theorem MInv.len (hn : S.n ≤ 4) (I : MInv P w K S H0 H T Wl W f j) : W.length ≤ 6000 :=
  Nat.le_trans (List.Nodup.length_le_of_subset I.nd (l₂ := univ) fun s hs => mem_univ hn (I.gd s hs)) univ_len
theorem MInv.ext (I : MInv P w K S H0 H T Wl W f j) {a : Addr} {xs : List V} (h : H a = some (.lst xs)) : a ≠ T := fun z => by
  subst z
  obtain ⟨_, _, ys, e, _⟩ := I.dw
  rw [h] at e
  have e := Option.some.inj e
  exact absurd (show HO.lst xs = HO.ext _ from e) (fun z => by cases z)
/-- the table's entry of W[j] is written -/
theorem MInv.fill (I : MInv P w K S H0 H T Wl W f j) {s : Sd} (hs : W[j]? = some s) {ob : HO} {l : Addr} {xs : List V} (hl : H l = some (.lst xs)) (hi : IsAll K H xs ((steps S s).map stD)) (hne : l ≠ Wl) (d : DW P w K (upd H T ob) T (putK (tabL (fun s => .ref (f s)) W) (sdD s) (.ref l))) :
    DW P w K (upd H T ob) T (tabL (fun t => .ref (ups f s l t)) W) ∧ (∃ ws, (upd H T ob) Wl = some (.lst ws) ∧ IsAll K (upd H T ob) ws (W.map sdD)) ∧ ∀ i, i < j + 1 → ∀ t, W[i]? = some t → LstAt K (upd H T ob) (ups f s l t) (steps S t) ∧ ups f s l t ≠ Wl := by
  have ts := I.dw.ts ob
  obtain ⟨ws, hw, hwi⟩ := I.wl
  have hsW := List.mem_of_getElem? hs
  have key : ∀ {a xs}, H a = some (.lst xs) → (upd H T ob) a = H a := fun h => upd_ne (I.ext h)
  refine ⟨?_, ⟨ws, by rw [key hw]; exact hw, hwi.mono ts⟩, fun i hi' t ht => ?_⟩
  · rw [tab_in hsW] at d
    have e : (ups (fun t => V.ref (f t)) s (.ref l)) = fun t => V.ref (ups f s l t) := by
      funext t
      by_cases h : t = s
      · subst h; rw [ups_same, ups_same]
      · rw [ups_ne h, ups_ne h]
    rw [e] at d
    exact d
  · by_cases e : t = s
    · subst e
      rw [ups_same]
      exact ⟨⟨xs, by rw [key hl]; exact hl, hi.mono ts⟩, hne⟩
    · rw [ups_ne e]
      have hij : i < j := by
        rcases Nat.lt_or_ge i j with h | h
        · exact h
        · have : i = j := by omega
          subst this
          rw [hs] at ht; cases ht; exact absurd rfl e
      obtain ⟨⟨ys, h1, h2⟩, h3⟩ := I.ls i hij t ht
      exact ⟨⟨ys, by rw [key h1]; exact h1, h2.mono ts⟩, h3⟩
/-- a standing not met before is put in -/
theorem MInv.push (I : MInv P w K S H0 H T Wl W f j) {t : Sd} (ht : t ∉ W) (Gt' : Good S t) (Mt : ∃ g, Path S first t g) (hj : j ≤ W.length) {ob : HO} {l : Addr} (d : DW P w K (upd H T ob) T (putK (tabL (fun s => .ref (f s)) W) (sdD t) (.ref l)))
    {ws : List V} (hw : H Wl = some (.lst ws)) (hwi : IsAll K H ws (W.map sdD)) {H2 : Hp} (s2 : Same (upd H T ob) H2) {y : V} (hy : Is K H2 y (sdD t)) : MInv P w K S H0 (upd H2 Wl (.lst (ws ++ [y]))) T Wl (W ++ [t]) (ups f t l) j := by
  have ts := I.dw.ts ob
  have key : ∀ {a xs}, H a = some (.lst xs) → H2 a = some (.lst xs) := fun h => s2 _ _ (by rw [upd_ne (I.ext h)]; exact h)
  have hw2 := key hw
  have t2 : TS H2 (upd H2 Wl (.lst (ws ++ [y]))) := TS.lst hw2
  have tt : TS H (upd H2 Wl (.lst (ws ++ [y]))) := (ts.trans (.of s2)).trans t2
  have nWT : Wl ≠ T := I.ext hw
  have d2 : DW P w K H2 T (tabL (fun s => .ref (ups f t l s)) (W ++ [t])) := by
    rw [tab_new ht] at d
    have e : (ups (fun t => V.ref (f t)) t (.ref l)) = fun s => V.ref (ups f t l s) := by
      funext s
      by_cases h : s = t
      · subst h; rw [ups_same, ups_same]
      · rw [ups_ne h, ups_ne h]
    rw [e] at d
    exact d.same s2
  refine ⟨d2.mono t2 (upd_ne (Ne.symm nWT)), ⟨_, upd_same, ?_⟩, ?_, List.mem_append_left _ I.fi, ?_, ?_, ?_, ?_, I.nT, I.nW⟩
  · rw [List.map_append]
    exact (hwi.mono tt).append (.cons (hy.mono t2) .nil)
  · rw [List.nodup_append]
    exact ⟨I.nd, by simp, fun a ha b hb e => by simp at hb; subst hb; subst e; exact ht ha⟩
  · intro s hs
    rcases List.mem_append.mp hs with h | h
    · exact I.gd s h
    · simp at h; subst h; exact Gt'
  · intro s hs
    rcases List.mem_append.mp hs with h | h
    · exact I.mt s h
    · simp at h; subst h; exact Mt
  · intro i hi s hs
    have hs' : W[i]? = some s := by rw [List.getElem?_append_left (by omega)] at hs; exact hs
    have hne : s ≠ t := fun z => ht (by rw [← z]; exact List.mem_of_getElem? hs')
    rw [ups_ne hne]
    obtain ⟨⟨ys, h1, h2⟩, h3⟩ := I.ls i hi s hs'
    exact ⟨⟨ys, by rw [upd_ne h3]; exact key h1, h2.mono tt⟩, h3⟩
  · intro i hi s hs p hp
    have hs' : W[i]? = some s := by rw [List.getElem?_append_left (by omega)] at hs; exact hs
    exact List.mem_append_left _ (I.cl i hi s hs' p hp)
end
def TabP (P : Program) (w : World) (K : PySem.W.Frag) (S : Setg) : V → Hp → Prop := fun v' H' => ∃ (T : Addr) (W : List Sd) (f : Sd → Addr), v' = .ref T ∧ DW P w K H' T (tabL (fun s => .ref (f s)) W) ∧ (∀ s ∈ W, LstAt K H' (f s) (steps S s)) ∧ W.Nodup ∧ first ∈ W ∧ Closed S W ∧ Met S W ∧ ∀ s ∈ W, Good S s
def RMet (P : Program) (w : World) (K : PySem.W.Frag) (C : Addr) : List V → Hp → (V → Hp → Prop) → Prop := fun vs H Pr => ∃ v S, vs = [v] ∧ SetAt K C H v S ∧ WfS S ∧ Small S ∧ Pr = TabP P w K S
section
variable {P : Program} {w : World} {K : PySem.W.Frag} {mg : Str → Option Value} {base : Heap} {C : Addr}
abbrev N_met_table : List Str := ["setting", "first", "table", "waiting", "at", "here", "step"]
theorem sc_met_table : FnScope N_met_table ["setting"] (defScope (top 42)) := ⟨rfl, rfl, rfl, by decide +kernel, rfl, by decide +kernel, by decide +kernel⟩
theorem ok_met_table (d : DefAt K mg "met_table" 42) (T : Tx mg) (Cc : Co K mg) (c_first_standing : Cal P w K mg base "first_standing" 3 ["setting"] (spP (RFirst K C))) (c_standing_steps : Cal P w K mg base "standing_steps" 3 ["setting", "standing"] (spP (RSteps K C))) : Cal P w K mg base "met_table" 4 ["setting"] (spP (RMet P w K C)) := by
  obtain ⟨t20000, e20000⟩ := Cc.met
  obtain ⟨f, fd, g, F⟩ := d
  refine ⟨f, fd, g, F.kp, F.binds fun _ _ _ _ _ _ us hl => match us, hl with | [_], _ => rfl, F.okX sc_met_table (fun vs H Q E h => ?_) (fun cdv A outer s H vs Q E hr h => ?_)⟩
  · obtain ⟨_, ⟨v, S, rfl, _⟩, _⟩ := h; rfl
  · obtain ⟨_, ⟨v, S, rfl, hS, Wf, Sm, rfl⟩, q⟩ := h
    have hu := hr.units
    refine ⟨_, 
        (pss_cons (ps_set (i := 1) sc_met_table.nd rfl (Or.inl rfl) (pe_cal c_first_standing (hr.mono (by decide)) (pa_cons (pv 0) pa_nil))) 
        (pss_cons (ps_par3 (i := 2) (j := 3) (l := 4) rfl sc_met_table.nd rfl rfl rfl (by decide) (by decide) (by decide) rfl rfl rfl (pa_cons (pe_ndisp1 hu (pv 1) (pe_lst pa_nil)) (pa_cons (pe_lst (pa_cons (pv 1) pa_nil)) (pa_cons pe_int pa_nil))) (by rfl)) 
        (pss_cons (ps_while (passes_of rfl) (pt_cmpR op_lt (pv 4) (pe_callB cr_lenS rfl T.len boot_len' (pa_cons (pv 3) pa_nil)) (nomark _)) 
          (pss_cons (ps_if (pt_cmpR op_gt (pe_callB cr_lenS rfl T.len boot_len' (pa_cons (pv 3) pa_nil)) (pe_glob (v := .int 20000) rfl e20000 ⟨_, rfl⟩) (nomark _)) 
            (pss_one ps_never) pss_nil) 
          (pss_cons (ps_set (i := 5) sc_met_table.nd rfl (Or.inl rfl) (pe_ix ix_list (pv 3) (pv 4) (fun _ _ => rfl))) 
          (pss_cons (ps_asg (pe_cal c_standing_steps (hr.mono (by decide)) (pa_cons (pv 0) (pa_cons (pv 5) pa_nil))) (pg_sub (pv 2) (pv 5) (set_n hu))) 
          (pss_cons (ps_for (passes_of rfl) rfl (pi_list (pe_nget hu (pv 2) (pv 5) (fun _ _ => rfl))) (pg_name (i := 6) sc_met_table.nd rfl (Or.inl rfl)) 
            (pss_one (ps_if (pt_cmp (pc_nnotin hu (pe_ix ix_tup (pv 6) pe_int (fun _ _ => rfl)) (pv 2))) 
              (pss_cons (ps_asg (pe_lst pa_nil) (pg_sub (pv 2) (pe_ix ix_tup (pv 6) pe_int (fun _ _ => rfl)) (set_n hu))) 
              (pss_one (ps_expr (pe_bm PySem.F.plainAttrs_list PySem.F.slot_list_append PySem.F.type_list_append mt_append (pv 3) (pa_cons (pe_ix ix_tup (pv 6) pe_int (fun _ _ => rfl)) pa_nil))))) pss_nil))) 
          (pss_one (ps_aug (i := 4) sc_met_table.nd rfl (Or.inl rfl) pe_int ip_add))))))) 
        (pss_one (ps_ret (pv 2)))))), ?_⟩
    -- first
    refine seq_in (asg_in (Gv.run (gv_call (P := PD K (sdD first)) (ga_one (gv_var (P := fun v H => SetAt K C H v S) (v := v) rfl hS up_Set) up_Set) fun vs H' s pp => ?_) fun fv H1 s1 hfv => ?_))
    · cases pp with
      | cons e pp => cases pp; exact ⟨_, S, rfl, e, rfl⟩
    have hS1 := hS.same s1
    -- table, waiting, at
    refine seq_in (par3_run (gv_disp1 (P := P) (w := w) (s := first) (gv_d (v := fv) rfl hfv) fun H' s' => gv_d (v := fv) rfl (hfv.mono (.of s'))) (fun _ _ _ s' ⟨T, l, e, d, n⟩ => ⟨T, l, e, d.same s', n⟩) (gv_lstN (gd_cons (gv_d (v := fv) rfl hfv) gd_nil)) up_Ln gv_c fun x y z H2 s2 px py ez => ?_)
    obtain ⟨Ta, l0, rfl, hd, hnT⟩ := px
    obtain ⟨Wl, xs, rfl, hWl, hxs, hnW⟩ := py
    have ez : z = .int 0 := ez
    subst ez
    have s02 := s1.trans s2
    have I0 : MInv P w K S H H2 Ta Wl [first] (fun _ => l0) 0 :=
      ⟨hd, ⟨xs, hWl, hxs⟩, by simp, by simp, fun s hs => (by simp at hs; subst hs; exact good_first S), fun s hs => (by simp at hs; subst hs; exact ⟨0, .nil _⟩), (fun i hi => by omega), (fun i hi => by omega), same_none s1 hnT, same_none s1 hnW⟩
    dsimp only
    -- while
    refine seq_in (while_gt (m0 := 6000) (fun m σ H' => ∃ j W f x5 x6, σ = [some v, some fv, some (.ref Ta), some (.ref Wl), some (.int ((j : Nat) : Int)), x5, x6] ∧ Same H H' ∧ MInv P w K S H H' Ta Wl W f j ∧ j ≤ W.length ∧ m = 6000 - j)
      ⟨0, [first], fun _ => l0, none, none, rfl, s02, I0, Nat.zero_le _, rfl⟩ ?_)
    rintro m σ H3 ⟨j, W, f, x5, x6, rfl, s3, I, hj, rfl⟩
    have hlen := I.len Sm.n
    obtain ⟨ws, hw, hwi⟩ := id I.wl
    have hwl : ws.length = W.length := by rw [hwi.length, List.length_map]
    have glen : ∀ {σ : L2.St} {H' : Hp}, σ[3]? = some (some (.ref Wl)) → Same H3 H' → Gv (tCB (rLenS K) (tCons (tVar 3) tNil)) σ H' (PV (.int (W.length : Int))) := fun e s' =>
      (gv_lenL (ds := W.map sdD) (gv_var e ⟨Wl, ws, rfl, s' _ _ hw, hwi.mono (.of s')⟩ up_L)).imp fun v' H' e => by rw [e, List.length_map]
    refine ⟨decide ((j : Int) < (W.length : Int)), gt_test (gv_opI (gv_v rfl) (glen rfl (Same.refl _))), fun H4 s4 => ?_⟩
    rcases Nat.lt_or_ge j W.length with hjW | hjW
    rotate_left
    · rw [if_neg (by simp; omega)]
      have ej : j = W.length := by omega
      refine Gv.run (gv_v (i := 2) (v := .ref Ta) rfl) fun v' H5 s5 e => q v' H5 ((s3.trans s4).trans s5) ?_
      have e : v' = .ref Ta := e
      subst e
      have I5 := (I.same s4).same s5
      refine ⟨Ta, W, f, rfl, I5.dw, fun s hs => ?_, I5.nd, I5.fi, fun s hs p hp => ?_, I5.mt, I5.gd⟩
      · obtain ⟨i, hi⟩ := List.mem_iff_getElem?.mp hs
        exact (I5.ls i (by have := (List.getElem?_eq_some_iff.mp hi).1; omega) s hi).1
      · obtain ⟨i, hi⟩ := List.mem_iff_getElem?.mp hs
        exact I5.cl i (by have := (List.getElem?_eq_some_iff.mp hi).1; omega) s hi p hp
    · rw [if_pos (by simp; omega)]
      -- not too many
      refine seq_in (Gt.run ((gt_test (gv_opI (glen rfl s4) gv_c)).cast (b' := false) (by simp; omega)) fun H5 s5 => ?_)
      rw [if_neg (by decide)]
      refine next_in ?_
      dsimp only
      have s35 := s4.trans s5
      obtain ⟨s, hs⟩ : ∃ s, W[j]? = some s := ⟨_, List.getElem?_eq_getElem hjW⟩
      have hsW := List.mem_of_getElem? hs
      have Gs := I.gd s hsW
      obtain ⟨g, Pg⟩ := I.mt s hsW
      -- here
      refine seq_in (asg_in (Gv.run (gv_ixL (K := K) (d := sdD s) (ds := W.map sdD) (k := (j : Int)) (gv_var (v := .ref Wl) rfl ⟨Wl, ws, rfl, s35 _ _ hw, hwi.mono (.of s35)⟩ up_L) (gv_v rfl) (atI_nat (by rw [List.getElem?_map, hs]; rfl))) fun hv H6 s6 hhv => ?_))
      dsimp only
      have s36 := s35.trans s6
      have I6 := I.same s36
      have s06 := s3.trans s36
      -- table[here] = ..
      refine seq_in (nput_run (P := P) (w := w) (s := s) (T := Ta) (kvs := tabL (fun s => .ref (f s)) W) (gv_call (R := RSteps K C) (P := PLn K H6 ((steps S s).map stD)) (ga_two (gv_var (P := fun v H => SetAt K C H v S) (v := v) rfl (hS.same s06) up_Set) up_Set (gv_d (v := hv) rfl hhv) up_D) fun vs H' s' pp => ?_) up_Ln (gv_v (v := .ref Ta) rfl) (gv_d (v := hv) rfl hhv) I6.dw (by rw [tab_len]; omega) fun x H7 ob s7 hx dw7 dput => ?_)
      · cases pp with
        | cons e1 pp => cases pp with
          | cons e2 pp => cases pp; exact ⟨_, _, S, s, rfl, e1, e2, Wf, Sm, Gs, fun v' H8 h8 => PLn.old s' h8⟩
      obtain ⟨l, xl, rfl, hl, hil, hln⟩ := hx
      have I7 := I6.same s7
      have hlW : l ≠ Wl := fun z => by rw [z, s36 _ _ hw] at hln; cases hln
      obtain ⟨d8, ⟨ws8, hw8, hwi8⟩, ls8⟩ := I7.fill hs hl hil hlW dput
      have hxl : xl.length = (steps S s).length := by rw [hil.length, List.length_map]
      have lT : l ≠ Ta := I7.ext hl
      have ts8 := I7.dw.ts ob
      have hl8 : (upd H7 Ta ob) l = some (.lst xl) := by rw [upd_ne lT]; exact hl
      have s08 : Same H (upd H7 Ta ob) := same_wr (s06.trans s7) I.nT
      have hh8 : Is K (upd H7 Ta ob) hv (sdD s) := (hhv.mono (.of s7)).mono ts8
      have gget : Gv (tNGet P w K (tVar 2) (tVar 5)) [some v, some fv, some (.ref Ta), some (.ref Wl), some (.int (j : Int)), some hv, x6] (upd H7 Ta ob) (PV (.ref l)) :=
        gv_nget (gv_v (v := .ref Ta) rfl) (gv_d (v := hv) rfl hh8) d8.rd (by rw [tab_val, if_pos hsW, ups_same])
      dsimp only
      refine seq_in (gget.run fun lv H9 s9 elv => ?_)
      have elv : lv = .ref l := elv
      subst elv
      refine ⟨l, rfl, ⟨_, SqL.of (s9 _ _ hl8)⟩, ?_⟩
      have I9 : MInv P w K S H (upd H7 Ta ob) Ta Wl W (ups f s l) j :=
        ⟨d8, ⟨ws8, hw8, hwi8⟩, I.nd, I.fi, I.gd, I.mt, fun i hi t ht => ls8 i (by omega) t ht, I.cl, I.nT, I.nW⟩
      refine for_list (K := K) (a := l) (xs := xl) (fun k σ H' => ∃ W' f' x6, σ = [some v, some fv, some (.ref Ta), some (.ref Wl), some (.int (j : Int)), some hv, x6] ∧ Same H H' ∧ MInv P w K S H H' Ta Wl W' f' j ∧ W'[j]? = some s ∧ f' s = l ∧ H' l = some (.lst xl) ∧ IsAll K H' xl ((steps S s).map stD) ∧ (∀ i p, i < k → (steps S s)[i]? = some p → p.to ∈ W'))
        ⟨W, ups f s l, x6, rfl, s08.trans s9, I9.same s9, hs, ups_same, s9 _ _ hl8, (hil.mono ts8).mono (.of s9), fun i p hi => by omega⟩ (fun k σ H' _ pp => by obtain ⟨_, _, _, _, _, _, _, _, e, _⟩ := pp; exact SqL.of e) (fun k x σ H' hx pp => ?_) fun σ H' pp => ?_
      · obtain ⟨W', f', x6, rfl, sA, IA, hsA, hfA, hlA, hiA, hto⟩ := pp
        obtain ⟨dd, hdd, hxd⟩ := hiA.get hx
        rw [List.getElem?_map] at hdd
        obtain ⟨p, hp, rfl⟩ := Option.map_eq_some_iff.mp hdd
        have hpm : p ∈ steps S s := List.mem_of_getElem? hp
        have gto : ∀ {σ : L2.St} {H'' : Hp}, σ[6]? = some (some x) → TS H' H'' → Gv (tOp (rIxT K) (tVar 6) (tC (.int 4))) σ H'' (PD K (sdD p.to)) := fun e t => gv_ixT (d := sdD p.to) (gv_d e (show Is K _ x (stD p) from hxd.mono t)) gv_c rfl
        have lenA := IA.len Sm.n
        refine Gt.run (gt_nin (P := P) (w := w) (ng := true) (s := p.to) (gv_v (v := .ref Ta) rfl) (gto rfl (TS.refl _)) IA.dw.rd) fun HB sB => ?_
        rw [tab_val]
        by_cases hmem : p.to ∈ W'
        · rw [if_pos hmem, if_neg (by simp)]
          refine next_in ⟨W', f', _, rfl, sA.trans sB, IA.same sB, hsA, hfA, sB _ _ hlA, hiA.mono (.of sB), fun i p' hi hp' => ?_⟩
          rcases Nat.lt_or_ge i k with h | h
          · exact hto i p' h hp'
          · have : i = k := by omega
            subst this
            rw [hp] at hp'; cases hp'; exact hmem
        · rw [if_neg hmem, if_pos (by simp)]
          have IB := IA.same sB
          refine seq_in (nput_run (P := P) (w := w) (s := p.to) (T := Ta) (kvs := tabL (fun s => .ref (f' s)) W') (Pe := fun v' _ => ∃ l', v' = .ref l') (fun H1 s1 Q q1 => lst_run fun l' hl' => q1 _ _ (Same.new hl') ⟨l', rfl⟩) (fun _ _ _ _ h => h) (gv_v (v := .ref Ta) rfl) (gto rfl (.of sB)) IB.dw (by rw [tab_len]; omega) fun y HC obC sC hy dwC dC => ?_)
          obtain ⟨l', rfl⟩ := hy
          dsimp only
          have IC := IB.same sC
          obtain ⟨wsC, hwC, hwiC⟩ := id IC.wl
          have tsC := IC.dw.ts obC
          have hwlC : wsC.length = W'.length := by rw [hwiC.length, List.length_map]
          have nWT : Wl ≠ Ta := IC.ext hwC
          refine app_run (l := Wl) (xs := wsC) (Pe := PD K (sdD p.to)) (gv_v (v := .ref Wl) rfl) (by rw [upd_ne nWT]; exact hwC) (gto rfl ((TS.of (sB.trans sC)).trans tsC)) (by omega) fun y HD sD hy => ?_
          have hne : p.to ≠ s := fun z => hmem (by rw [z]; exact List.mem_of_getElem? hsA)
          have jW' : j ≤ W'.length := Nat.le_of_lt (List.getElem?_eq_some_iff.mp hsA).1
          have ID := IC.push hmem (good_step Wf Gs hpm) ⟨_, Pg.trans (.cons hpm (.nil _))⟩ jW' dC hwC hwiC sD hy
          have hlC : HC l = some (.lst xl) := sC _ _ (sB _ _ hlA)
          have lT' : l ≠ Ta := IC.ext hlC
          refine ⟨W' ++ [p.to], ups f' p.to l', _, rfl, same_wr (Same.trans (same_wr (Same.trans (Same.trans sA sB) sC) I.nT) sD) I.nW, ID, ?_, ?_, ?_, ?_, fun i p' hi hp' => ?_⟩
          · rw [List.getElem?_append_left (List.getElem?_eq_some_iff.mp hsA).1]; exact hsA
          · rw [ups_ne (Ne.symm hne)]; exact hfA
          · rw [upd_ne hlW]; exact sD _ _ (by rw [upd_ne lT']; exact hlC)
          · exact ((((hiA.mono (.of (sB.trans sC))).mono tsC).mono (.of sD))).mono (TS.lst (sD _ _ (by rw [upd_ne nWT]; exact hwC)))
          · rcases Nat.lt_or_ge i k with h | h
            · exact List.mem_append_left _ (hto i p' h hp')
            · have : i = k := by omega
              subst this
              rw [hp] at hp'; cases hp'
              exact List.mem_append_right _ (by simp)
      · obtain ⟨W', f', x6, rfl, sA, IA, hsA, hfA, hlA, hiA, hto⟩ := pp
        have lenA := IA.len Sm.n
        have hjW' : j < W'.length := (List.getElem?_eq_some_iff.mp hsA).1
        refine ⟨_, rfl, _, _, rfl, rfl, ?_⟩
        refine ⟨6000 - (j + 1), by omega, j + 1, W', f', _, _, rfl, sA, ⟨IA.dw, IA.wl, IA.nd, IA.fi, IA.gd, IA.mt, fun i hi t ht => ?_, fun i hi t ht p hp => ?_, IA.nT, IA.nW⟩, by omega, rfl⟩
        · rcases Nat.lt_or_ge i j with h | h
          · exact IA.ls i h t ht
          · have : i = j := by omega
            subst this
            rw [hsA] at ht; cases ht
            rw [hfA]
            exact ⟨⟨xl, hlA, hiA⟩, hlW⟩
        · rcases Nat.lt_or_ge i j with h | h
          · exact IA.cl i h t ht p hp
          · have : i = j := by omega
            subst this
            rw [hsA] at ht; cases ht
            obtain ⟨k, hk⟩ := List.mem_iff_getElem?.mp hp
            exact hto k p (by rw [hxl]; exact (List.getElem?_eq_some_iff.mp hk).1) hk
end
end K52
/-! Locks, choices, heights. -/
namespace K52
open PySem PySem.Spec PyProof.Rows L2
/-- a locked dict -/
structure Lk (P : Program) (w : World) (K : PySem.W.Frag) (H : Hp) (d : Addr) (od : Obj) (xs : List (D × Addr × Value)) (kvs : List (D × V)) : Prop where
  at_ : H d = some (.frz od (DO P w d xs))
  kn : KN K H kvs xs
  len : kvs.length ≤ 100000
  sys : (d == sysModules) = false
section
variable {P : Program} {w : World} {K : PySem.W.Frag} {H H' : Hp} {d : Addr} {od : Obj} {xs : List (D × Addr × Value)} {kvs : List (D × V)}
theorem Lk.dn (h : Lk P w K H d od xs kvs) : DN P w K H d kvs := ⟨h.len, h.sys, xs, .inr ⟨od, h.at_⟩, h.kn⟩
theorem Lk.mono (t : TS H H') (e : H' d = H d) (h : Lk P w K H d od xs kvs) : Lk P w K H' d od xs kvs := ⟨e.trans h.at_, h.kn.mono t, h.len, h.sys⟩
theorem Lk.same (s : Same H H') (h : Lk P w K H d od xs kvs) : Lk P w K H' d od xs kvs := ⟨s _ _ h.at_, h.kn.mono (.of s), h.len, h.sys⟩
theorem lock_ts (h : H d = some (DO P w d xs)) (o : HO) : TS H (upd H d o) := TS.upd fun ys e => by
  rw [h] at e
  exact DO.notup (Option.some.inj e)
theorem lock_in {t : L2.TS} {En : L2.Ends} {σ : L2.St} (g : DW P w K H d kvs) (k : ∀ od xs, H d = some (DO P w d xs) → Lk P w K (upd H d (.frz od (DO P w d xs))) d od xs kvs →
    t ⟨fun σ' H' => H' d = some (.frz od (DO P w d xs)) ∧ En.nx σ' (upd H' d (DO P w d xs)), fun v H' => H' d = some (.frz od (DO P w d xs)) ∧ En.rt v (upd H' d (DO P w d xs)), fun σ' H' => H' d = some (.frz od (DO P w d xs)) ∧ En.bk σ' (upd H' d (DO P w d xs)), fun σ' H' => H' d = some (.frz od (DO P w d xs)) ∧ En.ct σ' (upd H' d (DO P w d xs))⟩ σ (upd H d (.frz od (DO P w d xs)))) : tLock t En σ H := by
  obtain ⟨l, y, xs, q, r⟩ := g
  exact ⟨d, DO P w d xs, q, trivial, fun od => k od xs q ⟨upd_same, r.mono (lock_ts q _), l, y⟩⟩
theorem same_unlock (h : H d = some (DO P w d xs)) (s : Same (upd H d (.frz od (DO P w d xs))) H') : Same H (upd H' d (DO P w d xs)) := fun b o e => by
  by_cases z : b = d
  · subst z
    rw [h] at e; cases e
    exact upd_same
  · rw [upd_ne z]
    exact s b o (by rw [upd_ne z]; exact e)
theorem unlock_ts (h : H' d = some (.frz od (DO P w d xs))) : TS H' (upd H' d (DO P w d xs)) := TS.upd fun ys e => by
  rw [h] at e
  have e := Option.some.inj e
  exact absurd (show HO.frz od (DO P w d xs) = HO.tup ys from e) (fun z => by cases z)
end
/-! ### heights, choices -/
def HtAt (P : Program) (w : World) (K : PySem.W.Frag) (H : Hp) (A : Addr) (W : List Sd) (h : Hts) : Prop := DW P w K H A (tabL (fun s => .int (h s)) W)
structure ChX (K : PySem.W.Frag) (H : Hp) (c : Cho) (CW : List Sd) (g : Sd → V) : Prop where
  nd : CW.Nodup
  mem : ∀ s, c s ≠ none ↔ s ∈ CW
  val : ∀ s p, c s = some p → Is K H (g s) (stD p)
def ChAt (P : Program) (w : World) (K : PySem.W.Frag) (H : Hp) (B : Addr) (c : Cho) : Prop := ∃ CW g, DW P w K H B (tabL g CW) ∧ ChX K H c CW g
theorem ChX.mono {K : PySem.W.Frag} {H H' : Hp} {c : Cho} {CW : List Sd} {g : Sd → V} (t : TS H H') (h : ChX K H c CW g) : ChX K H' c CW g := ⟨h.nd, h.mem, fun s p e => (h.val s p e).mono t⟩
theorem ChAt.same {P : Program} {w : World} {K : PySem.W.Frag} {H H' : Hp} {B : Addr} {c : Cho} (s : Same H H') (h : ChAt P w K H B c) : ChAt P w K H' B c := let ⟨CW, g, d, x⟩ := h; ⟨CW, g, d.same s, x.mono (.of s)⟩
theorem ChX.some {K : PySem.W.Frag} {H : Hp} {c : Cho} {CW : List Sd} {g : Sd → V} (h : ChX K H c CW g) {s : Sd} (hs : s ∈ CW) : ∃ p, c s = some p ∧ Is K H (g s) (stD p) := by
  cases e : c s with
  | none => exact absurd e ((h.mem s).mpr hs)
  | some p => exact ⟨p, rfl, h.val s p e⟩
theorem ChX.none {K : PySem.W.Frag} {H : Hp} {c : Cho} {CW : List Sd} {g : Sd → V} (h : ChX K H c CW g) {s : Sd} (hs : s ∉ CW) : c s = none := by
  cases e : c s with
  | none => rfl
  | some p => exact absurd ((h.mem s).mp (by rw [e]; simp)) hs
theorem ends_of {c : Cho} {s t : Sd} {n : Nat} (h : ToN c s t n) (e : Ends c t) : Ends c s := by
  induction h with
  | nil s => exact e
  | cons e' _ ih => obtain ⟨n, q⟩ := ih e; exact ⟨n + 1, .cons e' q⟩
section
variable {P : Program} {w : World} {K : PySem.W.Frag} {σ : L2.St} {H : Hp} {td ty : TE} {B : Addr} {c : Cho} {CW : List Sd} {g : Sd → V} {s : Sd} {p : Stp}
/-- choices[s] -/
theorem gv_cho (hd : Gv td σ H (PV (.ref B))) (hk : Gv ty σ H (PD K (sdD s))) (dn : DN P w K H B (tabL g CW)) (x : ChX K H c CW g) (e : c s = some p) : Gv (tNGet P w K td ty) σ H (PD K (stD p)) := fun H1 s1 Q q =>
  gv_nget hd hk dn (v := g s) (by rw [tab_val, if_pos ((x.mem s).mp (by rw [e]; simp))]) H1 s1 Q fun v H2 s2 ev => q v H2 s2 (by rw [show v = g s from ev]; exact (x.val s p e).mono (.of (s1.trans s2)))
/-- s in choices -/
theorem gt_cho (hd : Gv td σ H (PV (.ref B))) (hk : Gv ty σ H (PD K (sdD s))) (dn : DN P w K H B (tabL g CW)) (x : ChX K H c CW g) : Gt (tB (tNIn P w K false ty td)) σ H (c s).isSome := (gt_nin (ng := false) hd hk dn).cast (by
  rw [tab_val]
  by_cases h : s ∈ CW
  · obtain ⟨p, e, _⟩ := x.some h
    rw [if_pos h, e]; rfl
  · rw [if_neg h, x.none h]; rfl)
theorem gv_to {te : TE} (h : Gv te σ H (PD K (stD p))) : Gv (tOp (rIxT K) te (tC (.int 4))) σ H (PD K (sdD p.to)) := gv_ixT (d := sdD p.to) h gv_c rfl
theorem sd_shaped (s : Sd) : SeqAt.shaped (sdD s).data = true := nt_shaped (nt_sdD s) (by rw [sdD_depth]; decide)
theorem gv_eqS {s t : Sd} (ha : Gv td σ H (PD K (sdD s))) (hb : Gv ty σ H (PD K (sdD t))) : Gv (tOp (rEqD K) td ty) σ H (PV (.bl (decide (s = t)))) :=
  (gv_eqD ha hb (sd_shaped s) (sd_shaped t)).imp fun v H' e => by
    rw [e]
    by_cases h : s = t
    · subst h; simp
    · have : ¬ sdD s = sdD t := fun z => h (sdD_inj z)
      simp [h, this]
theorem gv_neS {s t : Sd} (ha : Gv td σ H (PD K (sdD s))) (hb : Gv ty σ H (PD K (sdD t))) : Gv (tOp (rNeD K) td ty) σ H (PV (.bl (!decide (s = t)))) :=
  (gv_neD ha hb (sd_shaped s) (sd_shaped t)).imp fun v H' e => by
    rw [e]
    by_cases h : s = t
    · subst h; simp
    · have : ¬ sdD s = sdD t := fun z => h (sdD_inj z)
      simp [h, this]
end
end K52
set_option maxHeartbeats 4000000
/-! Choices walked: rings, walks. -/
namespace K52
open PySem PySem.Spec PyProof.Rows L2
/-! ### what holds while rings are sought -/
structure CI (P : Program) (w : World) (K : PySem.W.Frag) (H H' : Hp) (c : Cho) (B Pa : Addr) (od : Obj) (xs : List (D × Addr × Value)) (CW : List Sd) (g : Sd → V) (PW : List Sd) (mv : Sd → V) (mk : Sd → Sd) (i : Nat) : Prop where
  fr : ∀ b o, H b = some o → b ≠ B → H' b = some o
  lk : Lk P w K H' B od xs (tabL g CW)
  ch : ChX K H' c CW g
  dw : DW P w K H' Pa (tabL mv PW)
  nd : PW.Nodup
  sub : ∀ s ∈ PW, s ∈ CW
  val : ∀ s ∈ PW, Is K H' (mv s) (sdD (mk s))
  nP : H Pa = none
  mkI : ∀ s ∈ PW, ∃ i', i' < i ∧ CW[i']? = some (mk s)
section
variable {P : Program} {w : World} {K : PySem.W.Frag} {H H' H'' : Hp} {c : Cho} {B Pa : Addr} {od : Obj} {xs : List (D × Addr × Value)} {CW : List Sd} {g : Sd → V} {PW : List Sd} {mv : Sd → V} {mk : Sd → Sd} {i : Nat}
theorem CI.same (s : Same H' H'') (I : CI P w K H H' c B Pa od xs CW g PW mv mk i) : CI P w K H H'' c B Pa od xs CW g PW mv mk i :=
  ⟨fun b o e n => s _ _ (I.fr b o e n), I.lk.same s, I.ch.mono (.of s), I.dw.same s, I.nd, I.sub, fun t ht => (I.val t ht).mono (.of s), I.nP, I.mkI⟩
theorem CI.le {k : Nat} (h : i ≤ k) (I : CI P w K H H' c B Pa od xs CW g PW mv mk i) : CI P w K H H' c B Pa od xs CW g PW mv mk k :=
  ⟨I.fr, I.lk, I.ch, I.dw, I.nd, I.sub, I.val, I.nP, fun s hs => let ⟨i', h1, h2⟩ := I.mkI s hs; ⟨i', by omega, h2⟩⟩
theorem CI.ne (I : CI P w K H H' c B Pa od xs CW g PW mv mk i) : B ≠ Pa := fun z => by
  subst z
  obtain ⟨_, _, ys, e, _⟩ := I.dw
  rw [I.lk.at_] at e
  have e := Option.some.inj e
  exact absurd (show HO.frz _ _ = HO.ext _ from e) (fun z => by cases z)
theorem CI.put (I : CI P w K H H' c B Pa od xs CW g PW mv mk i) {s f : Sd} {v : V} (hs : s ∉ PW) (hc : s ∈ CW) {ob : HO} (d : DW P w K (upd H' Pa ob) Pa (putK (tabL mv PW) (sdD s) v)) (hv : Is K H' v (sdD f)) (hi : ∃ i', i' < i ∧ CW[i']? = some f) : CI P w K H (upd H' Pa ob) c B Pa od xs CW g (PW ++ [s]) (ups mv s v) (ups mk s f) i := by
  have ts := I.dw.ts ob
  refine ⟨fun b o e n => by rw [upd_ne (ne_of_none e I.nP)]; exact I.fr b o e n, I.lk.mono ts (upd_ne I.ne), I.ch.mono ts, by rw [tab_new hs] at d; exact d, ?_, ?_, ?_, I.nP, ?_⟩
  · rw [List.nodup_append]
    exact ⟨I.nd, by simp, fun a ha b hb e => by simp at hb; subst hb; subst e; exact hs ha⟩
  · intro t ht
    rcases List.mem_append.mp ht with h | h
    · exact I.sub t h
    · simp at h; subst h; exact hc
  · intro t ht
    by_cases e : t = s
    · subst e; rw [ups_same, ups_same]; exact hv.mono ts
    · rw [ups_ne e, ups_ne e]
      exact (I.val t ((List.mem_append.mp ht).resolve_right (by simpa using e))).mono ts
  · intro t ht
    by_cases e : t = s
    · subst e; rw [ups_same]; exact hi
    · rw [ups_ne e]
      exact I.mkI t ((List.mem_append.mp ht).resolve_right (by simpa using e))
end
def RRing (P : Program) (w : World) (K : PySem.W.Frag) : List V → Hp → (V → Hp → Prop) → Prop := fun vs H Pr => ∃ B c, vs = [.ref B] ∧ ChAt P w K H B c ∧ Pr = fun v' H' => (v' = .non ∧ NoRing c) ∨ ∃ r, PD K (sdD r) v' H' ∧ OnRing c r
def RRingSt (P : Program) (w : World) (K : PySem.W.Frag) : List V → Hp → (V → Hp → Prop) → Prop := fun vs H Pr => ∃ B c u r, ∃ W : List Sd, vs = [.ref B, u] ∧ ChAt P w K H B c ∧ Is K H u (sdD r) ∧ OnRing c r ∧ W.length ≤ 6000 ∧ (∀ s, c s ≠ none → s ∈ W) ∧ ∀ v' H', (∃ ps : List Stp, PL K (ps.map stD) v' H' ∧ ps.length ≤ 20000) → Pr v' H'
def RWalk (P : Program) (w : World) (K : PySem.W.Frag) (C : Addr) : List V → Hp → (V → Hp → Prop) → Prop := fun vs H Pr => ∃ v S B c, vs = [v, .ref B] ∧ SetAt K C H v S ∧ ChAt P w K H B c ∧ (∃ n, n ≤ 6000 ∧ TermN c first n) ∧ ∀ v' H', (∃ d, PD K d v' H') → Pr v' H'
theorem ToN.len {c : Cho} {CW : List Sd} (nd : CW.Nodup) (mem : ∀ s, c s ≠ none ↔ s ∈ CW) {s t : Sd} {n : Nat} (h : ToN c s t n) : ∃ m, m ≤ CW.length ∧ ToN c s t m := by
  have key : ∀ k n, n ≤ k → ∀ s t, ToN c s t n → ∃ l : List Sd, ∃ m, l.length = m ∧ m ≤ n ∧ l.Nodup ∧ (∀ x ∈ l, x ∈ CW) ∧ (∀ x ∈ l, ∃ j, j ≤ m ∧ ToN c x t j) ∧ ToN c s t m := by
    intro k
    induction k with
    | zero =>
      intro n hn s t h
      have : n = 0 := by omega
      subst this
      exact ⟨[], 0, rfl, Nat.le_refl _, List.nodup_nil, (fun _ h => by cases h), (fun _ h => by cases h), h⟩
    | succ k ih =>
      intro n hn s t h
      cases h with
      | nil => exact ⟨[], 0, rfl, Nat.le_refl _, List.nodup_nil, (fun _ h => by cases h), (fun _ h => by cases h), .nil _⟩
      | @cons s t p n e h' =>
        obtain ⟨l, m, hl, hm, nd', hk, ht, hT⟩ := ih n (by omega) _ _ h'
        by_cases hs : s ∈ l
        · -- a shorter way
          obtain ⟨j, hj, hT'⟩ := ht s hs
          obtain ⟨l2, m2, a, b, c1, d, e2, f⟩ := ih j (by omega) _ _ hT'
          exact ⟨l2, m2, a, by omega, c1, d, e2, f⟩
        · refine ⟨s :: l, m + 1, by simp [hl], by omega, List.nodup_cons.mpr ⟨hs, nd'⟩, fun x hx => ?_, fun x hx => ?_, .cons e hT⟩
          · rcases List.mem_cons.mp hx with q | q
            · subst q; exact (mem _).mp (by rw [e]; simp)
            · exact hk x q
          · rcases List.mem_cons.mp hx with q | q
            · subst q; exact ⟨m + 1, Nat.le_refl _, .cons e hT⟩
            · obtain ⟨j, h1, h2⟩ := ht x q; exact ⟨j, by omega, h2⟩
  obtain ⟨l, m, hl, _, nd', hk, _, hT⟩ := key n n (Nat.le_refl _) s t h
  exact ⟨m, by rw [← hl]; exact List.Nodup.length_le_of_subset nd' hk, hT⟩
section
variable {P : Program} {w : World} {K : PySem.W.Frag} {mg : Str → Option Value} {base : Heap} {C : Addr}
abbrev N_choice_ring : List Str := ["choices", "passed", "first", "here"]
theorem sc_choice_ring : FnScope N_choice_ring ["choices"] (defScope (top 44)) := ⟨rfl, rfl, rfl, by decide +kernel, rfl, by decide +kernel, by decide +kernel⟩
theorem ok_choice_ring (d : DefAt K mg "choice_ring" 44) : Cal P w K mg base "choice_ring" 1 ["choices"] (spP (RRing P w K)) := by
  obtain ⟨f, fd, g, F⟩ := d
  refine ⟨f, fd, g, F.kp, F.binds fun _ _ _ _ _ _ us hl => match us, hl with | [_], _ => rfl, F.okX sc_choice_ring (fun vs H Q E h => ?_) (fun cdv A outer s H vs Q E hr h => ?_)⟩
  · obtain ⟨_, ⟨B, c, rfl, _⟩, _⟩ := h; rfl
  · obtain ⟨_, ⟨B, c, rfl, hC, rfl⟩, q⟩ := h
    have hu := hr.units
    refine ⟨_, 
        (pss_cons (ps_set (i := 1) sc_choice_ring.nd rfl (Or.inl rfl) pe_nnew) 
        (pss_cons (ps_lock (ps_for (passes_of rfl) rfl (pi_nkeys (pv 0)) (pg_name (i := 2) sc_choice_ring.nd rfl (Or.inl rfl)) 
          (pss_cons (ps_set (i := 3) sc_choice_ring.nd rfl (Or.inl rfl) (pv 2)) 
          (pss_cons (ps_while (passes_of rfl) (PW.pt (pw_and (pt_cmp (pc_nin hu (pv 3) (pv 0))) (pw_and1 (pt_cmp (pc_nnotin hu (pv 3) (pv 1)))))) 
            (pss_cons (ps_asg (pv 2) (pg_sub (pv 1) (pv 3) (set_n hu))) 
            (pss_one (ps_set (i := 3) sc_choice_ring.nd rfl (Or.inl rfl) (pe_ix ix_tup (pe_nget hu (pv 0) (pv 3) (fun _ _ => rfl)) pe_int (fun _ _ => rfl)))))) 
          (pss_one (ps_if (PW.pt (pw_and (pt_cmp (pc_nin hu (pv 3) (pv 0))) (pw_and1 (pt_cmpR (op_eqD hr.units) (pe_nget hu (pv 1) (pv 3) (fun _ _ => rfl)) (pv 2) (nomark _))))) 
            (pss_one (ps_ret (pv 3))) pss_nil)))))) 
        (pss_one (ps_ret pe_non)))), ?_⟩
    -- passed = {}
    refine seq_in (asg_in ?_)
    intro Pa ob hPa dP
    have s1 : Same H (upd H Pa ob) := Same.new hPa
    obtain ⟨CW, g, dC, xC⟩ := hC
    have dC1 := dC.same s1
    have xC1 := xC.mono (.of s1)
    refine seq_in (lock_in dC1 fun od xs hB lk => ?_)
    have hBP : B ≠ Pa := fun z => by
      subst z
      obtain ⟨_, _, ys, e, _⟩ := dC
      rw [hPa] at e; cases e
    have tl := lock_ts hB (.frz od (DO P w B xs))
    have I0 : CI P w K H (upd (upd H Pa ob) B (.frz od (DO P w B xs))) c B Pa od xs CW g [] (fun _ => .non) id 0 :=
      ⟨fun b o e n => by rw [upd_ne n]; exact s1 _ _ e, lk, xC1.mono tl, dP.mono tl (upd_ne (Ne.symm hBP)), List.nodup_nil, (fun _ h => by cases h), (fun _ h => by cases h), hPa, (fun _ h => by cases h)⟩
    have hCl : CW.length ≤ 100000 := by have := dC.1; rw [tab_len] at this; exact this
    -- the end's heap
    have fin : ∀ {H' : Hp} {PW mv mk i}, CI P w K H H' c B Pa od xs CW g PW mv mk i → Same H (upd H' B (DO P w B xs)) := fun {H' PW mv mk i} I b o e => by
      by_cases z : b = B
      · subst z
        have e' := s1 _ _ e
        rw [hB] at e'; cases e'
        exact upd_same
      · rw [upd_ne z]; exact I.fr b o e z
    refine ⟨_, rfl, B, od, xs, tabL g CW, rfl, I0.lk.sys, I0.lk.at_, I0.lk.kn, ?_⟩
    refine for_it walk_nkeys (fun i σ H' => ∃ x2 x3 PW mv mk, σ = [some (.ref B), some (.ref Pa), x2, x3] ∧ CI P w K H H' c B Pa od xs CW g PW mv mk i ∧ (∀ s ∈ PW, Ends c s) ∧ ∀ i' s, i' < i → CW[i']? = some s → Ends c s)
      ⟨none, none, [], _, _, rfl, I0, (fun _ h => by cases h), fun i' s h => by omega⟩ (fun i σ H' _ pp => by obtain ⟨_, _, _, _, _, _, I, _⟩ := pp; exact ⟨I.lk.at_, I.lk.kn⟩) (fun i x σ H' H'' hi pp y => ?_) fun σ H' pp => ?_
    · obtain ⟨x2, x3, PW, mv, mk, rfl, I, hE, hK⟩ := pp
      obtain ⟨rfl, k, v0, hk, hxk⟩ := y
      rw [tab_len] at hi
      obtain ⟨f, hf⟩ : ∃ f, CW[i]? = some f := ⟨_, List.getElem?_eq_getElem hi⟩
      have ek : k = sdD f := by
        unfold tabL at hk
        rw [List.getElem?_map, hf] at hk
        exact (Prod.mk.inj (Option.some.inj hk)).1.symm
      subst ek
      have hfC : f ∈ CW := List.mem_of_getElem? hf
      -- here = first
      refine seq_in (asg_in ⟨x, rfl, ?_⟩)
      dsimp only
      have noF : ∀ s ∈ PW, mk s ≠ f := fun s hs z => by
        obtain ⟨i', h1, h2⟩ := I.mkI s hs
        rw [z] at h2
        have := (List.getElem?_inj (List.getElem?_eq_some_iff.mp h2).1 xC.nd).mp (h2.trans hf.symm)
        omega
      refine seq_in (while_gt (m0 := CW.length - PW.length) (fun m σ H' => ∃ hv here PW mv mk, σ = [some (.ref B), some (.ref Pa), some x, some hv] ∧ CI P w K H H' c B Pa od xs CW g PW mv mk (i + 1) ∧ Is K H' x (sdD f) ∧ Is K H' hv (sdD here) ∧
          (∀ s ∈ PW, (mk s = f ∧ ∃ n, ToN c s here (n + 1)) ∨ (mk s ≠ f ∧ Ends c s)) ∧ (here = f ∨ f ∈ PW) ∧ m = CW.length - PW.length)
        ⟨x, f, PW, mv, mk, rfl, I.le (Nat.le_succ _), hxk, hxk, fun s hs => .inr ⟨noF s hs, hE s hs⟩, .inl rfl, rfl⟩ ?_)
      rintro m σ H2 ⟨hv, here, PW, mv, mk, rfl, I, hx, hh, hP, hF, rfl⟩
      have gB : ∀ {σ : L2.St} {H' : Hp}, σ[0]? = some (some (.ref B)) → Gv (tVar 0) σ H' (PV (.ref B)) := fun e => gv_v e
      refine ⟨_, gt_and (gt_cho (gv_v (v := .ref B) rfl) (gv_d (v := hv) (d := sdD here) rfl hh) I.lk.dn I.ch) fun _ => gt_nin (ng := true) (gv_v (v := .ref Pa) rfl) (gv_d (v := hv) (d := sdD here) rfl hh) I.dw.rd, fun H3 s3 => ?_⟩
      rw [tab_val]
      have I3 := I.same s3
      have hx3 := hx.mono (.of s3)
      have hh3 := hh.mono (.of s3)
      have all_end : Ends c here → ∀ s ∈ PW, Ends c s := fun e s hs => (hP s hs).elim (fun ⟨_, n, t⟩ => ends_of t e) fun h => h.2
      cases hc : c here with
      | none =>
        simp only [Option.isSome_none, Bool.false_and, Bool.false_eq_true, if_false]
        have eh : Ends c here := ⟨0, .nil hc⟩
        refine Gt.run (gt_and (gt_cho (gv_v (v := .ref B) rfl) (gv_d (v := hv) (d := sdD here) rfl hh3) I3.lk.dn I3.ch) (b2 := false) fun e => by rw [hc] at e; cases e) fun H4 s4 => ?_
        rw [hc, if_neg (by decide)]
        refine next_in ⟨_, _, PW, mv, mk, rfl, I3.same s4, all_end eh, fun i' s hi' hs => ?_⟩
        rcases Nat.lt_or_ge i' i with h | h
        · exact hK i' s h hs
        · have : i' = i := by omega
          subst this
          rw [hf] at hs; cases hs
          rcases hF with rfl | h
          · exact eh
          · exact all_end eh _ h
      | some p =>
        have hcC : here ∈ CW := (I.ch.mem _).mp (by rw [hc]; simp)
        by_cases hm : here ∈ PW
        · rw [if_pos hm]
          simp only [Option.isSome_some, Bool.true_and, if_true, Bool.not_true, Bool.false_eq_true, if_false]
          have gpass : ∀ {H' : Hp}, Same H3 H' → Gv (tNGet P w K (tVar 1) (tVar 3)) [some (.ref B), some (.ref Pa), some x, some hv] H' (PD K (sdD (mk here))) := fun s' => fun H5 s5 Q q5 =>
            gv_nget (v := mv here) (gv_v (v := .ref Pa) rfl) (gv_d (v := hv) (d := sdD here) rfl (hh3.mono (.of s'))) (I3.same s').dw.rd (by rw [tab_val, if_pos hm]) H5 s5 Q fun v' H6 s6 ev => q5 v' H6 s6 (by rw [show v' = mv here from ev]; exact ((I3.val here hm).mono (.of s')).mono (.of (s5.trans s6)))
          refine Gt.run (gt_and (b1 := true) (b2 := decide (mk here = f)) ((gt_cho (gv_v (v := .ref B) rfl) (gv_d (v := hv) (d := sdD here) rfl hh3) I3.lk.dn I3.ch).cast (by rw [hc]; rfl)) fun _ => gt_test (gv_eqS (gpass (Same.refl _)) (gv_d (v := x) rfl hx3))) fun H4 s4 => ?_
          rw [Bool.true_and]
          rcases hP here hm with ⟨hmk, n, tn⟩ | ⟨hmk, he⟩
          · rw [if_pos (by simpa using hmk)]
            have I4 := I3.same s4
            refine ⟨hv, rfl, I4.lk.at_, q _ _ (fin I4) (.inr ⟨here, (hh3.mono (.of s4)).mono (unlock_ts I4.lk.at_), ?_⟩)⟩
            cases tn with
            | cons e t' => exact ⟨_, n, e, t'⟩
          · rw [if_neg (by simpa using hmk)]
            refine next_in ⟨_, _, PW, mv, mk, rfl, I3.same s4, all_end he, fun i' s hi' hs => ?_⟩
            rcases Nat.lt_or_ge i' i with h | h
            · exact hK i' s h hs
            · have : i' = i := by omega
              subst this
              rw [hf] at hs; cases hs
              rcases hF with rfl | h
              · exact he
              · exact all_end he _ h
        · rw [if_neg hm]
          simp only [Option.isSome_some, Bool.true_and, if_true, Option.isSome_none, Bool.not_false]
          have hlt : PW.length < CW.length := by
            have h1 : (here :: PW).length ≤ CW.length := List.Nodup.length_le_of_subset (List.nodup_cons.mpr ⟨hm, I.nd⟩) fun s hs => by
              rcases List.mem_cons.mp hs with h | h
              · subst h; exact hcC
              · exact I.sub s h
            rw [List.length_cons] at h1; omega
          -- passed[here] = first
          refine seq_in (nput_run (P := P) (w := w) (s := here) (T := Pa) (kvs := tabL mv PW) (gv_d (v := x) (d := sdD f) rfl hx3) up_D (gv_v (v := .ref Pa) rfl) (gv_d (v := hv) rfl hh3) I3.dw (by rw [tab_len]; omega) fun y H4 ob4 s4 hy d4 dput => ?_)
          have I4 := (I3.same s4).put hm hcC dput hy ⟨i, Nat.lt_succ_self _, hf⟩
          dsimp only
          have ts4 := d4.ts ob4
          have hh5 : Is K (upd H4 Pa ob4) hv (sdD here) := (hh3.mono (.of s4)).mono ts4
          have hx5 : Is K (upd H4 Pa ob4) x (sdD f) := (hx3.mono (.of s4)).mono ts4
          -- here = choices[here][4]
          refine asg_in (Gv.run (gv_to (gv_cho (gv_v (v := .ref B) rfl) (gv_d (v := hv) rfl hh5) I4.lk.dn I4.ch hc)) fun z H6 s6 hz => ?_)
          refine ⟨CW.length - (PW ++ [here]).length, by simp; omega, z, p.to, PW ++ [here], _, _, rfl, I4.same s6, hx5.mono (.of s6), hz, fun s hs => ?_, ?_, rfl⟩
          · by_cases e : s = here
            · subst e
              exact .inl ⟨ups_same, 0, .cons hc (.nil _)⟩
            · have hs' : s ∈ PW := (List.mem_append.mp hs).resolve_right (by simpa using e)
              rw [ups_ne e]
              exact (hP s hs').imp (fun ⟨a, n, t⟩ => ⟨a, n + 1, t.snoc hc⟩) id
          · right
            rcases hF with rfl | h
            · exact List.mem_append_right _ (by simp)
            · exact List.mem_append_left _ h
    · obtain ⟨x2, x3, PW, mv, mk, rfl, I, hE, hK⟩ := pp
      refine ⟨I.lk.at_, q _ _ (fin I) (.inl ⟨rfl, fun s => ?_⟩)⟩
      rw [tab_len] at hK
      by_cases hs : s ∈ CW
      · obtain ⟨i, hi⟩ := List.mem_iff_getElem?.mp hs
        exact hK i s (List.getElem?_eq_some_iff.mp hi).1 hi
      · exact ⟨0, .nil (xC.none hs)⟩
abbrev N_ring_steps : List Str := ["choices", "start", "steps", "here"]
theorem sc_ring_steps : FnScope N_ring_steps ["choices", "start"] (defScope (top 48)) := ⟨rfl, rfl, rfl, by decide +kernel, rfl, by decide +kernel, by decide +kernel⟩
theorem ok_ring_steps (d : DefAt K mg "ring_steps" 48) : Cal P w K mg base "ring_steps" 1 ["choices", "start"] (spP (RRingSt P w K)) := by
  obtain ⟨f, fd, g, F⟩ := d
  refine ⟨f, fd, g, F.kp, F.binds fun _ _ _ _ _ _ us hl => match us, hl with | [_, _], _ => rfl, F.okX sc_ring_steps (fun vs H Q E h => ?_) (fun cdv A outer s H vs Q E hr h => ?_)⟩
  · obtain ⟨_, ⟨B, c, u, r, W, rfl, _⟩, _⟩ := h; rfl
  · obtain ⟨_, ⟨B, c, u, r, W, rfl, hC, hr0, hR, hW, hsub, hP⟩, q⟩ := h
    have hu := hr.units
    refine ⟨_, 
        (pss_cons (ps_par (i := 2) (j := 3) rfl sc_ring_steps.nd rfl rfl (by decide) rfl rfl (pa_cons (pe_lst (pa_cons (pe_nget hu (pv 0) (pv 1) (fun _ _ => rfl)) pa_nil)) (pa_cons (pe_ix ix_tup (pe_nget hu (pv 0) (pv 1) (fun _ _ => rfl)) pe_int (fun _ _ => rfl)) pa_nil)) (by rfl)) 
        (pss_cons (ps_while (passes_of rfl) (pt_cmpR (op_neD hr.units) (pv 3) (pv 1) (nomark _)) 
          (pss_cons (ps_expr (pe_bm PySem.F.plainAttrs_list PySem.F.slot_list_append PySem.F.type_list_append mt_append (pv 2) (pa_cons (pe_nget hu (pv 0) (pv 3) (fun _ _ => rfl)) pa_nil))) 
          (pss_one (ps_set (i := 3) sc_ring_steps.nd rfl (Or.inl rfl) (pe_ix ix_tup (pe_nget hu (pv 0) (pv 3) (fun _ _ => rfl)) pe_int (fun _ _ => rfl)))))) 
        (pss_one (ps_ret (pv 2))))), ?_⟩
    obtain ⟨CW, g, dC, xC⟩ := hC
    obtain ⟨p, n0, hp, tn⟩ := hR
    obtain ⟨n, hn, tn⟩ := ToN.len xC.nd xC.mem tn
    have hCW : CW.length ≤ 6000 := Nat.le_trans (List.Nodup.length_le_of_subset xC.nd fun s hs => hsub s ((xC.mem s).mpr hs)) hW
    have gst : ∀ {σ : L2.St} {H' : Hp}, σ[1]? = some (some u) → Same H H' → Gv (tVar 1) σ H' (PD K (sdD r)) := fun e s => gv_d e (hr0.mono (.of s))
    refine seq_in (par_run (gv_lstN (gd_cons (gv_cho (gv_v (v := .ref B) rfl) (gst rfl (Same.refl _)) dC.rd xC hp) gd_nil)) up_Ln (gv_to (gv_cho (gv_v (v := .ref B) rfl) (gst rfl (Same.refl _)) dC.rd xC hp)) fun x y H1 s1 hx hy => ?_)
    obtain ⟨l, xs, rfl, hl, hi, hl0⟩ := hx
    dsimp only
    refine seq_in (while_gt (m0 := n) (fun m σ H' => ∃ (hv : V) (here : Sd) (acc : List V) (ps : List Stp), σ = [some (.ref B), some u, some (.ref l), some hv] ∧ Same H H' ∧ H' l = some (.lst acc) ∧ IsAll K H' acc (ps.map stD) ∧ Is K H' hv (sdD here) ∧ ToN c here r m ∧ ps.length + m ≤ 6001)
      ⟨y, p.to, xs, [p], rfl, s1, hl, hi, hy, tn, by show 1 + n ≤ 6001; omega⟩ ?_)
    rintro m σ H2 ⟨hv, here, acc, ps, rfl, s2, hl2, hi2, hh, tm, hlen⟩
    refine ⟨_, gt_test (gv_neS (gv_d (v := hv) rfl hh) (gst rfl s2)), fun H3 s3 => ?_⟩
    by_cases e : here = r
    · rw [if_neg (by simpa using e)]
      refine Gv.run (gv_v (i := 2) (v := .ref l) rfl) fun v' H4 s4 ev => q v' H4 ((s2.trans s3).trans s4) (hP _ _ ⟨ps, ?_, by omega⟩)
      have ev : v' = .ref l := ev
      subst ev
      exact ⟨l, acc, rfl, s4 _ _ (s3 _ _ hl2), hi2.mono (.of (s3.trans s4))⟩
    · rw [if_pos (by simpa using e)]
      cases tm with
      | nil => exact absurd rfl e
      | @cons _ _ p' m' hp' tm' =>
        have s23 := s2.trans s3
        have hh3 := hh.mono (.of s3)
        have gc : ∀ {σ : L2.St} {H' : Hp}, σ[0]? = some (some (.ref B)) → σ[3]? = some (some hv) → DN P w K H' B (tabL g CW) → TS H3 H' → ChX K H' c CW g → Gv (tNGet P w K (tVar 0) (tVar 3)) σ H' (PD K (stD p')) := fun e0 e3 dn t x => gv_cho (gv_v e0) (gv_d e3 (hh3.mono t)) dn x hp'
        refine seq_in (app_run (l := l) (gv_v rfl) (s3 _ _ hl2) (gc rfl rfl (dC.same s23).rd (TS.refl _) (xC.mono (.of s23))) (by rw [hi2.length, List.length_map]; omega) fun z H4 s4 hz => ?_)
        have e4 := s4 _ _ (s3 _ _ hl2)
        have t4 : TS H4 (upd H4 l (.lst (acc ++ [z]))) := TS.lst e4
        have s5 : Same H (upd H4 l (.lst (acc ++ [z]))) := same_wr (Same.trans s23 s4) hl0
        dsimp only
        refine asg_in (Gv.run (gv_to (gc rfl rfl (dC.same s5).rd ((TS.of s4).trans t4) (xC.mono (.of s5)))) fun z2 H6 s6 hz2 => ?_)
        refine ⟨m', by omega, z2, p'.to, acc ++ [z], ps ++ [p'], rfl, s5.trans s6, s6 _ _ upd_same, ?_, hz2, tm', by rw [List.length_append]; show ps.length + 1 + m' ≤ 6001; omega⟩
        rw [List.map_append]
        exact ((((hi2.mono (.of (s3.trans s4))).mono t4).append (.cons (hz.mono t4) .nil))).mono (.of s6)
abbrev N_chosen_walk : List Str := ["setting", "choices", "here", "steps"]
theorem sc_chosen_walk : FnScope N_chosen_walk ["setting", "choices"] (defScope (top 51)) := ⟨rfl, rfl, rfl, by decide +kernel, rfl, by decide +kernel, by decide +kernel⟩
theorem ok_chosen_walk (d : DefAt K mg "chosen_walk" 51) (T : Tx mg) (c_first_standing : Cal P w K mg base "first_standing" 3 ["setting"] (spP (RFirst K C))) (c_touches_in : Cal P w K mg base "touches_in" 1 ["steps"] (spP (RTouch K))) : Cal P w K mg base "chosen_walk" 4 ["setting", "choices"] (spP (RWalk P w K C)) := by
  obtain ⟨f, fd, g, F⟩ := d
  refine ⟨f, fd, g, F.kp, F.binds fun _ _ _ _ _ _ us hl => match us, hl with | [_, _], _ => rfl, F.okX sc_chosen_walk (fun vs H Q E h => ?_) (fun cdv A outer s H vs Q E hr h => ?_)⟩
  · obtain ⟨_, ⟨v, S, B, c, rfl, _⟩, _⟩ := h; rfl
  · obtain ⟨_, ⟨v, S, B, c, rfl, hS, hC, hN, hP⟩, q⟩ := h
    have hu := hr.units
    refine ⟨_, 
        (pss_cons (ps_par (i := 2) (j := 3) rfl sc_chosen_walk.nd rfl rfl (by decide) rfl rfl (pa_cons (pe_cal c_first_standing (hr.mono (by decide)) (pa_cons (pv 0) pa_nil)) (pa_cons (pe_lst pa_nil) pa_nil)) (by rfl)) 
        (pss_cons (ps_while (passes_of rfl) (pt_cmp (pc_nin hu (pv 2) (pv 1))) 
          (pss_cons (ps_expr (pe_bm PySem.F.plainAttrs_list PySem.F.slot_list_append PySem.F.type_list_append mt_append (pv 3) (pa_cons (pe_nget hu (pv 1) (pv 2) (fun _ _ => rfl)) pa_nil))) 
          (pss_one (ps_set (i := 2) sc_chosen_walk.nd rfl (Or.inl rfl) (pe_ix ix_tup (pe_nget hu (pv 1) (pv 2) (fun _ _ => rfl)) pe_int (fun _ _ => rfl)))))) 
        (pss_one (ps_ret (pe_ifExp (pt_cmpR op_gt (pe_callB cr_lenS rfl T.len boot_len' (pa_cons (pv 3) pa_nil)) pe_int (nomark _)) (pe_cal c_touches_in (hr.mono (by decide)) (pa_cons (pv 3) pa_nil)) (pe_tup (pa_cons pe_int pa_nil))))))), ?_⟩
    obtain ⟨CW, g, dC, xC⟩ := hC
    obtain ⟨n, hn, tn⟩ := hN
    refine seq_in (par_run (Pb := fun v' H' => ∃ l', v' = .ref l' ∧ H' l' = some (.lst []) ∧ H l' = none) (gv_call (P := PD K (sdD first)) (ga_one (gv_var (P := fun v H => SetAt K C H v S) (v := v) rfl hS up_Set) up_Set) fun vs H' s pp => ?_) up_D (fun H1 s1 Q q1 => lst_run fun l hl => q1 _ _ (Same.new hl) ⟨l, rfl, upd_same, same_none s1 hl⟩) fun x y H1 s1 hx hy => ?_)
    · cases pp with
      | cons e pp => cases pp; exact ⟨_, S, rfl, e, rfl⟩
    obtain ⟨l, rfl, hl, hl0⟩ := hy
    dsimp only
    refine seq_in (while_gt (m0 := n) (fun m σ H' => ∃ (hv : V) (here : Sd) (acc : List V) (ps : List Stp), σ = [some v, some (.ref B), some hv, some (.ref l)] ∧ Same H H' ∧ H' l = some (.lst acc) ∧ IsAll K H' acc (ps.map stD) ∧ Is K H' hv (sdD here) ∧ TermN c here m ∧ ps.length + m ≤ 6000)
      ⟨x, first, [], [], rfl, s1, hl, .nil, hx, tn, by show 0 + n ≤ 6000; omega⟩ ?_)
    rintro m σ H2 ⟨hv, here, acc, ps, rfl, s2, hl2, hi2, hh, tm, hlen⟩
    refine ⟨_, gt_cho (gv_v (v := .ref B) rfl) (gv_d (v := hv) (d := sdD here) rfl hh) (dC.same s2).rd (xC.mono (.of s2)), fun H3 s3 => ?_⟩
    have s23 := s2.trans s3
    cases tm with
    | nil hc =>
      rw [hc, if_neg (by decide)]
      have hl3 := s3 _ _ hl2
      have hi3 := hi2.mono (.of s3)
      have glen : Gv (tCB (rLenS K) (tCons (tVar 3) tNil)) [some v, some (.ref B), some hv, some (.ref l)] H3 (PV (.int (ps.length : Int))) :=
        (gv_lenL (ds := ps.map stD) (gv_var (v := .ref l) rfl ⟨l, acc, rfl, hl3, hi3⟩ up_L)).imp fun v' H' e => by rw [e, List.length_map]
      have gend : Gv (tIf (tTest (tOp (rI0 fun i j => .bl (decide (j < i))) (tCB (rLenS K) (tCons (tVar 3) tNil)) (tC (.int 0)))) (tCall (spP (RTouch K)) [] E0 (tCons (tVar 3) tNil)) (tTup (tCons (tC (.int 0)) tNil))) [some v, some (.ref B), some hv, some (.ref l)] H3 (fun v' H' => ∃ d, PD K d v' H') :=
        gv_if (gt_test (gv_opI glen gv_c)) (fun _ => (gv_call (P := PD K (tI (ps.map (·.b)))) (ga_one (gv_var (v := .ref l) (P := PL K (ps.map stD)) rfl ⟨l, acc, rfl, hl3, hi3⟩ up_L) up_L) fun vs H' s pp => by
          cases pp with
          | cons e pp => cases pp; exact ⟨_, ps, rfl, e, by omega, rfl⟩).imp fun v' H' h => ⟨_, h⟩) fun _ => (gv_tup (gd_cons (gv_num 0) gd_nil)).imp fun v' H' h => ⟨_, h⟩
      exact Gv.run gend fun v' H4 s4 h4 => q v' H4 (s23.trans s4) (hP _ _ h4)
    | @cons _ p' m' hp' tm' =>
      rw [hp', if_pos (show (some p').isSome = true from rfl)]
      have hh3 := hh.mono (.of s3)
      have gc : ∀ {σ : L2.St} {H' : Hp}, σ[1]? = some (some (.ref B)) → σ[2]? = some (some hv) → DN P w K H' B (tabL g CW) → TS H3 H' → ChX K H' c CW g → Gv (tNGet P w K (tVar 1) (tVar 2)) σ H' (PD K (stD p')) := fun e0 e3 dn t x => gv_cho (gv_v e0) (gv_d e3 (hh3.mono t)) dn x hp'
      refine seq_in (app_run (l := l) (gv_v rfl) (s3 _ _ hl2) (gc rfl rfl (dC.same s23).rd (TS.refl _) (xC.mono (.of s23))) (by rw [hi2.length, List.length_map]; omega) fun z H4 s4 hz => ?_)
      have e4 := s4 _ _ (s3 _ _ hl2)
      have t4 : TS H4 (upd H4 l (.lst (acc ++ [z]))) := TS.lst e4
      have s5 : Same H (upd H4 l (.lst (acc ++ [z]))) := same_wr (Same.trans s23 s4) hl0
      dsimp only
      refine asg_in (Gv.run (gv_to (gc rfl rfl (dC.same s5).rd ((TS.of s4).trans t4) (xC.mono (.of s5)))) fun z2 H6 s6 hz2 => ?_)
      refine ⟨m', by omega, z2, p'.to, acc ++ [z], ps ++ [p'], rfl, s5.trans s6, s6 _ _ upd_same, ?_, hz2, tm', by rw [List.length_append]; show ps.length + 1 + m' ≤ 6000; omega⟩
      rw [List.map_append]
      exact ((((hi2.mono (.of (s3.trans s4))).mono t4).append (.cons (hz.mono t4) .nil))).mono (.of s6)
end
end K52
set_option maxHeartbeats 4000000
/-! Heights raised. -/
namespace K52
open PySem PySem.Spec PyProof.Rows L2
theorem c_in {v : V} {σ : L2.St} {H : Hp} {Q : VK} (h : Q v H) : tC v σ H Q := h
theorem step_01 {S : Setg} {s : Sd} {p : Stp} (h : p ∈ steps S s) : (p.mv = 0 ∨ p.mv = 1) ∧ (p.co = 0 ∨ p.co = 1) := by
  obtain ⟨b, _, m, hm, rfl⟩ := mem_steps.mp h
  have h1 := mates_cost hm
  have h2 := rule_moved S.lru S.own s.st s.me b
  constructor
  · show (ruleStep S.lru S.own s.st s.me b).1 = 0 ∨ (ruleStep S.lru S.own s.st s.me b).1 = 1
    rw [h2]; split <;> simp
  · show m.1 = 0 ∨ m.1 = 1
    rw [h1]; split <;> simp
theorem chx_put {K : PySem.W.Frag} {H H' : Hp} {c : Cho} {CW : List Sd} {g : Sd → V} (x : ChX K H c CW g) (t : TS H H') {s : Sd} {p : Stp} {v : V} (hv : Is K H' v (stD p)) :
    ∃ CW' g', putK (tabL g CW) (sdD s) v = tabL g' CW' ∧ ChX K H' (ups c s (some p)) CW' g' := by
  have val : ∀ (g' : Sd → V), g' = ups g s v → ∀ u q, ups c s (some p) u = some q → Is K H' (g' u) (stD q) := fun g' e u q h => by
    subst e
    by_cases hu : u = s
    · subst hu
      rw [ups_same] at h; cases h
      rw [ups_same]; exact hv
    · rw [ups_ne hu] at h ⊢
      exact (x.val u q h).mono t
  by_cases hs : s ∈ CW
  · refine ⟨CW, ups g s v, tab_in hs, x.nd, fun u => ?_, val _ rfl⟩
    by_cases hu : u = s
    · subst hu; rw [ups_same]; exact ⟨fun _ => hs, fun _ z => by cases z⟩
    · rw [ups_ne hu]; exact x.mem u
  · refine ⟨CW ++ [s], ups g s v, tab_new hs, ?_, fun u => ?_, val _ rfl⟩
    · rw [List.nodup_append]
      exact ⟨x.nd, by simp, fun a ha b hb e => by simp at hb; subst hb; subst e; exact hs ha⟩
    · by_cases hu : u = s
      · subst hu; rw [ups_same]; exact ⟨fun _ => by simp, fun _ z => by cases z⟩
      · rw [ups_ne hu, x.mem u]; simp [hu]
/-- what holds while heights are raised -/
structure RI (P : Program) (w : World) (K : PySem.W.Frag) (S : Setg) (W : List Sd) (f : Sd → Addr) (H H' : Hp) (T A B : Addr) (od : Obj) (xs : List (D × Addr × Value)) (h0 : Hts) (c0 : Cho) (h : Hts) (c : Cho) (b : Bool) : Prop where
  fr : ∀ a o, H a = some o → a ≠ A → a ≠ B → a ≠ T → H' a = some o
  lk : Lk P w K H' T od xs (tabL (fun s => .ref (f s)) W)
  ls : ∀ s ∈ W, LstAt K H' (f s) (steps S s)
  ht : HtAt P w K H' A W h
  ch : ChAt P w K H' B c
  inv : HInv S W h c
  tot : total h0 W ≤ total h W
  up : b = true → total h0 W < total h W
  no : b = false → h = h0 ∧ c = c0
  hAB : A ≠ B
section
variable {P : Program} {w : World} {K : PySem.W.Frag} {S : Setg} {W : List Sd} {f : Sd → Addr} {H H' H'' : Hp} {T A B : Addr} {od : Obj} {xs : List (D × Addr × Value)} {h0 : Hts} {c0 : Cho} {h : Hts} {c : Cho} {b : Bool}
theorem RI.same (s : Same H' H'') (I : RI P w K S W f H H' T A B od xs h0 c0 h c b) : RI P w K S W f H H'' T A B od xs h0 c0 h c b :=
  ⟨fun a o e n1 n2 n3 => s _ _ (I.fr a o e n1 n2 n3), I.lk.same s, fun t ht => (I.ls t ht).same s, (show DW P w K H'' A _ from DW.same s I.ht), I.ch.same s, I.inv, I.tot, I.up, I.no, I.hAB⟩
theorem DW.nlst {kvs : List (D × V)} (g : DW P w K H A kvs) {a : Addr} {ys : List V} (e : H a = some (.lst ys)) : a ≠ A := fun z => by
  subst z
  obtain ⟨_, _, zs, q, _⟩ := g
  rw [e] at q
  have q := Option.some.inj q
  exact absurd (show HO.lst ys = HO.ext _ from q) (fun z => by cases z)
theorem DW.nlk {kvs kvs' : List (D × V)} (g : DW P w K H A kvs) (l : Lk P w K H T od xs kvs') : T ≠ A := fun z => by
  subst z
  obtain ⟨_, _, zs, q, _⟩ := g
  rw [l.at_] at q
  have q := Option.some.inj q
  exact absurd (show HO.frz _ _ = HO.ext _ from q) (fun z => by cases z)
/-- one height is raised, its choice is noted -/
theorem RI.raise (I : RI P w K S W f H H' T A B od xs h0 c0 h c b) {s : Sd} {p : Stp} (hs : s ∈ W) (hp : p ∈ steps S s) (hx : h s < p.gain + h p.to) {obA : HO} (dA : DW P w K (upd H' A obA) A (putK (tabL (fun s => .int (h s)) W) (sdD s) (.int (p.gain + h p.to))))
    {CW : List Sd} {g : Sd → V} (dB0 : DW P w K H' B (tabL g CW)) (x : ChX K H' c CW g) {v : V} (hv : Is K H' v (stD p)) {obB : HO} (dB : DW P w K (upd (upd H' A obA) B obB) B (putK (tabL g CW) (sdD s) v)) :
    RI P w K S W f H (upd (upd H' A obA) B obB) T A B od xs h0 c0 (ups h s (p.gain + h p.to)) (ups c s (some p)) true := by
  have tA : TS H' (upd H' A obA) := DW.ts I.ht obA
  have dB1 : DW P w K (upd H' A obA) B (tabL g CW) := dB0.mono tA (upd_ne (Ne.symm I.hAB))
  have tB := dB1.ts obB
  have tt := tA.trans tB
  have nTA : T ≠ A := DW.nlk I.ht I.lk
  have nTB : T ≠ B := DW.nlk dB0 I.lk
  have lst : ∀ {a ys}, H' a = some (.lst ys) → (upd (upd H' A obA) B obB) a = H' a := fun e => by
    rw [upd_ne (DW.nlst dB0 e), upd_ne (DW.nlst I.ht e)]
  have mono : ∀ t, h t ≤ ups h s (p.gain + h p.to) t := fun t => by
    by_cases e : t = s
    · subst e; rw [ups_same]; omega
    · rw [ups_ne e]; exact Int.le_refl _
  have tl := total_lt mono hs (by rw [ups_same]; exact hx)
  refine ⟨fun a o e n1 n2 n3 => by rw [upd_ne n2, upd_ne n1]; exact I.fr a o e n1 n2 n3, I.lk.mono tt (by rw [upd_ne nTB, upd_ne nTA]), fun t ht => ?_, ?_, ?_, I.inv.raise hs hp hx, by have := I.tot; omega, fun _ => by have := I.tot; omega, (fun e => by cases e), I.hAB⟩
  · obtain ⟨ys, e, i⟩ := I.ls t ht
    exact ⟨ys, (lst e).trans e, i.mono tt⟩
  · have e : (ups (fun s => V.int (h s)) s (.int (p.gain + h p.to))) = fun t => V.int (ups h s (p.gain + h p.to) t) := by
      funext t
      by_cases e : t = s
      · subst e; rw [ups_same, ups_same]
      · rw [ups_ne e, ups_ne e]
    rw [tab_in hs, e] at dA
    exact dA.mono tB (upd_ne I.hAB)
  · obtain ⟨CW', g', e, x'⟩ := chx_put x tt (s := s) (hv.mono tt)
    rw [e] at dB
    exact ⟨CW', g', dB, x'⟩
end
def spRaise (P : Program) (w : World) (K : PySem.W.Frag) : Sp := fun vs H Q _ => ∃ (T A B : Addr) (S : Setg) (W : List Sd) (f : Sd → Addr) (h : Hts) (c : Cho), vs = [.ref T, .int 1, .int 1, .ref A, .ref B] ∧ DW P w K H T (tabL (fun s => .ref (f s)) W) ∧ (∀ s ∈ W, LstAt K H (f s) (steps S s)) ∧ W.length ≤ 6000 ∧ Closed S W ∧
  HtAt P w K H A W h ∧ ChAt P w K H B c ∧ HInv S W h c ∧ T ≠ A ∧ T ≠ B ∧ A ≠ B ∧
  ∀ b h' c' H', (∀ a o, H a = some o → a ≠ A → a ≠ B → H' a = some o) → HtAt P w K H' A W h' → ChAt P w K H' B c' → HInv S W h' c' → (b = true → total h W < total h' W) → (b = false → h' = h ∧ c' = c ∧ Feas S W h) → Q (.bl b) H'
section
variable {P : Program} {w : World} {K : PySem.W.Frag} {mg : Str → Option Value} {base : Heap} {C : Addr}
abbrev N_raise_heights : List Str := ["table", "up", "down", "heights", "choices", "is_raised", "standing", "steps", "step", "height"]
theorem sc_raise_heights : FnScope N_raise_heights ["table", "up", "down", "heights", "choices"] (defScope (top 45)) := ⟨rfl, rfl, rfl, by decide +kernel, rfl, by decide +kernel, by decide +kernel⟩
theorem ok_raise_heights (d : DefAt K mg "raise_heights" 45) (c_step_gain : Cal P w K mg base "step_gain" 1 ["step", "up", "down"] (spP (RGain K))) : Cal P w K mg base "raise_heights" 2 ["table", "up", "down", "heights", "choices"] (spRaise P w K) := by
  obtain ⟨f, fd, g, F⟩ := d
  refine ⟨f, fd, g, F.kp, F.binds fun _ _ _ _ _ _ us hl => match us, hl with | [_, _, _, _, _], _ => rfl, F.okX sc_raise_heights (fun vs H Q E h => ?_) (fun cdv A outer s H vs Q E hr h => ?_)⟩
  · obtain ⟨T, A, B, S, W, f, h, c, rfl, _⟩ := h; rfl
  · obtain ⟨T, A, B, S, W, f, h0, c0, rfl, dT, hls, hW, hcl, hA, hB, hI, nTA, nTB, nAB, q⟩ := h
    have hu := hr.units
    refine ⟨_, 
        (pss_cons (ps_set (i := 5) sc_raise_heights.nd rfl (Or.inl rfl) pe_bl) 
        (pss_cons (ps_lock (ps_for (passes_of rfl) rfl (pi_nitems (pv 0)) (pg_tup rfl (pgs_cons (pg_name (i := 6) sc_raise_heights.nd rfl (Or.inl rfl)) (pgs_cons (pg_name (i := 7) sc_raise_heights.nd rfl (Or.inl rfl)) pgs_nil))) 
          (pss_one (ps_for (passes_of rfl) rfl (pi_list (pv 7)) (pg_name (i := 8) sc_raise_heights.nd rfl (Or.inl rfl)) 
            (pss_cons (ps_set (i := 9) sc_raise_heights.nd rfl (Or.inl rfl) (pe_op op_add (pe_cal c_step_gain (hr.mono (by decide)) (pa_cons (pv 8) (pa_cons (pv 1) (pa_cons (pv 2) pa_nil)))) (pe_nget hu (pv 3) (pe_ix ix_tup (pv 8) pe_int (fun _ _ => rfl)) (fun _ _ => rfl)))) 
            (pss_one (ps_if (pt_cmpR op_gt (pv 9) (pe_nget hu (pv 3) (pv 6) (fun _ _ => rfl)) (nomark _)) 
              (pss_one (ps_asg (pe_tup (pa_cons (pv 9) (pa_cons (pv 8) (pa_cons pe_bl pa_nil)))) (pg_tup rfl (pgs_cons (pg_sub (pv 3) (pv 6) (set_n hu)) (pgs_cons (pg_sub (pv 4) (pv 6) (set_n hu)) (pgs_cons (pg_name (i := 5) sc_raise_heights.nd rfl (Or.inl rfl)) pgs_nil)))))) pss_nil))))))) 
        (pss_one (ps_ret (pv 5))))), ?_⟩
    refine seq_in (asg_in (c_in ?_))
    dsimp only
    refine seq_in (lock_in dT fun od xs hT lk => ?_)
    have tl := lock_ts hT (.frz od (DO P w T xs))
    have I0 : RI P w K S W f H (upd H T (.frz od (DO P w T xs))) T A B od xs h0 c0 h0 c0 false := by
      refine ⟨fun a o e _ _ n => by rw [upd_ne n]; exact e, lk, fun s hs => ?_, DW.mono tl (upd_ne (Ne.symm nTA)) hA, ?_, hI, Int.le_refl _, (fun e => by cases e), fun _ => ⟨rfl, rfl⟩, nAB⟩
      · obtain ⟨ys, e, i⟩ := hls s hs
        exact ⟨ys, by rw [upd_ne (DW.nlst dT e)]; exact e, i.mono tl⟩
      · obtain ⟨CW, g, d, x⟩ := hB
        exact ⟨CW, g, d.mono tl (upd_ne (Ne.symm nTB)), x.mono tl⟩
    refine ⟨_, rfl, T, od, xs, tabL (fun s => .ref (f s)) W, rfl, I0.lk.sys, I0.lk.at_, I0.lk.kn, ?_⟩
    refine for_it walk_nitems (fun i σ H' => ∃ (b : Bool) (h : Hts) (c : Cho) (x6 x7 x8 x9 : Option V), σ = [some (.ref T), some (.int 1), some (.int 1), some (.ref A), some (.ref B), some (.bl b), x6, x7, x8, x9] ∧ RI P w K S W f H H' T A B od xs h0 c0 h c b ∧ (b = false → ∀ i' s, i' < i → W[i']? = some s → ∀ p ∈ steps S s, p.gain + h0 p.to ≤ h0 s))
      ⟨false, h0, c0, none, none, none, none, rfl, I0, fun _ i' s h => by omega⟩ (fun i σ H' _ pp => by obtain ⟨_, _, _, _, _, _, _, _, I, _⟩ := pp; exact ⟨I.lk.at_, I.lk.kn⟩) (fun i x σ H' H'' hi pp y => ?_) fun σ H' pp => ?_
    · obtain ⟨b, h, c, x6, x7, x8, x9, rfl, I, hno⟩ := pp
      obtain ⟨Tp, sv, k, v0, hk, rfl, hTp, hsv, rfl⟩ := y
      rw [tab_len] at hi
      obtain ⟨s, hs⟩ : ∃ s, W[i]? = some s := ⟨_, List.getElem?_eq_getElem hi⟩
      have hsW : s ∈ W := List.mem_of_getElem? hs
      have ek : k = sdD s ∧ v0 = .ref (f s) := by
        unfold tabL at hk
        rw [List.getElem?_map, hs] at hk
        have := Prod.mk.inj (Option.some.inj hk)
        exact ⟨this.1.symm, this.2.symm⟩
      obtain ⟨rfl, rfl⟩ := ek
      have sT : Same H' (upd H' Tp (.tup [sv, .ref (f s)])) := Same.new hTp
      refine gtup2 (.inl upd_same) ?_
      obtain ⟨b0, rfl, hb0⟩ := sd_ref hsv
      have I1 := I.same sT
      obtain ⟨ys, hys, hyi⟩ := I1.ls s hsW
      have hyl : ys.length = (steps S s).length := by rw [hyi.length, List.length_map]
      -- for step in steps
      refine ⟨_, rfl, f s, rfl, ⟨_, SqL.of hys⟩, for_list (K := K) (a := f s) (xs := ys) (fun k σ H' => ∃ (b : Bool) (h : Hts) (c : Cho) (x8 x9 : Option V), σ = [some (.ref T), some (.int 1), some (.int 1), some (.ref A), some (.ref B), some (.bl b), some (.ref b0), some (.ref (f s)), x8, x9] ∧ RI P w K S W f H H' T A B od xs h0 c0 h c b ∧ H' (f s) = some (.lst ys) ∧ IsAll K H' ys ((steps S s).map stD) ∧ Is K H' (.ref b0) (sdD s) ∧
          (b = false → (∀ i' s, i' < i → W[i']? = some s → ∀ p ∈ steps S s, p.gain + h0 p.to ≤ h0 s) ∧ ∀ k' p, k' < k → (steps S s)[k']? = some p → p.gain + h0 p.to ≤ h0 s))
        ⟨b, h, c, x8, x9, rfl, I1, hys, hyi, hb0.mono (.of sT), fun e => ⟨hno e, fun k' p hk' => by omega⟩⟩ (fun k σ H' _ pp => by obtain ⟨_, _, _, _, _, _, _, e, _⟩ := pp; exact SqL.of e) (fun k x σ H2 hx pp => ?_) fun σ H2 pp => ?_⟩
      · obtain ⟨b, h, c, x8, x9, rfl, I, hys, hyi, hbs, hno⟩ := pp
        obtain ⟨dd, hdd, hxd⟩ := hyi.get hx
        rw [List.getElem?_map] at hdd
        obtain ⟨p, hp, rfl⟩ := Option.map_eq_some_iff.mp hdd
        have hpm : p ∈ steps S s := List.mem_of_getElem? hp
        have hpW := hcl s hsW p hpm
        have hx : Is K H2 x (stD p) := hxd
        have gx : ∀ {σ : L2.St} {H' : Hp}, σ[8]? = some (some x) → Same H2 H' → Gv (tVar 8) σ H' (PD K (stD p)) := fun e s' => gv_d e (hx.mono (.of s'))
        have gh : ∀ {ty : TE} {σ : L2.St} {H' : Hp} {t : Sd}, σ[3]? = some (some (.ref A)) → Gv ty σ H' (PD K (sdD t)) → t ∈ W → Same H2 H' → Gv (tNGet P w K (tVar 3) ty) σ H' (PV (.int (h t))) := fun e g ht s' =>
          gv_nget (gv_v e) g (DW.rd (DW.same s' I.ht)) (by rw [tab_val, if_pos ht])
        -- height = ..
        refine seq_in (asg_in (Gv.run (gv_opI (i := p.gain) (j := h p.to) (gv_call (P := PV (.int p.gain)) (ga_cons (gx rfl (Same.refl _)) up_D (ga_cons (gv_v (v := .int 1) rfl) up_V (ga_cons (gv_v (v := .int 1) rfl) up_V ga_nil))) fun vs H' s' pp => ?_) (gh rfl (gv_to (gx rfl (Same.refl _))) hpW (Same.refl _))) fun z H3 s3 ez => ?_))
        · cases pp with
          | cons e1 pp => cases pp with
            | cons e2 pp => cases pp with
              | cons e3 pp =>
                cases pp; cases e2; cases e3
                exact ⟨_, p, rfl, e1, (step_01 hpm).1, (step_01 hpm).2, rfl⟩
        have ez : z = .int (p.gain + h p.to) := ez
        subst ez
        dsimp only
        have I3 := I.same s3
        have hbs3 := hbs.mono (.of s3)
        refine Gt.run (gt_test (gv_opI (i := p.gain + h p.to) (j := h s) (gv_v rfl) (gh rfl (gv_d (v := .ref b0) rfl hbs3) hsW s3))) fun H4 s4 => ?_
        have I4 := I3.same s4
        have s24 := s3.trans s4
        by_cases hgt : h s < p.gain + h p.to
        · rw [if_pos (by simpa using hgt)]
          -- the three stores
          have hx4 : Is K H4 x (stD p) := hx.mono (.of s24)
          refine ⟨_, rfl, _, rfl, ?_⟩
          refine ⟨by show 3 ≤ sizeLine; decide, fun tp htp => ?_⟩
          have sp : Same H4 (upd H4 tp (.tup [.int (p.gain + h p.to), x, .bl true])) := Same.new htp
          have I5 := I4.same sp
          have hb5 : Is K (upd H4 tp (.tup [.int (p.gain + h p.to), x, .bl true])) (.ref b0) (sdD s) := (hbs.mono (.of s24)).mono (.of sp)
          obtain ⟨CW, g, dB, xB⟩ := id I5.ch
          refine ⟨tp, [.int (p.gain + h p.to), x, .bl true], rfl, TupAt.seq (.inl upd_same), rfl, _, _, rfl, ?_⟩
          refine ⟨_, rfl, _, rfl, A, _, sdD s, b0, rfl, I5.ht, rfl, hb5, sd8 s, by rw [tab_len]; omega, fun obA dA => ?_⟩
          have tA := DW.ts I5.ht obA
          have dB1 := dB.mono tA (upd_ne (Ne.symm nAB))
          refine ⟨_, _, rfl, _, rfl, _, rfl, B, _, sdD s, b0, rfl, dB1, rfl, hb5.mono tA, sd8 s, ?_, fun obB dBput => ?_⟩
          · rw [tab_len]
            have : CW.length ≤ W.length := List.Nodup.length_le_of_subset xB.nd fun t ht => by
              obtain ⟨q', hq', _⟩ := xB.some ht
              exact (I5.inv.ch t q' hq').1
            omega
          refine ⟨_, _, rfl, rfl, ?_⟩
          have I6 := I5.raise hsW hpm hgt dA dB xB (hx4.mono (.of sp)) dBput
          have tt := tA.trans (dB1.ts obB)
          have lst : (upd (upd (upd H4 tp (.tup [.int (p.gain + h p.to), x, .bl true])) A obA) B obB) (f s) = some (.lst ys) := by
            have e5 : (upd H4 tp (.tup [.int (p.gain + h p.to), x, .bl true])) (f s) = some (.lst ys) := sp _ _ (s24 _ _ hys)
            rw [upd_ne (DW.nlst dB e5), upd_ne (DW.nlst I5.ht e5)]
            exact e5
          exact ⟨true, _, _, _, _, rfl, I6, lst, (hyi.mono (.of (s24.trans sp))).mono tt, hb5.mono tt, fun e => by cases e⟩
        · rw [if_neg (by simpa using hgt)]
          refine next_in ⟨b, h, c, _, _, rfl, I4, s24 _ _ hys, hyi.mono (.of s24), hbs.mono (.of s24), fun e => ⟨(hno e).1, fun k' p' hk' hp' => ?_⟩⟩
          rcases Nat.lt_or_ge k' k with hlt | hge
          · exact (hno e).2 k' p' hlt hp'
          · have : k' = k := by omega
            subst this
            rw [hp] at hp'; cases hp'
            obtain ⟨rfl, rfl⟩ := I.no e
            omega
      · obtain ⟨b, h, c, x8, x9, rfl, I, _, _, _, hno⟩ := pp
        refine ⟨b, h, c, _, _, _, _, rfl, I, fun e i' s' hi' hs' p hp => ?_⟩
        rcases Nat.lt_or_ge i' i with hlt | hge
        · exact (hno e).1 i' s' hlt hs' p hp
        · have : i' = i := by omega
          subst this
          rw [hs] at hs'; cases hs'
          obtain ⟨k', hk'⟩ := List.mem_iff_getElem?.mp hp
          exact (hno e).2 k' p (by rw [hyl]; exact (List.getElem?_eq_some_iff.mp hk').1) hk'
    · obtain ⟨b, h, c, x6, x7, x8, x9, rfl, I, hno⟩ := pp
      rw [tab_len] at hno
      refine ⟨I.lk.at_, ?_⟩
      have tu := unlock_ts (P := P) (w := w) I.lk.at_
      have dA := I.ht
      obtain ⟨CW, g, dB, xB⟩ := id I.ch
      refine ⟨_, rfl, q b h c _ (fun a o e n1 n2 => ?_) (DW.mono tu (upd_ne (Ne.symm nTA)) dA) ⟨CW, g, dB.mono tu (upd_ne (Ne.symm nTB)), xB.mono tu⟩ I.inv I.up fun e => ?_⟩
      · by_cases z : a = T
        · subst z
          rw [hT] at e; cases e
          exact upd_same
        · rw [upd_ne z]; exact I.fr a o e n1 n2 z
      · obtain ⟨rfl, rfl⟩ := I.no e
        refine ⟨rfl, rfl, fun s hs p hp => ?_⟩
        obtain ⟨i, hi⟩ := List.mem_iff_getElem?.mp hs
        exact hno e i s (List.getElem?_eq_some_iff.mp hi).1 hi p hp
end
end K52
set_option maxHeartbeats 4000000
/-! Gain heights. -/
namespace K52
open PySem PySem.Spec PyProof.Rows L2
def GainP (P : Program) (w : World) (K : PySem.W.Frag) (S : Setg) (W : List Sd) : V → Hp → Prop := fun v' H' => ∃ (a A B : Addr) (rv : V) (h : Hts) (c : Cho), v' = .ref a ∧ TupAt K H' a [.ref A, .ref B, rv] ∧ HtAt P w K H' A W h ∧ ChAt P w K H' B c ∧ HInv S W h c ∧
  ((rv = .non ∧ NoRing c ∧ Feas S W h) ∨ ∃ r, Is K H' rv (sdD r) ∧ OnRing c r)
def RGainH (P : Program) (w : World) (K : PySem.W.Frag) : List V → Hp → (V → Hp → Prop) → Prop := fun vs H Pr => ∃ (T : Addr) (S : Setg) (W : List Sd) (f : Sd → Addr), vs = [.ref T, .int 1, .int 1] ∧ DW P w K H T (tabL (fun s => .ref (f s)) W) ∧ (∀ s ∈ W, LstAt K H (f s) (steps S s)) ∧ W.Nodup ∧ W.length ≤ 6000 ∧ Closed S W ∧ Pr = GainP P w K S W
section
variable {P : Program} {w : World} {K : PySem.W.Frag} {σ : L2.St} {H : Hp} {T : Addr} {od : Obj} {xs : List (D × Addr × Value)} {F : Sd → V} {W : List Sd} {Q : VK}
theorem par3_in {ta tb tc : TE} {En : L2.Ends} {i j k : Nat} (h : ta σ H fun x H1 => tb σ H1 fun y H2 => tc σ H2 fun z H3 => ∃ u v w, [x, y, z] = [u, v, w] ∧ En.nx (((σ.set i (some u)).set j (some v)).set k (some w)) H3) : tPar3 i j k (tCons ta (tCons tb (tCons tc tNil))) En σ H := h
theorem dictN_run (e0 : σ[0]? = some (some (.ref T))) (h6 : 6 < σ.length) (lk : Lk P w K H T od xs (tabL F W)) (nd : W.Nodup) (hl : W.length ≤ 6000) (q : ∀ A H2, Same H H2 → DW P w K H2 A (tabL (fun _ => .int 0) W) → H A = none → Q (.ref A) H2) :
    tCc (fun Dd => DO P w Dd []) (iNKeys P w K (tVar 0)) (gName 6) tYes (tbDict P w K (tVar 6) (tC (.int 0))) [6] σ H Q := by
  refine ⟨_, e0, T, od, xs, tabL F W, rfl, lk.sys, lk.at_, lk.kn, fun Dd hD hsys => ?_⟩
  refine cc_it walk_nkeys (fun i Hc => Same H Hc ∧ DW P w K Hc Dd (tabL (fun _ => .int 0) (W.take i))) ⟨Same.new hD, by simp [tabL], hsys, [], upd_same, .nil⟩ (fun i Hc _ p => ⟨p.1 _ _ lk.at_, lk.kn.mono (.of p.1)⟩) (fun i x Hc Hc' hi p y => ?_) fun Hc p => ?_
  · obtain ⟨rfl, k, v, hk, hx⟩ := y
    obtain ⟨s1, d1⟩ := p
    rw [tab_len] at hi
    obtain ⟨s, hs⟩ : ∃ s, W[i]? = some s := ⟨_, List.getElem?_eq_getElem hi⟩
    have ek : k = sdD s := by
      unfold tabL at hk
      rw [List.getElem?_map, hs] at hk
      exact (Prod.mk.inj (Option.some.inj hk)).1.symm
    subst ek
    obtain ⟨b, rfl, hb⟩ := sd_ref hx
    refine ⟨wipe1, ?_⟩
    rw [wipe_set]
    unfold tYes
    simp only [if_true]
    refine ⟨_, by rw [List.getElem?_set_self h6], ?_⟩
    refine c_in ⟨b, sdD s, _, rfl, hb, sd8 s, d1, by rw [tab_len, List.length_take]; omega, fun ob d2 => ⟨same_wr s1 hD, ?_⟩⟩
    have hn : s ∉ W.take i := fun hm => by
      obtain ⟨j, hj⟩ := List.mem_iff_getElem?.mp hm
      rw [List.getElem?_take] at hj
      split at hj
      · have := (List.getElem?_inj (List.getElem?_eq_some_iff.mp hj).1 nd).mp (hj.trans hs.symm)
        omega
      · cases hj
    rw [tab_new hn] at d2
    have e : (ups (fun _ => V.int 0) s (.int 0)) = fun _ => V.int 0 := by
      funext t
      by_cases z : t = s
      · subst z; rw [ups_same]
      · rw [ups_ne z]
    rw [e] at d2
    rw [take_succ hs]
    exact d2
  · obtain ⟨s1, d1⟩ := p
    rw [tab_len, List.take_length] at d1
    exact q Dd Hc s1 d1 hD
end
section
variable {P : Program} {w : World} {K : PySem.W.Frag} {mg : Str → Option Value} {base : Heap} {C : Addr}
abbrev N_gain_heights : List Str := ["table", "up", "down", "heights", "choices", "ring", "standing"]
theorem sc_gain_heights : FnScope N_gain_heights ["table", "up", "down"] (defScope (top 46)) := ⟨rfl, rfl, rfl, by decide +kernel, rfl, by decide +kernel, by decide +kernel⟩
theorem ok_gain_heights (d : DefAt K mg "gain_heights" 46) (c_raise_heights : Cal P w K mg base "raise_heights" 2 ["table", "up", "down", "heights", "choices"] (spRaise P w K)) (c_choice_ring : Cal P w K mg base "choice_ring" 1 ["choices"] (spP (RRing P w K))) : Cal P w K mg base "gain_heights" 3 ["table", "up", "down"] (spP (RGainH P w K)) := by
  obtain ⟨f, fd, g, F⟩ := d
  refine ⟨f, fd, g, F.kp, F.binds fun _ _ _ _ _ _ us hl => match us, hl with | [_, _, _], _ => rfl, F.okX sc_gain_heights (fun vs H Q E h => ?_) (fun cdv A outer s H vs Q E hr h => ?_)⟩
  · obtain ⟨_, ⟨T, S, W, f, rfl, _⟩, _⟩ := h; rfl
  · obtain ⟨_, ⟨T, S, W, f, rfl, dT, hls, nd, hW, hcl, rfl⟩, q⟩ := h
    have hu := hr.units
    refine ⟨_, 
        (pss_cons (ps_lock (ps_par3 (i := 3) (j := 4) (l := 5) rfl sc_gain_heights.nd rfl rfl rfl (by decide) (by decide) (by decide) rfl rfl rfl (pa_cons (pe_dictN hu (own := [("standing", 6)]) (g := gName 6) (tt := tYes) rfl sc_gain_heights.nd (pi_nkeys (pv 0)) (blkOk_by (N := N_gain_heights) (sc := defScope (top 46)) (by decide +kernel)) (fun _ _ _ _ _ => (pg_name (i := 6) sc_gain_heights.nd rfl (Or.inl rfl))) (fun _ _ _ _ _ => pts_nil) (fun _ _ _ _ _ => (pv 6)) (fun _ _ _ _ _ => pe_int)) (pa_cons pe_nnew (pa_cons pe_non pa_nil))) (by rfl))) 
        (pss_cons (ps_while (passes_of rfl) (PW.pt (pw_and (pt_cmpR op_isN (pv 5) pe_non (nomark _)) (pw_and1 (pt_val (pe_cal c_raise_heights (hr.mono (by decide)) (pa_cons (pv 0) (pa_cons (pv 1) (pa_cons (pv 2) (pa_cons (pv 3) (pa_cons (pv 4) pa_nil)))))))))) 
          (pss_one (ps_set (i := 5) sc_gain_heights.nd rfl (Or.inl rfl) (pe_cal c_choice_ring (hr.mono (by decide)) (pa_cons (pv 4) pa_nil))))) 
        (pss_one (ps_ret (pe_tup (pa_cons (pv 3) (pa_cons (pv 4) (pa_cons (pv 5) pa_nil)))))))), ?_⟩
    refine seq_in (lock_in dT fun od xs hT lk => ?_)
    refine par3_in ?_
    refine dictN_run (σ := start N_gain_heights [.ref T, .int 1, .int 1]) rfl (by show 6 < 7; decide) lk nd hW fun A H2 s2 dA hA => ?_
    intro B ob hB dB
    refine ⟨_, _, _, rfl, ?_⟩
    have sB : Same H2 (upd H2 B ob) := Same.new hB
    have sHL := s2.trans sB
    refine ⟨sHL _ _ lk.at_, ?_⟩
    have tu := unlock_ts (P := P) (w := w) (sHL _ _ lk.at_)
    have nTA : T ≠ A := ne_of_none (by rw [upd_same]) hA
    have hB1 : (upd H T (.frz od (DO P w T xs))) B = none := same_none s2 hB
    have nTB : T ≠ B := ne_of_none (by rw [upd_same]) hB1
    have hAH : H A = none := by rw [upd_ne (Ne.symm nTA)] at hA; exact hA
    have hBH : H B = none := by rw [upd_ne (Ne.symm nTB)] at hB1; exact hB1
    have nAB : A ≠ B := by
      obtain ⟨_, _, ys, e, _⟩ := dA
      exact ne_of_none e hB
    have sU : Same H (upd (upd H2 B ob) T (DO P w T xs)) := same_unlock hT sHL
    have hA0 : HtAt P w K (upd (upd H2 B ob) T (DO P w T xs)) A W (fun _ => 0) := DW.mono tu (upd_ne (Ne.symm nTA)) (dA.same sB)
    have hB0 : ChAt P w K (upd (upd H2 B ob) T (DO P w T xs)) B (fun _ => none) := ⟨[], fun _ => .non, DW.mono tu (upd_ne (Ne.symm nTB)) dB, List.nodup_nil, fun s => by simp, fun s p e => by cases e⟩
    generalize hHs : upd (upd H2 B ob) T (DO P w T xs) = Hs at sU hA0 hB0 ⊢
    dsimp only
    have tot0 : ∀ K : List Sd, total (fun _ => 0) K = 0 := fun K => by
      induction K with
      | nil => rfl
      | cons s K ih => rw [total_cons, ih]; rfl
    have bound : ∀ {h : Hts} {c : Cho}, HInv S W h c → NoRing c → total h W ≤ 36000000 := fun {h c} I N => by
      have h1 := total_le (h := h) (B := 6000) (fun s => Int.le_trans (height_le I N s) (by omega)) W
      have h2 : (6000 : Int) * (W.length : Int) ≤ 6000 * 6000 := by omega
      omega
    refine seq_in ?_
    refine ⟨fun m σ H' => ∃ (rv : V) (h : Hts) (c : Cho), σ = [some (.ref T), some (.int 1), some (.int 1), some (.ref A), some (.ref B), some rv, none] ∧ Same H H' ∧ HtAt P w K H' A W h ∧ ChAt P w K H' B c ∧ HInv S W h c ∧
      ((rv = .non ∧ NoRing c ∧ m = (36000001 - total h W).toNat) ∨ (∃ r, Is K H' rv (sdD r) ∧ OnRing c r ∧ m = 0)), ⟨(36000001 - total (fun _ => 0) W).toNat, .non, _, _, rfl, sU, hA0, hB0, hinv_start S W, .inl ⟨rfl, fun s => ⟨0, .nil rfl⟩, rfl⟩⟩, ?_⟩
    rintro m σ H3 ⟨rv, h, c, rfl, s3, hA3, hB3, I, hcase⟩
    have fin : ∀ H4, Same H3 H4 → ((rv = .non ∧ NoRing c ∧ Feas S W h) ∨ ∃ r, Is K H4 rv (sdD r) ∧ OnRing c r) → HtAt P w K H4 A W h → ChAt P w K H4 B c → tRet (tTup (tCons (tVar 3) (tCons (tVar 4) (tCons (tVar 5) tNil)))) { nx := fun _ H' => Q .non H', rt := Q } [some (.ref T), some (.int 1), some (.int 1), some (.ref A), some (.ref B), some rv, none] H4 := fun H4 s4 hc a b => by
      refine ⟨_, rfl, _, rfl, _, rfl, by show 3 ≤ sizeLine; decide, fun p hp => ?_⟩
      have sp : Same H4 (upd H4 p (.tup [.ref A, .ref B, rv])) := Same.new hp
      refine q _ _ ((s3.trans s4).trans sp) ⟨p, A, B, rv, h, c, rfl, .inl upd_same, (show DW P w K _ A _ from DW.same sp a), b.same sp, I, hc.imp id fun ⟨r, hr, o⟩ => ⟨r, hr.mono (.of sp), o⟩⟩
    rcases hcase with ⟨rfl, N, rfl⟩ | ⟨r, hr', o, rfl⟩
    · refine (gt_isN (v := .non) (gv_v (i := 5) rfl)).run fun H4 s4 => ?_
      rw [if_pos (by rfl)]
      refine ⟨_, rfl, _, rfl, _, rfl, _, rfl, _, rfl, ?_⟩
      have s34 := s3.trans s4
      have hb := bound I N
      refine ⟨T, A, B, S, W, f, h, c, rfl, dT.same s34, fun s hs => (hls s hs).same s34, hW, hcl, (show DW P w K _ A _ from DW.same s4 hA3), hB3.same s4, I, nTA, nTB, nAB, fun b h' c' H5 fr hA5 hB5 I5 up no => ⟨b, rfl, ?_⟩⟩
      have s5 : Same H H5 := fun a o e => fr a o (s34 _ _ e) (fun z => by rw [z, hAH] at e; cases e) (fun z => by rw [z, hBH] at e; cases e)
      cases b with
      | false =>
        dsimp only
        rw [if_neg (by decide)]
        obtain ⟨rfl, rfl, Fe⟩ := no rfl
        refine ⟨_, rfl, _, rfl, _, rfl, by show 3 ≤ sizeLine; decide, fun p hp => ?_⟩
        have sp : Same H5 (upd H5 p (.tup [.ref A, .ref B, .non])) := Same.new hp
        exact q _ _ (s5.trans sp) ⟨p, A, B, .non, h', c', rfl, .inl upd_same, (show DW P w K _ A _ from DW.same sp hA5), hB5.same sp, I5, .inl ⟨rfl, N, Fe⟩⟩
      | true =>
        dsimp only
        rw [if_pos rfl]
        have hup := up rfl
        refine ⟨_, fun σ' H' z => z, ?_⟩
        refine asg_in (Gv.run (gv_call (R := RRing P w K) (P := fun v' H' => (v' = .non ∧ NoRing c') ∨ ∃ r, PD K (sdD r) v' H' ∧ OnRing c' r) (ga_one (gv_v (i := 4) (v := .ref B) rfl) up_V) fun vs H' s' pp => ?_) fun x H6 s6 hx => ?_)
        · cases pp with
          | cons e pp => cases pp; cases e; exact ⟨B, c', rfl, hB5.same s', rfl⟩
        have hA6 : HtAt P w K H6 A W h' := DW.same s6 hA5
        rcases hx with ⟨rfl, N'⟩ | ⟨r, hr6, o⟩
        · have hb' := bound I5 N'
          exact ⟨(36000001 - total h' W).toNat, by omega, .non, h', c', rfl, s5.trans s6, hA6, hB5.same s6, I5, .inl ⟨rfl, N', rfl⟩⟩
        · exact ⟨0, by omega, x, h', c', rfl, s5.trans s6, hA6, hB5.same s6, I5, .inr ⟨r, hr6, o, rfl⟩⟩
    · obtain ⟨b0, rfl, hb0⟩ := sd_ref hr'
      refine (gt_isN (v := .ref b0) (gv_v (i := 5) rfl)).run fun H4 s4 => ?_
      rw [if_neg (by simp)]
      dsimp only
      rw [if_neg (by decide)]
      exact fin H4 s4 (.inr ⟨r, hb0.mono (.of s4), o⟩) (show DW P w K _ A _ from DW.same s4 hA3) (hB3.same s4)
end
end K52
set_option maxHeartbeats 4000000
/-! The way to a standing; what a ring tells. -/
namespace K52
open PySem PySem.Spec PyProof.Rows L2
theorem closed_path {S : Setg} {K : List Sd} (C : Closed S K) {s t : Sd} {g : Int} (p : Path S s t g) : s ∈ K → t ∈ K := by
  induction p with
  | nil s => exact id
  | cons hp _ ih => exact fun h => ih (C _ h _ hp)
structure SI (P : Program) (w : World) (K : PySem.W.Frag) (S : Setg) (W : List Sd) (H0 H : Hp) (T Wl : Addr) (PW : List Sd) (pv : Sd → V) (j : Nat) : Prop where
  dw : DW P w K H T (tabL pv PW)
  wl : ∃ ws, H Wl = some (.lst ws) ∧ IsAll K H ws (PW.map sdD)
  nd : PW.Nodup
  hd : PW[0]? = some first
  sub : ∀ s ∈ PW, s ∈ W
  par : ∀ i s, PW[i]? = some s → 0 < i → ∃ i' t p, i' < i ∧ PW[i']? = some t ∧ Is K H (pv s) (.tup [sdD t, stD p])
  cl : ∀ i, i < j → ∀ s, PW[i]? = some s → ∀ p ∈ steps S s, p.to ∈ PW
  nT : H0 T = none
  nW : H0 Wl = none
section
variable {P : Program} {w : World} {K : PySem.W.Frag} {S : Setg} {W : List Sd} {H0 H H' : Hp} {T Wl : Addr} {PW : List Sd} {pv : Sd → V} {j : Nat}
theorem SI.same (s : Same H H') (I : SI P w K S W H0 H T Wl PW pv j) : SI P w K S W H0 H' T Wl PW pv j :=
  ⟨I.dw.same s, (let ⟨ws, e, i⟩ := I.wl; ⟨ws, s _ _ e, i.mono (.of s)⟩), I.nd, I.hd, I.sub, fun i t ht hi => let ⟨i', u, p, a, b, c⟩ := I.par i t ht hi; ⟨i', u, p, a, b, c.mono (.of s)⟩, I.cl, I.nT, I.nW⟩
theorem SI.len (hW : W.length ≤ 6000) (I : SI P w K S W H0 H T Wl PW pv j) : PW.length ≤ 6000 := Nat.le_trans (List.Nodup.length_le_of_subset I.nd I.sub) hW
theorem SI.push (I : SI P w K S W H0 H T Wl PW pv j) (hj : j ≤ PW.length) {t s : Sd} {p : Stp} (ht : t ∉ PW) (htW : t ∈ W) (hs : s ∈ PW) {ob : HO} {v : V} (d : DW P w K (upd H T ob) T (putK (tabL pv PW) (sdD t) v)) (hv : Is K H v (.tup [sdD s, stD p]))
    {ws : List V} (hw : H Wl = some (.lst ws)) (hwi : IsAll K H ws (PW.map sdD)) {H2 : Hp} (s2 : Same (upd H T ob) H2) {y : V} (hy : Is K H2 y (sdD t)) : SI P w K S W H0 (upd H2 Wl (.lst (ws ++ [y]))) T Wl (PW ++ [t]) (ups pv t v) j := by
  have ts := I.dw.ts ob
  have nWT : Wl ≠ T := DW.nlst I.dw hw
  have hw2 : H2 Wl = some (.lst ws) := s2 _ _ (by rw [upd_ne nWT]; exact hw)
  have t2 : TS H2 (upd H2 Wl (.lst (ws ++ [y]))) := TS.lst hw2
  have tt : TS H (upd H2 Wl (.lst (ws ++ [y]))) := (ts.trans (.of s2)).trans t2
  have d2 : DW P w K H2 T (tabL (ups pv t v) (PW ++ [t])) := by
    rw [tab_new ht] at d
    exact d.same s2
  have p0 : 0 < PW.length := (List.getElem?_eq_some_iff.mp I.hd).1
  refine ⟨d2.mono t2 (upd_ne (Ne.symm nWT)), ⟨_, upd_same, ?_⟩, ?_, by rw [List.getElem?_append_left p0]; exact I.hd, ?_, ?_, ?_, I.nT, I.nW⟩
  · rw [List.map_append]
    exact (hwi.mono tt).append (.cons (hy.mono t2) .nil)
  · rw [List.nodup_append]
    exact ⟨I.nd, by simp, fun a ha b hb e => by simp at hb; subst hb; subst e; exact ht ha⟩
  · intro u hu
    rcases List.mem_append.mp hu with h | h
    · exact I.sub u h
    · simp at h; subst h; exact htW
  · intro i u hu hi
    rcases Nat.lt_or_ge i PW.length with h | h
    · rw [List.getElem?_append_left h] at hu
      obtain ⟨i', z, q, a, b, c⟩ := I.par i u hu hi
      have hne : u ≠ t := fun e => ht (by rw [← e]; exact List.mem_of_getElem? hu)
      refine ⟨i', z, q, a, by rw [List.getElem?_append_left (by omega)]; exact b, ?_⟩
      rw [ups_ne hne]
      exact c.mono tt
    · rw [List.getElem?_append_right h] at hu
      have : u = t := by
        cases e : i - PW.length with
        | zero => rw [e] at hu; simpa using hu.symm
        | succ k => rw [e] at hu; simp at hu
      subst this
      obtain ⟨i', hi'⟩ := List.mem_iff_getElem?.mp hs
      have := (List.getElem?_eq_some_iff.mp hi').1
      refine ⟨i', s, p, by omega, by rw [List.getElem?_append_left this]; exact hi', ?_⟩
      rw [ups_same]
      exact hv.mono tt
  · intro i hi u hu q hq
    rw [List.getElem?_append_left (by omega)] at hu
    exact List.mem_append_left _ (I.cl i hi u hu q hq)
/-- goal is met in time -/
theorem SI.more (I : SI P w K S W H0 H T Wl PW pv j) {goal : Sd} {g : Int} (pg : Path S first goal g) (hg : goal ∉ PW) (hj : j ≤ PW.length) : j < PW.length := by
  rcases Nat.lt_or_ge j PW.length with h | h
  · exact h
  · refine absurd (closed_path (K := PW) (fun s hs p hp => ?_) pg (List.mem_of_getElem? I.hd)) hg
    obtain ⟨i, hi⟩ := List.mem_iff_getElem?.mp hs
    exact I.cl i (by have := (List.getElem?_eq_some_iff.mp hi).1; omega) s hi p hp
end
def RTo (P : Program) (w : World) (K : PySem.W.Frag) : List V → Hp → (V → Hp → Prop) → Prop := fun vs H Pr => ∃ (T : Addr) (u v : V) (S : Setg) (W : List Sd) (f : Sd → Addr) (goal : Sd), vs = [.ref T, u, v] ∧ DW P w K H T (tabL (fun s => .ref (f s)) W) ∧ (∀ s ∈ W, LstAt K H (f s) (steps S s)) ∧ W.length ≤ 6000 ∧ Closed S W ∧ first ∈ W ∧
  Is K H u (sdD first) ∧ Is K H v (sdD goal) ∧ (∃ g, Path S first goal g) ∧ ∀ v' H', (∃ ps : List Stp, PL K (ps.map stD) v' H' ∧ ps.length ≤ 20000) → Pr v' H'
section
variable {P : Program} {w : World} {K : PySem.W.Frag} {σ : L2.St} {H : Hp} {tk : TE} {s : Sd}
theorem gv_disp1N (hup : ∀ H', Same H H' → Gv tk σ H' (PD K (sdD s))) : Gv (tNDisp1 P w K tk (tC .non)) σ H (fun v' H' => ∃ T, v' = .ref T ∧ DW P w K H' T [(sdD s, .non)] ∧ H T = none) := fun H1 s1 Q q => by
  intro p ob0 hp d0
  have sp : Same H1 (upd H1 p ob0) := Same.new hp
  refine (hup _ (s1.trans sp)).run fun y H2 s2 hy => ?_
  refine c_in ?_
  obtain ⟨b, rfl, hb⟩ := sd_ref hy
  exact ⟨sdD s, b, rfl, hb, sd8 s, d0.same s2, fun ob d3 => q _ _ (same_wr (sp.trans s2) hp) ⟨p, rfl, d3, same_none s1 hp⟩⟩
/-- [e for x in a list of data] -/
theorem gv_lcLD {tl te : TE} {i : Nat} {ds : List D} {F : D → D} (hs : Gv tl σ H (PL K ds)) (hlen : ds.length ≤ 100000) (T : ∀ H', Same H H' → ∀ x d, d ∈ ds → Is K H' x d → Gv te (σ.set i (some x)) H' (PD K (F d))) : Gv (tLc (iList K tl) (gName i) tYes te [i]) σ H (PL K (ds.map F)) := by
  intro H1 s Q q
  refine hs H1 s _ fun v H2 s2 hv => ?_
  obtain ⟨l, xs, rfl, hL, hi⟩ := hv
  refine ⟨l, rfl, ⟨_, SqL.of hL⟩, fun Dd hD => ?_⟩
  have hxl := hi.length
  refine lc_list (K := K) (a := l) (xs := xs) (fun j Hc => Same H2 Hc ∧ ∃ acc, Hc Dd = some (.lst acc) ∧ IsAll K Hc acc ((ds.take j).map F)) ⟨Same.new hD, [], upd_same, .nil⟩ (fun j Hc _ p => SqL.of (p.1 _ _ hL)) (fun j x Hc hx p => ?_) fun Hc p => ?_
  · obtain ⟨s6, acc, hacc, hia⟩ := p
    obtain ⟨d, hd, hxd⟩ := hi.get hx
    refine ⟨wipe1, ?_⟩
    rw [wipe_set]
    unfold tYes
    simp only [if_true]
    refine (T Hc ((s.trans s2).trans s6) x d (List.mem_of_getElem? hd) (hxd.mono (.of s6))).run fun y H7 s7 py => ?_
    have e7 := s7 _ _ hacc
    have t7 : TS H7 (upd H7 Dd (.lst (acc ++ [y]))) := TS.lst e7
    have hjn : j < ds.length := (List.getElem?_eq_some_iff.mp hd).1
    refine ⟨acc, e7, by rw [hia.length, List.length_map, List.length_take, sizeLine_eq]; omega, same_wr (Same.trans s6 s7) hD, _, upd_same, ?_⟩
    rw [take_succ hd, List.map_append]
    exact ((hia.mono (.of s7)).mono t7).append (.cons (py.mono t7) .nil)
  · obtain ⟨s6, acc, hacc, hia⟩ := p
    rw [hxl, List.take_length] at hia
    exact q _ Hc (s2.trans s6) ⟨Dd, acc, rfl, hacc, hia⟩
end
def gone3 : D → D
  | .tup (_ :: g :: _) => g
  | _ => .none
def RTold (P : Program) (w : World) (K : PySem.W.Frag) (C : Addr) : List V → Hp → (V → Hp → Prop) → Prop := fun vs H Pr => ∃ (v u : V) (T B : Addr) (S : Setg) (W : List Sd) (f : Sd → Addr) (c : Cho) (r : Sd), vs = [v, .ref T, .ref B, u] ∧ SetAt K C H v S ∧ DW P w K H T (tabL (fun s => .ref (f s)) W) ∧ (∀ s ∈ W, LstAt K H (f s) (steps S s)) ∧ W.length ≤ 6000 ∧ Closed S W ∧ first ∈ W ∧
  ChAt P w K H B c ∧ Is K H u (sdD r) ∧ OnRing c r ∧ (∀ s, c s ≠ none → s ∈ W) ∧ (∃ g, Path S first r g) ∧ ∀ v' H', (∃ a b d, PD K (.tup [a, b, d]) v' H') → Pr v' H'
section
variable {P : Program} {w : World} {K : PySem.W.Frag} {mg : Str → Option Value} {base : Heap} {C : Addr}
abbrev N_steps_to : List Str := ["table", "first", "goal", "parents", "waiting", "at", "here", "step", "steps"]
theorem sc_steps_to : FnScope N_steps_to ["table", "first", "goal"] (defScope (top 47)) := ⟨rfl, rfl, rfl, by decide +kernel, rfl, by decide +kernel, by decide +kernel⟩
theorem ok_steps_to (d : DefAt K mg "steps_to" 47) (T : Tx mg) : Cal P w K mg base "steps_to" 1 ["table", "first", "goal"] (spP (RTo P w K)) := by
  obtain ⟨f, fd, g, F⟩ := d
  refine ⟨f, fd, g, F.kp, F.binds fun _ _ _ _ _ _ us hl => match us, hl with | [_, _, _], _ => rfl, F.okX sc_steps_to (fun vs H Q E h => ?_) (fun cdv A outer s H vs Q E hr h => ?_)⟩
  · obtain ⟨_, ⟨T, u, v, S, W, f, goal, rfl, _⟩, _⟩ := h; rfl
  · obtain ⟨_, ⟨Ta, u, v, S, W, f, goal, rfl, dT, hls, hW, hcl, hfW, hu0, hv0, ⟨g, pg⟩, hP⟩, q⟩ := h
    have hu := hr.units
    refine ⟨_, 
        (pss_cons (ps_par3 (i := 3) (j := 4) (l := 5) rfl sc_steps_to.nd rfl rfl rfl (by decide) (by decide) (by decide) rfl rfl rfl (pa_cons (pe_ndisp1 hu (pv 1) pe_non) (pa_cons (pe_lst (pa_cons (pv 1) pa_nil)) (pa_cons pe_int pa_nil))) (by rfl)) 
        (pss_cons (ps_while (passes_of rfl) (pt_cmp (pc_nnotin hu (pv 2) (pv 3))) 
          (pss_cons (ps_set (i := 6) sc_steps_to.nd rfl (Or.inl rfl) (pe_ix ix_list (pv 4) (pv 5) (fun _ _ => rfl))) 
          (pss_cons (ps_for (passes_of rfl) rfl (pi_list (pe_nget hu (pv 0) (pv 6) (fun _ _ => rfl))) (pg_name (i := 7) sc_steps_to.nd rfl (Or.inl rfl)) 
            (pss_one (ps_if (pt_cmp (pc_nnotin hu (pe_ix ix_tup (pv 7) pe_int (fun _ _ => rfl)) (pv 3))) 
              (pss_cons (ps_asg (pe_tup (pa_cons (pv 6) (pa_cons (pv 7) pa_nil))) (pg_sub (pv 3) (pe_ix ix_tup (pv 7) pe_int (fun _ _ => rfl)) (set_n hu))) 
              (pss_one (ps_expr (pe_bm PySem.F.plainAttrs_list PySem.F.slot_list_append PySem.F.type_list_append mt_append (pv 4) (pa_cons (pe_ix ix_tup (pv 7) pe_int (fun _ _ => rfl)) pa_nil))))) pss_nil))) 
          (pss_one (ps_aug (i := 5) sc_steps_to.nd rfl (Or.inl rfl) pe_int ip_add))))) 
        (pss_cons (ps_par (i := 8) (j := 6) rfl sc_steps_to.nd rfl rfl (by decide) rfl rfl (pa_cons (pe_lst pa_nil) (pa_cons (pv 2) pa_nil)) (by rfl)) 
        (pss_cons (ps_while (passes_of rfl) (pt_cmpR (op_neD hr.units) (pv 6) (pv 1) (nomark _)) 
          (pss_cons (ps_asg (pe_nget hu (pv 3) (pv 6) (fun _ _ => rfl)) (pg_tup rfl (pgs_cons (pg_name (i := 6) sc_steps_to.nd rfl (Or.inl rfl)) (pgs_cons (pg_name (i := 7) sc_steps_to.nd rfl (Or.inl rfl)) pgs_nil)))) 
          (pss_one (ps_expr (pe_bm PySem.F.plainAttrs_list PySem.F.slot_list_append PySem.F.type_list_append mt_append (pv 8) (pa_cons (pv 7) pa_nil)))))) 
        (pss_one (ps_ret (pe_revL (pv 8)))))))), ?_⟩
    have gu : ∀ {σ : L2.St} {H' : Hp}, σ[1]? = some (some u) → Same H H' → Gv (tVar 1) σ H' (PD K (sdD first)) := fun e s => gv_d e (hu0.mono (.of s))
    have gg : ∀ {σ : L2.St} {H' : Hp}, σ[2]? = some (some v) → Same H H' → Gv (tVar 2) σ H' (PD K (sdD goal)) := fun e s => gv_d e (hv0.mono (.of s))
    refine seq_in (par3_run (gv_disp1N (P := P) (w := w) fun H' s => gu rfl s) (fun _ _ _ s ⟨T, e, d, n⟩ => ⟨T, e, d.same s, n⟩) (gv_lstN (gd_cons (gu rfl (Same.refl _)) gd_nil)) up_Ln gv_c fun x y z H1 s1 px py ez => ?_)
    obtain ⟨Pr, rfl, dP, hPr⟩ := px
    obtain ⟨Wl, xs, rfl, hWl, hxs, hnW⟩ := py
    have ez : z = .int 0 := ez
    subst ez
    dsimp only
    have I0 : SI P w K S W H H1 Pr Wl [first] (fun _ => .non) 0 :=
      ⟨dP, ⟨xs, hWl, hxs⟩, by simp, rfl, fun s hs => (by simp at hs; subst hs; exact hfW), fun i s hs hi => (by
        cases i with
        | zero => omega
        | succ i => simp at hs), (fun i hi => by omega), hPr, hnW⟩
    refine seq_in (while_gt (m0 := 6000) (fun m σ H' => ∃ (j : Nat) (PW : List Sd) (pv : Sd → V) (x6 x7 x8 : Option V), σ = [some (.ref Ta), some u, some v, some (.ref Pr), some (.ref Wl), some (.int (j : Int)), x6, x7, x8] ∧ Same H H' ∧ SI P w K S W H H' Pr Wl PW pv j ∧ j ≤ PW.length ∧ m = 6000 - j)
      ⟨0, [first], _, none, none, none, rfl, s1, I0, Nat.zero_le _, rfl⟩ ?_)
    rintro m σ H2 ⟨j, PW, pv, x6, x7, x8, rfl, s2, I, hj, rfl⟩
    have hlen := I.len hW
    refine ⟨_, gt_nin (ng := true) (s := goal) (gv_v (v := .ref Pr) rfl) (gg rfl s2) I.dw.rd, fun H3 s3 => ?_⟩
    rw [tab_val]
    have I3 := I.same s3
    have s23 := s2.trans s3
    by_cases hg : goal ∈ PW
    · rw [if_pos hg, if_neg (by simp)]
      -- back
      refine seq_in (par_run (Pa := fun v' H' => ∃ l', v' = .ref l' ∧ H' l' = some (.lst []) ∧ H3 l' = none) (fun H1 s1 Q q1 => lst_run fun l hl => q1 _ _ (Same.new hl) ⟨l, rfl, upd_same, same_none s1 hl⟩) (fun _ _ _ s ⟨l', a, b, c⟩ => ⟨l', a, s _ _ b, c⟩) (gg rfl s23) fun x y H4 s4 hx hy => ?_)
      obtain ⟨l, rfl, hl, hln⟩ := hx
      dsimp only
      have hl0 : H l = none := same_none s23 hln
      obtain ⟨ig, hig⟩ := List.mem_iff_getElem?.mp hg
      have I4 := I3.same s4
      have nl : l ≠ Pr := DW.nlst I4.dw hl
      refine seq_in (while_gt (m0 := ig) (fun m σ H' => ∃ (hv : V) (here : Sd) (acc : List V) (ps : List Stp) (x7 : Option V), σ = [some (.ref Ta), some u, some v, some (.ref Pr), some (.ref Wl), some (.int (j : Int)), some hv, x7, some (.ref l)] ∧ Same H H' ∧ DW P w K H' Pr (tabL pv PW) ∧ TS H4 H' ∧ H' l = some (.lst acc) ∧ IsAll K H' acc (ps.map stD) ∧ Is K H' hv (sdD here) ∧ PW[m]? = some here ∧ ps.length + m ≤ 6000)
        ⟨y, goal, [], [], x7, rfl, s23.trans s4, I4.dw, TS.refl _, hl, .nil, hy, hig, by have := (List.getElem?_eq_some_iff.mp hig).1; show 0 + ig ≤ 6000; omega⟩ ?_)
      rintro m σ H5 ⟨hv, here, acc, ps, x7, rfl, s5, d5, t5, hl5, hi5, hh, hm, hps⟩
      refine ⟨_, gt_test (gv_neS (gv_d (v := hv) rfl hh) (gu rfl s5)), fun H6 s6 => ?_⟩
      have s56 := s5.trans s6
      by_cases e : here = first
      · rw [if_neg (by simpa using e)]
        refine ⟨_, rfl, l, acc, rfl, SqL.of (s6 _ _ hl5), fun p hp => ?_⟩
        have sp : Same H6 (upd H6 p (.lst acc.reverse)) := Same.new hp
        refine q _ _ (s56.trans sp) (hP _ _ ⟨ps.reverse, ⟨p, _, rfl, upd_same, ?_⟩, by simp; omega⟩)
        rw [List.map_reverse]
        exact ((hi5.mono (.of (s6.trans sp)))).reverse
      · rw [if_pos (by simpa using e)]
        cases m with
        | zero =>
          rw [I.hd] at hm; cases hm
          exact absurd rfl e
        | succ m =>
          obtain ⟨i', t, p, hi', hit, hpv⟩ := I4.par (m + 1) here hm (Nat.succ_pos _)
          have hmem : here ∈ PW := List.mem_of_getElem? hm
          have hpv6 : Is K H6 (pv here) (.tup [sdD t, stD p]) := (hpv.mono t5).mono (.of s6)
          refine seq_in (Gv.run (gv_nget (P := P) (w := w) (v := pv here) (gv_v (v := .ref Pr) rfl) (gv_d (v := hv) (d := sdD here) rfl (hh.mono (.of s6))) (d5.same s6).rd (by rw [tab_val, if_pos hmem])) fun x7v H7 s7 ev => ?_)
          have ev : x7v = pv here := ev
          subst ev
          obtain ⟨ap, ys, hap, htp, hyi⟩ := (hpv6.mono (.of s7)).tup_inv
          obtain ⟨y1, y2, rfl, k1, k2⟩ := isAll2 hyi
          rw [hap]
          refine gtup2 htp ?_
          dsimp only
          have e7 := s7 _ _ (s6 _ _ hl5)
          refine app_run (l := l) (Pe := PD K (stD p)) (gv_v rfl) e7 (gv_d (v := y2) rfl k2) (by rw [hi5.length, List.length_map]; omega) fun z H8 s8 hz => ?_
          have e8 := s8 _ _ e7
          have t8 : TS H8 (upd H8 l (.lst (acc ++ [z]))) := TS.lst e8
          have s58 := s6.trans (s7.trans s8)
          have tt : TS H5 (upd H8 l (.lst (acc ++ [z]))) := (TS.of s58).trans t8
          refine ⟨i', by omega, y1, t, acc ++ [z], ps ++ [p], _, rfl, same_wr (s5.trans s58) hl0, (d5.same s58).mono t8 (upd_ne (Ne.symm nl)), t5.trans tt, upd_same, ?_, (k1.mono (.of s8)).mono t8, hit, by rw [List.length_append]; show ps.length + 1 + i' ≤ 6000; omega⟩
          rw [List.map_append]
          exact (hi5.mono tt).append (.cons (hz.mono t8) .nil)
    · rw [if_neg hg, if_pos (by simp)]
      have hjW := I.more pg hg hj
      obtain ⟨s, hs⟩ : ∃ s, PW[j]? = some s := ⟨_, List.getElem?_eq_getElem hjW⟩
      have hsP := List.mem_of_getElem? hs
      have hsW := I.sub s hsP
      obtain ⟨ws, hw, hwi⟩ := id I3.wl
      refine seq_in (asg_in (Gv.run (gv_ixL (K := K) (d := sdD s) (ds := PW.map sdD) (k := (j : Int)) (gv_var (v := .ref Wl) rfl ⟨Wl, ws, rfl, hw, hwi⟩ up_L) (gv_v rfl) (atI_nat (by rw [List.getElem?_map, hs]; rfl))) fun hv H4 s4 hhv => ?_))
      dsimp only
      have s04 := s23.trans s4
      have I4 := I3.same s4
      obtain ⟨ys, hys, hyi⟩ := (hls s hsW).same s04
      have hyl : ys.length = (steps S s).length := by rw [hyi.length, List.length_map]
      refine seq_in ((gv_nget (P := P) (w := w) (s := s) (gv_v (v := .ref Ta) rfl) (gv_d (v := hv) rfl hhv) (dT.same s04).rd (by rw [tab_val, if_pos hsW])).run fun lv H5 s5 elv => ?_)
      have elv : lv = .ref (f s) := elv
      subst elv
      refine ⟨f s, rfl, ⟨_, SqL.of (s5 _ _ hys)⟩, ?_⟩
      refine for_list (K := K) (a := f s) (xs := ys) (fun k σ H' => ∃ (PW' : List Sd) (pv' : Sd → V) (x7 : Option V), σ = [some (.ref Ta), some u, some v, some (.ref Pr), some (.ref Wl), some (.int (j : Int)), some hv, x7, x8] ∧ Same H H' ∧ SI P w K S W H H' Pr Wl PW' pv' j ∧ PW'[j]? = some s ∧ Is K H' hv (sdD s) ∧ (∀ i p, i < k → (steps S s)[i]? = some p → p.to ∈ PW'))
        ⟨PW, pv, x7, rfl, s04.trans s5, I4.same s5, hs, hhv.mono (.of s5), fun i p hi => by omega⟩ (fun k σ H' _ pp => by
          obtain ⟨_, _, _, _, sA, _⟩ := pp
          obtain ⟨ys', e', _⟩ := hls s hsW
          have := s04 _ _ e'
          rw [hys] at this; cases this
          exact SqL.of (sA _ _ e')) (fun k x σ H' hx pp => ?_) fun σ H' pp => ?_
      · obtain ⟨PW', pv', x7, rfl, sA, IA, hsA, hhA, hto⟩ := pp
        obtain ⟨ys', e', hyiA⟩ := (hls s hsW).same sA
        have eys : ys' = ys := by
          obtain ⟨zs, e0, _⟩ := hls s hsW
          have h1 := s04 _ _ e0
          have h2 := sA _ _ e0
          rw [hys] at h1; rw [e'] at h2
          cases h1; cases h2; rfl
        subst eys
        obtain ⟨dd, hdd, hxd⟩ := hyiA.get hx
        rw [List.getElem?_map] at hdd
        obtain ⟨p, hp, rfl⟩ := Option.map_eq_some_iff.mp hdd
        have hpm : p ∈ steps S s := List.mem_of_getElem? hp
        have hpW := hcl s hsW p hpm
        have hx' : Is K H' x (stD p) := hxd
        have gx : ∀ {σ : L2.St} {H'' : Hp}, σ[7]? = some (some x) → TS H' H'' → Gv (tVar 7) σ H'' (PD K (stD p)) := fun e t => gv_d e (hx'.mono t)
        have lenA := IA.len hW
        refine Gt.run (gt_nin (P := P) (w := w) (ng := true) (s := p.to) (gv_v (v := .ref Pr) rfl) (gv_to (gx rfl (TS.refl _))) IA.dw.rd) fun HB sB => ?_
        rw [tab_val]
        by_cases hmem : p.to ∈ PW'
        · rw [if_pos hmem, if_neg (by simp)]
          refine next_in ⟨PW', pv', _, rfl, sA.trans sB, IA.same sB, hsA, hhA.mono (.of sB), fun i p' hi hp' => ?_⟩
          rcases Nat.lt_or_ge i k with h | h
          · exact hto i p' h hp'
          · have : i = k := by omega
            subst this
            rw [hp] at hp'; cases hp'; exact hmem
        · rw [if_neg hmem, if_pos (by simp)]
          have IB := IA.same sB
          refine seq_in (nput_run (P := P) (w := w) (s := p.to) (T := Pr) (kvs := tabL pv' PW') (Pe := PD K (.tup [sdD s, stD p])) (gv_tup (gd_cons (gv_d (v := hv) rfl (hhA.mono (.of sB))) (gd_cons (gx rfl (.of sB)) gd_nil))) up_D (gv_v (v := .ref Pr) rfl) (gv_to (gx rfl (.of sB))) IB.dw (by rw [tab_len]; omega) fun y HC obC sC hy dwC dC => ?_)
          dsimp only
          have IC := IB.same sC
          obtain ⟨wsC, hwC, hwiC⟩ := id IC.wl
          have tsC := IC.dw.ts obC
          have hwlC : wsC.length = PW'.length := by rw [hwiC.length, List.length_map]
          have nWT : Wl ≠ Pr := DW.nlst IC.dw hwC
          refine app_run (l := Wl) (xs := wsC) (Pe := PD K (sdD p.to)) (gv_v (v := .ref Wl) rfl) (by rw [upd_ne nWT]; exact hwC) (gv_to (gx rfl ((TS.of (sB.trans sC)).trans tsC))) (by omega) fun y2 HD sD hy2 => ?_
          have jW' : j ≤ PW'.length := Nat.le_of_lt (List.getElem?_eq_some_iff.mp hsA).1
          have ID := IC.push jW' hmem hpW (List.mem_of_getElem? hsA) dC hy hwC hwiC sD hy2
          have wD : HD Wl = some (.lst wsC) := sD _ _ (by rw [upd_ne nWT]; exact hwC)
          refine ⟨PW' ++ [p.to], _, _, rfl, same_wr (Same.trans (same_wr (Same.trans (Same.trans sA sB) sC) I.nT) sD) I.nW, ID, ?_, ?_, fun i p' hi hp' => ?_⟩
          · rw [List.getElem?_append_left (List.getElem?_eq_some_iff.mp hsA).1]; exact hsA
          · exact (((hhA.mono (.of (sB.trans sC))).mono tsC).mono (.of sD)).mono (TS.lst wD)
          · rcases Nat.lt_or_ge i k with h | h
            · exact List.mem_append_left _ (hto i p' h hp')
            · have : i = k := by omega
              subst this
              rw [hp] at hp'; cases hp'
              exact List.mem_append_right _ (by simp)
      · obtain ⟨PW', pv', x7, rfl, sA, IA, hsA, hhA, hto⟩ := pp
        have lenA := IA.len hW
        have hjW' : j < PW'.length := (List.getElem?_eq_some_iff.mp hsA).1
        refine ⟨_, rfl, _, _, rfl, rfl, ?_⟩
        refine ⟨6000 - (j + 1), by omega, j + 1, PW', pv', _, _, _, rfl, sA, ⟨IA.dw, IA.wl, IA.nd, IA.hd, IA.sub, IA.par, fun i hi t ht p hp => ?_, IA.nT, IA.nW⟩, by omega, rfl⟩
        rcases Nat.lt_or_ge i j with h | h
        · exact IA.cl i h t ht p hp
        · have : i = j := by omega
          subst this
          rw [hsA] at ht; cases ht
          obtain ⟨k, hk⟩ := List.mem_iff_getElem?.mp hp
          exact hto k p (by rw [hyl]; exact (List.getElem?_eq_some_iff.mp hk).1) hk
abbrev N_told_ring : List Str := ["setting", "table", "choices", "start", "lead", "ring", "step"]
theorem sc_told_ring : FnScope N_told_ring ["setting", "table", "choices", "start"] (defScope (top 50)) := ⟨rfl, rfl, rfl, by decide +kernel, rfl, by decide +kernel, by decide +kernel⟩
theorem ok_told_ring (d : DefAt K mg "told_ring" 50) (T : Tx mg) (c_first_standing : Cal P w K mg base "first_standing" 3 ["setting"] (spP (RFirst K C))) (c_steps_to : Cal P w K mg base "steps_to" 1 ["table", "first", "goal"] (spP (RTo P w K))) (c_ring_steps : Cal P w K mg base "ring_steps" 1 ["choices", "start"] (spP (RRingSt P w K))) (c_touches_in : Cal P w K mg base "touches_in" 1 ["steps"] (spP (RTouch K))) :
    Cal P w K mg base "told_ring" 4 ["setting", "table", "choices", "start"] (spP (RTold P w K C)) := by
  obtain ⟨f, fd, g, F⟩ := d
  refine ⟨f, fd, g, F.kp, F.binds fun _ _ _ _ _ _ us hl => match us, hl with | [_, _, _, _], _ => rfl, F.okX sc_told_ring (fun vs H Q E h => ?_) (fun cdv A outer s H vs Q E hr h => ?_)⟩
  · obtain ⟨_, ⟨v, u, T, B, S, W, f, c, r, rfl, _⟩, _⟩ := h; rfl
  · obtain ⟨_, ⟨v, u, Ta, B, S, W, f, c, r, rfl, hS, dT, hls, hW, hcl, hfW, hB, hu0, hR, hsub, pg, hP⟩, q⟩ := h
    refine ⟨_, 
        (pss_cons (ps_par (i := 4) (j := 5) rfl sc_told_ring.nd rfl rfl (by decide) rfl rfl (pa_cons (pe_cal c_steps_to (hr.mono (by decide)) (pa_cons (pv 1) (pa_cons (pe_cal c_first_standing (hr.mono (by decide)) (pa_cons (pv 0) pa_nil)) (pa_cons (pv 3) pa_nil)))) (pa_cons (pe_cal c_ring_steps (hr.mono (by decide)) (pa_cons (pv 2) (pa_cons (pv 3) pa_nil))) pa_nil)) (by rfl)) 
        (pss_one (ps_ret (pe_tup (pa_cons (pe_cal c_touches_in (hr.mono (by decide)) (pa_cons (pv 4) pa_nil)) (pa_cons (pe_cal c_touches_in (hr.mono (by decide)) (pa_cons (pv 5) pa_nil)) (pa_cons (pe_callTy cr_tupOf rfl T.tuple boot_tuple' (pa_cons (pe_lc (own := [("step", 6)]) (g := gName 6) (tt := tYes) rfl sc_told_ring.nd (pi_list (pe_op op_cat (pv 4) (pv 5))) (blkOk_by (N := N_told_ring) (sc := defScope (top 50)) (by decide +kernel)) (fun _ _ _ _ _ => (pg_name (i := 6) sc_told_ring.nd rfl (Or.inl rfl))) (fun _ _ _ _ _ => pts_nil) (fun _ _ _ _ _ => (pe_ix (ixK (r := rIxT) ix_tup) (pv 6) pe_int (fun _ _ => rfl)))) pa_nil)) pa_nil))))))), ?_⟩
    have gf : ∀ {σ : L2.St} {H' : Hp}, σ[0]? = some (some v) → Same H H' → Gv (tCall (spP (RFirst K C)) [] E0 (tCons (tVar 0) tNil)) σ H' (PD K (sdD first)) := fun e s => gv_call (ga_one (gv_var (P := fun v H => SetAt K C H v S) e (hS.same s) up_Set) up_Set) fun vs H' s' pp => by
      cases pp with
      | cons e pp => cases pp; exact ⟨_, S, rfl, e, rfl⟩
    let PS : V → Hp → Prop := fun v' H' => ∃ ps : List Stp, PL K (ps.map stD) v' H' ∧ ps.length ≤ 20000
    have upS : Up PS := fun _ _ _ s ⟨ps, h, l⟩ => ⟨ps, up_L _ _ _ s h, l⟩
    refine seq_in (par_run (Pa := PS) (Pb := PS) (gv_call (ga_cons (gv_v (v := .ref Ta) rfl) up_V (ga_cons (gf rfl (Same.refl _)) up_D (ga_cons (gv_d (v := u) (d := sdD r) rfl hu0) up_D ga_nil))) fun vs H' s pp => ?_) upS (gv_call (ga_two (gv_v (v := .ref B) rfl) up_V (gv_d (v := u) (d := sdD r) rfl hu0) up_D) fun vs H' s pp => ?_) fun x y H1 s1 hx hy => ?_)
    · cases pp with
      | cons e1 pp => cases pp with
        | cons e2 pp => cases pp with
          | cons e3 pp =>
            cases pp; cases e1
            exact ⟨Ta, _, _, S, W, f, r, rfl, dT.same s, fun t ht => (hls t ht).same s, hW, hcl, hfW, e2, e3, pg, fun _ _ h => h⟩
    · cases pp with
      | cons e1 pp => cases pp with
        | cons e2 pp =>
          cases pp; cases e1
          exact ⟨B, c, _, r, W, rfl, hB.same s, e2, hR, hW, hsub, fun _ _ h => h⟩
    obtain ⟨ps, hx, hpl⟩ := hx
    obtain ⟨qs, hy, hql⟩ := hy
    dsimp only
    have gt : ∀ {i : Nat} {z : V} {zs : List Stp}, ([some v, some (.ref Ta), some (.ref B), some u, some x, some y, none] : L2.St)[i]? = some (some z) → PL K (zs.map stD) z H1 → zs.length ≤ 20000 → Gv (tCall (spP (RTouch K)) [] E0 (tCons (tVar i) tNil)) [some v, some (.ref Ta), some (.ref B), some u, some x, some y, none] H1 (PD K (tI (zs.map (·.b)))) := fun e h l =>
      gv_call (ga_one (gv_var e h up_L) up_L) fun vs H' s pp => by
        cases pp with
        | cons e pp => cases pp; exact ⟨_, _, rfl, e, by omega, rfl⟩
    have gcat : Gv (tOp rCat (tVar 4) (tVar 5)) [some v, some (.ref Ta), some (.ref B), some u, some x, some y, none] H1 (PL K ((ps ++ qs).map stD)) :=
      gv_op (gv_var (P := PL K (ps.map stD)) rfl hx up_L) (gv_var (P := PL K (qs.map stD)) rfl hy up_L) up_L fun x y H' Q hx hy q => by
        obtain ⟨l1, xs, rfl, h1, i1⟩ := hx
        obtain ⟨l2, ys, rfl, h2, i2⟩ := hy
        refine ⟨l1, l2, xs, ys, rfl, rfl, h1, h2, by rw [i1.length, i2.length, List.length_map, List.length_map, sizeLine_eq]; omega, fun p hp => q _ _ (Same.new hp) ⟨p, _, rfl, upd_same, ?_⟩⟩
        rw [List.map_append]
        exact (i1.append i2).mono (.of (Same.new hp))
    have glc := gv_lcLD (i := 6) (te := tOp (rIxT K) (tVar 6) (tC (.int 1))) (F := gone3) gcat (by rw [List.length_map, List.length_append]; omega) fun H' s z dd hd hz => by
      obtain ⟨p, _, rfl⟩ := List.mem_map.mp hd
      exact gv_ixT (d := tI p.gone) (gv_d (d := stD p) rfl hz) gv_c rfl
    exact Gv.run (gv_tup (gd_cons (gt (i := 4) rfl hx hpl) (gd_cons (gt (i := 5) rfl hy hql) (gd_cons (gv_tupL glc) gd_nil)))) fun v' H2 s2 h2 => q v' H2 (s1.trans s2) (hP _ _ ⟨_, _, _, h2⟩)
end
end K52
set_option maxHeartbeats 4000000
/-! Losses. -/
namespace K52
open PySem PySem.Spec PyProof.Rows L2 L2.DX
def lossV : Option Int → V
  | none => .non
  | some m => .int m
/-- a loss, and small -/
def LossOk (S : Setg) (r : Option Int) : Prop := LossIs S r ∧ ∀ m, r = some m → 0 ≤ m ∧ m ≤ 6000
abbrev SetW (n : Nat) (L : List (Int × Int)) (rooms : Nat) (lru : Bool) (own : Nat) : Setg := ⟨rowsC n L, rooms, own, lru⟩
theorem wf_set {n : Nat} {L : List (Int × Int)} {rooms own : Nat} {lru : Bool} (h1 : 1 ≤ rooms) (h2 : 1 ≤ own) : WfS (SetW n L rooms lru own) := by
  refine ⟨fun r hr b hb => ?_, h2, h1⟩
  have hr : r ∈ rowsC n L := hr
  unfold rowsC at hr
  obtain ⟨i, _, rfl⟩ := List.mem_map.mp hr
  have := upto_mem.mp (List.mem_filter.mp hb).1
  show 0 ≤ b ∧ b < ((rowsC n L).length : Int)
  rw [rowsC_len]; exact this
theorem small_set {n : Nat} {L : List (Int × Int)} {rooms own : Nat} {lru : Bool} (hn : n ≤ 4) (h1 : rooms ≤ 5) (h2 : own ≤ 5) : Small (SetW n L rooms lru own) := ⟨by show (rowsC n L).length ≤ 4; rw [rowsC_len]; exact hn, h2, h1, rowsC_small hn⟩
/-- who asks for a loss -/
structure Ask (K : PySem.W.Frag) (H : Hp) (v : V) (n : Nat) (L : List (Int × Int)) (rooms : Nat) : Prop where
  web : Is K H v (webD n L)
  n1 : 1 ≤ n
  n4 : n ≤ 4
  len : L.length ≤ 60
  good : GoodL n L
  r1 : 1 ≤ rooms
  r5 : rooms ≤ 5
theorem Ask.same {K : PySem.W.Frag} {H H' : Hp} {v : V} {n : Nat} {L : List (Int × Int)} {rooms : Nat} (s : Same H H') (h : Ask K H v n L rooms) : Ask K H' v n L rooms := ⟨h.web.mono (.of s), h.n1, h.n4, h.len, h.good, h.r1, h.r5⟩
def RPaper (K : PySem.W.Frag) : List V → Hp → (V → Hp → Prop) → Prop := fun vs H Pr => ∃ (v : V) (n : Nat) (L : List (Int × Int)) (rooms own : Nat) (lru : Bool), vs = [v, .int (rooms : Int), .int (own : Int), .str (wordS lru)] ∧ Ask K H v n L rooms ∧ 1 ≤ own ∧ own ≤ 5 ∧
  ∀ v' H', (∃ a xs r, v' = .ref a ∧ TupAt K H' a xs ∧ LossOk (SetW n L rooms lru own) r ∧ ((r = none ∧ ∃ rest, xs = .str "endless" :: rest) ∨ ∃ m rest, r = some m ∧ xs = .str "most" :: .int m :: rest)) → Pr v' H'
def RLoss (K : PySem.W.Frag) : List V → Hp → (V → Hp → Prop) → Prop := fun vs H Pr => ∃ (v : V) (n : Nat) (L : List (Int × Int)) (rooms own : Nat) (lru : Bool), vs = [v, .int (rooms : Int), .int (own : Int), .str (wordS lru)] ∧ Ask K H v n L rooms ∧ 1 ≤ own ∧ own ≤ 5 ∧
  ∀ v' H', (∃ r, LossOk (SetW n L rooms lru own) r ∧ v' = lossV r) → Pr v' H'
structure RowOk (F : Nat → Setg) (rooms : Nat) (rs : List (Option Int)) : Prop where
  ne : rs ≠ []
  len : rooms + rs.length ≤ 6
  loss : ∀ k r, rs[k]? = some r → LossOk (F (rooms + k)) r
  pre : ∀ k, k + 1 < rs.length → rs[k]? ≠ some (some 0)
  last : rs.getLast? = some (some 0) ∨ rooms + rs.length = 6
def RRow (K : PySem.W.Frag) : List V → Hp → (V → Hp → Prop) → Prop := fun vs H Pr => ∃ (v : V) (n : Nat) (L : List (Int × Int)) (rooms : Nat) (lru : Bool), vs = [v, .int (rooms : Int), .str (wordS lru)] ∧ Ask K H v n L rooms ∧
  ∀ v' H', (∃ a rs, v' = .ref a ∧ TupAt K H' a (rs.map lossV) ∧ RowOk (SetW n L rooms lru) rooms rs) → Pr v' H'
theorem alike_ints : ∀ a b : List Int, PySem.W.alikeAll (NestedKey.datas (a.map NestedKey.num)) (NestedKey.datas (b.map NestedKey.num)) = true
  | [], _ => by simp [NestedKey.datas, PySem.W.alikeAll]
  | _ :: _, [] => by simp [NestedKey.datas, PySem.W.alikeAll]
  | x :: a, y :: b => by
    show (PySem.W.alike (.int x) (.int y) && PySem.W.alikeAll (NestedKey.datas (a.map .num)) (NestedKey.datas (b.map .num))) = true
    rw [alike_ints a b]; rfl
section
variable {K : PySem.W.Frag} {σ : L2.St} {H : Hp} {te : TE} {P : Program} {w : World} {a : Addr} {xs : List V} {k : Int} {v : V}
theorem gv_ixV {tk : TE} (h : Gv te σ H (PV (.ref a))) (t : TupAt K H a xs) (hk : Gv tk σ H (PV (.int k))) (e : atI xs k = some v) : Gv (tOp (rIxT K) te tk) σ H (PV v) := fun H1 s Q q =>
  h H1 s _ fun x H2 s2 ex => hk H2 (s.trans s2) _ fun y H3 s3 ey => ⟨a, xs, k, v, ex, ey, (t.mono (.of ((s.trans s2).trans s3))).seq, e, q _ _ (s2.trans s3) rfl⟩
theorem gv_ixLV {tk : TE} (h : Gv te σ H (PV (.ref a))) (t : H a = some (.lst xs)) (hk : Gv tk σ H (PV (.int k))) (e : atI xs k = some v) : Gv (tOp (rIxL K) te tk) σ H (PV v) := fun H1 s Q q =>
  h H1 s _ fun x H2 s2 ex => hk H2 (s.trans s2) _ fun y H3 s3 ey => ⟨a, xs, k, v, ex, ey, SqL.of (s3 _ _ (s2 _ _ (s _ _ t))), e, q _ _ (s2.trans s3) rfl⟩
theorem gv_sortHt {A : Addr} {h : Hts} {W : List Sd} (hd : Gv te σ H (PV (.ref A))) (d : DN P w K H A (tabL (fun s => .int (h s)) W)) : Gv (tCB (rTupOf K) (tCons (tCB (rSortIt P w K) (tCons (tItemsV P w K te) tNil)) tNil)) σ H (fun _ _ => True) := fun H1 s Q q =>
  hd H1 s _ fun x H2 s2 ex => by
    refine ⟨A, _, ex, d.same (s.trans s2), fun p hp => ?_⟩
    have sp : Same H2 (upd H2 p (itemsO p A)) := Same.new hp
    refine ⟨p, A, tabL (fun s => .int (h s)) W, rfl, upd_same, (d.same (s.trans s2)).same sp, fun kv hkv => ?_, ?_, fun kv hkv => ?_, fun l zs hl => ?_⟩
    · obtain ⟨t, _, rfl⟩ := List.mem_map.mp hkv
      exact ⟨_, rfl⟩
    · intro x hx y hy
      obtain ⟨x1, hx1, rfl⟩ := List.mem_map.mp hx
      obtain ⟨x2, hx2, rfl⟩ := List.mem_map.mp hx1
      obtain ⟨s1, _, rfl⟩ := List.mem_map.mp hx2
      obtain ⟨y1, hy1, rfl⟩ := List.mem_map.mp hy
      obtain ⟨y2, hy2, rfl⟩ := List.mem_map.mp hy1
      obtain ⟨t1, _, rfl⟩ := List.mem_map.mp hy2
      show ((PySem.W.alikeAll (NestedKey.datas (s1.st.map .num)) (NestedKey.datas (t1.st.map .num)) && (PySem.W.alikeAll (NestedKey.datas (s1.me.map .num)) (NestedKey.datas (t1.me.map .num)) && (true && (PySem.W.alikeAll (NestedKey.datas (s1.ma.map .num)) (NestedKey.datas (t1.ma.map .num)) && true)))) && (true && true)) = true
      rw [alike_ints, alike_ints, alike_ints]; rfl
    · obtain ⟨t, _, rfl⟩ := List.mem_map.mp hkv
      exact sd8 t
    · refine ⟨l, zs, rfl, .inl ⟨SqL.of upd_same, fun p2 hp2 => q _ _ ?_ trivial⟩⟩
      exact ((s2.trans sp).trans (Same.new hl)).trans (Same.new hp2)
end
section
variable {P : Program} {w : World} {K : PySem.W.Frag} {mg : Str → Option Value} {base : Heap} {C : Addr}
abbrev N_loss_paper : List Str := ["web", "rooms", "own", "rule", "setting", "table", "heights", "choices", "ring", "number"]
theorem sc_loss_paper : FnScope N_loss_paper ["web", "rooms", "own", "rule"] (defScope (top 52)) := ⟨rfl, rfl, rfl, by decide +kernel, rfl, by decide +kernel, by decide +kernel⟩
theorem ok_loss_paper (d : DefAt K mg "loss_paper" 52) (T : Tx mg) (c_need_setting : Cal P w K mg base "need_setting" 7 ["web", "rooms", "own", "rule"] (spP (RNeed K C))) (c_met_table : Cal P w K mg base "met_table" 4 ["setting"] (spP (RMet P w K C))) (c_gain_heights : Cal P w K mg base "gain_heights" 3 ["table", "up", "down"] (spP (RGainH P w K)))
    (c_told_ring : Cal P w K mg base "told_ring" 4 ["setting", "table", "choices", "start"] (spP (RTold P w K C))) (c_first_standing : Cal P w K mg base "first_standing" 3 ["setting"] (spP (RFirst K C))) (c_chosen_walk : Cal P w K mg base "chosen_walk" 4 ["setting", "choices"] (spP (RWalk P w K C))) :
    Cal P w K mg base "loss_paper" 8 ["web", "rooms", "own", "rule"] (spP (RPaper K)) := by
  obtain ⟨f, fd, g, F⟩ := d
  refine ⟨f, fd, g, F.kp, F.binds fun _ _ _ _ _ _ us hl => match us, hl with | [_, _, _, _], _ => rfl, F.okX sc_loss_paper (fun vs H Q E h => ?_) (fun cdv A outer s H vs Q E hr h => ?_)⟩
  · obtain ⟨_, ⟨v, n, L, rooms, own, lru, rfl, _⟩, _⟩ := h; rfl
  · obtain ⟨_, ⟨v, n, L, rooms, own, lru, rfl, ask, o1, o5, hP⟩, q⟩ := h
    have hu := hr.units
    refine ⟨_, 
        (pss_cons (ps_set (i := 4) sc_loss_paper.nd rfl (Or.inl rfl) (pe_cal c_need_setting (hr.mono (by decide)) (pa_cons (pv 0) (pa_cons (pv 1) (pa_cons (pv 2) (pa_cons (pv 3) pa_nil)))))) 
        (pss_cons (ps_set (i := 5) sc_loss_paper.nd rfl (Or.inl rfl) (pe_cal c_met_table (hr.mono (by decide)) (pa_cons (pv 4) pa_nil))) 
        (pss_cons (ps_asg (pe_cal c_gain_heights (hr.mono (by decide)) (pa_cons (pv 5) (pa_cons pe_int (pa_cons pe_int pa_nil)))) (pg_tup rfl (pgs_cons (pg_name (i := 6) sc_loss_paper.nd rfl (Or.inl rfl)) (pgs_cons (pg_name (i := 7) sc_loss_paper.nd rfl (Or.inl rfl)) (pgs_cons (pg_name (i := 8) sc_loss_paper.nd rfl (Or.inl rfl)) pgs_nil))))) 
        (pss_cons (ps_if (pt_cmpR op_notN (pv 8) pe_non (nomark _)) 
          (pss_one (ps_ret (pe_op op_catA (pe_tup (pa_cons pe_str pa_nil)) (pe_cal c_told_ring (hr.mono (by decide)) (pa_cons (pv 4) (pa_cons (pv 5) (pa_cons (pv 7) (pa_cons (pv 8) pa_nil)))))))) pss_nil) 
        (pss_cons (ps_set (i := 9) sc_loss_paper.nd rfl (Or.inl rfl) (pe_nget hu (pv 6) (pe_cal c_first_standing (hr.mono (by decide)) (pa_cons (pv 4) pa_nil)) (fun _ _ => rfl))) 
        (pss_one (ps_ret (pe_tup (pa_cons pe_str (pa_cons (pv 9) (pa_cons (pe_callTy cr_tupOf rfl T.tuple boot_tuple' (pa_cons (pe_callB (cr_sortIt rfl hr.units) rfl T.sorted boot_sorted' (pa_cons (pe_itemsV (pv 6)) pa_nil)) pa_nil)) (pa_cons (pe_cal c_chosen_walk (hr.mono (by decide)) (pa_cons (pv 4) (pa_cons (pv 7) pa_nil))) pa_nil)))))))))))), ?_⟩
    have Wf : WfS (SetW n L rooms lru own) := wf_set ask.r1 o1
    have Sm : Small (SetW n L rooms lru own) := small_set ask.n4 ask.r5 o5
    generalize hSet : SetW n L rooms lru own = S at Wf Sm hP
    -- setting
    refine seq_in (asg_in (Gv.run (gv_call (P := fun v' H' => SetAt K C H' v' S) (ga_cons (gv_d (v := v) (d := webD n L) rfl ask.web) up_D (ga_cons (gv_v (v := .int (rooms : Int)) rfl) up_V (ga_cons (gv_v (v := .int (own : Int)) rfl) up_V (ga_cons (gv_v (v := .str (wordS lru)) rfl) up_V ga_nil)))) fun vs H' s pp => ?_) fun sv H1 s1 hS => ?_))
    · cases pp with
      | cons e1 pp => cases pp with
        | cons e2 pp => cases pp with
          | cons e3 pp => cases pp with
            | cons e4 pp =>
              cases pp; cases e2; cases e3; cases e4
              exact ⟨_, L, lru, n, rooms, own, rfl, e1, ask.n1, by have := ask.n4; omega, ask.len, ask.good, ask.r1, ask.r5, o1, o5, by rw [← hSet]⟩
    dsimp only
    -- table
    refine seq_in (asg_in (Gv.run (gv_call (P := TabP P w K S) (ga_one (gv_var (P := fun v H => SetAt K C H v S) (v := sv) rfl hS up_Set) up_Set) fun vs H' s pp => ?_) fun tv H2 s2 hT => ?_))
    · cases pp with
      | cons e pp => cases pp; exact ⟨_, S, rfl, e, Wf, Sm, rfl⟩
    obtain ⟨Ta, W, f, rfl, dT, hls, nd, hfW, hcl, hMet, hG⟩ := hT
    have hW : W.length ≤ 6000 := Nat.le_trans (List.Nodup.length_le_of_subset nd fun s hs => mem_univ Sm.n (hG s hs)) univ_len
    dsimp only
    -- heights, choices, ring
    refine seq_in (Gv.run (gv_call (P := GainP P w K S W) (ga_cons (gv_v (v := .ref Ta) rfl) up_V (ga_cons gv_c up_V (ga_cons gv_c up_V ga_nil))) fun vs H' s pp => ?_) fun gv' H3 s3 hGn => ?_)
    · cases pp with
      | cons e1 pp => cases pp with
        | cons e2 pp => cases pp with
          | cons e3 pp =>
            cases pp; cases e1; cases e2; cases e3
            exact ⟨Ta, S, W, f, rfl, dT.same s, fun t ht => (hls t ht).same s, nd, hW, hcl, rfl⟩
    obtain ⟨a, A, B, rv, h, c, rfl, ht, hA, hB, I, hcase⟩ := hGn
    refine gtup3 ht ?_
    dsimp only
    have s23 := s2.trans s3
    have s13 := s1.trans s23
    have hS3 := hS.same s23
    have gS : ∀ {σ : L2.St} {H' : Hp}, σ[4]? = some (some sv) → Same H3 H' → Gv (tVar 4) σ H' (fun v H => SetAt K C H v S) := fun e s => gv_var e (hS3.same s) up_Set
    have gf : ∀ {σ : L2.St} {H' : Hp}, σ[4]? = some (some sv) → Same H3 H' → Gv (tCall (spP (RFirst K C)) [] E0 (tCons (tVar 4) tNil)) σ H' (PD K (sdD first)) := fun e s => gv_call (ga_one (gS e s) up_Set) fun vs H' s' pp => by
      cases pp with
      | cons e pp => cases pp; exact ⟨_, S, rfl, e, rfl⟩
    rcases hcase with ⟨rfl, N, Fe⟩ | ⟨r, hrv, R⟩
    · -- most
      refine Gt.run (gt_notN (v := .non) (gv_v (i := 8) rfl)) fun H4 s4 => ?_
      rw [if_neg (by decide)]
      refine next_in ?_
      dsimp only
      have hA4 : DW P w K H4 A _ := DW.same s4 hA
      refine seq_in (asg_in (Gv.run (gv_nget (P := P) (w := w) (s := first) (v := .int (h first)) (gv_v (i := 6) (v := .ref A) rfl) (gf rfl s4) hA4.rd (by rw [tab_val, if_pos hfW])) fun nv H5 s5 ev => ?_))
      have ev : nv = .int (h first) := ev
      subst ev
      dsimp only
      have s45 := s4.trans s5
      obtain ⟨m, tm⟩ := N first
      have hm := term_le I tm
      have hB5 := hB.same s45
      refine ⟨_, rfl, ?_⟩
      refine (gv_sortHt (P := P) (w := w) (K := K) (gv_v (i := 6) (v := .ref A) rfl) (DW.rd (DW.same s5 hA4))).run fun z1 H6 s6 _ => ?_
      refine (gv_call (R := RWalk P w K C) (P := fun v' H' => ∃ d, PD K d v' H') (ga_two (gS (H' := H6) rfl (s45.trans s6)) up_Set (gv_v (i := 7) (v := .ref B) rfl) up_V) fun vs H' s' pp => ?_).run fun z2 H7 s7 _ => ?_
      · cases pp with
        | cons e1 pp => cases pp with
          | cons e2 pp => cases pp; cases e2; exact ⟨_, S, B, c, rfl, e1, (hB5.same s6).same s', ⟨m, by omega, tm⟩, fun _ _ h => h⟩
      refine ⟨by show 4 ≤ sizeLine; decide, fun p hp => ?_⟩
      refine q _ _ ((s13.trans ((s45.trans s6).trans s7)).trans (Same.new hp)) (hP _ _ ⟨p, _, some (h first), rfl, .inl upd_same, ⟨loss_most hcl hfW I N Fe, fun m e => by cases e; exact ⟨I.nn first, Int.le_trans (height_le I N first) (by omega)⟩⟩, .inr ⟨_, _, rfl, rfl⟩⟩)
    · -- endless
      obtain ⟨b0, rfl, hb0⟩ := sd_ref hrv
      refine Gt.run (gt_notN (v := .ref b0) (gv_v (i := 8) rfl)) fun H4 s4 => ?_
      rw [if_pos (by simp)]
      have s34 := s3.trans s4
      obtain ⟨pr, nr, hpr, _⟩ := id R
      have hrW := (I.ch r pr hpr).1
      have gt : Gv (tCall (spP (RTold P w K C)) [] E0 (tCons (tVar 4) (tCons (tVar 5) (tCons (tVar 7) (tCons (tVar 8) tNil))))) [some v, some (.int (rooms : Int)), some (.int (own : Int)), some (.str (wordS lru)), some sv, some (.ref Ta), some (.ref A), some (.ref B), some (.ref b0), none] H4 (fun v' H' => ∃ a b d, PD K (.tup [a, b, d]) v' H') :=
        gv_call (ga_cons (gS rfl s4) up_Set (ga_cons (gv_v (v := .ref Ta) rfl) up_V (ga_cons (gv_v (v := .ref B) rfl) up_V (ga_cons (gv_d (v := .ref b0) (d := sdD r) rfl (hb0.mono (.of s4))) up_D ga_nil)))) fun vs H' s pp => by
          cases pp with
          | cons e1 pp => cases pp with
            | cons e2 pp => cases pp with
              | cons e3 pp => cases pp with
                | cons e4 pp =>
                  cases pp; cases e2; cases e3
                  exact ⟨_, _, Ta, B, S, W, f, c, r, rfl, e1, (dT.same s34).same s, fun t ht => ((hls t ht).same s34).same s, hW, hcl, hfW, (hB.same s4).same s, e4, R, fun t ht => by
                    cases e : c t with
                    | none => exact absurd e ht
                    | some p => exact (I.ch t p e).1, hMet r hrW, fun _ _ h => h⟩
      have gend : Gv (tOp (rCatA K) (tTup (tCons (tC (.str "endless")) tNil)) (tCall (spP (RTold P w K C)) [] E0 (tCons (tVar 4) (tCons (tVar 5) (tCons (tVar 7) (tCons (tVar 8) tNil)))))) [some v, some (.int (rooms : Int)), some (.int (own : Int)), some (.str (wordS lru)), some sv, some (.ref Ta), some (.ref A), some (.ref B), some (.ref b0), none] H4 (fun v' H' => ∃ a b d, PD K (.tup [.text "endless", a, b, d]) v' H') :=
        gv_op (Pa := PD K (.tup [.text "endless"])) (gv_tup (gd_cons (gv_text "endless") gd_nil)) gt up_D fun x y H' Q hx hy q => by
          obtain ⟨a1, b1, d1, hy⟩ := hy
          obtain ⟨p1, xs1, rfl, t1, i1⟩ := hx.tup_inv
          obtain ⟨p2, xs2, rfl, t2, i2⟩ := hy.tup_inv
          have l1 := i1.length
          have l2 := i2.length
          refine ⟨p1, p2, xs1, xs2, rfl, rfl, t1.seq, t2.seq, (by rw [l1, l2]; exact (by decide : 1 + 3 ≤ sizeLine)), fun e => ?_, fun e1 e2 => ?_, fun e1 e2 p hp => ?_⟩
          · subst e; simp at l1
          · subst e2; simp at l2
          · exact q _ _ (Same.new hp) ⟨a1, b1, d1, .tup (.inl upd_same) ((i1.append i2).mono (.of (Same.new hp)))⟩
      refine Gv.run gend fun v' H5 s5 h5 => q v' H5 ((s13.trans s4).trans s5) (hP _ _ ?_)
      obtain ⟨a1, b1, d1, h5⟩ := h5
      obtain ⟨p5, xs5, rfl, t5, i5⟩ := h5.tup_inv
      obtain ⟨z1, z2, z3, z4, rfl, k1, _⟩ := isAll4 i5
      obtain rfl := k1.text_inv
      exact ⟨p5, _, none, rfl, t5, ⟨loss_endless hMet I R, fun m e => by cases e⟩, .inl ⟨rfl, _, rfl⟩⟩
abbrev N_greatest_loss : List Str := ["web", "rooms", "own", "rule", "paper"]
theorem sc_greatest_loss : FnScope N_greatest_loss ["web", "rooms", "own", "rule"] (defScope (top 53)) := ⟨rfl, rfl, rfl, by decide +kernel, rfl, by decide +kernel, by decide +kernel⟩
theorem ok_greatest_loss (d : DefAt K mg "greatest_loss" 53) (c_loss_paper : Cal P w K mg base "loss_paper" 8 ["web", "rooms", "own", "rule"] (spP (RPaper K))) : Cal P w K mg base "greatest_loss" 9 ["web", "rooms", "own", "rule"] (spP (RLoss K)) := by
  obtain ⟨f, fd, g, F⟩ := d
  refine ⟨f, fd, g, F.kp, F.binds fun _ _ _ _ _ _ us hl => match us, hl with | [_, _, _, _], _ => rfl, F.okX sc_greatest_loss (fun vs H Q E h => ?_) (fun cdv A outer s H vs Q E hr h => ?_)⟩
  · obtain ⟨_, ⟨v, n, L, rooms, own, lru, rfl, _⟩, _⟩ := h; rfl
  · obtain ⟨_, ⟨v, n, L, rooms, own, lru, rfl, ask, o1, o5, hP⟩, q⟩ := h
    refine ⟨_, 
        (pss_cons (ps_set (i := 4) sc_greatest_loss.nd rfl (Or.inl rfl) (pe_cal c_loss_paper (hr.mono (by decide)) (pa_cons (pv 0) (pa_cons (pv 1) (pa_cons (pv 2) (pa_cons (pv 3) pa_nil)))))) 
        (pss_one (ps_ret (pe_ifExp (pt_cmpR op_eq (pe_ix ix_tup (pv 4) pe_int (fun _ _ => rfl)) pe_str (nomark _)) (pe_ix ix_tup (pv 4) pe_int (fun _ _ => rfl)) pe_non)))), ?_⟩
    refine seq_in (asg_in (Gv.run (gv_call (R := RPaper K) (P := fun v' H' => ∃ a xs r, v' = .ref a ∧ TupAt K H' a xs ∧ LossOk (SetW n L rooms lru own) r ∧ ((r = none ∧ ∃ rest, xs = .str "endless" :: rest) ∨ ∃ m rest, r = some m ∧ xs = .str "most" :: .int m :: rest)) (ga_cons (gv_d (v := v) (d := webD n L) rfl ask.web) up_D (ga_cons (gv_v (v := .int (rooms : Int)) rfl) up_V (ga_cons (gv_v (v := .int (own : Int)) rfl) up_V (ga_cons (gv_v (v := .str (wordS lru)) rfl) up_V ga_nil)))) fun vs H' s pp => ?_) fun pv' H1 s1 hp => ?_))
    · cases pp with
      | cons e1 pp => cases pp with
        | cons e2 pp => cases pp with
          | cons e3 pp => cases pp with
            | cons e4 pp =>
              cases pp; cases e2; cases e3; cases e4
              exact ⟨_, n, L, rooms, own, lru, rfl, ⟨e1, ask.n1, ask.n4, ask.len, ask.good, ask.r1, ask.r5⟩, o1, o5, fun _ _ h => h⟩
    obtain ⟨a, xs, r, rfl, ht, hL, hc⟩ := hp
    dsimp only
    have g4 : ∀ {H' : Hp}, Gv (tVar 4) [some v, some (.int (rooms : Int)), some (.int (own : Int)), some (.str (wordS lru)), some (.ref a)] H' (PV (.ref a)) := gv_v rfl
    have gend : Gv (tIf (tTest (tOp rEq (tOp (rIxT K) (tVar 4) (tC (.int 0))) (tC (.str "most")))) (tOp (rIxT K) (tVar 4) (tC (.int 1))) (tC .non)) [some v, some (.int (rooms : Int)), some (.int (own : Int)), some (.str (wordS lru)), some (.ref a)] H1 (PV (lossV r)) := by
      rcases hc with ⟨rfl, rest, rfl⟩ | ⟨m, rest, rfl, rfl⟩
      · refine gv_if (b := false) ((gt_test (gv_eq (x := .str "endless") (y := .str "most") (gv_ixV g4 ht gv_c (show atI (V.str "endless" :: rest) ((0 : Nat) : Int) = _ from atI_nat rfl)) gv_c rfl)).cast (by decide +kernel)) (fun e => by cases e) fun _ => gv_c
      · refine gv_if (b := true) ((gt_test (gv_eq (x := .str "most") (y := .str "most") (gv_ixV g4 ht gv_c (show atI (V.str "most" :: V.int m :: rest) ((0 : Nat) : Int) = _ from atI_nat rfl)) gv_c rfl)).cast (by decide +kernel)) (fun _ => gv_ixV g4 ht gv_c (show atI (V.str "most" :: V.int m :: rest) ((1 : Nat) : Int) = _ from atI_nat rfl)) fun e => by cases e
    exact Gv.run gend fun v' H2 s2 e => q v' H2 (s1.trans s2) (hP _ _ ⟨r, hL, e⟩)
theorem scal_loss (r : Option Int) (k : Int) : scal (lossV r) (.int k) = true := by cases r <;> rfl
theorem word_row (lru : Bool) : inV (V.str (wordS lru)) [.str "last used", .str "first in"] = true := word_in lru
abbrev N_losses_row : List Str := ["web", "rooms", "word", "found", "own"]
theorem sc_losses_row : FnScope N_losses_row ["web", "rooms", "word"] (defScope (top 54)) := ⟨rfl, rfl, rfl, by decide +kernel, rfl, by decide +kernel, by decide +kernel⟩
theorem fn_losses_row {f : Addr} {fd : FuncData} (F : Fun K "losses_row" "losses_row" (top 54) f fd) (T : Tx mg) (Cc : Co K mg) (c_need_web : Cal P w K mg base "need_web" 5 ["value"] (spP (RWeb K))) (c_need_rooms : Cal P w K mg base "need_rooms" 3 ["value"] (spP RRooms)) (c_is_string : Cal P w K mg base "is_string" 1 ["value"] (spP (RTy K fun t => t == "str"))) (c_greatest_loss : Cal P w K mg base "greatest_loss" 9 ["web", "rooms", "own", "rule"] (spP (RLoss K))) :
    FnOk P w K mg base (L2.CX P w) 10 f fd ["web", "rooms", "word"] (spP (RRow K)) := by
  obtain ⟨t5, e5⟩ := Cc.rooms
  refine F.okX sc_losses_row (fun vs H Q E h => ?_) (fun cdv A outer s H vs Q E hr h => ?_)
  · obtain ⟨_, ⟨v, n, L, rooms, lru, rfl, _⟩, _⟩ := h; rfl
  · obtain ⟨_, ⟨v, n, L, rooms, lru, rfl, ask, hP⟩, q⟩ := h
    refine ⟨_, 
        (pss_cons (ps_par (i := 0) (j := 1) rfl sc_losses_row.nd rfl rfl (by decide) rfl rfl (pa_cons (pe_cal c_need_web (hr.mono (by decide)) (pa_cons (pv 0) pa_nil)) (pa_cons (pe_cal c_need_rooms (hr.mono (by decide)) (pa_cons (pv 1) pa_nil)) pa_nil)) (by rfl)) 
        (pss_cons (ps_if (PW.pt (pw_or (pt_not (pt_val (pe_cal c_is_string (hr.mono (by decide)) (pa_cons (pv 2) pa_nil)))) (pw_or1 (pt_cmpR op_notIn_seq (pv 2) (pe_tup (pa_cons pe_str (pa_cons pe_str pa_nil))) (by rfl))))) 
          (pss_one ps_never) pss_nil) 
        (pss_cons (ps_set (i := 3) sc_losses_row.nd rfl (Or.inl rfl) (pe_lst pa_nil)) 
        (pss_cons (ps_for (passes_of rfl) rfl (pi_range2 rfl T.range (pa_cons (pv 1) (pa_cons (pe_op op_add (pe_glob (v := .int 5) rfl e5 ⟨_, rfl⟩) pe_int) pa_nil))) (pg_name (i := 4) sc_losses_row.nd rfl (Or.inl rfl)) 
          (pss_cons (ps_expr (pe_bm PySem.F.plainAttrs_list PySem.F.slot_list_append PySem.F.type_list_append mt_append (pv 3) (pa_cons (pe_cal c_greatest_loss (hr.mono (by decide)) (pa_cons (pv 0) (pa_cons (pv 1) (pa_cons (pv 4) (pa_cons (pv 2) pa_nil))))) pa_nil))) 
          (pss_one (ps_if (pt_cmpR op_eq (pe_ix ix_list (pv 3) (pe_un un_neg pe_int) (fun _ _ => rfl)) pe_int (nomark _)) 
            (pss_one (ps_ret (pe_callTy cr_tupOf rfl T.tuple boot_tuple' (pa_cons (pv 3) pa_nil)))) pss_nil)))) 
        (pss_one (ps_ret (pe_callTy cr_tupOf rfl T.tuple boot_tuple' (pa_cons (pv 3) pa_nil)))))))), ?_⟩
    have g1 : Gv (tCall (spP (RWeb K)) [] E0 (tCons (tVar 0) tNil)) (start N_losses_row [v, .int (rooms : Int), .str (wordS lru)]) H (fun v' H' => ∃ L', PD K (webD n L') v' H' ∧ (CanonL n L' ∧ L'.length ≤ L.length ∧ ∀ i j, adj L' i j = adj L i j)) :=
      gv_call (ga_one (gv_d (v := v) rfl ask.web) up_D) fun vs H' s p => by
        cases p with
        | cons e p => cases p; exact ⟨_, n, L, rfl, e, by have := ask.n1; omega, by have := ask.n4; omega, ask.len, ask.good, rfl⟩
    refine seq_in (par_run g1 (fun _ _ _ s ⟨L', h, r⟩ => ⟨L', h.mono (.of s), r⟩) (gv_call (P := PV (.int (rooms : Int))) (ga_one (gv_v (v := .int (rooms : Int)) rfl) up_V) fun vs H' s p => ?_) fun x y H1 s1 hx ey => ?_)
    · cases p with
      | cons e p => cases p; cases e; exact ⟨_, rfl, by have := ask.r1; omega, by have := ask.r5; omega, rfl⟩
    have ey : y = .int rooms := ey
    subst ey
    obtain ⟨L', hx, hC, hl, had⟩ := hx
    have hrows : rowsC n L' = rowsC n L := rowsC_eq had
    have ask1 : Ask K H1 x n L' rooms := ⟨hx, ask.n1, ask.n4, by have := ask.len; omega, hC.good, ask.r1, ask.r5⟩
    dsimp only
    -- the word
    have gin : Gv (tOp (rIn K true) (tVar 2) (tTup (tCons (tC (.str "last used")) (tCons (tC (.str "first in")) tNil)))) [some x, some (.int (rooms : Int)), some (.str (wordS lru)), none, none] H1 (PV (.bl false)) :=
      gv_op (Pa := PV (.str (wordS lru))) (Pb := PD K (.tup [.text "last used", .text "first in"])) (gv_v rfl) (gv_tup (gd_cons (gv_text _) (gd_cons (gv_text _) gd_nil))) up_V fun x y H' Q ex hy q => by
        have ex : x = .str (wordS lru) := ex
        subst ex
        obtain ⟨p, ys, rfl, t, i⟩ := hy.tup_inv
        obtain ⟨z1, z2, rfl, k1, k2⟩ := isAll2 i
        obtain rfl := k1.text_inv
        obtain rfl := k2.text_inv
        refine ⟨p, _, rfl, .inr t.seq, rfl, rfl, ?_⟩
        rw [word_row]
        exact q _ H' (Same.refl _) rfl
    refine seq_in (Gt.run ((gt_or (b1 := false) (b2 := false) (gt_not (gt_val (gv_call (P := PV (.bl true)) (ga_one (gv_v (v := .str (wordS lru)) rfl) up_V) fun vs H' s p => ?_))) fun _ => gt_test gin).cast (b' := false) rfl) fun H2 s2 => ?_)
    · cases p with
      | cons e p => cases p; cases e; exact ⟨_, "str", rfl, .data (.text _), rfl⟩
    rw [if_neg (by decide)]
    refine next_in ?_
    dsimp only
    -- found = []
    refine seq_in (asg_in (lst_run fun l hln => ?_))
    dsimp only
    have s02 := s1.trans s2
    have hl0 : H l = none := same_none s02 hln
    have s03 : Same H (upd H2 l (.lst [])) := s02.trans (Same.new hln)
    have r1 := ask.r1
    have r5 := ask.r5
    -- the end: a tuple of what was found
    have fin : ∀ {H' : Hp} {rs : List (Option Int)} {x4 : Option V} {Q' : VK}, Same H H' → H' l = some (.lst (rs.map lossV)) → (∀ a H'', Same H' H'' → TupAt K H'' a (rs.map lossV) → Q' (.ref a) H'') → tCB (rTupOf K) (tCons (tVar 3) tNil) [some x, some (.int (rooms : Int)), some (.str (wordS lru)), some (.ref l), x4] H' Q' := fun s e k =>
      ⟨_, rfl, l, _, rfl, .inl ⟨SqL.of e, fun p hp => k p _ (Same.new hp) (.inl upd_same)⟩⟩
    refine seq_in ?_
    refine wi_rng2 (i := (rooms : Int)) (j := 6) (H := upd H2 l (.lst [])) (σ := [some x, some (.int (rooms : Int)), some (.str (wordS lru)), some (.ref l), none]) (ga_two (gv_v (v := .int (rooms : Int)) rfl) up_V (gv_opI (i := 5) (j := 1) gv_c gv_c) up_V) (by omega) _ (Same.refl _) _ fun H3 s3 => ?_
    have s33 := s03.trans s3
    refine for_range (lo := (rooms : Int)) (n := ((6 : Int) - (rooms : Int)).toNat) (fun i σ H' => ∃ (x4 : Option V) (rs : List (Option Int)), σ = [some x, some (.int (rooms : Int)), some (.str (wordS lru)), some (.ref l), x4] ∧ Same H H' ∧ TS H1 H' ∧ H' l = some (.lst (rs.map lossV)) ∧ rs.length = i ∧ (∀ k r, rs[k]? = some r → LossOk (SetW n L rooms lru (rooms + k)) r) ∧ (∀ k, k < i → rs[k]? ≠ some (some 0)))
      ⟨none, [], rfl, s33, ((TS.of s2).trans (.of (Same.new hln))).trans (.of s3), s3 _ _ upd_same, rfl, fun k r h => by simp at h, fun k hk => by omega⟩ (fun i σ H' hi pp => ?_) fun σ H' pp => ?_
    · obtain ⟨x4, rs, rfl, s4, t4, hlr, hlen, hloss, hpre⟩ := pp
      have hown : (rooms : Int) + (i : Int) = ((rooms + i : Nat) : Int) := by omega
      rw [hown]
      have ask4 : Ask K H' x n L' rooms := ⟨hx.mono t4, ask1.n1, ask1.n4, ask1.len, ask1.good, ask1.r1, ask1.r5⟩
      refine seq_in (app_run (l := l) (Pe := fun v' _ => ∃ r, LossOk (SetW n L rooms lru (rooms + i)) r ∧ v' = lossV r) (gv_v rfl) hlr (gv_call (ga_cons (gv_d (v := x) (d := webD n L') rfl ask4.web) up_D (ga_cons (gv_v (v := .int (rooms : Int)) rfl) up_V (ga_cons (gv_v (v := .int ((rooms + i : Nat) : Int)) rfl) up_V (ga_cons (gv_v (v := .str (wordS lru)) rfl) up_V ga_nil)))) fun vs H5 s5 pp => ?_) (by rw [List.length_map]; omega) fun y H5 s5 hy => ?_)
      · cases pp with
        | cons e1 pp => cases pp with
          | cons e2 pp => cases pp with
            | cons e3 pp => cases pp with
              | cons e4 pp =>
                cases pp; cases e2; cases e3; cases e4
                exact ⟨_, n, L', rooms, rooms + i, lru, rfl, ⟨e1, ask1.n1, ask1.n4, ask1.len, ask1.good, ask1.r1, ask1.r5⟩, by omega, by omega, fun v' H6 h => by
                  obtain ⟨r, h1, h2⟩ := h
                  refine ⟨r, ?_, h2⟩
                  have e : SetW n L' rooms lru (rooms + i) = SetW n L rooms lru (rooms + i) := by show Setg.mk _ _ _ _ = Setg.mk _ _ _ _; rw [hrows]
                  rw [← e]; exact h1⟩
      obtain ⟨r, hr1, rfl⟩ := hy
      dsimp only
      have hl5 := s5 _ _ hlr
      have t5 : TS H5 (upd H5 l (.lst (rs.map lossV ++ [lossV r]))) := TS.lst hl5
      have s6 : Same H (upd H5 l (.lst (rs.map lossV ++ [lossV r]))) := same_wr (Same.trans s4 s5) hl0
      have hl6 : (upd H5 l (.lst (rs.map lossV ++ [lossV r]))) l = some (.lst ((rs ++ [r]).map lossV)) := by rw [upd_same, List.map_append]; rfl
      have hloss' : ∀ k z, (rs ++ [r])[k]? = some z → LossOk (SetW n L rooms lru (rooms + k)) z := fun k z h => by
        rcases Nat.lt_or_ge k rs.length with hk | hk
        · rw [List.getElem?_append_left hk] at h; exact hloss k z h
        · rw [List.getElem?_append_right hk] at h
          have : z = r ∧ k = i := by
            cases e : k - rs.length with
            | zero => rw [e] at h; exact ⟨by simpa using h.symm, by omega⟩
            | succ m => rw [e] at h; simp at h
          rw [this.1, this.2]; exact hr1
      refine Gt.run (gt_test (gv_eq (x := lossV r) (y := .int 0) (gv_ixLV (k := -1) (a := l) (xs := (rs ++ [r]).map lossV) (gv_v rfl) hl6 (gv_neg gv_c) (by rw [List.map_append]; exact atI_last _ _)) gv_c (scal_loss r 0))) fun H7 s7 => ?_
      by_cases hz : r = some 0
      · rw [if_pos (by rw [hz]; decide)]
        refine fin (Same.trans s6 s7) (s7 _ _ hl6) fun a H8 s8 ht => q _ _ ((Same.trans s6 s7).trans s8) (hP _ _ ⟨a, rs ++ [r], rfl, ht, ⟨by simp, by simp; omega, hloss', fun k hk => ?_, .inl (by simp [hz])⟩⟩)
        rw [List.length_append, List.length_singleton] at hk
        rw [List.getElem?_append_left (by omega)]
        exact hpre k (by omega)
      · rw [if_neg (by
          intro z
          have z := of_decide_eq_true z
          cases r with
          | none => cases z
          | some m => exact hz (by rw [V.int.inj z]))]
        refine next_in ⟨_, rs ++ [r], rfl, Same.trans s6 s7, ((t4.trans (.of s5)).trans t5).trans (.of s7), s7 _ _ hl6, by simp [hlen], hloss', fun k hk => ?_⟩
        rcases Nat.lt_or_ge k rs.length with h | h
        · rw [List.getElem?_append_left h]; exact hpre k (by omega)
        · rw [List.getElem?_append_right h]
          have : k - rs.length = 0 := by omega
          rw [this]
          simpa using hz
    · obtain ⟨x4, rs, rfl, s4, t4, hlr, hlen, hloss, hpre⟩ := pp
      refine fin s4 hlr fun a H8 s8 ht => q _ _ (s4.trans s8) (hP _ _ ⟨a, rs, rfl, ht, ⟨fun z => by rw [z] at hlen; simp at hlen; omega, by omega, hloss, fun k hk => hpre k (by omega), .inr (by omega)⟩⟩)
theorem ok_losses_row (d : DefAt K mg "losses_row" 54) (T : Tx mg) (Cc : Co K mg) (c_need_web : Cal P w K mg base "need_web" 5 ["value"] (spP (RWeb K))) (c_need_rooms : Cal P w K mg base "need_rooms" 3 ["value"] (spP RRooms)) (c_is_string : Cal P w K mg base "is_string" 1 ["value"] (spP (RTy K fun t => t == "str"))) (c_greatest_loss : Cal P w K mg base "greatest_loss" 9 ["web", "rooms", "own", "rule"] (spP (RLoss K))) :
    Cal P w K mg base "losses_row" 10 ["web", "rooms", "word"] (spP (RRow K)) := by
  obtain ⟨f, fd, g, F⟩ := d
  exact ⟨f, fd, g, F.kp, F.binds fun _ _ _ _ _ _ us hl => match us, hl with | [_, _, _], _ => rfl, fn_losses_row F T Cc c_need_web c_need_rooms c_is_string c_greatest_loss⟩
end
end K52
set_option maxHeartbeats 4000000
/-! The law's box: drawing; rows, walks. -/
namespace K52
open PySem PySem.Spec PyProof.Rows L2
def BoxAt (H : Hp) (l : Addr) : Prop := ∃ a b c : Int, H l = some (.lst [.int a, .int b, .int c])
/-- all but l stays -/
def But (l : Addr) (H H' : Hp) : Prop := ∀ b o, H b = some o → b ≠ l → H' b = some o
theorem But.of {l : Addr} {H H' : Hp} (s : Same H H') : But l H H' := fun b o e _ => s b o e
theorem But.trans {l : Addr} {H H1 H2 : Hp} (a : But l H H1) (b : But l H1 H2) : But l H H2 := fun c o e n => b c o (a c o e n) n
theorem BoxAt.nt {H : Hp} {l : Addr} (h : BoxAt H l) {ys : List V} : H l ≠ some (.tup ys) := fun e => by
  obtain ⟨_, _, _, q⟩ := h
  rw [q] at e
  exact absurd (show HO.lst _ = HO.tup ys from Option.some.inj e) (fun z => by cases z)
theorem But.ts {l : Addr} {H H' : Hp} (h : BoxAt H l) (b : But l H H') : TS H H' := fun c ys e => b c _ e fun z => h.nt (by rw [← z]; exact e)
theorem But.free {l x : Addr} {H H' : Hp} (h' : BoxAt H' l) (b : But l H H') (h : H' x = none) : H x = none := by
  cases e : H x with
  | none => rfl
  | some o =>
    have n : x ≠ l := fun z => by
      obtain ⟨_, _, _, q⟩ := h'
      rw [z, q] at h; cases h
    rw [b x o e n] at h; cases h
theorem But.upd {l x : Addr} {H H' : Hp} {o : HO} (b : But l H H') (h : H x = none) : But l H (upd H' x o) := fun c u e n => by
  rw [upd_ne (ne_of_none e h)]; exact b c u e n
theorem BoxAt.same {H H' : Hp} {l : Addr} (s : Same H H') (h : BoxAt H l) : BoxAt H' l := let ⟨a, b, c, e⟩ := h; ⟨a, b, c, s _ _ e⟩
theorem room66 {k : Nat} {A : Around} (hr : Room k A) : A.units + 66 < cLine := by have := hr.un; omega
theorem BoxAt.ne {H : Hp} {l x : Addr} (h : BoxAt H l) (e : H x = none) : l ≠ x := fun z => by
  obtain ⟨_, _, _, q⟩ := h
  rw [z, e] at q; cases q
def RBox (K : PySem.W.Frag) : List V → Hp → (V → Hp → Prop) → Prop := fun vs H Pr => ∃ (a : Addr) (ns : List Int) (k : Nat), vs = [.ref a, .int (k : Int)] ∧ SqL K H a (ns.map V.int) ∧ ns.length ≤ 63 ∧ ∀ v' H', (∃ l, v' = .ref l ∧ BoxAt H' l ∧ H l = none) → Pr v' H'
def spTake : Sp := fun vs H Q _ => ∃ (l : Addr) (m : Int), vs = [.ref l, .int m] ∧ BoxAt H l ∧ 1 ≤ m ∧ m ≤ 1000 ∧ ∀ k H', 0 ≤ k → k < m → BoxAt H' l → But l H H' → Q (.int k) H'
def spPick : Sp := fun vs H Q _ => ∃ (l s : Addr) (xs : List V), vs = [.ref l, .ref s] ∧ BoxAt H l ∧ H s = some (.lst xs) ∧ s ≠ l ∧ xs ≠ [] ∧ xs.length ≤ 1000 ∧ ∀ v H', v ∈ xs → BoxAt H' l → But l H H' → Q v H'
section
variable {P : Program} {w : World} {K : PySem.W.Frag} {σ : L2.St} {H : Hp} {ta tb tm ts te : TE} {l : Addr} {m : Int} {Q : VK}
theorem take_run (hb : Gv tb σ H (PV (.ref l))) (hm : Gv tm σ H (PV (.int m))) (B : BoxAt H l) (h1 : 1 ≤ m) (h2 : m ≤ 1000) (k : ∀ k H', 0 ≤ k → k < m → BoxAt H' l → But l H H' → Q (.int k) H') : tCall spTake [] E0 (tCons tb (tCons tm tNil)) σ H Q := by
  refine hb.run fun x H1 s1 ex => ?_
  refine (hm.later s1).run fun y H2 s2 ey => ?_
  have ex : x = .ref l := ex
  have ey : y = .int m := ey
  subst ex; subst ey
  have s := s1.trans s2
  exact ⟨l, m, rfl, B.same s, h1, h2, fun k' H' a b c d => k k' H' a b c ((But.of s).trans d)⟩
theorem pick_run {xs : List V} (hb : Gv tb σ H (PV (.ref l))) (hs : Gv ts σ H (fun v' H' => ∃ s, v' = .ref s ∧ H' s = some (.lst xs) ∧ s ≠ l)) (B : BoxAt H l) (hne : xs ≠ []) (hl : xs.length ≤ 1000) (k : ∀ v H', v ∈ xs → BoxAt H' l → But l H H' → Q v H') : tCall spPick [] E0 (tCons tb (tCons ts tNil)) σ H Q := by
  refine hb.run fun x H1 s1 ex => ?_
  refine (hs.later s1).run fun y H2 s2 ey => ?_
  have ex : x = .ref l := ex
  subst ex
  obtain ⟨s, rfl, e, n⟩ := ey
  have ss := s1.trans s2
  exact ⟨l, s, xs, rfl, B.same ss, e, n, hne, hl, fun v' H' a b c => k v' H' a b ((But.of ss).trans c)⟩
end
section
variable {P : Program} {w : World} {K : PySem.W.Frag} {mg : Str → Option Value} {base : Heap} {C : Addr}
section
variable {σ : L2.St} {H : Hp} {te ta tb : TE}
theorem gv_int1 {k : Int} (h : Gv te σ H (PV (.int k))) : Gv (tCB (fun xs H Q => (∃ i, xs = [.int i] ∧ Q (.int i) H) ∨ ∃ k, xs = [.bl k] ∧ Q (.int (if k then 1 else 0)) H) (tCons te tNil)) σ H (PV (.int k)) :=
  gv_call1 h fun x H' Q ex q => .inl ⟨k, by rw [show x = .int k from ex], q _ H' (Same.refl _) rfl⟩
theorem gv_intB {b : Bool} (h : Gv te σ H (PV (.bl b))) : Gv (tCB (fun xs H Q => (∃ i, xs = [.int i] ∧ Q (.int i) H) ∨ ∃ k, xs = [.bl k] ∧ Q (.int (if k then 1 else 0)) H) (tCons te tNil)) σ H (PV (.int (if b then 1 else 0))) :=
  gv_call1 h fun x H' Q ex q => .inr ⟨b, by rw [show x = .bl b from ex], q _ H' (Same.refl _) rfl⟩
theorem gv_abs {k : Int} (h : Gv te σ H (PV (.int k))) : Gv (tCB (fun xs H Q => ∃ i, xs = [.int i] ∧ Q (.int (if i < 0 then -i else i)) H) (tCons te tNil)) σ H (fun v' _ => ∃ j, v' = .int j) :=
  gv_call1 h fun x H' Q ex q => ⟨k, by rw [show x = .int k from ex], q _ H' (Same.refl _) ⟨_, rfl⟩⟩
/-- some int -/
abbrev PI1 : V → Hp → Prop := fun v _ => ∃ j : Int, v = .int j
theorem up_I1 : Up PI1 := fun _ _ _ _ h => h
theorem gv_opI1 {g : Int → Int → Int} (ha : Gv ta σ H PI1) (hb : Gv tb σ H PI1) : Gv (tOp (rI0 fun i j => .int (g i j)) ta tb) σ H PI1 :=
  gv_op ha hb up_I1 fun x y H' Q ⟨i, ex⟩ ⟨j, ey⟩ q => ⟨i, j, ex, ey, q _ H' (Same.refl _) ⟨_, rfl⟩⟩
theorem gv_opC1 {Cc : Int → Int → Prop} {g : Int → Int → Int} (ha : Gv ta σ H PI1) (hb : Gv tb σ H PI1) (c : ∀ i j, Cc i j) : Gv (tOp (rI Cc fun i j => .int (g i j)) ta tb) σ H PI1 :=
  gv_op ha hb up_I1 fun x y H' Q ⟨i, ex⟩ ⟨j, ey⟩ q => ⟨i, j, ex, ey, c i j, q _ H' (Same.refl _) ⟨_, rfl⟩⟩
theorem gv_opCr {Cc : Int → Int → Prop} {g : Int → Int → Int} {j : Int} (ha : Gv ta σ H PI1) (hb : Gv tb σ H (PV (.int j))) (c : ∀ i, Cc i j) : Gv (tOp (rI Cc fun i j => .int (g i j)) ta tb) σ H PI1 :=
  gv_op ha hb up_I1 fun x y H' Q ⟨i, ex⟩ ey q => ⟨i, j, ex, ey, c i, q _ H' (Same.refl _) ⟨_, rfl⟩⟩
theorem gv_opCl {Cc : Int → Int → Prop} {g : Int → Int → Int} {i : Int} (ha : Gv ta σ H (PV (.int i))) (hb : Gv tb σ H PI1) (c : ∀ j, Cc i j) : Gv (tOp (rI Cc fun i j => .int (g i j)) ta tb) σ H PI1 :=
  gv_op ha hb up_V fun x y H' Q ex ⟨j, ey⟩ q => ⟨i, j, ex, ey, c j, q _ H' (Same.refl _) ⟨_, rfl⟩⟩
theorem Gv.i1 {k : Int} (h : Gv te σ H (PV (.int k))) : Gv te σ H PI1 := h.imp fun v H' e => ⟨k, e⟩
theorem gv_int1' (h : Gv te σ H PI1) : Gv (tCB (fun xs H Q => (∃ i, xs = [.int i] ∧ Q (.int i) H) ∨ ∃ k, xs = [.bl k] ∧ Q (.int (if k then 1 else 0)) H) (tCons te tNil)) σ H PI1 :=
  gv_call1 h fun x H' Q ⟨k, ex⟩ q => .inl ⟨k, by rw [ex], q _ H' (Same.refl _) ⟨k, rfl⟩⟩
theorem gv_lenSL {a : Addr} {xs : List V} (h : Gv te σ H (PV (.ref a))) (t : ∀ H', Same H H' → SqL K H' a xs) : Gv (tCB (rLenS K) (tCons te tNil)) σ H (PV (.int xs.length)) := fun H1 s Q q =>
  h H1 s _ fun x H2 s2 ex => ⟨a, xs, by rw [show x = .ref a from ex], .inl (t _ (s.trans s2)), q _ _ s2 rfl⟩
theorem gv_ixSL {a : Addr} {xs : List V} {k : Int} {v : V} (h : Gv ta σ H (PV (.ref a))) (hk : Gv tb σ H (PV (.int k))) (t : ∀ H', Same H H' → SqL K H' a xs) (e : atI xs k = some v) : Gv (tOp (rIxL K) ta tb) σ H (PV v) := fun H1 s Q q =>
  h H1 s _ fun x H2 s2 ex => hk H2 (s.trans s2) _ fun y H3 s3 ey => ⟨a, xs, k, v, ex, ey, t _ ((s.trans s2).trans s3), e, q _ _ (s2.trans s3) rfl⟩
end
theorem fmod_rng {i m : Int} (h : 1 ≤ m) : 0 ≤ i.fmod m ∧ i.fmod m < m := ⟨Int.fmod_nonneg_of_pos _ (by omega), Int.fmod_lt_of_pos _ (by omega)⟩
abbrev N__law_box : List Str := ["_law_script", "_law_k", "_law_cell"]
theorem sc__law_box : FnScope N__law_box ["_law_script", "_law_k"] (defScope (top 56)) := ⟨rfl, rfl, rfl, by decide +kernel, rfl, by decide +kernel, by decide +kernel⟩
theorem ok_law_box (d : DefAt K mg "_law_box" 56) (T : Tx mg) : Cal P w K mg base "_law_box" 1 ["_law_script", "_law_k"] (spP (RBox K)) := by
  obtain ⟨f, fd, g, F⟩ := d
  refine ⟨f, fd, g, F.kp, F.binds fun _ _ _ _ _ _ us hl => match us, hl with | [_, _], _ => rfl, F.okX sc__law_box (fun vs H Q E h => ?_) (fun cdv A outer s H vs Q E hr h => ?_)⟩
  · obtain ⟨_, ⟨a, ns, k, rfl, _⟩, _⟩ := h; rfl
  · obtain ⟨_, ⟨a, ns, k, rfl, hs, hn, hP⟩, q⟩ := h
    refine ⟨_, 
        (pss_cons (ps_set (i := 2) sc__law_box.nd rfl (Or.inl rfl) (pe_op op_add (pe_op op_mul pe_int (pv 1)) pe_int)) 
        (pss_cons (ps_if (pt_cmpR op_lt (pv 1) (pe_callB cr_lenS rfl T.len boot_len' (pa_cons (pv 0) pa_nil)) (nomark _)) 
          (pss_one (ps_set (i := 2) sc__law_box.nd rfl (Or.inl rfl) (pe_callB call_abs rfl T.abs boot_abs' (pa_cons (pe_ix ix_list (pv 0) (pv 1) (fun _ _ => rfl)) pa_nil)))) 
          (pss_one (ps_if (pt_cmpR op_gt (pe_callB cr_lenS rfl T.len boot_len' (pa_cons (pv 0) pa_nil)) pe_int (nomark _)) 
            (pss_one (ps_set (i := 2) sc__law_box.nd rfl (Or.inl rfl) (pe_op op_add (pv 2) (pe_op op_mul (pe_op op_modN (pe_callTy call_int1 rfl T.int boot_int' (pa_cons (pe_callB call_abs rfl T.abs boot_abs' (pa_cons (pe_ix ix_list (pv 0) (pe_op op_modN (pe_callTy call_int1 rfl T.int boot_int' (pa_cons (pv 1) pa_nil)) (pe_callB cr_lenS rfl T.len boot_len' (pa_cons (pv 0) pa_nil))) (fun _ _ => rfl)) pa_nil)) pa_nil)) pe_int) pe_int)))) pss_nil))) 
        (pss_one (ps_ret (pe_lst (pa_cons (pe_ix ix_list (pe_lst (pa_cons pe_int (pa_cons (pv 2) pa_nil))) (pe_callTy call_int1 rfl T.int boot_int' (pa_cons (pe_cmpR op_ge (pv 2) (pe_op op_pow pe_int pe_int) (nomark _)) pa_nil)) (fun _ _ => rfl)) (pa_cons (pe_op op_add (pe_op op_modN (pe_callTy call_int1 rfl T.int boot_int' (pa_cons (pe_op op_add (pe_op op_mul (pe_op op_modN (pe_callTy call_int1 rfl T.int boot_int' (pa_cons (pv 2) pa_nil)) pe_int) pe_int) (pe_op op_mul pe_int (pv 1))) pa_nil)) pe_int) pe_int) (pa_cons pe_int pa_nil)))))))), ?_⟩
    have hseq : ∀ H', Same H H' → SqL K H' a (ns.map V.int) := fun H' s => s.seq hs
    have hnl : ((ns.map V.int).length : Int) = ns.length := by simp
    refine seq_in (asg_in (Gv.run (gv_opI1 (gv_opCl (i := 5039) gv_c (gv_v (v := .int (k : Int)) rfl).i1 fun j => .inl ⟨by decide, by decide⟩) gv_c.i1) fun x H1 s1 hx => ?_))
    obtain ⟨c0, rfl⟩ := hx
    dsimp only
    have glen : ∀ {σ : L2.St} {H' : Hp}, σ[0]? = some (some (.ref a)) → Same H H' → Gv (tCB (rLenS K) (tCons (tVar 0) tNil)) σ H' (PV (.int (ns.length : Int))) := fun e s => (gv_lenSL (gv_v e) fun H2 s2 => hseq H2 (s.trans s2)).imp fun v' H' e => by rw [e, List.length_map]
    -- the end
    have fin : ∀ (c : Int) (H2 : Hp), Same H H2 → Gv (tLst (tCons (tOp (rIxL K) (tLst (tCons (tC (.int 0)) (tCons (tVar 2) tNil))) (tCB (fun xs H Q => (∃ i, xs = [.int i] ∧ Q (.int i) H) ∨ ∃ k, xs = [.bl k] ∧ Q (.int (if k then 1 else 0)) H) (tCons (tOp (rI0 fun i j => .bl (decide (j ≤ i))) (tVar 2) (tOp (rI CPow fun i j => .int (i ^ j.toNat)) (tC (.int 10)) (tC (.int 18)))) tNil)))
        (tCons (tOp (rI0 fun i j => .int (i + j)) (tOp (rI (fun _ j => j ≠ 0) fun i j => .int (i.fmod j)) (tCB (fun xs H Q => (∃ i, xs = [.int i] ∧ Q (.int i) H) ∨ ∃ k, xs = [.bl k] ∧ Q (.int (if k then 1 else 0)) H) (tCons (tOp (rI0 fun i j => .int (i + j)) (tOp (rI CMul fun i j => .int (i * j)) (tOp (rI (fun _ j => j ≠ 0) fun i j => .int (i.fmod j)) (tCB (fun xs H Q => (∃ i, xs = [.int i] ∧ Q (.int i) H) ∨ ∃ k, xs = [.bl k] ∧ Q (.int (if k then 1 else 0)) H) (tCons (tVar 2) tNil)) (tC (.int 2147483629))) (tC (.int 44087))) (tOp (rI CMul fun i j => .int (i * j)) (tC (.int 51001)) (tVar 1))) tNil)) (tC (.int 2147483629))) (tC (.int 1)))
          (tCons (tC (.int 0)) tNil)))) [some (.ref a), some (.int (k : Int)), some (.int c)] H2 (fun v' H' => ∃ l, v' = .ref l ∧ BoxAt H' l ∧ H l = none) := fun c H2 s2 => fun H3 s3 Q q => by
      have g2 : Gv (tVar 2) [some (.ref a), some (.int (k : Int)), some (.int c)] H3 PI1 := (gv_v (v := .int c) rfl).i1
      have e1 : Gv (tOp (rIxL K) (tLst (tCons (tC (.int 0)) (tCons (tVar 2) tNil))) (tCB (fun xs H Q => (∃ i, xs = [.int i] ∧ Q (.int i) H) ∨ ∃ k, xs = [.bl k] ∧ Q (.int (if k then 1 else 0)) H) (tCons (tOp (rI0 fun i j => .bl (decide (j ≤ i))) (tVar 2) (tOp (rI CPow fun i j => .int (i ^ j.toNat)) (tC (.int 10)) (tC (.int 18)))) tNil))) [some (.ref a), some (.int (k : Int)), some (.int c)] H3 PI1 := by
        have gl : Gv (tLst (tCons (tC (.int 0)) (tCons (tVar 2) tNil))) [some (.ref a), some (.int (k : Int)), some (.int c)] H3 (PL K [.num 0, .num c]) := gv_lst (gd_cons (gv_num 0) (gd_cons (gv_v (v := .int c) rfl).num gd_nil))
        have gp : Gv (tOp (rI CPow fun i j => .int (i ^ j.toNat)) (tC (.int 10)) (tC (.int 18))) [some (.ref a), some (.int (k : Int)), some (.int c)] H3 (PV (.int (10 ^ (18 : Int).toNat))) := gv_opC (i := 10) (j := 18) gv_c gv_c ⟨by decide, by decide, by decide⟩
        have gb := gv_intB (gv_opI (g := fun i j => .bl (decide (j ≤ i))) (i := c) (gv_v (σ := [some (.ref a), some (.int (k : Int)), some (.int c)]) (i := 2) rfl) gp)
        cases hb : decide ((10 : Int) ^ (18 : Int).toNat ≤ c) with
        | true => rw [hb] at gb; exact (gv_ixL (d := .num c) gl gb (by rfl)).int.i1
        | false => rw [hb] at gb; exact (gv_ixL (d := .num 0) gl gb (by rfl)).int.i1
      have e2 := gv_opI1 (g := fun i j => i + j) (gv_opCr (Cc := fun _ j => j ≠ 0) (g := fun i j => i.fmod j) (j := 2147483629) (gv_int1' (gv_opI1 (g := fun i j => i + j) (gv_opCr (Cc := CMul) (g := fun i j => i * j) (j := 44087) (gv_opCr (Cc := fun _ j => j ≠ 0) (g := fun i j => i.fmod j) (j := 2147483629) (gv_int1' g2) gv_c fun i => by decide) gv_c fun i => .inr ⟨by decide, by decide⟩)
        (gv_opCl (Cc := CMul) (g := fun i j => i * j) (i := 51001) gv_c (gv_v (σ := [some (.ref a), some (.int (k : Int)), some (.int c)]) (i := 1) (H := H3) (v := .int (k : Int)) rfl).i1 fun j => .inl ⟨by decide, by decide⟩))) gv_c fun i => by decide) (gv_c (v := .int 1)).i1
      refine e1.run fun x1 H4 s4 h1 => (e2.later s4).run fun x2 H5 s5 h2 => ?_
      obtain ⟨j1, rfl⟩ := h1
      obtain ⟨j2, rfl⟩ := h2
      refine ⟨by show 3 ≤ sizeLine; decide, fun l hl => q _ _ ((s4.trans s5).trans (Same.new hl)) ⟨l, rfl, ⟨_, _, _, upd_same⟩, same_none (s2.trans (s3.trans (s4.trans s5))) hl⟩⟩
    refine seq_in (Gt.run (gt_test (gv_opI (i := (k : Int)) (j := (ns.length : Int)) (gv_v rfl) (glen rfl s1))) fun H2 s2 => ?_)
    have s02 := s1.trans s2
    by_cases hk : k < ns.length
    · rw [if_pos (by simp; omega)]
      have hat : (ns.map V.int)[k]? = some (.int ns[k]) := by rw [List.getElem?_map, List.getElem?_eq_getElem hk]; rfl
      refine asg_in (Gv.run (gv_abs (k := ns[k]) (gv_ixSL (a := a) (xs := ns.map V.int) (k := (k : Int)) (gv_v rfl) (gv_v (v := .int (k : Int)) rfl) (fun H' s => hseq H' (s02.trans s)) (atI_nat hat))) fun x H3 s3 hx => ?_)
      obtain ⟨c, rfl⟩ := hx
      exact Gv.run (fin c H3 (s02.trans s3)) fun v' H4 s4 h4 => q v' H4 ((s02.trans s3).trans s4) (hP _ _ h4)
    · rw [if_neg (by simp; omega)]
      refine Gt.run (gt_test (gv_opI (i := (ns.length : Int)) (j := 0) (glen rfl s02) gv_c)) fun H3 s3 => ?_
      have s03 := s02.trans s3
      by_cases hz : 0 < ns.length
      · rw [if_pos (by simp; omega)]
        have hm := fmod_rng (i := (k : Int)) (m := (ns.length : Int)) (by omega)
        obtain ⟨j, hj⟩ : ∃ j : Nat, (k : Int).fmod (ns.length : Int) = j := ⟨((k : Int).fmod (ns.length : Int)).toNat, by omega⟩
        have hjl : j < ns.length := by omega
        have hat : (ns.map V.int)[j]? = some (.int ns[j]) := by rw [List.getElem?_map, List.getElem?_eq_getElem hjl]; rfl
        have gix : Gv (tOp (rI (fun _ j => j ≠ 0) fun i j => .int (i.fmod j)) (tCB (fun xs H Q => (∃ i, xs = [.int i] ∧ Q (.int i) H) ∨ ∃ k, xs = [.bl k] ∧ Q (.int (if k then 1 else 0)) H) (tCons (tVar 1) tNil)) (tCB (rLenS K) (tCons (tVar 0) tNil))) [some (.ref a), some (.int (k : Int)), some (.int c0)] H3 (PV (.int (j : Int))) := by
          rw [← hj]
          exact gv_opC (g := fun i j => .int (i.fmod j)) (gv_int1 (gv_v rfl)) (glen rfl s03) (by show (ns.length : Int) ≠ 0; omega)
        refine asg_in (Gv.run (gv_opI1 (g := fun i j => i + j) (gv_v (i := 2) (v := .int c0) rfl).i1 (gv_opCr (Cc := CMul) (g := fun i j => i * j) (j := 60013) (gv_opCr (Cc := fun _ j => j ≠ 0) (g := fun i j => i.fmod j) (j := 2147483629) (gv_int1' (gv_abs (k := ns[j]) (gv_ixSL (a := a) (xs := ns.map V.int) (k := (j : Int)) (gv_v rfl) gix (fun H' s => hseq H' (s03.trans s)) (atI_nat hat)))) gv_c fun i => by decide) gv_c fun i => .inr ⟨by decide, by decide⟩)) fun x H4 s4 hx => ?_)
        obtain ⟨c, rfl⟩ := hx
        exact Gv.run (fin c H4 (s03.trans s4)) fun v' H5 s5 h5 => q v' H5 ((s03.trans s4).trans s5) (hP _ _ h5)
      · rw [if_neg (fun z => hz (by have := of_decide_eq_true z; omega))]
        refine next_in ?_
        exact Gv.run (fin c0 H3 s03) fun v' H5 s5 h5 => q v' H5 (s03.trans s5) (hP _ _ h5)
theorem box_ix {H : Hp} {l : Addr} {a b c : Int} (e : H l = some (.lst [.int a, .int b, .int c])) {σ : L2.St} {te tk : TE} {k v : Int} (h : Gv te σ H (PV (.ref l))) (hk : Gv tk σ H (PV (.int k))) (hv : atI [V.int a, .int b, .int c] k = some (.int v)) : Gv (tOp (rIxL K) te tk) σ H (PV (.int v)) := gv_ixLV h e hk hv
abbrev N__law_take : List Str := ["_law_box_here", "_law_many", "_law_digit", "_law_raw"]
theorem sc__law_take : FnScope N__law_take ["_law_box_here", "_law_many"] (defScope (top 57)) := ⟨rfl, rfl, rfl, by decide +kernel, rfl, by decide +kernel, by decide +kernel⟩
theorem ok_law_take (d : DefAt K mg "_law_take" 57) (T : Tx mg) : Cal P w K mg base "_law_take" 1 ["_law_box_here", "_law_many"] spTake := by
  obtain ⟨f, fd, g, F⟩ := d
  refine ⟨f, fd, g, F.kp, F.binds fun _ _ _ _ _ _ us hl => match us, hl with | [_, _], _ => rfl, F.okX sc__law_take (fun vs H Q E h => ?_) (fun cdv A outer s H vs Q E hr h => ?_)⟩
  · obtain ⟨l, m, rfl, _⟩ := h; rfl
  · obtain ⟨l, m, rfl, ⟨a, b, c, hl⟩, h1, h2, q⟩ := h
    refine ⟨_, 
        (pss_cons (ps_if (pt_cmpR op_gt (pe_ix ix_list (pv 0) pe_int (fun _ _ => rfl)) pe_int (nomark _)) 
          (pss_cons (ps_set (i := 2) sc__law_take.nd rfl (Or.inl rfl) (pe_op op_modN (pe_callTy call_int1 rfl T.int boot_int' (pa_cons (pe_ix ix_list (pv 0) pe_int (fun _ _ => rfl)) pa_nil)) (pv 1))) 
          (pss_cons (ps_asg (pe_op op_fdivW (pe_ix ix_list (pv 0) pe_int (fun _ _ => rfl)) (pv 1)) (pg_sub (pv 0) pe_int set_list)) 
          (pss_one (ps_ret (pv 2))))) pss_nil) 
        (pss_cons (ps_asg (pe_op op_add (pe_ix ix_list (pv 0) pe_int (fun _ _ => rfl)) pe_int) (pg_sub (pv 0) pe_int set_list)) 
        (pss_cons (ps_set (i := 3) sc__law_take.nd rfl (Or.inl rfl) (pe_op op_modN (pe_callTy call_int1 rfl T.int boot_int' (pa_cons (pe_op op_add (pe_op op_mul (pe_op op_add (pe_ix ix_list (pv 0) pe_int (fun _ _ => rfl)) (pe_op op_mul pe_int (pe_ix ix_list (pv 0) pe_int (fun _ _ => rfl)))) pe_int) pe_int) pa_nil)) pe_int)) 
        (pss_cons (ps_asg (pe_op op_add (pe_op op_modN (pe_callTy call_int1 rfl T.int boot_int' (pa_cons (pe_op op_add (pe_op op_mul (pv 3) pe_int) pe_int) pa_nil)) pe_int) pe_int) (pg_sub (pv 0) pe_int set_list)) 
        (pss_one (ps_ret (pe_op op_modN (pe_callTy call_int1 rfl T.int boot_int' (pa_cons (pe_op op_fdivW (pe_op op_add (pe_op op_mul (pv 3) pe_int) (pe_ix ix_list (pv 0) pe_int (fun _ _ => rfl))) pe_int) pa_nil)) (pv 1)))))))), ?_⟩
    have gb : ∀ {σ : L2.St} {H' : Hp}, σ[0]? = some (some (.ref l)) → Gv (tVar 0) σ H' (PV (.ref l)) := fun e => gv_v e
    have hm : m.natAbs < 2 ^ 11 := by
      have e : (2 : Nat) ^ 11 = 2048 := by decide
      omega
    have hdiv : ∀ i, CDivW i m := fun i => wide_div (b := 11) (by omega) hm (by decide) (by decide)
    refine seq_in (Gt.run (gt_test (gv_opI (i := a) (j := 0) (box_ix hl (gb rfl) gv_c rfl) gv_c)) fun H1 s1 => ?_)
    have hl1 := s1 _ _ hl
    by_cases ha : 0 < a
    · rw [if_pos (by simpa using ha)]
      refine seq_in (asg_in (Gv.run (gv_opC (g := fun i j => .int (i.fmod j)) (i := a) (j := m) (gv_int1 (box_ix hl1 (gb rfl) gv_c rfl)) (gv_v rfl) (by show m ≠ 0; omega)) fun x H2 s2 ex => ?_))
      have ex : x = .int (a.fmod m) := ex
      subst ex
      dsimp only
      have hl2 := s2 _ _ hl1
      refine seq_in (Gv.run (gv_opC (g := fun i j => .int (i / j)) (i := a) (j := m) (box_ix hl2 (gb rfl) gv_c rfl) (gv_v (i := 1) (v := .int m) rfl) (hdiv a)) fun x H3 s3 ex => ?_)
      have ex : x = .int (a / m) := ex
      subst ex
      have hl3 := s3 _ _ hl2
      refine ⟨_, rfl, l, _, 0, 0, rfl, rfl, hl3, rfl, ?_⟩
      have hr := fmod_rng (i := a) (m := m) h1
      exact ⟨_, rfl, q _ _ hr.1 hr.2 ⟨_, _, _, upd_same⟩ fun x o e n => by rw [upd_ne n]; exact s3 _ _ (s2 _ _ (s1 _ _ e))⟩
    · rw [if_neg (by simpa using ha)]
      refine next_in ?_
      dsimp only
      -- box[2] = ..
      refine seq_in (Gv.run (gv_opI (g := fun i j => .int (i + j)) (i := c) (j := 1) (box_ix hl1 (gb rfl) gv_c rfl) gv_c) fun x H2 s2 ex => ?_)
      have ex : x = .int (c + 1) := ex
      subst ex
      have hl2 := s2 _ _ hl1
      refine ⟨_, rfl, l, _, 2, 2, rfl, rfl, hl2, rfl, ?_⟩
      dsimp only
      have e3 : (upd H2 l (.lst ([V.int a, .int b, .int c].set 2 (.int (c + 1))))) l = some (.lst [.int a, .int b, .int (c + 1)]) := upd_same
      generalize hH3 : upd H2 l (.lst ([V.int a, .int b, .int c].set 2 (.int (c + 1)))) = H3 at e3 ⊢
      have f3 : But l H H3 := fun x o e n => by rw [← hH3, upd_ne n]; exact s2 _ _ (s1 _ _ e)
      -- raw
      refine seq_in (asg_in (Gv.run (gv_opCr (Cc := fun _ j => j ≠ 0) (g := fun i j => i.fmod j) (j := 2147483563) (gv_int1' (gv_opI1 (g := fun i j => i + j) (gv_opCr (Cc := CMul) (g := fun i j => i * j) (j := 62003) (gv_opI1 (g := fun i j => i + j) (box_ix (k := 1) (v := b) e3 (gb rfl) gv_c rfl).i1 (gv_opCl (Cc := CMul) (g := fun i j => i * j) (i := 71069) gv_c (box_ix (k := 2) (v := c + 1) e3 (gb rfl) gv_c rfl).i1 fun j => .inl ⟨by decide, by decide⟩)) gv_c fun i => .inr ⟨by decide, by decide⟩) (gv_c (v := .int 41)).i1)) gv_c fun i => by decide) fun x H4 s4 ex => ?_))
      obtain ⟨raw, rfl⟩ := ex
      dsimp only
      have e4 := s4 _ _ e3
      have f4 := f3.trans (.of s4)
      have graw : ∀ {H' : Hp}, Gv (tVar 3) [some (.ref l), some (.int m), none, some (.int raw)] H' PI1 := fun {H'} => (gv_v (v := .int raw) rfl).i1
      -- box[1] = ..
      refine seq_in (Gv.run (gv_opI1 (g := fun i j => i + j) (gv_opCr (Cc := fun _ j => j ≠ 0) (g := fun i j => i.fmod j) (j := 2147483629) (gv_int1' (gv_opI1 (g := fun i j => i + j) (gv_opCr (Cc := CMul) (g := fun i j => i * j) (j := 39019) graw gv_c fun i => .inr ⟨by decide, by decide⟩) (gv_c (v := .int 21001)).i1)) gv_c fun i => by decide) (gv_c (v := .int 1)).i1) fun x H5 s5 ex => ?_)
      obtain ⟨b', rfl⟩ := ex
      have e5 := s5 _ _ e4
      refine ⟨_, rfl, l, _, 1, 1, rfl, rfl, e5, rfl, ?_⟩
      dsimp only
      have e6 : (upd H5 l (.lst ([V.int a, .int b, .int (c + 1)].set 1 (.int b')))) l = some (.lst [.int a, .int b', .int (c + 1)]) := upd_same
      generalize hH6 : upd H5 l (.lst ([V.int a, .int b, .int (c + 1)].set 1 (.int b'))) = H6 at e6 ⊢
      have f6 : But l H H6 := fun x o e n => by rw [← hH6, upd_ne n]; exact s5 _ _ (f4 x o e n)
      -- the end
      have g1 : Gv (tCB (fun xs H Q => (∃ i, xs = [.int i] ∧ Q (.int i) H) ∨ ∃ k, xs = [.bl k] ∧ Q (.int (if k then 1 else 0)) H) (tCons (tOp (rI CDivW fun i j => .int (i / j)) (tOp (rI0 fun i j => .int (i + j)) (tOp (rI CMul fun i j => .int (i * j)) (tVar 3) (tC (.int 2147483647))) (tOp (rIxL K) (tVar 0) (tC (.int 1)))) (tC (.int 8191))) tNil)) [some (.ref l), some (.int m), none, some (.int raw)] H6 PI1 :=
        gv_int1' (gv_opCr (Cc := CDivW) (g := fun i j => i / j) (j := 8191) (gv_opI1 (g := fun i j => i + j) (gv_opCr (Cc := CMul) (g := fun i j => i * j) (j := 2147483647) graw gv_c fun i => .inr ⟨by decide, by decide⟩) (box_ix (k := 1) (v := b') e6 (gb rfl) gv_c rfl).i1) gv_c fun i => wide_div (b := 14) (by decide) (by decide) (by decide) (by decide))
      refine Gv.run (gv_op (r := rI (fun _ j => j ≠ 0) fun i j => .int (i.fmod j)) (P := fun v' _ => ∃ k, v' = .int k ∧ 0 ≤ k ∧ k < m) g1 (gv_v (i := 1) (v := .int m) rfl) up_I1 fun x y H' Q ex ey q => ?_) fun v' H7 s7 h7 => ?_
      · obtain ⟨j, rfl⟩ := ex
        exact ⟨j, m, rfl, ey, by show m ≠ 0; omega, q _ _ (Same.refl _) ⟨_, rfl, (fmod_rng h1).1, (fmod_rng h1).2⟩⟩
      · obtain ⟨k, rfl, k0, k1⟩ := h7
        exact q _ _ k0 k1 ⟨_, _, _, s7 _ _ e6⟩ (f6.trans (.of s7))
abbrev N__law_pick : List Str := ["_law_box_here", "_law_some"]
theorem sc__law_pick : FnScope N__law_pick ["_law_box_here", "_law_some"] (defScope (top 58)) := ⟨rfl, rfl, rfl, by decide +kernel, rfl, by decide +kernel, by decide +kernel⟩
theorem ok_law_pick (d : DefAt K mg "_law_pick" 58) (T : Tx mg) (c__law_take : Cal P w K mg base "_law_take" 1 ["_law_box_here", "_law_many"] spTake) : Cal P w K mg base "_law_pick" 2 ["_law_box_here", "_law_some"] spPick := by
  obtain ⟨f, fd, g, F⟩ := d
  refine ⟨f, fd, g, F.kp, F.binds fun _ _ _ _ _ _ us hl => match us, hl with | [_, _], _ => rfl, F.okX sc__law_pick (fun vs H Q E h => ?_) (fun cdv A outer s H vs Q E hr h => ?_)⟩
  · obtain ⟨l, s, xs, rfl, _⟩ := h; rfl
  · obtain ⟨l, so, xs, rfl, hb, hs, hne, hx, hl, q⟩ := h
    refine ⟨_, 
        (pss_one (ps_ret (pe_ix ix_list (pv 1) (pe_cal c__law_take (hr.mono (by decide)) (pa_cons (pv 0) (pa_cons (pe_callB cr_lenS rfl T.len boot_len' (pa_cons (pv 1) pa_nil)) pa_nil))) (fun _ _ => rfl)))), ?_⟩
    have hpos : 0 < xs.length := List.length_pos_iff.mpr hx
    refine ⟨_, rfl, ?_⟩
    refine take_run (l := l) (m := (xs.length : Int)) (gv_v rfl) (gv_lenSL (a := so) (xs := xs) (gv_v rfl) fun H' s => SqL.of (s _ _ hs)) hb (by omega) (by omega) fun k H' h0 h1 hb' f => ?_
    obtain ⟨j, rfl⟩ : ∃ j : Nat, k = j := ⟨k.toNat, by omega⟩
    have hj : j < xs.length := by omega
    have e' := f _ _ hs hne
    exact ⟨so, xs, _, xs[j], rfl, rfl, SqL.of e', atI_nat (List.getElem?_eq_getElem hj), q _ _ (List.getElem_mem hj) hb' f⟩
end
end K52
set_option maxHeartbeats 4000000
/-! The law's webs and walks. -/
namespace K52
open PySem PySem.Spec PyProof.Rows L2
structure GoodWeb (n : Nat) (L : List (Int × Int)) : Prop where
  lt : ∀ p ∈ L, 0 ≤ p.1 ∧ p.1 < p.2 ∧ p.2 < (n : Int)
  low : ∀ b : Int, 1 ≤ b → b < (n : Int) → ∃ a, (a, b) ∈ L
  len : L.length ≤ 60
theorem GoodWeb.good {n : Nat} {L : List (Int × Int)} (h : GoodWeb n L) : GoodL n L := fun p hp => by
  have := h.lt p hp
  exact ⟨⟨by omega, by omega⟩, ⟨by omega, by omega⟩, by omega⟩
theorem GoodWeb.perm {n : Nat} {L M : List (Int × Int)} (p : M.Perm L) (h : GoodWeb n L) : GoodWeb n M :=
  ⟨fun q hq => h.lt q (p.mem_iff.mp hq), fun b h1 h2 => let ⟨a, ha⟩ := h.low b h1 h2; ⟨a, p.mem_iff.mpr ha⟩, by rw [p.length_eq]; exact h.len⟩
theorem GoodWeb.adj_eq {n : Nat} {L : List (Int × Int)} (h : GoodWeb n L) (i j : Int) : adj L i j = decide ((min i j, max i j) ∈ L) := by
  unfold adj
  rcases Int.lt_trichotomy i j with q | q | q
  · have e1 : min i j = i := by omega
    have e2 : max i j = j := by omega
    have e3 : (j, i) ∉ L := fun z => by have := h.lt _ z; simp only at this; omega
    rw [e1, e2]; simp [e3]
  · subst q
    have e1 : min i i = i := by omega
    have e2 : max i i = i := by omega
    rw [e1, e2]; simp
  · have e1 : min i j = j := by omega
    have e2 : max i j = i := by omega
    have e3 : (i, j) ∉ L := fun z => by have := h.lt _ z; simp only at this; omega
    rw [e1, e2]; simp [e3]
/-- each row has a neighbour -/
theorem GoodWeb.row_ne {n : Nat} {L : List (Int × Int)} (h : GoodWeb n L) (hn : 2 ≤ n) {k : Nat} (hk : k < n) : (upto n).filter (fun j => adj L k j) ≠ [] := fun e => by
  have key : ∀ j : Int, 0 ≤ j → j < (n : Int) → adj L k j = true → False := fun j h0 h1 ha => by
    have : j ∈ (upto n).filter (fun j => adj L k j) := List.mem_filter.mpr ⟨upto_mem.mpr ⟨h0, h1⟩, ha⟩
    rw [e] at this; cases this
  by_cases h0 : k = 0
  · subst h0
    obtain ⟨a, ha⟩ := h.low 1 (by omega) (by omega)
    have := h.lt _ ha
    simp only at this
    have ea : a = 0 := by omega
    subst ea
    exact key 1 (by omega) (by omega) (by unfold adj; simp [ha])
  · obtain ⟨a, ha⟩ := h.low k (by omega) (by omega)
    have := h.lt _ ha
    simp only at this
    exact key a (by omega) (by omega) (by unfold adj; simp [ha])
def rowOf (n : Nat) (L : List (Int × Int)) (k : Nat) : List Int := (upto n).filter fun j => adj L k j
/-- the law's rows stand at R -/
def LRows (H : Hp) (R : Addr) (as : List Addr) (n : Nat) (L : List (Int × Int)) : Prop := H R = some (.lst (as.map V.ref)) ∧ as.length = n ∧ ∀ (k : Nat) a, as[k]? = some a → H a = some (.lst ((rowOf n L k).map V.int))
def RBesideL (K : PySem.W.Frag) : List V → Hp → (V → Hp → Prop) → Prop := fun vs H Pr => ∃ (v : V) (n : Nat) (L : List (Int × Int)), vs = [v] ∧ Is K H v (webD n L) ∧ GoodWeb n L ∧ n ≤ 40 ∧
  ∀ v' H', (∃ R as, v' = .ref R ∧ LRows H' R as n L ∧ H R = none ∧ ∀ a ∈ as, H a = none) → Pr v' H'
def spWebL (K : PySem.W.Frag) : Sp := fun vs H Q _ => ∃ (l : Addr) (m : Nat), vs = [.ref l, .int 2, .int (m : Int)] ∧ BoxAt H l ∧ (m = 3 ∨ m = 4) ∧
  ∀ n L v' H', 2 ≤ n → n ≤ m → GoodWeb n L → Is K H' v' (webD (n : Nat) L) → BoxAt H' l → But l H H' → Q v' H'
def spWalkL (K : PySem.W.Frag) : Sp := fun vs H Q _ => ∃ (l R : Addr) (as : List Addr) (n : Nat) (L : List (Int × Int)), vs = [.ref l, .ref R, .int 10] ∧ BoxAt H l ∧ LRows H R as n L ∧ R ≠ l ∧ (∀ a ∈ as, a ≠ l) ∧ GoodWeb n L ∧ 2 ≤ n ∧ n ≤ 40 ∧
  ∀ w v' H', w.length ≤ 10 → (∀ S : Setg, S.rows = rowsC n L → IsWalk S (-1) w) → (∀ b ∈ w, 0 ≤ b ∧ b < (n : Int)) → Is K H' v' (tI w) → BoxAt H' l → But l H H' → Q v' H'
section
variable {K : PySem.W.Frag} {σ : L2.St} {H : Hp} {te : TE} {tt : TT} {wi : TI} {i : Nat}
theorem gv_lcRngN {lo : Int} {n : Nat} {f : V → Option D} (hw : ∀ H1, Same H H1 → ∀ R, (∀ H2, Same H1 H2 → R (Itr lo n) H2) → wi σ H1 R) (hn : n ≤ 100000) (T : ∀ H', Same H H' → ∀ k, k < n → CTurn K σ H' tt te i f (.int (lo + (k : Nat)))) :
    Gv (tLc wi (gName i) tt te [i]) σ H (PLn K H (((List.range n).map fun k => V.int (lo + (k : Nat))).filterMap f)) := by
  intro H1 s Q q
  refine hw H1 s _ fun H2 s2 => ?_
  intro Dd hD
  have hl : ((List.range n).map fun k => V.int (lo + (k : Nat))).length = n := by simp
  refine lc_range (lo := lo) (n := n) (fun j Hc => Same H2 Hc ∧ ∃ acc, Hc Dd = some (.lst acc) ∧ IsAll K Hc acc ((((List.range n).map fun k => V.int (lo + (k : Nat))).take j).filterMap f)) ⟨Same.new hD, [], upd_same, .nil⟩ (fun j Hc hj p => ?_) fun Hc p => ?_
  · exact turn_run (by rw [hl]; exact hn) hD (by simp [hj]) (T H2 (s.trans s2) j hj) p
  · obtain ⟨s3, acc, ha, hi⟩ := p
    rw [List.take_of_length_le (by rw [hl]; exact Nat.le_refl _)] at hi
    exact q _ Hc (s2.trans s3) ⟨Dd, acc, rfl, ha, hi, same_none (s.trans s2) hD⟩
end
section
variable {P : Program} {w : World} {K : PySem.W.Frag} {mg : Str → Option Value} {base : Heap} {C : Addr}
theorem rng_upto (n : Nat) : ((List.range n).map fun k => V.int (0 + (k : Nat))) = (upto n).map V.int := by
  unfold upto
  rw [List.map_map]
  refine List.map_congr_left fun k _ => ?_
  show V.int (0 + (k : Int)) = V.int (Int.ofNat k)
  rw [Int.zero_add]; rfl
abbrev N__law_beside : List Str := ["_law_web_here", "_law_rows", "_law_one", "_law_other"]
theorem sc__law_beside : FnScope N__law_beside ["_law_web_here"] (defScope (top 60)) := ⟨rfl, rfl, rfl, by decide +kernel, rfl, by decide +kernel, by decide +kernel⟩
theorem ok_law_beside (d : DefAt K mg "_law_beside" 60) (T : Tx mg) : Cal P w K mg base "_law_beside" 1 ["_law_web_here"] (spP (RBesideL K)) := by
  obtain ⟨f, fd, g, F⟩ := d
  refine ⟨f, fd, g, F.kp, F.binds fun _ _ _ _ _ _ us hl => match us, hl with | [_], _ => rfl, F.okX sc__law_beside (fun vs H Q E h => ?_) (fun cdv A outer s H vs Q E hr h => ?_)⟩
  · obtain ⟨_, ⟨v, n, L, rfl, _⟩, _⟩ := h; rfl
  · obtain ⟨_, ⟨v, n, L, rfl, hv, G, hn, hP⟩, q⟩ := h
    have hu66 := room66 hr
    refine ⟨_, 
        (pss_cons (ps_set (i := 1) sc__law_beside.nd rfl (Or.inl rfl) (pe_lst pa_nil)) 
        (pss_cons (ps_for (passes_of rfl) rfl (pi_range1 rfl T.range (pa_cons (pe_ix ix_tup (pv 0) pe_int (fun _ _ => rfl)) pa_nil)) (pg_name (i := 2) sc__law_beside.nd rfl (Or.inr rfl)) 
          (pss_one (ps_expr (pe_bm PySem.F.plainAttrs_list PySem.F.slot_list_append PySem.F.type_list_append mt_append (pv 1) (pa_cons (pe_lc (own := [("_law_other", 3)]) (g := gName 3) (tt := _) rfl sc__law_beside.nd (pi_range1 rfl T.range (pa_cons (pe_ix ix_tup (pv 0) pe_int (fun _ _ => rfl)) pa_nil)) (blkOk_by (N := N__law_beside) (sc := defScope (top 60)) (by decide +kernel)) (fun _ _ _ _ _ => (pg_name (i := 3) sc__law_beside.nd rfl (Or.inl rfl))) (fun _ _ _ _ _ => (pts_one (pt_cmpR (opK (r := fun K => rInN K false) <| op_inN hu66) (pe_tup (pa_cons (pe_callB (call_min2 rfl) rfl T.min boot_min' (pa_cons (pv 2) (pa_cons (pv 3) pa_nil))) (pa_cons (pe_callB (call_max2 rfl) rfl T.max boot_max' (pa_cons (pv 2) (pa_cons (pv 3) pa_nil))) pa_nil))) (pe_ix (ixK (r := rIxT) ix_tup) (pv 0) pe_int (fun _ _ => rfl)) (by rfl)))) (fun _ _ _ _ _ => (pv 3))) pa_nil))))) 
        (pss_one (ps_ret (pv 1))))), ?_⟩
    have gw : ∀ {σ : L2.St} {H' : Hp}, σ[0]? = some (some v) → Same H H' → Gv (tVar 0) σ H' (PD K (webD n L)) := fun e s => gv_d e (hv.mono (.of s))
    have g0 : ∀ {σ : L2.St} {H' : Hp}, σ[0]? = some (some v) → Same H H' → Gv (tOp (rIxT K) (tVar 0) (tC (.int 0))) σ H' (PV (.int (n : Int))) := fun e s => (gv_ixT (d := .num (n : Int)) (gw e s) gv_c rfl).int
    have g1 : ∀ {σ : L2.St} {H' : Hp}, σ[0]? = some (some v) → Same H H' → Gv (tOp (rIxT K) (tVar 0) (tC (.int 1))) σ H' (PD K (.tup (L.map prD))) := fun e s => gv_ixT (d := .tup (L.map prD)) (gw e s) gv_c rfl
    refine seq_in (asg_in (lst_run fun R hR => ?_))
    dsimp only
    have s1 : Same H (upd H R (.lst [])) := Same.new hR
    refine seq_in ?_
    refine wi_rng1 (ga_one (g0 (σ := [some v, some (.ref R), none, none]) rfl s1) up_V) (by omega) (by omega) _ (Same.refl _) _ fun H2 s2 => ?_
    have ntn : ((n : Nat) : Int).toNat = n := by omega
    refine for_range (lo := 0) (n := ((n : Nat) : Int).toNat) (fun k σ H' => ∃ (x2 x3 : Option V) (as : List Addr), σ = [some v, some (.ref R), x2, x3] ∧ Same H H' ∧ H' R = some (.lst (as.map V.ref)) ∧ as.length = k ∧ (∀ (m : Nat) a, as[m]? = some a → H' a = some (.lst ((rowOf n L m).map V.int)) ∧ a ≠ R ∧ H a = none))
      ⟨none, none, [], rfl, s1.trans s2, s2 _ _ upd_same, rfl, fun m a h => by simp at h⟩ (fun k σ H' hk pp => ?_) fun σ H' pp => ?_
    · obtain ⟨x2, x3, as, rfl, s3, hRl, hlen, hrow⟩ := pp
      rw [ntn] at hk
      have e0 : (0 : Int) + (k : Int) = k := by omega
      rw [e0]
      have body : Gv (tLc (iRng1 (tCons (tOp (rIxT K) (tVar 0) (tC (.int 0))) tNil)) (gName 3) (tTest (tOp (rInN K false) (tTup (tCons (tCB (fun xs H Q => ∃ i j, xs = [.int i, .int j] ∧ Q (.int (if j < i then j else i)) H) (tCons (tVar 2) (tCons (tVar 3) tNil))) (tCons (tCB (fun xs H Q => ∃ i j, xs = [.int i, .int j] ∧ Q (.int (if j > i then j else i)) H) (tCons (tVar 2) (tCons (tVar 3) tNil))) tNil))) (tOp (rIxT K) (tVar 0) (tC (.int 1))))) (tVar 3) [3]) [some v, some (.ref R), some (.int (k : Int)), x3] H' (PLn K H' ((((List.range n).map fun k => V.int (0 + (k : Nat))).filterMap (pickI fun j => adj L k j)))) := by
        have w1 := wi_rng1 (σ := [some v, some (.ref R), some (.int (k : Int)), x3]) (H := H') (ga_one (g0 rfl s3) up_V) (by omega) (by omega)
        rw [ntn] at w1
        refine gv_lcRngN w1 (by omega) fun H4 s4 j hj H5 s5 => ?_
        have e1 : (0 : Int) + (j : Int) = j := by omega
        rw [e1]
        refine ⟨adj L k j, ?_, fun e => ⟨.num j, if_pos e, gv_d (v := .int (j : Int)) rfl (.num _)⟩, fun e => if_neg (by show ¬ adj L k j = true; rw [e]; decide)⟩
        refine (gt_test (b := decide ((min (k : Int) (j : Int), max (k : Int) (j : Int)) ∈ L)) (gv_op (Pa := PD K (tI [min (k : Int) j, max (k : Int) j])) (gv_tup (gd_cons (gv_min (gv_v (v := .int (k : Int)) rfl) (gv_v (v := .int (j : Int)) rfl)).num (gd_cons (gv_max (gv_v (v := .int (k : Int)) rfl) (gv_v (v := .int (j : Int)) rfl)).num gd_nil))) (g1 rfl (s3.trans (s4.trans s5))) up_D fun x y H6 Q hx hy q => ?_)).cast (G.adj_eq k j).symm
        obtain ⟨p, xs, rfl, t, i⟩ := hy.tup_inv
        refine ⟨_, p, xs, _, hx, rfl, .inr t.seq, i, nt_tI _, ntAll_of fun d hd => ?_, by rw [depth_tI]; decide, ?_⟩
        · obtain ⟨z, _, rfl⟩ := List.mem_map.mp hd; exact nt_tI _
        · have e : decide (tI [min (k : Int) j, max (k : Int) j] ∈ L.map prD) = decide ((min (k : Int) (j : Int), max (k : Int) (j : Int)) ∈ L) := by
            refine decide_eq_decide.mpr ⟨fun h => ?_, fun h => List.mem_map.mpr ⟨_, h, rfl⟩⟩
            obtain ⟨z, hz, ez⟩ := List.mem_map.mp h
            have := prD_inj (p := z) (q := (min (k : Int) j, max (k : Int) j)) ez
            rw [← this]; exact hz
          show Q (.bl (decide (tI [min (k : Int) j, max (k : Int) j] ∈ L.map prD))) H6
          rw [e]
          exact q _ H6 (Same.refl _) rfl
      refine app_run (l := R) (gv_v rfl) hRl body (by rw [List.length_map]; omega) fun y H4 s4 hy => ?_
      obtain ⟨a, xs, rfl, ha, hi, hna⟩ := hy
      rw [rng_upto, pick_filter] at hi
      have hxs := ints_of hi
      subst hxs
      have hRl4 := s4 _ _ hRl
      have nRa : a ≠ R := (ne_of_none hRl hna).symm
      refine ⟨_, _, as ++ [a], rfl, same_wr (s3.trans s4) hR, by rw [upd_same, List.map_append]; rfl, by simp [hlen], fun m b hb => ?_⟩
      rcases Nat.lt_or_ge m as.length with h | h
      · rw [List.getElem?_append_left h] at hb
        obtain ⟨h1, h2, h3⟩ := hrow m b hb
        exact ⟨by rw [upd_ne h2]; exact s4 _ _ h1, h2, h3⟩
      · rw [List.getElem?_append_right h] at hb
        have : b = a ∧ m = k := by
          cases e : m - as.length with
          | zero => rw [e] at hb; exact ⟨by simpa using hb.symm, by omega⟩
          | succ z => rw [e] at hb; simp at hb
        obtain ⟨rfl, rfl⟩ := this
        exact ⟨by rw [upd_ne nRa]; exact ha, nRa, same_none s3 hna⟩
    · obtain ⟨x2, x3, as, rfl, s3, hRl, hlen, hrow⟩ := pp
      rw [ntn] at hlen
      refine Gv.run (gv_v (i := 1) (v := .ref R) rfl) fun v' H4 s4 e => q v' H4 (s3.trans s4) (hP _ _ ⟨R, as, e, ⟨s4 _ _ hRl, hlen, fun m a h => s4 _ _ (hrow m a h).1⟩, hR, fun a ha => ?_⟩)
      obtain ⟨m, hm⟩ := List.mem_iff_getElem?.mp ha
      exact (hrow m a hm).2.2
abbrev N__law_walk : List Str := ["_law_box_here", "_law_rows", "_law_most", "_law_walk_here", "_law_turn"]
theorem sc__law_walk : FnScope N__law_walk ["_law_box_here", "_law_rows", "_law_most"] (defScope (top 61)) := ⟨rfl, rfl, rfl, by decide +kernel, rfl, by decide +kernel, by decide +kernel⟩
theorem ok_law_walk (d : DefAt K mg "_law_walk" 61) (T : Tx mg) (c__law_take : Cal P w K mg base "_law_take" 1 ["_law_box_here", "_law_many"] spTake) (c__law_pick : Cal P w K mg base "_law_pick" 2 ["_law_box_here", "_law_some"] spPick) : Cal P w K mg base "_law_walk" 3 ["_law_box_here", "_law_rows", "_law_most"] (spWalkL K) := by
  obtain ⟨f, fd, g, F⟩ := d
  refine ⟨f, fd, g, F.kp, F.binds fun _ _ _ _ _ _ us hl => match us, hl with | [_, _, _], _ => rfl, F.okX sc__law_walk (fun vs H Q E h => ?_) (fun cdv A outer s H vs Q E hr h => ?_)⟩
  · obtain ⟨l, R, as, n, L, rfl, _⟩ := h; rfl
  · obtain ⟨l, R, as, n, L, rfl, hb, ⟨hR, hlen, hrow⟩, nRl, nal, G, h2, h40, q⟩ := h
    refine ⟨_, 
        (pss_cons (ps_set (i := 3) sc__law_walk.nd rfl (Or.inl rfl) (pe_lst (pa_cons (pe_cal c__law_take (hr.mono (by decide)) (pa_cons (pv 0) (pa_cons (pe_callB cr_lenS rfl T.len boot_len' (pa_cons (pv 1) pa_nil)) pa_nil))) pa_nil))) 
        (pss_cons (ps_for (passes_of rfl) rfl (pi_range1 rfl T.range (pa_cons (pe_cal c__law_take (hr.mono (by decide)) (pa_cons (pv 0) (pa_cons (pv 2) pa_nil))) pa_nil)) (pg_name (i := 4) sc__law_walk.nd rfl (Or.inl rfl)) 
          (pss_one (ps_expr (pe_bm PySem.F.plainAttrs_list PySem.F.slot_list_append PySem.F.type_list_append mt_append (pv 3) (pa_cons (pe_cal c__law_pick (hr.mono (by decide)) (pa_cons (pv 0) (pa_cons (pe_ix ix_list (pv 1) (pe_ix ix_list (pv 3) (pe_un un_neg pe_int) (fun _ _ => rfl)) (fun _ _ => rfl)) pa_nil))) pa_nil))))) 
        (pss_one (ps_ret (pe_callTy cr_tupOf rfl T.tuple boot_tuple' (pa_cons (pv 3) pa_nil)))))), ?_⟩
    have hRows : ∀ {H' : Hp}, But l H H' → H' R = some (.lst (as.map V.ref)) := fun f => f _ _ hR nRl
    -- the first touch
    refine seq_in (asg_in ?_)
    refine take_run (l := l) (m := (n : Int)) (gv_v rfl) ((gv_lenSL (K := K) (a := R) (xs := as.map V.ref) (gv_v rfl) fun H' s => SqL.of (s _ _ hR)).imp fun v' H' e => by rw [e, List.length_map, hlen]) hb (by omega) (by omega) fun k1 H1 k10 k1n hb1 f1 => ?_
    refine ⟨by show 1 ≤ sizeLine; decide, fun wl hwl => ?_⟩
    have hw0 : H wl = none := But.free hb1 f1 hwl
    have nwl : l ≠ wl := hb1.ne hwl
    have f2 : But l H (upd H1 wl (.lst [.int k1])) := f1.upd hw0
    have hb2 : BoxAt (upd H1 wl (.lst [.int k1])) l := hb1.same (Same.new hwl)
    dsimp only
    -- how many more
    refine seq_in ?_
    refine take_run (l := l) (m := 10) (σ := [some (.ref l), some (.ref R), some (.int 10), some (.ref wl), none]) (gv_v rfl) (gv_v rfl) hb2 (by decide) (by decide) fun k H3 k0 k9 hb3 f3 => ?_
    have fH3 := f2.trans f3
    have hwl3 : H3 wl = some (.lst [.int k1]) := f3 _ _ upd_same (Ne.symm nwl)
    refine ⟨k, rfl, by omega, by omega, ?_⟩
    refine for_range (lo := 0) (n := k.toNat) (fun m σ H' => ∃ (x4 : Option V) (w : List Int), σ = [some (.ref l), some (.ref R), some (.int 10), some (.ref wl), x4] ∧ BoxAt H' l ∧ But l H H' ∧ H' wl = some (.lst (w.map V.int)) ∧ w.length = m + 1 ∧ (∀ S : Setg, S.rows = rowsC n L → IsWalk S (-1) w) ∧ (∀ b ∈ w, 0 ≤ b ∧ b < (n : Int)))
      ⟨none, [k1], rfl, hb3, fH3, hwl3, rfl, fun S hS => ?_, fun b hbm => by simp at hbm; subst hbm; exact ⟨k10, k1n⟩⟩ (fun m σ H' hm pp => ?_) fun σ H' pp => ?_
    · refine ⟨?_, trivial⟩
      unfold follow
      rw [if_pos rfl]
      show k1 ∈ upto S.n
      have : S.n = n := by show S.rows.length = n; rw [hS, rowsC_len]
      rw [this]
      exact upto_mem.mpr ⟨k10, k1n⟩
    · obtain ⟨x4, w, rfl, hbm, fm, hwm, hwlen, hwalk, hrng⟩ := pp
      obtain ⟨w0, b, rfl⟩ : ∃ w0 b, w = w0 ++ [b] := by
        refine ⟨w.dropLast, w.getLast (fun z => by rw [z] at hwlen; simp at hwlen), (List.dropLast_concat_getLast _).symm⟩
      have hbr := hrng b (by simp)
      obtain ⟨j, rfl⟩ : ∃ j : Nat, b = j := ⟨b.toNat, by omega⟩
      have hjn : j < as.length := by omega
      obtain ⟨a, ha⟩ : ∃ a, as[j]? = some a := ⟨_, List.getElem?_eq_getElem hjn⟩
      have haH := hrow j a ha
      have nla := nal a (List.mem_of_getElem? ha)
      have hRm := hRows fm
      have ham : H' a = some (.lst ((rowOf n L j).map V.int)) := fm _ _ haH nla
      refine drop_in ⟨_, rfl, .inl ⟨rfl, _, SqL.of hwm⟩, ?_⟩
      have gix : Gv (tOp (rIxL K) (tVar 1) (tOp (rIxL K) (tVar 3) (tUn (rU fun i => .int (-i)) (tC (.int 1))))) [some (.ref l), some (.ref R), some (.int 10), some (.ref wl), some (V.int (0 + (m : Int)))] H' (fun v' H'' => ∃ s, v' = .ref s ∧ H'' s = some (.lst ((rowOf n L j).map V.int)) ∧ s ≠ l) := fun H5 s5 Q q5 =>
        gv_ixLV (a := R) (xs := as.map V.ref) (k := (j : Int)) (v := .ref a) (gv_v rfl) (s5 _ _ hRm) (gv_ixLV (a := wl) (xs := (w0 ++ [(j : Int)]).map V.int) (k := -1) (gv_v rfl) (s5 _ _ hwm) (gv_neg gv_c) (by rw [List.map_append]; exact atI_last _ _)) (atI_nat (by rw [List.getElem?_map, ha]; rfl)) H5 (Same.refl _) Q fun v' H6 s6 e => q5 v' H6 s6 ⟨a, e, s6 _ _ (s5 _ _ ham), nla⟩
      refine pick_run (l := l) (gv_v rfl) gix hbm (by
        intro z
        exact G.row_ne h2 (by omega) (List.map_eq_nil_iff.mp z)) (by rw [List.length_map]; exact Nat.le_trans (List.length_filter_le _ _) (by rw [upto_len]; omega)) fun y H5 hy hb5 f5 => ?_
      obtain ⟨b', hb', rfl⟩ := List.mem_map.mp hy
      have hb'm := List.mem_filter.mp hb'
      have hb'r := upto_mem.mp hb'm.1
      have hw5 : H5 wl = some (.lst ((w0 ++ [(j : Int)]).map V.int)) := f5 _ _ hwm (Ne.symm nwl)
      refine ⟨wl, _, _, rfl, rfl, hw5, by rw [List.length_map, hwlen, sizeLine_eq]; omega, ?_⟩
      have nlw : wl ≠ l := Ne.symm nwl
      refine ⟨_, w0 ++ [(j : Int)] ++ [b'], rfl, ?_, ?_, by rw [upd_same, List.map_append (l₂ := [b'])]; rfl, by rw [List.length_append, hwlen]; rfl, fun S hS => isWalk_snoc (hwalk S hS) ?_, fun c hc => ?_⟩
      · obtain ⟨a1, a2, a3, e⟩ := hb5
        exact ⟨a1, a2, a3, by rw [upd_ne nwl]; exact e⟩
      · exact (fm.trans f5).upd hw0
      · have e1 : (w0 ++ [(j : Int)]).getLastD (-1) = j := by simp [List.getLastD_eq_getLast?]
        rw [e1]
        unfold follow
        rw [if_neg (by omega), hS]
        have e2 : ((j : Nat) : Int).toNat = j := by omega
        rw [e2, List.getD_eq_getElem?_getD, rowsC_get (by omega)]
        exact hb'
      · rcases List.mem_append.mp hc with h | h
        · exact hrng c h
        · simp at h; subst h; exact hb'r
    · obtain ⟨x4, w, rfl, hbm, fm, hwm, hwlen, hwalk, hrng⟩ := pp
      refine ⟨_, rfl, wl, _, rfl, .inl ⟨SqL.of hwm, fun p hp => ?_⟩⟩
      refine q w _ _ (by omega) hwalk hrng (is_ints (.inl upd_same)) (hbm.same (Same.new hp)) (fm.upd (But.free hbm fm hp))
end
end K52
set_option maxHeartbeats 4000000
/-! The law's webs. -/
namespace K52
open PySem PySem.Spec PyProof.Rows L2
/-- a list of pairs at l0 -/
def LinksAt (K : PySem.W.Frag) (H : Hp) (a : Addr) (L : List (Int × Int)) : Prop := ∃ xs, H a = some (.lst xs) ∧ IsAll K H xs (L.map prD)
theorem LinksAt.same {K : PySem.W.Frag} {H H' : Hp} {a : Addr} {L : List (Int × Int)} (s : Same H H') (h : LinksAt K H a L) : LinksAt K H' a L := let ⟨xs, e, i⟩ := h; ⟨xs, s _ _ e, i.mono (.of s)⟩
theorem LinksAt.but {K : PySem.W.Frag} {H H' : Hp} {a l : Addr} {L : List (Int × Int)} (B : BoxAt H l) (f : But l H H') (n : a ≠ l) (h : LinksAt K H a L) : LinksAt K H' a L := let ⟨xs, e, i⟩ := h; ⟨xs, f _ _ e n, i.mono (f.ts B)⟩
def chain (lo : Int) (n : Nat) : List (Int × Int) := (List.range n).map fun k => (lo + (k : Nat) - 1, lo + (k : Nat))
theorem chain_good {n : Nat} (h : 2 ≤ n) (h4 : n ≤ 4) : GoodWeb n (chain 1 (n - 1)) := by
  refine ⟨fun p hp => ?_, fun b h1 h2 => ⟨b - 1, ?_⟩, by simp [chain]; omega⟩
  · obtain ⟨k, hk, rfl⟩ := List.mem_map.mp hp
    have := List.mem_range.mp hk
    simp only
    omega
  · refine List.mem_map.mpr ⟨(b - 1).toNat, List.mem_range.mpr (by omega), ?_⟩
    refine Prod.ext ?_ ?_
    · show (1 : Int) + ((b - 1).toNat : Int) - 1 = b - 1
      omega
    · show (1 : Int) + ((b - 1).toNat : Int) = b
      omega
theorem GoodWeb.add {n : Nat} {L : List (Int × Int)} (h : GoodWeb n L) {p : Int × Int} (hp : 0 ≤ p.1 ∧ p.1 < p.2 ∧ p.2 < (n : Int)) (hl : L.length + 1 ≤ 60) : GoodWeb n (L ++ [p]) := by
  refine ⟨fun q hq => ?_, fun b h1 h2 => ?_, by simpa using hl⟩
  · rcases List.mem_append.mp hq with h' | h'
    · exact h.lt q h'
    · simp at h'; subst h'; exact hp
  · obtain ⟨a, ha⟩ := h.low b h1 h2
    exact ⟨a, List.mem_append_left _ ha⟩
theorem alike_pairs (L : List (Int × Int)) : PySem.W.AllAlike ((L.map prD).map NestedKey.data) := by
  intro x hx y hy
  obtain ⟨x1, hx1, rfl⟩ := List.mem_map.mp hx
  obtain ⟨p, _, rfl⟩ := List.mem_map.mp hx1
  obtain ⟨y1, hy1, rfl⟩ := List.mem_map.mp hy
  obtain ⟨q, _, rfl⟩ := List.mem_map.mp hy1
  exact alike_ints [p.1, p.2] [q.1, q.2]
theorem prD_map_perm {L : List (Int × Int)} {ds : List D} (h : ds.Perm (L.map prD)) : ∃ M : List (Int × Int), M.Perm L ∧ ds = M.map prD := by
  have : ∀ (ds es : List D), ds.Perm es → ∀ L : List (Int × Int), es = L.map prD → ∃ M : List (Int × Int), M.Perm L ∧ ds = M.map prD := by
    intro ds es h
    induction h with
    | nil => intro L e; exact ⟨L, .refl _, e⟩
    | @cons x l1 l2 h ih =>
      intro L e
      cases L with
      | nil => cases e
      | cons p L =>
        rw [List.map_cons] at e
        obtain ⟨M, hM, rfl⟩ := ih L (List.cons.inj e).2
        exact ⟨p :: M, hM.cons p, by rw [List.map_cons, ← (List.cons.inj e).1]⟩
    | swap x y l =>
      intro L e
      cases L with
      | nil => cases e
      | cons p L => cases L with
        | nil => simp at e
        | cons q L =>
          rw [List.map_cons, List.map_cons] at e
          have e1 := List.cons.inj e
          have e2 := List.cons.inj e1.2
          exact ⟨q :: p :: L, List.Perm.swap p q L, by rw [List.map_cons, List.map_cons, e1.1, e2.1, e2.2]⟩
    | trans _ _ ih1 ih2 =>
      intro L e
      obtain ⟨M, hM, e'⟩ := ih2 L e
      obtain ⟨M', hM', e''⟩ := ih1 M e'
      exact ⟨M', hM'.trans hM, e''⟩
  exact this ds _ h L rfl
theorem seq_join {t u : L2.TS} {En : L2.Ends} {σ : L2.St} {H : Hp} (J : L2.St → Hp → Prop) (hj : ∀ σ' H', J σ' H' → u En σ' H') (h : ∀ N : L2.St → Hp → Prop, (∀ σ' H', J σ' H' → N σ' H') → t { En with nx := N } σ H) : tSeq t u En σ H := h (u En) hj
theorem BoxAt.nD {H : Hp} {l x : Addr} {o : HO} (h : BoxAt H l) (n : l ≠ x) : BoxAt (upd H x o) l := let ⟨a, b, c, e⟩ := h; ⟨a, b, c, by rw [upd_ne n]; exact e⟩
section
variable {P : Program} {w : World} {K : PySem.W.Frag} {mg : Str → Option Value} {base : Heap} {C : Addr}
abbrev N__law_web : List Str := ["_law_box_here", "_law_least_here", "_law_most", "_law_many", "_law_kind", "_law_links", "_law_at", "_law_other", "_law_one", "_law_turn"]
theorem sc__law_web : FnScope N__law_web ["_law_box_here", "_law_least_here", "_law_most"] (defScope (top 59)) := ⟨rfl, rfl, rfl, by decide +kernel, rfl, by decide +kernel, by decide +kernel⟩
theorem ok_law_web (d : DefAt K mg "_law_web" 59) (T : Tx mg) (c__law_take : Cal P w K mg base "_law_take" 1 ["_law_box_here", "_law_many"] spTake) (c__law_pick : Cal P w K mg base "_law_pick" 2 ["_law_box_here", "_law_some"] spPick) : Cal P w K mg base "_law_web" 3 ["_law_box_here", "_law_least_here", "_law_most"] (spWebL K) := by
  obtain ⟨f, fd, g, F⟩ := d
  refine ⟨f, fd, g, F.kp, F.binds fun _ _ _ _ _ _ us hl => match us, hl with | [_, _, _], _ => rfl, F.okX sc__law_web (fun vs H Q E h => ?_) (fun cdv A outer s H vs Q E hr h => ?_)⟩
  · obtain ⟨l, m, rfl, _⟩ := h; rfl
  · obtain ⟨l, m, rfl, hb, hm, q⟩ := h
    have hu66 := room66 hr
    refine ⟨_, 
        (pss_cons (ps_set (i := 3) sc__law_web.nd rfl (Or.inl rfl) (pe_op op_add (pv 1) (pe_cal c__law_take (hr.mono (by decide)) (pa_cons (pv 0) (pa_cons (pe_op op_add (pe_op op_sub (pv 2) (pv 1)) pe_int) pa_nil))))) 
        (pss_cons (ps_set (i := 4) sc__law_web.nd rfl (Or.inl rfl) (pe_cal c__law_take (hr.mono (by decide)) (pa_cons (pv 0) (pa_cons pe_int pa_nil)))) 
        (pss_cons (ps_setLc (i := 5) (own := [("_law_at", 6)]) (g := gName 6) (tt := tYes) rfl sc__law_web.nd rfl rfl (sw_true rfl rfl rfl (by decide +kernel)) (pi_range2 rfl T.range (pa_cons pe_int (pa_cons (pv 3) pa_nil))) (blkOk_by (N := N__law_web) (sc := defScope (top 59)) (by decide +kernel)) (fun _ _ _ _ _ => (pg_name (i := 6) sc__law_web.nd rfl (Or.inl rfl))) (fun _ _ _ _ _ => pts_nil) (fun _ _ _ _ _ => (pe_tup (pa_cons (pe_op op_sub (pv 6) pe_int) (pa_cons (pv 6) pa_nil))))) 
        (pss_cons (ps_if (PW.pt (pw_and (pt_cmpR op_eq (pv 4) pe_int (nomark _)) (pw_and1 (pt_cmpR op_gt (pv 3) pe_int (nomark _))))) 
          (pss_one (ps_set (i := 5) sc__law_web.nd rfl (Or.inl rfl) (pe_op op_cat (pv 5) (pe_lst (pa_cons (pe_tup (pa_cons pe_int (pa_cons (pe_op op_sub (pv 3) pe_int) pa_nil))) pa_nil))))) pss_nil) 
        (pss_cons (ps_if (pt_cmpR op_eq (pv 4) pe_int (nomark _)) 
          (pss_cons (ps_set (i := 5) sc__law_web.nd rfl (Or.inl rfl) (pe_lst pa_nil)) 
          (pss_one (ps_for (passes_of rfl) rfl (pi_range1 rfl T.range (pa_cons (pv 3) pa_nil)) (pg_name (i := 7) sc__law_web.nd rfl (Or.inr rfl)) 
            (pss_one (ps_expr (pe_bm PySem.F.plainAttrs_list PySem.F.slot_list_extend PySem.F.type_list_extend mt_extend (pv 5) (pa_cons (pe_lc (own := [("_law_one", 8)]) (g := gName 8) (tt := tYes) rfl sc__law_web.nd (pi_range1 rfl T.range (pa_cons (pv 7) pa_nil)) (blkOk_by (N := N__law_web) (sc := defScope (top 59)) (by decide +kernel)) (fun _ _ _ _ _ => (pg_name (i := 8) sc__law_web.nd rfl (Or.inl rfl))) (fun _ _ _ _ _ => pts_nil) (fun _ _ _ _ _ => (pe_tup (pa_cons (pv 8) (pa_cons (pv 7) pa_nil))))) pa_nil))))))) pss_nil) 
        (pss_cons (ps_if (pt_cmpR op_gt (pv 4) pe_int (nomark _)) 
          (pss_cons (ps_setLc (i := 5) (own := [("_law_at", 6)]) (g := gName 6) (tt := tYes) rfl sc__law_web.nd rfl rfl (sw_true rfl rfl rfl (by decide +kernel)) (pi_range2 rfl T.range (pa_cons pe_int (pa_cons (pv 3) pa_nil))) (blkOk_by (N := N__law_web) (sc := defScope (top 59)) (by decide +kernel)) (fun _ _ _ _ _ => (pg_name (i := 6) sc__law_web.nd rfl (Or.inl rfl))) (fun _ _ _ _ _ => pts_nil) (fun _ _ _ _ _ => (pe_tup (pa_cons (pe_cal c__law_take (hr.mono (by decide)) (pa_cons (pv 0) (pa_cons (pv 6) pa_nil))) (pa_cons (pv 6) pa_nil))))) 
          (pss_one (ps_for (passes_of rfl) rfl (pi_range1 rfl T.range (pa_cons (pe_cal c__law_pick (hr.mono (by decide)) (pa_cons (pv 0) (pa_cons (pe_lst (pa_cons pe_int (pa_cons pe_int (pa_cons pe_int (pa_cons pe_int (pa_cons pe_int pa_nil)))))) pa_nil))) pa_nil)) (pg_name (i := 9) sc__law_web.nd rfl (Or.inl rfl)) 
            (pss_cons (ps_asg (pe_tup (pa_cons (pe_cal c__law_take (hr.mono (by decide)) (pa_cons (pv 0) (pa_cons (pv 3) pa_nil))) (pa_cons (pe_cal c__law_take (hr.mono (by decide)) (pa_cons (pv 0) (pa_cons (pv 3) pa_nil))) pa_nil))) (pg_tup rfl (pgs_cons (pg_name (i := 8) sc__law_web.nd rfl (Or.inl rfl)) (pgs_cons (pg_name (i := 7) sc__law_web.nd rfl (Or.inr rfl)) pgs_nil)))) 
            (pss_one (ps_if (PW.pt (pw_and (pt_cmpR op_lt (pv 8) (pv 7) (nomark _)) (pw_and1 (pt_cmpR (op_notInN hu66) (pe_tup (pa_cons (pv 8) (pa_cons (pv 7) pa_nil))) (pv 5) (by rfl))))) 
              (pss_one (ps_expr (pe_bm PySem.F.plainAttrs_list PySem.F.slot_list_append PySem.F.type_list_append mt_append (pv 5) (pa_cons (pe_tup (pa_cons (pv 8) (pa_cons (pv 7) pa_nil))) pa_nil)))) pss_nil)))))) pss_nil) 
        (pss_one (ps_ret (pe_tup (pa_cons (pv 3) (pa_cons (pe_callTy cr_tupOf rfl T.tuple boot_tuple' (pa_cons (pe_callB (cr_sortedD hr.units) rfl T.sorted boot_sorted' (pa_cons (pv 5) pa_nil)) pa_nil)) pa_nil))))))))))), ?_⟩
    -- many
    refine seq_in (asg_in ⟨_, rfl, ?_⟩)
    refine take_run (l := l) (m := (m : Int) - 2 + 1) (gv_v rfl) (gv_opI (g := fun i j => .int (i + j)) (i := (m : Int) - 2) (j := 1) (gv_opI (g := fun i j => .int (i - j)) (i := (m : Int)) (j := 2) (gv_v rfl) (gv_v rfl)) gv_c) hb (by omega) (by omega) fun k1 H1 k10 k1m hb1 f1 => ?_
    refine ⟨2, k1, rfl, rfl, ?_⟩
    obtain ⟨n, hn⟩ : ∃ n : Nat, (2 : Int) + k1 = n := ⟨(2 + k1).toNat, by omega⟩
    dsimp only
    rw [hn]
    have n2 : 2 ≤ n := by omega
    have nm : n ≤ m := by omega
    have n4 : n ≤ 4 := by omega
    -- kind
    refine seq_in (asg_in ?_)
    refine take_run (l := l) (m := 8) (gv_v rfl) gv_c hb1 (by decide) (by decide) fun kd H2 _ _ hb2 f2 => ?_
    have f02 := f1.trans f2
    dsimp only
    show tSeq _ _ _ [some (.ref l), some (.int 2), some (.int (m : Int)), some (.int (n : Int)), some (.int kd), none, none, none, none, none] _
    -- the chain
    have gat : ∀ {x : Option V} {H' : Hp}, Gv (tLc (iRng2 (tCons (tC (.int 1)) (tCons (tVar 3) tNil))) (gName 6) tYes (tTup (tCons (tOp (rI0 fun i j => .int (i - j)) (tVar 6) (tC (.int 1))) (tCons (tVar 6) tNil))) [6]) [some (.ref l), some (.int 2), some (.int (m : Int)), some (.int (n : Int)), some (.int kd), x, none, none, none, none] H' (PLn K H' ((chain 1 (n - 1)).map prD)) := fun {x H'} => by
      have w1 := wi_rng2 (i := 1) (j := (n : Int)) (σ := [some (.ref l), some (.int 2), some (.int (m : Int)), some (.int (n : Int)), some (.int kd), x, none, none, none, none]) (H := H') (ga_two gv_c up_V (gv_v (i := 3) rfl) up_V) (by omega)
      have en : ((n : Int) - 1).toNat = n - 1 := by omega
      rw [en] at w1
      have h := gv_lcRngN (K := K) (i := 6) (tt := tYes) (te := tTup (tCons (tOp (rI0 fun i j => .int (i - j)) (tVar 6) (tC (.int 1))) (tCons (tVar 6) tNil))) (f := fun v => match v with | .int k => some (prD (k - 1, k)) | _ => none) w1 (by omega) fun H4 s4 k hk H5 s5 =>
        ⟨true, fun H6 s6 Q q => q H6 (Same.refl _), fun _ => ⟨_, rfl, gv_tup (gd_cons (gv_opI (g := fun i j => .int (i - j)) (i := 1 + (k : Int)) (j := 1) (gv_v rfl) gv_c).num (gd_cons (gv_v (v := .int (1 + (k : Int))) rfl).num gd_nil))⟩, fun e => by cases e⟩
      refine h.imp fun v' H6 z => ?_
      have e : ((List.range (n - 1)).map fun k => V.int (1 + (k : Nat))).filterMap (fun v => match v with | .int k => some (prD (k - 1, k)) | _ => none) = (chain 1 (n - 1)).map prD := by
        unfold chain
        rw [List.filterMap_map, List.map_map]
        generalize List.range (n - 1) = rr
        induction rr with
        | nil => rfl
        | cons a as ih => rw [List.filterMap_cons, List.map_cons, ← ih]; rfl
      rw [e] at z
      exact z
    refine seq_in (asg_in (gat.run fun x H3 s3 hx => ?_))
    obtain ⟨c0, xs0, rfl, hc0, hi0, hn0⟩ := hx
    have hL0 : LinksAt K H3 c0 (chain 1 (n - 1)) := ⟨xs0, hc0, hi0⟩
    have hb3 := hb2.same s3
    have f03 := f02.trans (.of s3)
    have nc0 : c0 ≠ l := (hb2.ne hn0).symm
    have G0 := chain_good n2 n4
    have clen : (chain 1 (n - 1)).length ≤ 3 := by simp [chain]; omega
    dsimp only
    show tSeq _ _ _ [some (.ref l), some (.int 2), some (.int (m : Int)), some (.int (n : Int)), some (.int kd), some (.ref c0), none, none, none, none] _
    -- what every way ends in
    have last : ∀ (c : Addr) (L : List (Int × Int)) (H' : Hp) (x6 x7 x8 x9 : Option V), GoodWeb n L → LinksAt K H' c L → BoxAt H' l → But l H H' →
        tRet (tTup (tCons (tVar 3) (tCons (tCB (rTupOf K) (tCons (tCB (rSortedD K) (tCons (tVar 5) tNil)) tNil)) tNil))) { nx := fun _ H' => Q .non H', rt := Q } [some (.ref l), some (.int 2), some (.int (m : Int)), some (.int (n : Int)), some (.int kd), some (.ref c), x6, x7, x8, x9] H' := fun c L H' x6 x7 x8 x9 G hL hb' f' => by
      obtain ⟨xs, hc, hi⟩ := hL
      have gs : Gv (tCB (rSortedD K) (tCons (tVar 5) tNil)) [some (.ref l), some (.int 2), some (.int (m : Int)), some (.int (n : Int)), some (.int kd), some (.ref c), x6, x7, x8, x9] H' (fun v' H'' => ∃ M : List (Int × Int), PL K (M.map prD) v' H'' ∧ M.Perm L) :=
        gv_call1 (gv_var (P := PL K (L.map prD)) (v := .ref c) rfl ⟨c, xs, rfl, hc, hi⟩ up_L) fun x H'' Q hx q => by
          obtain ⟨c', ys, rfl, h1, h2⟩ := hx
          refine ⟨c', ys, L.map prD, rfl, h1, h2, alike_pairs L, .inl fun d hd => ?_, fun d hd => ?_, fun p ys' ds' hp hperm hi' => ?_⟩
          · obtain ⟨e, he, rfl⟩ := List.mem_map.mp hd
            obtain ⟨z, _, rfl⟩ := List.mem_map.mp he
            exact ⟨_, _, rfl⟩
          · obtain ⟨z, _, rfl⟩ := List.mem_map.mp hd
            show (tI [z.1, z.2]).depth ≤ 60
            rw [depth_tI]; decide
          · obtain ⟨M, hM, rfl⟩ := prD_map_perm hperm
            exact q _ _ (Same.new hp) ⟨M, ⟨p, _, rfl, upd_same, hi'.mono (.of (Same.new hp))⟩, hM⟩
      refine Gv.run (gv_tup2X (g := fun M : List (Int × Int) => .tup (M.map prD)) (R := fun M => M.Perm L) (gv_v (i := 3) (v := .int (n : Int)) rfl).num (gv_tupLX gs)) fun v' H'' s' h' => ?_
      obtain ⟨M, hM, hp⟩ := h'
      exact q n M v' H'' n2 nm (G.perm hp) hM (hb'.same s') (f'.trans (.of s'))
    -- the ways meet
    let J : L2.St → Hp → Prop := fun σ' H' => ∃ (c : Addr) (L : List (Int × Int)) (x6 x7 x8 x9 : Option V), σ' = [some (.ref l), some (.int 2), some (.int (m : Int)), some (.int (n : Int)), some (.int kd), some (.ref c), x6, x7, x8, x9] ∧ GoodWeb n L ∧ L.length ≤ 40 ∧ LinksAt K H' c L ∧ BoxAt H' l ∧ But l H H' ∧ c ≠ l ∧ H c = none
    have hc0 : H c0 = none := But.free hb2 f02 hn0
    have J0 : J [some (.ref l), some (.int 2), some (.int (m : Int)), some (.int (n : Int)), some (.int kd), some (.ref c0), none, none, none, none] H3 := ⟨c0, _, _, _, _, _, rfl, G0, by omega, hL0, hb3, f03, nc0, hc0⟩
    have Jsame : ∀ {σ' H' H''}, J σ' H' → Same H' H'' → J σ' H'' := fun ⟨c, L, x6, x7, x8, x9, e, G, ll, a, b, f, n1, n2⟩ s => ⟨c, L, x6, x7, x8, x9, e, G, ll, a.same s, b.same s, f.trans (.of s), n1, n2⟩
    refine seq_join J (fun σ4 H4 j4 => ?_) fun N hN => ?_
    -- kind == 2
    · refine seq_join J (fun σ5 H5 j5 => ?_) fun N hN => ?_
      -- kind > 2
      · refine seq_join J (fun σ6 H6 j6 => ?_) fun N hN => ?_
        · obtain ⟨c, L, x6, x7, x8, x9, rfl, G, ll, a, b, f, n1, n2⟩ := j6
          exact last c L H6 x6 x7 x8 x9 G a b f
        · obtain ⟨c, L, x6, x7, x8, x9, rfl, G, ll, a, b, f, n1, n2⟩ := id j5
          refine Gt.run (gt_test (gv_opI (g := fun i j => .bl (decide (j < i))) (i := kd) (j := 2) (gv_v rfl) gv_c)) fun H6 s6 => ?_
          have j6 := Jsame j5 s6
          by_cases hk : 2 < kd
          · rw [if_pos (by simpa using hk)]
            have b6 := b.same s6
            have f6 := f.trans (But.of (l := l) s6)
            -- links drawn
            refine seq_in (asg_in (lc_in ?_))
            have w1 := wi_rng2 (i := 1) (j := (n : Int)) (σ := [some (.ref l), some (.int 2), some (.int (m : Int)), some (.int (n : Int)), some (.int kd), some (.ref c), x6, x7, x8, x9]) (H := H6) (ga_two gv_c up_V (gv_v (i := 3) rfl) up_V) (by omega)
            refine w1 H6 (Same.refl _) _ fun H7 s7 => ?_
            intro Dd hD
            have b7 := b6.same s7
            have f7 := f6.trans (But.of (l := l) s7)
            have nD := b7.ne hD
            have hD0 : H Dd = none := But.free b7 f7 hD
            have en : ((n : Int) - 1).toNat = n - 1 := by omega
            refine lc_range (lo := 1) (n := ((n : Int) - 1).toNat) (fun j Hc => BoxAt Hc l ∧ But l H Hc ∧ ∃ M : List (Int × Int), LinksAt K Hc Dd M ∧ M.length = j ∧ (∀ p ∈ M, 0 ≤ p.1 ∧ p.1 < p.2 ∧ p.2 < 1 + (j : Int)) ∧ (∀ b : Int, 1 ≤ b → b < 1 + (j : Int) → ∃ a, (a, b) ∈ M))
              ⟨b7.same (Same.new hD), f7.upd hD0, [], ⟨[], upd_same, .nil⟩, rfl, (fun _ h => by cases h), fun b h1 h2 => by omega⟩ (fun j Hc hj p => ?_) fun Hc p => ?_
            · obtain ⟨bc, fc, M, ⟨xs, hxs, hxi⟩, hM, hlt, hlow⟩ := p
              refine ⟨wipe1, ?_⟩
              unfold tYes
              simp only [if_true]
              -- (take(.., at), at)
              refine take_run (l := l) (m := 1 + (j : Int)) (gv_v rfl) (gv_v rfl) bc (by omega) (by omega) fun k H8 k0 k1 b8 f8 => ?_
              refine ⟨_, rfl, by show 2 ≤ sizeLine; decide, fun p hp => ?_⟩
              have x8 := f8 _ _ hxs (Ne.symm nD)
              have npD : Dd ≠ p := ne_of_none x8 hp
              have fp : But l H (upd H8 p (.tup [.int k, .int (1 + (j : Int))])) := (fc.trans f8).upd (But.free b8 (fc.trans f8) hp)
              have bp : BoxAt (upd H8 p (.tup [.int k, .int (1 + (j : Int))])) l := b8.same (Same.new hp)
              have xp : (upd H8 p (.tup [.int k, .int (1 + (j : Int))])) Dd = some (.lst xs) := by rw [upd_ne npD]; exact x8
              have tD := TS.lst (o := .lst (xs ++ [.ref p])) xp
              refine ⟨xs, xp, by rw [hxi.length, List.length_map, hM, sizeLine_eq]; omega, bp.nD nD, ?_, M ++ [(k, 1 + (j : Int))], ⟨_, upd_same, ?_⟩, by simp [hM], fun q hq => ?_, fun b h1 h2 => ?_⟩
              · exact fp.upd hD0
              · rw [List.map_append]
                refine (((hxi.mono (f8.ts bc)).mono (.of (Same.new hp))).mono tD).append (.cons ?_ .nil)
                exact Is.mono tD (show Is K _ (.ref p) (tI [k, 1 + (j : Int)]) from is_ints (.inl upd_same))
              · rcases List.mem_append.mp hq with h | h
                · have := hlt q h; omega
                · simp at h; subst h; simp only; omega
              · by_cases hb1' : b < 1 + (j : Int)
                · obtain ⟨a, ha⟩ := hlow b h1 hb1'
                  exact ⟨a, List.mem_append_left _ ha⟩
                · have : b = 1 + (j : Int) := by omega
                  subst this
                  exact ⟨k, List.mem_append_right _ (by simp)⟩
            · obtain ⟨bc, fc, M, hL, hM, hlt, hlow⟩ := p
              have hM3 : M.length ≤ 3 := by omega
              have GM : GoodWeb n M := ⟨fun p hp => by have := hlt p hp; omega, fun b h1 h2 => hlow b h1 (by omega), by omega⟩
              dsimp only
              show tFor _ _ _ _ [some (.ref l), some (.int 2), some (.int (m : Int)), some (.int (n : Int)), some (.int kd), some (.ref Dd), x6, x7, x8, x9] Hc
              -- turns
              have gl : Gv (tLst (tCons (tC (.int 0)) (tCons (tC (.int 1)) (tCons (tC (.int 1)) (tCons (tC (.int 2)) (tCons (tC (.int 3)) tNil)))))) [some (.ref l), some (.int 2), some (.int (m : Int)), some (.int (n : Int)), some (.int kd), some (.ref Dd), x6, x7, x8, x9] Hc (fun v' H' => ∃ s, v' = .ref s ∧ H' s = some (.lst ([0, 1, 1, 2, 3].map V.int)) ∧ s ≠ l) :=
                (gv_lstN (K := K) (ds := [.num 0, .num 1, .num 1, .num 2, .num 3]) (gd_cons (gv_num 0) (gd_cons (gv_num 1) (gd_cons (gv_num 1) (gd_cons (gv_num 2) (gd_cons (gv_num 3) gd_nil)))))).imp fun v' H' h => by
                  obtain ⟨s, ys, rfl, e, i, hn⟩ := h
                  have := ints_of (ns := [0, 1, 1, 2, 3]) i
                  subst this
                  exact ⟨s, rfl, e, (bc.ne hn).symm⟩
              refine pick_run (l := l) (gv_v rfl) gl bc (by simp) (by simp) fun v H8 hv b8 f8 => ?_
              obtain ⟨k, hk3, rfl⟩ := List.mem_map.mp hv
              have hk3 : k = 0 ∨ k = 1 ∨ k = 2 ∨ k = 3 := by simp at hk3; omega
              refine ⟨k, rfl, by omega, by omega, ?_⟩
              refine for_range (lo := 0) (n := k.toNat) (fun i σ' H' => ∃ (L : List (Int × Int)) (x7 x8 x9 : Option V), σ' = [some (.ref l), some (.int 2), some (.int (m : Int)), some (.int (n : Int)), some (.int kd), some (.ref Dd), x6, x7, x8, x9] ∧ GoodWeb n L ∧ L.length ≤ 3 + i ∧ LinksAt K H' Dd L ∧ BoxAt H' l ∧ But l H H')
                ⟨M, x7, x8, x9, rfl, GM, by omega, hL.but bc f8 (Ne.symm nD), b8, fc.trans f8⟩ (fun i σ' H' hi pp => ?_) fun σ' H' pp => ?_
              · obtain ⟨L, x7, x8, x9, rfl, G, ll, hL, b', f'⟩ := pp
                -- one, other
                refine seq_in ?_
                refine take_run (l := l) (m := (n : Int)) (σ := [some (.ref l), some (.int 2), some (.int (m : Int)), some (.int (n : Int)), some (.int kd), some (.ref Dd), x6, x7, x8, some (V.int (0 + (i : Int)))]) (gv_v rfl) (gv_v rfl) b' (by omega) (by omega) fun k1 H9 k10 k1n b9 f9 => ?_
                refine take_run (l := l) (m := (n : Int)) (σ := [some (.ref l), some (.int 2), some (.int (m : Int)), some (.int (n : Int)), some (.int kd), some (.ref Dd), x6, x7, x8, some (V.int (0 + (i : Int)))]) (gv_v rfl) (gv_v rfl) b9 (by omega) (by omega) fun k2 H10 k20 k2n b10 f10 => ?_
                refine ⟨by show 2 ≤ sizeLine; decide, fun tp htp => ?_⟩
                have f11 := (f'.trans f9).trans f10
                have st : Same H10 (upd H10 tp (.tup [.int k1, .int k2])) := Same.new htp
                refine gtup2 (.inl upd_same) ?_
                dsimp only
                have L11 := ((hL.but b' f9 (Ne.symm nD)).but b9 f10 (Ne.symm nD)).same st
                have b11 := b10.same st
                have f12 : But l H (upd H10 tp (.tup [.int k1, .int k2])) := f11.trans (But.of (l := l) st)
                obtain ⟨ys, hys, hyi⟩ := id L11
                have gtest : Gt (tAnd (tTest (tOp (rI0 fun i j => .bl (decide (i < j))) (tVar 8) (tVar 7))) (tTest (tOp (rInN K true) (tTup (tCons (tVar 8) (tCons (tVar 7) tNil))) (tVar 5)))) [some (.ref l), some (.int 2), some (.int (m : Int)), some (.int (n : Int)), some (.int kd), some (.ref Dd), x6, some (.int k2), some (.int k1), some (V.int (0 + (i : Int)))] (upd H10 tp (.tup [.int k1, .int k2])) (decide (k1 < k2) && !decide (prD (k1, k2) ∈ L.map prD)) :=
                  gt_and (gt_test (gv_opI (i := k1) (j := k2) (gv_v rfl) (gv_v rfl))) fun _ => gt_test (gv_op (Pa := PD K (prD (k1, k2))) (Pb := PL K (L.map prD)) (gv_tup (gd_cons (gv_v (v := .int k1) rfl).num (gd_cons (gv_v (v := .int k2) rfl).num gd_nil))) (gv_var (v := .ref Dd) rfl ⟨Dd, ys, rfl, hys, hyi⟩ up_L) up_D fun x y H' Q hx hy q => by
                    obtain ⟨p, zs, rfl, h1, h2⟩ := hy
                    exact ⟨_, p, zs, _, hx, rfl, .inl (SqL.of h1), h2, nt_tI _, ntAll_of fun d hd => (by obtain ⟨z, _, rfl⟩ := List.mem_map.mp hd; exact nt_tI _), (by show (tI [k1, k2]).depth ≤ 64; rw [depth_tI]; decide), q _ H' (Same.refl _) rfl⟩)
                refine gtest.run fun H13 s13 => ?_
                have b13 := b11.same s13
                have f13 := f12.trans (But.of (l := l) s13)
                have L13 := L11.same s13
                by_cases hlt : k1 < k2 ∧ prD (k1, k2) ∉ L.map prD
                · rw [if_pos (by simp [hlt.1, hlt.2])]
                  obtain ⟨zs, hzs, hzi⟩ := id L13
                  refine app_run (l := Dd) (Pe := PD K (prD (k1, k2))) (gv_v rfl) hzs (gv_tup (gd_cons (gv_v (i := 8) (v := .int k1) rfl).num (gd_cons (gv_v (i := 7) (v := .int k2) rfl).num gd_nil))) (by rw [hzi.length, List.length_map]; omega) fun y H14 s14 hy => ?_
                  have z14 := s14 _ _ hzs
                  have tD := TS.lst (o := .lst (zs ++ [y])) z14
                  refine ⟨L ++ [(k1, k2)], _, _, _, rfl, G.add ⟨k10, hlt.1, k2n⟩ (by omega), by simp; omega, ⟨_, upd_same, ?_⟩, (b13.same s14).nD nD, (f13.trans (But.of (l := l) s14)).upd hD0⟩
                  rw [List.map_append]
                  exact ((hzi.mono (.of s14)).mono tD).append (.cons (hy.mono tD) .nil)
                · rw [if_neg (by
                    intro z
                    rw [Bool.and_eq_true] at z
                    exact hlt ⟨by simpa using z.1, by simpa using z.2⟩)]
                  exact next_in ⟨L, _, _, _, rfl, G, by omega, L13, b13, f13⟩
              · obtain ⟨L, x7, x8, x9, rfl, G, ll, hL, b', f'⟩ := pp
                exact hN _ _ ⟨Dd, L, _, _, _, _, rfl, G, by omega, hL, b', f', Ne.symm nD, hD0⟩
          · rw [if_neg (by simpa using hk)]
            exact next_in (hN _ _ j6)
      · obtain ⟨c, L, x6, x7, x8, x9, rfl, G, ll, a, b, f, n1, n2'⟩ := id j4
        refine Gt.run (gt_test (gv_eq (x := .int kd) (y := .int 2) (gv_v rfl) gv_c rfl)) fun H6 s6 => ?_
        have j6 := Jsame j4 s6
        by_cases hk : kd = 2
        · rw [if_pos (by rw [hk]; decide)]
          have b6 := b.same s6
          have f6 := f.trans (But.of (l := l) s6)
          refine seq_in (asg_in (lst_run fun Ld hLd => ?_))
          dsimp only
          show tFor _ _ _ _ [some (.ref l), some (.int 2), some (.int (m : Int)), some (.int (n : Int)), some (.int kd), some (.ref Ld), x6, x7, x8, x9] _
          have nLd := b6.ne hLd
          have hL0 : H Ld = none := But.free b6 f6 hLd
          refine wi_rng1 (ga_one (gv_v (σ := [some (.ref l), some (.int 2), some (.int (m : Int)), some (.int (n : Int)), some (.int kd), some (.ref Ld), x6, x7, x8, x9]) (H := upd H6 Ld (.lst [])) (i := 3) (v := .int (n : Int)) rfl) up_V) (by omega) (by omega) _ (Same.refl _) _ fun H7 s7 => ?_
          have en : ((n : Nat) : Int).toNat = n := by omega
          refine for_range (lo := 0) (n := ((n : Nat) : Int).toNat) (fun i σ' H' => ∃ (L : List (Int × Int)) (x7 x8 : Option V), σ' = [some (.ref l), some (.int 2), some (.int (m : Int)), some (.int (n : Int)), some (.int kd), some (.ref Ld), x6, x7, x8, x9] ∧ (∀ p ∈ L, 0 ≤ p.1 ∧ p.1 < p.2 ∧ p.2 < (i : Int)) ∧ (∀ b : Int, 1 ≤ b → b < (i : Int) → ∃ a, (a, b) ∈ L) ∧ L.length ≤ 4 * i ∧ LinksAt K H' Ld L ∧ BoxAt H' l ∧ But l H H')
            ⟨[], x7, x8, rfl, (fun _ h => by cases h), fun b h1 h2 => by omega, Nat.zero_le _, ⟨[], s7 _ _ upd_same, .nil⟩, (b6.same (Same.new hLd)).same s7, (f6.upd hL0).trans (But.of s7)⟩ (fun i σ' H' hi pp => ?_) fun σ' H' pp => ?_
          · obtain ⟨L, x7, x8, rfl, hlt, hlow, hll, hL, b', f'⟩ := pp
            rw [en] at hi
            have e0 : (0 : Int) + (i : Int) = i := by omega
            rw [e0]
            obtain ⟨ys, hys, hyi⟩ := id hL
            refine drop_in ⟨_, rfl, .inl ⟨rfl, _, SqL.of hys⟩, ?_⟩
            have w1 := wi_rng1 (σ := [some (.ref l), some (.int 2), some (.int (m : Int)), some (.int (n : Int)), some (.int kd), some (.ref Ld), x6, some (.int (i : Int)), x8, x9]) (H := H') (ga_one (gv_v (i := 7) (v := .int (i : Int)) rfl) up_V) (by omega) (by omega)
            have ei : ((i : Nat) : Int).toNat = i := by omega
            rw [ei] at w1
            have gc := gv_lcRngN (K := K) (i := 8) (tt := tYes) (te := tTup (tCons (tVar 8) (tCons (tVar 7) tNil))) (f := fun v => match v with | .int k => some (prD (k, (i : Int))) | _ => none) w1 (by omega) fun H4 s4 k hk H5 s5 =>
              ⟨true, fun H6 s6 Q q => q H6 (Same.refl _), fun _ => ⟨_, rfl, gv_tup (gd_cons (gv_v (v := .int (0 + (k : Int))) rfl).num (gd_cons (gv_v (v := .int (i : Int)) rfl).num gd_nil))⟩, fun e => by cases e⟩
            refine gc.run fun y H8 s8 hy => ?_
            obtain ⟨cb, zs, rfl, hzs, hzi, hzn⟩ := hy
            have ef : ((List.range i).map fun k => V.int (0 + (k : Nat))).filterMap (fun v => match v with | .int k => some (prD (k, (i : Int))) | _ => none) = ((List.range i).map fun k => ((0 + (k : Nat) : Int), (i : Int))).map prD := by
              rw [List.filterMap_map, List.map_map]
              generalize List.range i = rr
              induction rr with
              | nil => rfl
              | cons a as ih => rw [List.filterMap_cons, List.map_cons, ← ih]; rfl
            rw [ef] at hzi
            have y8 := s8 _ _ hys
            have zl : zs.length = i := by rw [hzi.length]; simp
            refine ⟨Ld, cb, ys, zs, rfl, rfl, y8, hzs, by rw [hyi.length, List.length_map, zl, sizeLine_eq]; omega, ?_⟩
            have tD := TS.lst (o := .lst (ys ++ zs)) y8
            refine ⟨L ++ (List.range i).map fun k => ((0 + (k : Nat) : Int), (i : Int)), _, _, rfl, fun p hp => ?_, fun b h1 h2 => ?_, by rw [List.length_append, List.length_map, List.length_range]; omega, ⟨_, upd_same, ?_⟩, (b'.same s8).nD nLd, (f'.trans (But.of (l := l) s8)).upd hL0⟩
            · rcases List.mem_append.mp hp with h | h
              · have := hlt p h; omega
              · obtain ⟨k, hk, rfl⟩ := List.mem_map.mp h
                have := List.mem_range.mp hk
                simp only
                omega
            · by_cases hb1' : b < (i : Int)
              · obtain ⟨a, ha⟩ := hlow b h1 hb1'
                exact ⟨a, List.mem_append_left _ ha⟩
              · have : b = (i : Int) := by omega
                subst this
                exact ⟨0, List.mem_append_right _ (List.mem_map.mpr ⟨0, List.mem_range.mpr (by omega), by simp⟩)⟩
            · rw [List.map_append]
              exact ((hyi.mono (.of s8)).mono tD).append (hzi.mono tD)
          · obtain ⟨L, x7, x8, rfl, hlt, hlow, hll, hL, b', f'⟩ := pp
            rw [en] at hlt hlow hll
            exact hN _ _ ⟨Ld, L, _, _, _, _, rfl, ⟨hlt, hlow, by omega⟩, by omega, hL, b', f', Ne.symm nLd, hL0⟩
        · rw [if_neg (by
            intro z
            exact hk (V.int.inj (of_decide_eq_true z)))]
          exact next_in (hN _ _ j6)
    -- kind == 1
    · refine Gt.run (gt_and (gt_test (gv_eq (x := .int kd) (y := .int 1) (gv_v rfl) gv_c rfl)) fun _ => gt_test (gv_opI (g := fun i j => .bl (decide (j < i))) (i := (n : Int)) (j := 2) (gv_v rfl) gv_c)) fun H6 s6 => ?_
      have j6 := Jsame J0 s6
      cases hc : (decide (V.int kd = V.int 1) && decide ((2 : Int) < (n : Int))) with
      | false =>
        rw [if_neg (by decide)]
        exact next_in (hN _ _ j6)
      | true =>
        rw [if_pos rfl]
        obtain ⟨ys, hys, hyi⟩ := hL0.same s6
        have b6 := hb3.same s6
        have f6 := f03.trans (But.of (l := l) s6)
        have gc := gv_lstN (K := K) (σ := [some (.ref l), some (.int 2), some (.int (m : Int)), some (.int (n : Int)), some (.int kd), some (.ref c0), none, none, none, none]) (H := H6) (gd_cons (gv_tup (gd_cons (gv_num 0) (gd_cons (gv_opI (g := fun i j => .int (i - j)) (i := (n : Int)) (j := 1) (gv_v (i := 3) rfl) gv_c).num gd_nil))) gd_nil)
        refine asg_in ⟨_, rfl, gc.run fun y H7 s7 hy => ?_⟩
        obtain ⟨cb, zs, rfl, hzs, hzi, hzn⟩ := hy
        have y7 := s7 _ _ hys
        refine ⟨c0, cb, ys, zs, rfl, rfl, y7, hzs, by rw [hyi.length, hzi.length, List.length_map, sizeLine_eq]; show _ + 1 ≤ _; omega, fun p hp => ?_⟩
        have b7 := b6.same s7
        have f7 := f6.trans (But.of (l := l) s7)
        refine hN _ _ ⟨p, chain 1 (n - 1) ++ [(0, (n : Int) - 1)], _, _, _, _, rfl, G0.add (by simp only; omega) (by omega), by simp; omega, ⟨_, upd_same, ?_⟩, b7.same (Same.new hp), f7.upd (But.free b7 f7 hp), (b7.ne hp).symm, But.free b7 f7 hp⟩
        rw [List.map_append]
        exact ((hyi.mono (.of s7)).append hzi).mono (.of (Same.new hp))
end
end K52
set_option maxHeartbeats 4000000
/-! The law's own rule and mates. -/
namespace K52
open PySem PySem.Spec PyProof.Rows L2
theorem map_perm {α β : Type} (f : α → β) : ∀ {ds es : List β}, ds.Perm es → ∀ L : List α, es = L.map f → ∃ M : List α, M.Perm L ∧ ds = M.map f := by
  intro ds es h
  induction h with
  | nil => intro L e; exact ⟨L, .refl _, e⟩
  | @cons x l1 l2 h ih =>
    intro L e
    cases L with
    | nil => cases e
    | cons p L =>
      rw [List.map_cons] at e
      obtain ⟨M, hM, rfl⟩ := ih L (List.cons.inj e).2
      exact ⟨p :: M, hM.cons p, by rw [List.map_cons, ← (List.cons.inj e).1]⟩
  | swap x y l =>
    intro L e
    cases L with
    | nil => cases e
    | cons p L => cases L with
      | nil => simp at e
      | cons q L =>
        rw [List.map_cons, List.map_cons] at e
        have e1 := List.cons.inj e
        have e2 := List.cons.inj e1.2
        exact ⟨q :: p :: L, List.Perm.swap p q L, by rw [List.map_cons, List.map_cons, e1.1, e2.1, e2.2]⟩
  | trans _ _ ih1 ih2 =>
    intro L e
    obtain ⟨M, hM, e'⟩ := ih2 L e
    obtain ⟨M', hM', e''⟩ := ih1 M e'
    exact ⟨M', hM'.trans hM, e''⟩
def lmD (x : Int × List Int) : D := .tup [.num x.1, tI x.2]
theorem lmD_depth (x : Int × List Int) : (lmD x).depth ≤ 60 := by
  show max 0 (max (tI x.2).depth 0) + 1 ≤ 60
  rw [depth_tI]; decide
theorem alike_lm (R : List (Int × List Int)) : PySem.W.AllAlike ((R.map lmD).map NestedKey.data) := by
  intro x hx y hy
  obtain ⟨x1, hx1, rfl⟩ := List.mem_map.mp hx
  obtain ⟨p, _, rfl⟩ := List.mem_map.mp hx1
  obtain ⟨y1, hy1, rfl⟩ := List.mem_map.mp hy
  obtain ⟨q, _, rfl⟩ := List.mem_map.mp hy1
  show (true && (PySem.W.alikeAll (NestedKey.datas (p.2.map .num)) (NestedKey.datas (q.2.map .num)) && true)) = true
  rw [alike_ints]; rfl
def RCheap (K : PySem.W.Frag) : List V → Hp → (V → Hp → Prop) → Prop := fun vs H Pr => ∃ (v : V) (R : List (Int × List Int)), vs = [v] ∧ PL K (R.map lmD) v H ∧ R ≠ [] ∧ R.length ≤ 100000 ∧
  ∀ v' H', (∃ R' : List (Int × List Int), PL K (R'.map lmD) v' H' ∧ R' ≠ [] ∧ R'.length ≤ R.length ∧ ∀ x ∈ R', x ∈ R) → Pr v' H'
def RLeast (K : PySem.W.Frag) : List V → Hp → (V → Hp → Prop) → Prop := fun vs H Pr => ∃ (v : V) (w : List Int) (rooms : Nat), vs = [v, .int (rooms : Int)] ∧ Is K H v (tI w) ∧ w.length ≤ 10 ∧ 1 ≤ rooms ∧ rooms ≤ 3 ∧
  ∀ v' H', (∃ x ma, v' = .int x ∧ Mate rooms [] w ma x) → Pr v' H'
/-- the law's own step -/
def lawStep (lru : Bool) (own : Nat) (st me : List Int) (b : Int) : Int × Int × List Int × List Int :=
  let out := if !me.contains b && me.length == own then st.headD (-1) else -1
  (if me.contains b then 0 else 1, out, if !me.contains b || lru then st.filter (fun o => !(o == out) && !(o == b)) ++ [b] else st, srt (me.filter (fun o => !(o == out) && !(o == b)) ++ [b]))
theorem lawStep_eq {S : Setg} (ho : 1 ≤ S.own) {st : List Int} {b : Int} (nd : st.Nodup) (h0 : ∀ x ∈ st, 0 ≤ x ∧ x < (S.n : Int)) : lawStep S.lru S.own st (srt st) b = ruleStep S.lru S.own st (srt st) b := by
  have keep : ∀ (l : List Int) (o : Int), o ∉ l → b ∉ l → l.filter (fun z => !(z == o) && !(z == b)) = l := fun l o h1 h2 => List.filter_eq_self.mpr fun z hz => by
    have e1 : z ≠ o := fun e => h1 (e ▸ hz)
    have e2 : z ≠ b := fun e => h2 (e ▸ hz)
    simp [e1, e2]
  have n1 : ∀ l : List Int, (∀ x ∈ l, 0 ≤ x ∧ x < (S.n : Int)) → (-1 : Int) ∉ l := fun l h z => by have := h _ z; omega
  have hs0 : ∀ x ∈ srt st, 0 ≤ x ∧ x < (S.n : Int) := fun x hx => h0 x (srt_mem.mp hx)
  by_cases hb : b ∈ st
  · rw [rule_in h0 hb]
    have hc : (srt st).contains b = true := by simpa using srt_mem.mpr hb
    have hm1 : ∀ l : List Int, (-1 : Int) ∉ l → l.filter (fun z => !(z == (-1 : Int)) && !(z == b)) = l.filter (fun z => !(z == b)) := fun l h => List.filter_congr fun z hz => by
      have : z ≠ -1 := fun e => h (e ▸ hz)
      simp [this]
    unfold lawStep
    simp only [hc, Bool.not_true, Bool.false_and, Bool.false_or, Bool.false_eq_true, if_false, if_true]
    rw [hm1 _ (n1 _ h0), hm1 _ (n1 _ hs0)]
    have hp : ((srt st).filter (fun z => !(z == b)) ++ [b]).Perm st := by
      have h1 : (srt st).filter (fun o => !(o == b)) = (srt st).erase b := by rw [(srt_nodup nd).erase_eq_filter]; rfl
      rw [h1]
      exact (List.perm_append_comm.trans (List.perm_cons_erase (srt_mem.mpr hb)).symm).trans (srt_perm st)
    rw [srt_eq hp]
  · have hbs : b ∉ srt st := mt srt_mem.mp hb
    have hc : (srt st).contains b = false := by simpa using hbs
    by_cases hl : st.length = S.own
    · cases st with
      | nil =>
        simp at hl
        omega
      | cons o r =>
        rw [rule_full nd hb hl]
        have hf : ((srt (o :: r)).length == S.own) = true := by rw [srt_len]; simpa using hl
        have hor : o ∉ r := (List.nodup_cons.mp nd).1
        have hbr : b ∉ r := fun z => hb (List.mem_cons_of_mem _ z)
        have hs : (o :: r).filter (fun z => !(z == o) && !(z == b)) = r := by
          rw [List.filter_cons]
          simp only [beq_self_eq_true, Bool.not_true, Bool.false_and, Bool.false_eq_true, if_false]
          exact keep r o hor hbr
        have hp : ((srt (o :: r)).filter (fun z => !(z == o) && !(z == b)) ++ [b]).Perm (r ++ [b]) := by
          refine List.Perm.append_right _ (((srt_perm (o :: r)).filter _).trans ?_)
          rw [hs]
        unfold lawStep
        simp only [hc, hf, Bool.not_false, Bool.true_and, Bool.true_or, if_true, Bool.false_eq_true, if_false, List.headD_cons]
        rw [hs, srt_eq hp]
    · rw [rule_new h0 hb hl]
      have hf : ((srt st).length == S.own) = false := by rw [srt_len]; simpa using hl
      unfold lawStep
      simp only [hc, hf, Bool.not_false, Bool.true_and, Bool.true_or, if_true, Bool.false_eq_true, if_false]
      rw [keep _ _ (n1 _ h0) hb, keep _ _ (n1 _ hs0) hbs, srt_eq ((srt_perm st).append_right [b])]
def RLStep (K : PySem.W.Frag) : List V → Hp → (V → Hp → Prop) → Prop := fun vs H Pr => ∃ (v : V) (own : Nat) (lru : Bool) (st me : List Int) (pl b : Int), vs = [.int (own : Int), .str (wordS lru), v, .int b] ∧ Is K H v (.tup [tI st, tI me, .num pl]) ∧ st.length ≤ 50 ∧ me.length ≤ 50 ∧ (b ∉ me → me.length = own → st ≠ []) ∧
  Pr = PD K (.tup [.num (lawStep lru own st me b).1, .num (lawStep lru own st me b).2.1, .tup [tI (lawStep lru own st me b).2.2.1, tI (lawStep lru own st me b).2.2.2, .num b]])
def RLBegin (K : PySem.W.Frag) : List V → Hp → (V → Hp → Prop) → Prop := fun vs H Pr => ∃ lru, vs = [.str (wordS lru)] ∧ Pr = PD K (.tup [tI [], tI [], .num (-1)])
def RMoves (K : PySem.W.Frag) : List V → Hp → (V → Hp → Prop) → Prop := fun vs H Pr => ∃ (v : V) (S : Setg) (w : List Int), vs = [.int (S.own : Int), .str (wordS S.lru), v] ∧ Is K H v (tI w) ∧ w.length ≤ 100 ∧ WfS S ∧ S.own ≤ 10 ∧ (∀ b ∈ w, 0 ≤ b ∧ b < (S.n : Int)) ∧ Pr = PV (.int (ruleMoves S.lru S.own [] [] w))
def RNever (K : PySem.W.Frag) : List V → Hp → (V → Hp → Prop) → Prop := fun vs H Pr => ∃ (a : Addr) (rs : List (Option Int)), vs = [.ref a] ∧ TupAt K H a (rs.map lossV) ∧ rs.length ≤ 100 ∧ (∀ k x y, rs[k]? = some x → rs[k + 1]? = some y → notAbove y x) ∧ Pr = PV (.bl true)
section
variable {P : Program} {w : World} {K : PySem.W.Frag} {mg : Str → Option Value} {base : Heap} {C : Addr}
theorem par_in {ta tb : TE} {En : L2.Ends} {σ : L2.St} {H : Hp} {i j : Nat} (h : ta σ H fun x H1 => tb σ H1 fun y H2 => ∃ u v, [x, y] = [u, v] ∧ En.nx ((σ.set i (some u)).set j (some v)) H2) : tPar i j (tCons ta (tCons tb tNil)) En σ H := h
theorem gt_neI {σ : L2.St} {H : Hp} {ta tb : TE} {a b : Int} (ha : Gv ta σ H (PV (.int a))) (hb : Gv tb σ H (PV (.int b))) : Gt (tTest (tOp rNe ta tb)) σ H (!(a == b)) :=
  (gt_test (gv_ne ha hb rfl)).cast (by
    by_cases h : a = b
    · subst h; simp
    · have : ¬ V.int a = V.int b := fun z => h (V.int.inj z)
      simp [h, this])
abbrev N__law_cheapest : List Str := ["_law_rows", "_law_found", "_law_seen", "_law_cost", "_law_memory"]
theorem sc__law_cheapest : FnScope N__law_cheapest ["_law_rows"] (defScope (top 62)) := ⟨rfl, rfl, rfl, by decide +kernel, rfl, by decide +kernel, by decide +kernel⟩
theorem ok_law_cheapest (d : DefAt K mg "_law_cheapest" 62) (T : Tx mg) : Cal P w K mg base "_law_cheapest" 1 ["_law_rows"] (spP (RCheap K)) := by
  obtain ⟨f, fd, g, F⟩ := d
  refine ⟨f, fd, g, F.kp, F.binds fun _ _ _ _ _ _ us hl => match us, hl with | [_], _ => rfl, F.okX sc__law_cheapest (fun vs H Q E h => ?_) (fun cdv A outer s H vs Q E hr h => ?_)⟩
  · obtain ⟨_, ⟨v, R, rfl, _⟩, _⟩ := h; rfl
  · obtain ⟨_, ⟨v, R, rfl, hv, hne, hl, hP⟩, q⟩ := h
    have hu66 := room66 hr
    refine ⟨_, 
        (pss_cons (ps_par (i := 1) (j := 2) rfl sc__law_cheapest.nd rfl rfl (by decide) rfl rfl (pa_cons (pe_lst pa_nil) (pa_cons (pe_lst pa_nil) pa_nil)) (by rfl)) 
        (pss_cons (ps_for (passes_of rfl) rfl (pi_list (pe_callB (cr_sortedD hr.units) rfl T.sorted boot_sorted' (pa_cons (pv 0) pa_nil))) (pg_tup rfl (pgs_cons (pg_name (i := 3) sc__law_cheapest.nd rfl (Or.inl rfl)) (pgs_cons (pg_name (i := 4) sc__law_cheapest.nd rfl (Or.inl rfl)) pgs_nil))) 
          (pss_one (ps_if (pt_cmpR (op_notInN hu66) (pv 4) (pv 2) (by rfl)) 
            (pss_cons (ps_expr (pe_bm PySem.F.plainAttrs_list PySem.F.slot_list_append PySem.F.type_list_append mt_append (pv 2) (pa_cons (pv 4) pa_nil))) 
            (pss_one (ps_expr (pe_bm PySem.F.plainAttrs_list PySem.F.slot_list_append PySem.F.type_list_append mt_append (pv 1) (pa_cons (pe_tup (pa_cons (pv 3) (pa_cons (pv 4) pa_nil))) pa_nil))))) pss_nil))) 
        (pss_one (ps_ret (pv 1))))), ?_⟩
    refine seq_in (par_in ?_)
    refine lst_run fun F hF => lst_run fun Se hSe => ⟨_, _, rfl, ?_⟩
    have nSF : F ≠ Se := ne_of_none (upd_same (H := H) (a := F) (o := .lst [])) hSe
    have s1 : Same H (upd (upd H F (.lst [])) Se (.lst [])) := (Same.new hF).trans (Same.new hSe)
    have hSe0 : H Se = none := same_none (Same.new hF) hSe
    dsimp only
    show tSeq _ _ _ [some v, some (.ref F), some (.ref Se), none, none] _
    generalize hH1 : upd (upd H F (.lst [])) Se (.lst []) = H1 at s1 ⊢
    have hF1 : H1 F = some (.lst []) := by rw [← hH1, upd_ne nSF, upd_same]
    have hS1 : H1 Se = some (.lst []) := by rw [← hH1, upd_same]
    -- sorted
    have gs : Gv (tCB (rSortedD K) (tCons (tVar 0) tNil)) [some v, some (.ref F), some (.ref Se), none, none] H1 (fun v' H' => ∃ (l : Addr) (xs : List V) (M : List (Int × List Int)), v' = .ref l ∧ H' l = some (.lst xs) ∧ IsAll K H' xs (M.map lmD) ∧ M.Perm R ∧ l ≠ F ∧ l ≠ Se) :=
      fun H2 s2 Q q2 => by
        obtain ⟨l, xs, rfl, hL, hi⟩ := up_L _ _ _ (s1.trans s2) hv
        refine ⟨_, rfl, l, xs, R.map lmD, rfl, hL, hi, alike_lm R, .inl fun d hd => ?_, fun d hd => ?_, fun p xs' ds' hp hperm hi' => ?_⟩
        · obtain ⟨e, he, rfl⟩ := List.mem_map.mp hd
          obtain ⟨z, _, rfl⟩ := List.mem_map.mp he
          exact ⟨_, _, rfl⟩
        · obtain ⟨z, _, rfl⟩ := List.mem_map.mp hd
          exact lmD_depth z
        · obtain ⟨M, hM, rfl⟩ := map_perm lmD hperm R rfl
          exact q2 _ _ (Same.new hp) ⟨p, xs', M, rfl, upd_same, hi'.mono (.of (Same.new hp)), hM, (ne_of_none (s2 _ _ hF1) hp).symm, (ne_of_none (s2 _ _ hS1) hp).symm⟩
    refine seq_in (gs.run fun sl H2 s2 hsl => ?_)
    obtain ⟨l, xs, M, rfl, hL, hi, hM, nlF, nlS⟩ := hsl
    refine ⟨l, rfl, ⟨_, SqL.of hL⟩, ?_⟩
    have hxl : xs.length = M.length := by rw [hi.length, List.length_map]
    have hMl := hM.length_eq
    refine for_list (K := K) (a := l) (xs := xs) (fun k σ H' => ∃ (x3 x4 : Option V) (Fd : List (Int × List Int)) (fs ss : List V), σ = [some v, some (.ref F), some (.ref Se), x3, x4] ∧ Same H H' ∧ H' l = some (.lst xs) ∧ IsAll K H' xs (M.map lmD) ∧ H' F = some (.lst fs) ∧ IsAll K H' fs (Fd.map lmD) ∧ H' Se = some (.lst ss) ∧ IsAll K H' ss (Fd.map fun z => tI z.2) ∧ Fd.length ≤ k ∧ (∀ x ∈ Fd, x ∈ R) ∧ (0 < k → Fd ≠ []))
      ⟨none, none, [], [], [], rfl, s1.trans s2, hL, hi, s2 _ _ hF1, .nil, s2 _ _ hS1, .nil, Nat.zero_le _, (fun _ h => by cases h), fun h => by omega⟩ (fun k σ H' _ pp => by obtain ⟨_, _, _, _, _, _, _, e, _⟩ := pp; exact SqL.of e) (fun k x σ H' hx pp => ?_) fun σ H' pp => ?_
    · obtain ⟨x3, x4, Fd, fs, ss, rfl, s3, hL3, hi3, hF3, hfi, hS3, hsi, hlen, hmem, _⟩ := pp
      obtain ⟨dd, hd, hxd⟩ := hi3.get hx
      rw [List.getElem?_map] at hd
      obtain ⟨z, hz, rfl⟩ := Option.map_eq_some_iff.mp hd
      have hzR : z ∈ R := hM.mem_iff.mp (List.mem_of_getElem? hz)
      have hkl : k < M.length := (List.getElem?_eq_some_iff.mp hz).1
      obtain ⟨a, ys, rfl, ht, hyi⟩ := hxd.tup_inv
      obtain ⟨y1, y2, rfl, k1, k2⟩ := isAll2 hyi
      obtain rfl := k1.int_inv
      refine gtup2 ht ?_
      dsimp only
      refine Gt.run (gt_test (b := !decide (tI z.2 ∈ Fd.map fun z => tI z.2)) (gv_op (Pa := PD K (tI z.2)) (Pb := PL K (Fd.map fun z => tI z.2)) (gv_d (v := y2) rfl k2) (gv_var (v := .ref Se) rfl ⟨Se, ss, rfl, hS3, hsi⟩ up_L) up_D fun x y H' Q hx hy q => ?_)) fun H4 s4 => ?_
      · obtain ⟨p, zs, rfl, h1, h2⟩ := hy
        exact ⟨_, p, zs, _, hx, rfl, .inl (SqL.of h1), h2, nt_tI _, ntAll_of fun d hd => (by obtain ⟨z, _, rfl⟩ := List.mem_map.mp hd; exact nt_tI _), (by rw [depth_tI]; decide), q _ H' (Same.refl _) rfl⟩
      by_cases hc : tI z.2 ∈ Fd.map fun z => tI z.2
      · rw [if_neg (by simpa using hc)]
        refine next_in ⟨_, _, Fd, fs, ss, rfl, s3.trans s4, s4 _ _ hL3, hi3.mono (.of s4), s4 _ _ hF3, hfi.mono (.of s4), s4 _ _ hS3, hsi.mono (.of s4), by omega, hmem, fun _ e => ?_⟩
        rw [e] at hc; cases hc
      · rw [if_pos (by simpa using hc)]
        have hF0 : H F = none := hF
        refine seq_in (app_run (l := Se) (Pe := PD K (tI z.2)) (gv_v rfl) (s4 _ _ hS3) (gv_d (v := y2) rfl (k2.mono (.of s4))) (by rw [hsi.length, List.length_map]; omega) fun y H5 s5 hy => ?_)
        have e5 := s5 _ _ (s4 _ _ hS3)
        have t5 := TS.lst (o := .lst (ss ++ [y])) e5
        dsimp only
        have f6 : (upd H5 Se (.lst (ss ++ [y]))) F = some (.lst fs) := by rw [upd_ne nSF]; exact s5 _ _ (s4 _ _ hF3)
        have tt := (TS.of (s4.trans s5)).trans t5
        refine app_run (l := F) (Pe := PD K (lmD z)) (gv_v rfl) f6 (gv_tup (gd_cons (gv_v (i := 3) (v := .int z.1) rfl).num (gd_cons (gv_d (i := 4) (v := y2) rfl (k2.mono tt)) gd_nil))) (by rw [hfi.length, List.length_map]; omega) fun y' H7 s7 hy' => ?_
        have e7 := s7 _ _ f6
        have t7 := TS.lst (o := .lst (fs ++ [y'])) e7
        have ta := (tt.trans (.of s7)).trans t7
        refine ⟨_, _, Fd ++ [z], fs ++ [y'], ss ++ [y], rfl, same_wr (Same.trans (same_wr (Same.trans (Same.trans s3 s4) s5) hSe0) s7) hF0, by rw [upd_ne nlF]; exact s7 _ _ (by rw [upd_ne nlS]; exact s5 _ _ (s4 _ _ hL3)), hi3.mono ta, upd_same, ?_, by rw [upd_ne (Ne.symm nSF)]; exact s7 _ _ upd_same, ?_, by simp; omega, fun x hx => ?_, fun _ => by simp⟩
        · rw [List.map_append]; exact (hfi.mono ta).append (.cons (hy'.mono t7) .nil)
        · rw [List.map_append]; exact (hsi.mono ta).append (.cons (((hy.mono t5).mono (.of s7)).mono t7) .nil)
        · rcases List.mem_append.mp hx with h | h
          · exact hmem x h
          · simp at h; subst h; exact hzR
    · obtain ⟨x3, x4, Fd, fs, ss, rfl, s3, hL3, hi3, hF3, hfi, hS3, hsi, hlen, hmem, hpos⟩ := pp
      have hRpos : 0 < R.length := List.length_pos_iff.mpr hne
      refine Gv.run (gv_v (i := 1) (v := .ref F) rfl) fun v' H4 s4 e => q v' H4 (s3.trans s4) (hP _ _ ⟨Fd, ⟨F, fs, e, s4 _ _ hF3, hfi.mono (.of s4)⟩, hpos (by omega), by omega, hmem⟩)
abbrev N__law_least : List Str := ["_law_walk_here", "_law_rooms", "_law_rows", "_law_block", "_law_later", "_law_cost", "_law_memory", "_law_out", "_law_one"]
theorem sc__law_least : FnScope N__law_least ["_law_walk_here", "_law_rooms"] (defScope (top 63)) := ⟨rfl, rfl, rfl, by decide +kernel, rfl, by decide +kernel, by decide +kernel⟩
theorem ok_law_least (d : DefAt K mg "_law_least" 63) (T : Tx mg) (c__law_cheapest : Cal P w K mg base "_law_cheapest" 1 ["_law_rows"] (spP (RCheap K))) : Cal P w K mg base "_law_least" 2 ["_law_walk_here", "_law_rooms"] (spP (RLeast K)) := by
  obtain ⟨f, fd, g, F⟩ := d
  refine ⟨f, fd, g, F.kp, F.binds fun _ _ _ _ _ _ us hl => match us, hl with | [_, _], _ => rfl, F.okX sc__law_least (fun vs H Q E h => ?_) (fun cdv A outer s H vs Q E hr h => ?_)⟩
  · obtain ⟨_, ⟨v, w, rooms, rfl, _⟩, _⟩ := h; rfl
  · obtain ⟨_, ⟨v, w, rooms, rfl, hv, hw, r1, r3, hP⟩, q⟩ := h
    refine ⟨_, 
        (pss_cons (ps_set (i := 2) sc__law_least.nd rfl (Or.inl rfl) (pe_lst (pa_cons (pe_tup (pa_cons pe_int (pa_cons (pe_tup pa_nil) pa_nil))) pa_nil))) 
        (pss_cons (ps_for (passes_of rfl) rfl (pi_tup (pv 0)) (pg_name (i := 3) sc__law_least.nd rfl (Or.inl rfl)) 
          (pss_cons (ps_set (i := 4) sc__law_least.nd rfl (Or.inl rfl) (pe_lst pa_nil)) 
          (pss_cons (ps_for (passes_of rfl) rfl (pi_list (pv 2)) (pg_tup rfl (pgs_cons (pg_name (i := 5) sc__law_least.nd rfl (Or.inl rfl)) (pgs_cons (pg_name (i := 6) sc__law_least.nd rfl (Or.inl rfl)) pgs_nil))) 
            (pss_one (ps_if (pt_cmpR op_in_seq (pv 3) (pv 6) (by rfl)) 
              (pss_one (ps_expr (pe_bm PySem.F.plainAttrs_list PySem.F.slot_list_append PySem.F.type_list_append mt_append (pv 4) (pa_cons (pe_tup (pa_cons (pv 5) (pa_cons (pv 6) pa_nil))) pa_nil)))) 
              (pss_one (ps_if (pt_cmpR op_lt (pe_callB cr_lenS rfl T.len boot_len' (pa_cons (pv 6) pa_nil)) (pv 1) (nomark _)) 
                (pss_one (ps_expr (pe_bm PySem.F.plainAttrs_list PySem.F.slot_list_append PySem.F.type_list_append mt_append (pv 4) (pa_cons (pe_tup (pa_cons (pe_op op_add (pv 5) pe_int) (pa_cons (pe_callTy cr_tupOf rfl T.tuple boot_tuple' (pa_cons (pe_callB cr_sortedIT rfl T.sorted boot_sorted' (pa_cons (pe_op op_catA (pv 6) (pe_tup (pa_cons (pv 3) pa_nil))) pa_nil)) pa_nil)) pa_nil))) pa_nil)))) 
                (pss_one (ps_for (passes_of rfl) rfl (pi_tup (pv 6)) (pg_name (i := 7) sc__law_least.nd rfl (Or.inr rfl)) 
                  (pss_one (ps_expr (pe_bm PySem.F.plainAttrs_list PySem.F.slot_list_append PySem.F.type_list_append mt_append (pv 4) (pa_cons (pe_tup (pa_cons (pe_op op_add (pv 5) pe_int) (pa_cons (pe_callTy cr_tupOf rfl T.tuple boot_tuple' (pa_cons (pe_callB cr_sortedI rfl T.sorted boot_sorted' (pa_cons (pe_op op_cat (pe_lc (own := [("_law_one", 8)]) (g := gName 8) (tt := _) rfl sc__law_least.nd (pi_tup (pv 6)) (blkOk_by (N := N__law_least) (sc := defScope (top 63)) (by decide +kernel)) (fun _ _ _ _ _ => (pg_name (i := 8) sc__law_least.nd rfl (Or.inl rfl))) (fun _ _ _ _ _ => (pts_one (pt_cmpR op_ne (pv 8) (pv 7) (nomark _)))) (fun _ _ _ _ _ => (pv 8))) (pe_lst (pa_cons (pv 3) pa_nil))) pa_nil)) pa_nil)) pa_nil))) pa_nil))))))))))) 
          (pss_one (ps_set (i := 2) sc__law_least.nd rfl (Or.inl rfl) (pe_cal c__law_cheapest (hr.mono (by decide)) (pa_cons (pv 4) pa_nil))))))) 
        (pss_one (ps_ret (pe_ix ix_tup (pe_ix ix_list (pv 2) pe_int (fun _ _ => rfl)) pe_int (fun _ _ => rfl)))))), ?_⟩
    obtain ⟨av, rfl, htv⟩ := hv.ints
    -- rows = [(0, ())]
    refine seq_in (asg_in ((gv_lst (K := K) (ds := [lmD (0, [])]) (gd_cons (gv_tup (gd_cons (gv_num 0) (gd_cons (gv_tup (ds := []) gd_nil) gd_nil))) gd_nil)).run fun x H1 s1 hx => ?_))
    dsimp only
    have hmapl : (w.map V.int).length = w.length := by simp
    refine seq_in ⟨_, rfl, av, rfl, ⟨_, (htv.mono (.of s1)).seq⟩, for_tup (K := K) (a := av) (xs := w.map V.int) (fun j σ H' => ∃ (rv : V) (x3 x4 x5 x6 x7 x8 : Option V) (R : List (Int × List Int)), σ = [some (.ref av), some (.int (rooms : Int)), some rv, x3, x4, x5, x6, x7, x8] ∧ Same H H' ∧ PL K (R.map lmD) rv H' ∧ R ≠ [] ∧ R.length ≤ 3 ^ j ∧ ∀ z ∈ R, Mate rooms [] (w.take j) z.2 z.1 ∧ z.2.length ≤ rooms)
      ⟨x, none, none, none, none, none, none, [(0, [])], rfl, s1, hx, by simp, by simp, fun z hz => (by simp at hz; subst hz; exact ⟨.nil _, Nat.zero_le _⟩)⟩ (fun j σ H' _ pp => by obtain ⟨_, _, _, _, _, _, _, _, _, s, _⟩ := pp; exact (htv.mono (.of s)).seq) (fun j x σ H' hx pp => ?_) fun σ H' pp => ?_⟩
    · obtain ⟨rv, x3, x4, x5, x6, x7, x8, R, rfl, s2, ⟨rl, xs, rfl, hrl, hri⟩, hne, hlen, hR⟩ := pp
      rw [List.getElem?_map] at hx
      obtain ⟨b, hb, rfl⟩ := Option.map_eq_some_iff.mp hx
      have hjw : j < w.length := (List.getElem?_eq_some_iff.mp hb).1
      have p3 : 3 ^ j ≤ 19683 := by
        have : j ≤ 9 := by omega
        exact Nat.le_trans (Nat.pow_le_pow_right (by decide) this) (by decide)
      have p31 : 3 ^ (j + 1) = 3 * 3 ^ j := by rw [Nat.pow_succ]; omega
      -- later = []
      refine seq_in (asg_in (lst_run fun l hl => ?_))
      dsimp only
      show tSeq _ _ _ [some (.ref av), some (.int (rooms : Int)), some (.ref rl), some (.int b), some (.ref l), x5, x6, x7, x8] _
      have hl0 : H l = none := same_none s2 hl
      have nrl : rl ≠ l := ne_of_none hrl hl
      have s3 : Same H (upd H' l (.lst [])) := s2.trans (Same.new hl)
      have hrl3 : (upd H' l (.lst [])) rl = some (.lst xs) := by rw [upd_ne nrl]; exact hrl
      have hri3 : IsAll K (upd H' l (.lst [])) xs (R.map lmD) := hri.mono (.of (Same.new hl))
      have hxl : xs.length = R.length := by rw [hri.length, List.length_map]
      generalize hH3 : upd H' l (.lst []) = H3 at s3 hrl3 hri3 ⊢
      have hl3 : H3 l = some (.lst []) := by rw [← hH3, upd_same]
      refine seq_in ⟨_, rfl, rl, rfl, ⟨_, SqL.of hrl3⟩, for_list (K := K) (a := rl) (xs := xs) (fun k σ H' => ∃ (x5 x6 x7 x8 : Option V) (La : List (Int × List Int)) (ls : List V), σ = [some (.ref av), some (.int (rooms : Int)), some (.ref rl), some (.int b), some (.ref l), x5, x6, x7, x8] ∧ Same H H' ∧ TS H3 H' ∧ H' rl = some (.lst xs) ∧ H' l = some (.lst ls) ∧ IsAll K H' ls (La.map lmD) ∧ La.length ≤ 3 * k ∧ (0 < k → La ≠ []) ∧ ∀ z ∈ La, Mate rooms [] (w.take (j + 1)) z.2 z.1 ∧ z.2.length ≤ rooms)
        ⟨x5, x6, x7, x8, [], [], rfl, s3, TS.refl _, hrl3, hl3, .nil, Nat.zero_le _, fun h => by omega, fun _ h => by cases h⟩ (fun k σ H' _ pp => by obtain ⟨_, _, _, _, _, _, _, _, _, e, _⟩ := pp; exact SqL.of e) (fun k x σ H' hx pp => ?_) fun σ H' pp => ?_⟩
      · obtain ⟨x5, x6, x7, x8, La, ls, rfl, s4, t4, hrl4, hl4, hli, hLl, hLne, hLa⟩ := pp
        obtain ⟨dd, hd, hxd⟩ := hri3.get hx
        rw [List.getElem?_map] at hd
        obtain ⟨z, hz, rfl⟩ := Option.map_eq_some_iff.mp hd
        obtain ⟨hzM, hzl⟩ := hR z (List.mem_of_getElem? hz)
        have hkR : k < R.length := (List.getElem?_eq_some_iff.mp hz).1
        obtain ⟨a, ys, rfl, ht, hyi⟩ := (hxd.mono t4).tup_inv
        obtain ⟨y1, y2, rfl, k1, k2⟩ := isAll2 hyi
        obtain rfl := k1.int_inv
        refine gtup2 ht ?_
        dsimp only
        show tIfS _ _ _ _ [some (.ref av), some (.int (rooms : Int)), some (.ref rl), some (.int b), some (.ref l), some (.int z.1), some y2, x7, x8] _
        have gm : ∀ {σ : L2.St} {H'' : Hp}, σ[6]? = some (some y2) → TS H' H'' → Gv (tVar 6) σ H'' (PD K (tI z.2)) := fun e t => gv_d e (show Is K _ y2 (tI z.2) from k2.mono t)
        have take1 : w.take (j + 1) = w.take j ++ [b] := take_succ hb
        have hcon : z.2.contains b = decide (b ∈ z.2) := List.contains_eq_mem ..
        -- one row is put in
        have put : ∀ (y : Int × List Int) (H5 : Hp) (te : TE) (Q' : VK), Same H' H5 → Gv te [some (.ref av), some (.int (rooms : Int)), some (.ref rl), some (.int b), some (.ref l), some (.int z.1), some y2, x7, x8] H5 (PD K (lmD y)) → (Mate rooms [] (w.take (j + 1)) y.2 y.1 ∧ y.2.length ≤ rooms) →
            (∀ (H6 : Hp) (La : List (Int × List Int)) (ls : List V), Same H H6 → TS H3 H6 → H6 rl = some (.lst xs) → H6 l = some (.lst ls) → IsAll K H6 ls (La.map lmD) → La.length ≤ 3 * (k + 1) → (0 < k + 1 → La ≠ []) → (∀ z ∈ La, Mate rooms [] (w.take (j + 1)) z.2 z.1 ∧ z.2.length ≤ rooms) → Q' .non H6) →
            tBM K "list" rAppend (tVar 4) (tCons te tNil) [some (.ref av), some (.int (rooms : Int)), some (.ref rl), some (.int b), some (.ref l), some (.int z.1), some y2, x7, x8] H5 Q' := fun y H5 te Q' s5 gy hy kk => by
          refine app_run (l := l) (gv_v rfl) (s5 _ _ hl4) gy (by rw [hli.length, List.length_map]; omega) fun yv H6 s6 hyv => ?_
          have e6 := s6 _ _ (s5 _ _ hl4)
          have t6 := TS.lst (o := .lst (ls ++ [yv])) e6
          have tt := (TS.of (s5.trans s6)).trans t6
          refine kk _ (La ++ [y]) (ls ++ [yv]) (same_wr (Same.trans (Same.trans s4 s5) s6) hl0) (t4.trans tt) (by rw [upd_ne nrl]; exact s6 _ _ (s5 _ _ hrl4)) upd_same ?_ (by simp; omega) (fun _ => by simp) fun z' hz' => ?_
          · rw [List.map_append]; exact (hli.mono tt).append (.cons (hyv.mono t6) .nil)
          · rcases List.mem_append.mp hz' with h | h
            · exact hLa z' h
            · simp at h; subst h; exact hy
        refine Gt.run (gt_test (gv_inI (a := b) (ns := z.2) (gv_v rfl) (gm rfl (TS.refl _)))) fun H5 s5 => ?_
        by_cases hbz : b ∈ z.2
        · rw [if_pos (by simpa using hbz)]
          refine drop_in (put z H5 _ _ s5 (gv_tup (gd_cons (gv_v (i := 5) (v := .int z.1) rfl).num (gd_cons (gm rfl (.of s5)) gd_nil))) ⟨?_, hzl⟩ fun H6 La ls a1 a2 a3 a4 a5 a6 a7 a8 => ⟨_, _, _, _, La, ls, rfl, a1, a2, a3, a4, a5, a6, a7, a8⟩)
          have hm : ((0, [], z.2) : Int × List Int × List Int) ∈ mates rooms z.2 b := by
            unfold mates
            rw [if_pos (by rw [hcon]; simpa using hbz)]
            simp
          have := Mate.snoc hzM hm
          rw [take1]
          simpa using this
        · rw [if_neg (by simpa using hbz)]
          refine Gt.run (gt_test (gv_opI (g := fun i j => .bl (decide (i < j))) (i := (z.2.length : Int)) (j := (rooms : Int)) ((gv_lenT (gm rfl (.of s5))).imp fun v' H' e => by rw [e, List.length_map]) (gv_v rfl))) fun H6 s6 => ?_
          have s56 := s5.trans s6
          by_cases hlt : z.2.length < rooms
          · rw [if_pos (by simp; omega)]
            refine drop_in (put (z.1 + 1, srt (z.2 ++ [b])) H6 _ _ s56 (gv_tup (gd_cons (gv_opI (g := fun i j => .int (i + j)) (i := z.1) (j := 1) (gv_v (i := 5) rfl) gv_c).num (gd_cons (gv_tupLi (gv_sortedIT (gv_snoc (gm rfl (.of s56)) (gv_v (i := 3) (v := .int b) rfl) (by omega)))) gd_nil))) ⟨?_, by rw [srt_len]; simp; omega⟩ fun H6 La ls a1 a2 a3 a4 a5 a6 a7 a8 => ⟨_, _, _, _, La, ls, rfl, a1, a2, a3, a4, a5, a6, a7, a8⟩)
            have hm : ((1, [], srt (z.2 ++ [b])) : Int × List Int × List Int) ∈ mates rooms z.2 b := by
              unfold mates
              rw [if_neg (by rw [hcon]; simpa using hbz), if_pos hlt]
              simp
            have := Mate.snoc hzM hm
            rw [take1]
            exact this
          · rw [if_neg (by simp; omega)]
            -- each gone once
            have I6 := s4.trans s56
            obtain ⟨am, rfl, htm⟩ := (show Is K H6 y2 (tI z.2) from k2.mono (.of s56)).ints
            have hml : (z.2.map V.int).length = z.2.length := by simp
            refine ⟨_, rfl, am, rfl, ⟨_, htm.seq⟩, for_tup (K := K) (a := am) (xs := z.2.map V.int) (fun u σ H' => ∃ (x7 x8 : Option V) (Lb : List (Int × List Int)) (ls' : List V), σ = [some (.ref av), some (.int (rooms : Int)), some (.ref rl), some (.int b), some (.ref l), some (.int z.1), some (.ref am), x7, x8] ∧ Same H H' ∧ TS H3 H' ∧ TS H6 H' ∧ H' rl = some (.lst xs) ∧ H' l = some (.lst ls') ∧ IsAll K H' ls' (Lb.map lmD) ∧ Lb.length ≤ 3 * k + u ∧ (0 < k + u → Lb ≠ []) ∧ ∀ z ∈ Lb, Mate rooms [] (w.take (j + 1)) z.2 z.1 ∧ z.2.length ≤ rooms)
              ⟨x7, x8, La, ls, rfl, I6, t4.trans (.of s56), TS.refl _, s56 _ _ hrl4, s56 _ _ hl4, hli.mono (.of s56), by omega, fun h => hLne (by omega), hLa⟩ (fun u σ H' _ pp => by obtain ⟨_, _, _, _, _, _, _, t, _⟩ := pp; exact (htm.mono t).seq) (fun u x σ H7 hx pp => ?_) fun σ H7 pp => ?_⟩
            · obtain ⟨x7, x8, Lb, ls', rfl, s7, t7, t67, hrl7, hl7, hli7, hLl7, hLne7, hLb⟩ := pp
              rw [List.getElem?_map] at hx
              obtain ⟨o, ho, rfl⟩ := Option.map_eq_some_iff.mp hx
              have hoz := List.mem_of_getElem? ho
              have huz : u < z.2.length := (List.getElem?_eq_some_iff.mp ho).1
              have hfl := filter_len_lt hoz
              dsimp only
              show tDrop _ _ [some (.ref av), some (.int (rooms : Int)), some (.ref rl), some (.int b), some (.ref l), some (.int z.1), some (.ref am), some (.int o), x8] _
              have gf := gv_filtI (K := K) (i := 8) (tt := tTest (tOp rNe (tVar 8) (tVar 7))) (p := fun z => z != o) (gv_d (σ := [some (.ref av), some (.int (rooms : Int)), some (.ref rl), some (.int b), some (.ref l), some (.int z.1), some (.ref am), some (.int o), x8]) (i := 6) (H := H7) (v := .ref am) (d := tI z.2) rfl (is_ints (htm.mono t67))) (by omega) (by show 8 < 9; decide) fun H5 s5 k hk => gt_neI (gv_v rfl) (gv_v rfl)
              have gcat : Gv (tOp rCat (tLc (iTup K (tVar 6)) (gName 8) (tTest (tOp rNe (tVar 8) (tVar 7))) (tVar 8) [8]) (tLst (tCons (tVar 3) tNil))) [some (.ref av), some (.int (rooms : Int)), some (.ref rl), some (.int b), some (.ref l), some (.int z.1), some (.ref am), some (.int o), x8] H7 (PLi (z.2.filter (fun z => z != o) ++ [b])) :=
                gv_op gf (gv_lst (K := K) (ds := [.num b]) (gd_cons (gv_v (i := 3) (v := .int b) rfl).num gd_nil)) up_Li fun x y H' Q hx hy q => by
                  obtain ⟨l1, rfl, h1⟩ := hx
                  obtain ⟨l2, ys, rfl, h2, i2⟩ := hy
                  have e2 := ints_of (ns := [b]) i2
                  subst e2
                  refine ⟨l1, l2, _, _, rfl, rfl, h1, h2, by rw [List.length_map, sizeLine_eq]; (try simp); (try omega), fun p hp => q _ _ (Same.new hp) ⟨p, rfl, ?_⟩⟩
                  rw [upd_same, List.map_append]
              refine drop_in (app_run (l := l) (Pe := PD K (lmD (z.1 + 1, srt (z.2.filter (fun z => z != o) ++ [b])))) (gv_v rfl) hl7 (gv_tup (gd_cons (gv_opI (g := fun i j => .int (i + j)) (i := z.1) (j := 1) (gv_v (i := 5) rfl) gv_c).num (gd_cons (gv_tupLi (gv_sortedI gcat fun ns' h1 h2 => srt_of h1 h2)) gd_nil))) (by rw [hli7.length, List.length_map]; omega) fun yv H8 s8 hyv => ?_)
              have e8 := s8 _ _ hl7
              have t8 := TS.lst (o := .lst (ls' ++ [yv])) e8
              have tt := (TS.of s8).trans t8
              refine ⟨_, _, Lb ++ [(z.1 + 1, srt (z.2.filter (fun z => z != o) ++ [b]))], ls' ++ [yv], rfl, same_wr (Same.trans s7 s8) hl0, t7.trans tt, t67.trans tt, by rw [upd_ne nrl]; exact s8 _ _ hrl7, upd_same, ?_, by simp; omega, fun _ => by simp, fun z' hz' => ?_⟩
              · rw [List.map_append]; exact (hli7.mono tt).append (.cons (hyv.mono t8) .nil)
              · rcases List.mem_append.mp hz' with h | h
                · exact hLb z' h
                · simp at h; subst h
                  refine ⟨?_, by simp only; rw [srt_len]; simp only [List.length_append, List.length_singleton]; omega⟩
                  have hm : ((1, [o], srt (z.2.filter (fun z => z != o) ++ [b])) : Int × List Int × List Int) ∈ mates rooms z.2 b := by
                    unfold mates
                    rw [if_neg (by rw [hcon]; simpa using hbz), if_neg hlt]
                    exact List.mem_map.mpr ⟨o, hoz, rfl⟩
                  have := Mate.snoc hzM hm
                  rw [take1]
                  exact this
            · obtain ⟨x7, x8, Lb, ls', rfl, s7, t7, t67, hrl7, hl7, hli7, hLl7, hLne7, hLb⟩ := pp
              rw [hml] at hLl7 hLne7
              have hzr : z.2.length = rooms := by omega
              exact ⟨_, _, _, _, Lb, ls', rfl, s7, t7, hrl7, hl7, hli7, by omega, fun _ => hLne7 (by omega), hLb⟩
      · obtain ⟨x5, x6, x7, x8, La, ls, rfl, s4, t4, hrl4, hl4, hli, hLl, hLne, hLa⟩ := pp
        rw [hxl] at hLl hLne
        have hRpos : 0 < R.length := List.length_pos_iff.mpr hne
        dsimp only
        refine asg_in (Gv.run (gv_call (R := RCheap K) (P := fun v' H' => ∃ R' : List (Int × List Int), PL K (R'.map lmD) v' H' ∧ R' ≠ [] ∧ R'.length ≤ La.length ∧ ∀ x ∈ R', x ∈ La) (ga_one (gv_var (i := 4) (P := PL K (La.map lmD)) rfl ⟨l, ls, rfl, hl4, hli⟩ up_L) up_L) fun vs H5 s5 pp => ?_) fun rv' H5 s5 hrv => ?_)
        · cases pp with
          | cons e pp => cases pp; exact ⟨_, La, rfl, e, hLne hRpos, by omega, fun _ _ h => h⟩
        · obtain ⟨R', h1, h2, h3, h4⟩ := hrv
          exact ⟨rv', _, _, _, _, _, _, R', rfl, s4.trans s5, h1, h2, by omega, fun z hz => hLa z (h4 z hz)⟩
    · obtain ⟨rv, x3, x4, x5, x6, x7, x8, R, rfl, s2, hrv, hne, hlen, hR⟩ := pp
      rw [hmapl, List.take_length] at hR
      cases R with
      | nil => exact absurd rfl hne
      | cons z R =>
        have g1 : Gv (tOp (rIxL K) (tVar 2) (tC (.int 0))) [some (.ref av), some (.int (rooms : Int)), some rv, x3, x4, x5, x6, x7, x8] H' (PD K (lmD z)) := gv_ixL (ds := (z :: R).map lmD) (gv_var (P := PL K ((z :: R).map lmD)) rfl hrv up_L) gv_c (show atI ((z :: R).map lmD) ((0 : Nat) : Int) = _ from atI_nat rfl)
        refine Gv.run (gv_ixT (d := .num z.1) g1 gv_c rfl).int fun v' H4 s4 e => q v' H4 (s2.trans s4) (hP _ _ ⟨z.1, z.2, e, (hR z List.mem_cons_self).1⟩)
end
end K52
set_option maxHeartbeats 4000000
/-! The law's own step, moves, and falling rows. -/
namespace K52
open PySem PySem.Spec PyProof.Rows L2
section
variable {P : Program} {w : World} {K : PySem.W.Frag} {mg : Str → Option Value} {base : Heap} {C : Addr}
theorem asgtup_in {ta tb : TE} {En : L2.Ends} {σ : L2.St} {H : Hp} {i j : Nat} {u v : V} {n : Nat} (hn : n = 2) (ha : Gv ta σ H (PV u)) (hb : Gv tb σ H (PV v)) (q : ∀ H', Same H H' → En.nx ((σ.set i (some u)).set j (some v)) H') : tAsg (tTup (tCons ta (tCons tb tNil))) (gTup K n (gCons (gName i) (gCons (gName j) gNil))) En σ H := by
  subst hn
  show tTup (tCons ta (tCons tb tNil)) σ H fun v H1 => gTup K 2 (gCons (gName i) (gCons (gName j) gNil)) v σ H1 En.nx
  refine ha.run fun x H1 s1 ex => ?_
  refine (hb.later s1).run fun y H2 s2 ey => ?_
  have ex : x = u := ex
  have ey : y = v := ey
  subst ex; subst ey
  refine ⟨by show 2 ≤ sizeLine; decide, fun p hp => ?_⟩
  refine gtup2 (K := K) (a := p) (x := x) (y := y) (.inl upd_same) ?_
  exact q _ ((s1.trans s2).trans (Same.new hp))
abbrev N__law_step : List Str := ["_law_rooms", "_law_rule", "_law_standing", "_law_block", "_law_state", "_law_memory", "_law_place", "_law_is_in", "_law_out", "_law_is_full", "_law_one", "_law_row", "_law_kept"]
theorem sc__law_step : FnScope N__law_step ["_law_rooms", "_law_rule", "_law_standing", "_law_block"] (defScope (top 64)) := ⟨rfl, rfl, rfl, by decide +kernel, rfl, by decide +kernel, by decide +kernel⟩
theorem ok_law_step (d : DefAt K mg "_law_step" 64) (T : Tx mg) : Cal P w K mg base "_law_step" 1 ["_law_rooms", "_law_rule", "_law_standing", "_law_block"] (spP (RLStep K)) := by
  obtain ⟨f, fd, g, F⟩ := d
  refine ⟨f, fd, g, F.kp, F.binds fun _ _ _ _ _ _ us hl => match us, hl with | [_, _, _, _], _ => rfl, F.okX sc__law_step (fun vs H Q E h => ?_) (fun cdv A outer s H vs Q E hr h => ?_)⟩
  · obtain ⟨_, ⟨v, own, lru, st, me, pl, b, rfl, _⟩, _⟩ := h; rfl
  · obtain ⟨_, ⟨v, own, lru, st, me, pl, b, rfl, hv, hl1, hl2, hne, rfl⟩, q⟩ := h
    refine ⟨_, 
        (pss_cons (ps_asg (pv 2) (pg_tup rfl (pgs_cons (pg_name (i := 4) sc__law_step.nd rfl (Or.inl rfl)) (pgs_cons (pg_name (i := 5) sc__law_step.nd rfl (Or.inl rfl)) (pgs_cons (pg_name (i := 6) sc__law_step.nd rfl (Or.inl rfl)) pgs_nil))))) 
        (pss_cons (ps_asg (pe_tup (pa_cons (pe_cmpR op_in_seq (pv 3) (pv 5) (by rfl)) (pa_cons (pe_un un_neg pe_int) pa_nil))) (pg_tup rfl (pgs_cons (pg_name (i := 7) sc__law_step.nd rfl (Or.inl rfl)) (pgs_cons (pg_name (i := 8) sc__law_step.nd rfl (Or.inr rfl)) pgs_nil)))) 
        (pss_cons (ps_set (i := 9) sc__law_step.nd rfl (Or.inl rfl) (pe_and (pe_not (pv 7)) (pe_one (pe_cmpR op_eq (pe_callB cr_lenS rfl T.len boot_len' (pa_cons (pv 5) pa_nil)) (pv 0) (nomark _))))) 
        (pss_cons (ps_if (pt_val (pe_callB call_isi rfl T.isinstance boot_isi (pa_cons (pv 1) (pa_cons (pe_bltn (v := .ty "str") rfl T.str boot_str' rfl) pa_nil)))) 
          (pss_cons (ps_if (pt_val (pv 9)) 
            (pss_one (ps_set (i := 8) sc__law_step.nd rfl (Or.inr rfl) (pe_ix ix_tup (pv 4) pe_int (fun _ _ => rfl)))) pss_nil) 
          (pss_one (ps_if (PW.pt (pw_or (pt_not (pt_val (pv 7))) (pw_or1 (pt_cmpR op_eq (pv 1) pe_str (nomark _))))) 
            (pss_one (ps_set (i := 4) sc__law_step.nd rfl (Or.inl rfl) (pe_op op_catA (pe_callTy cr_tupOf rfl T.tuple boot_tuple' (pa_cons (pe_lc (own := [("_law_one", 10)]) (g := gName 10) (tt := _) rfl sc__law_step.nd (pi_tup (pv 4)) (blkOk_by (N := N__law_step) (sc := defScope (top 64)) (by decide +kernel)) (fun _ _ _ _ _ => (pg_name (i := 10) sc__law_step.nd rfl (Or.inl rfl))) (fun _ _ _ _ _ => (pts_one (PW.pt (pw_and (pt_cmpR op_ne (pv 10) (pv 8) (nomark _)) (pw_and1 (pt_cmpR op_ne (pv 10) (pv 3) (nomark _))))))) (fun _ _ _ _ _ => (pv 10))) pa_nil)) (pe_tup (pa_cons (pv 3) pa_nil))))) pss_nil))) 
          (pss_cons ps_never 
          (pss_one ps_never))) 
        (pss_cons (ps_setLc (i := 12) (own := [("_law_one", 10)]) (g := gName 10) (tt := _) rfl sc__law_step.nd rfl rfl (sw_true rfl rfl rfl (by decide +kernel)) (pi_tup (pv 5)) (blkOk_by (N := N__law_step) (sc := defScope (top 64)) (by decide +kernel)) (fun _ _ _ _ _ => (pg_name (i := 10) sc__law_step.nd rfl (Or.inl rfl))) (fun _ _ _ _ _ => (pts_one (PW.pt (pw_and (pt_cmpR op_ne (pv 10) (pv 8) (nomark _)) (pw_and1 (pt_cmpR op_ne (pv 10) (pv 3) (nomark _))))))) (fun _ _ _ _ _ => (pv 10))) 
        (pss_one (ps_ret (pe_tup (pa_cons (pe_callTy call_int1 rfl T.int boot_int' (pa_cons (pe_not (pv 7)) pa_nil)) (pa_cons (pv 8) (pa_cons (pe_tup (pa_cons (pv 4) (pa_cons (pe_callTy cr_tupOf rfl T.tuple boot_tuple' (pa_cons (pe_callB cr_sortedI rfl T.sorted boot_sorted' (pa_cons (pe_op op_cat (pv 12) (pe_lst (pa_cons (pv 3) pa_nil))) pa_nil)) pa_nil)) (pa_cons (pv 3) pa_nil)))) pa_nil))))))))))), ?_⟩
    obtain ⟨a, xs, rfl, ht, hi⟩ := hv.tup_inv
    obtain ⟨v1, v2, v3, rfl, i1, i2, i3⟩ := isAll3 hi
    obtain rfl := i3.int_inv
    refine seq_in ⟨_, rfl, ?_⟩
    refine gtup3 ht ?_
    dsimp only
    show tSeq _ _ _ [some (.int (own : Int)), some (.str (wordS lru)), some (.ref a), some (.int b), some v1, some v2, some (.int pl), none, none, none, none, none, none] _
    have hcon : decide (b ∈ me) = me.contains b := by rw [List.contains_eq_mem]
    -- is_in, out
    refine seq_in ?_
    refine asgtup_in (u := .bl (me.contains b)) (v := .int (-1)) (by rfl) ?_ (gv_neg gv_c) fun H1 s1 => ?_
    · rw [← hcon]; exact gv_inI (a := b) (ns := me) (gv_v rfl) (gv_d (v := v2) rfl i2)
    dsimp only
    show tSeq _ _ _ [some (.int (own : Int)), some (.str (wordS lru)), some (.ref a), some (.int b), some v1, some v2, some (.int pl), some (.bl (me.contains b)), some (.int (-1)), none, none, none, none] _
    have gme : ∀ {σ : L2.St} {H' : Hp}, σ[5]? = some (some v2) → Same H H' → Gv (tVar 5) σ H' (PD K (tI me)) := fun e s => gv_d e (i2.mono (.of s))
    -- is_full
    refine seq_in (asg_in (Gv.run (gv_andV (gv_notV (gv_v (v := .bl (me.contains b)) rfl)) fun _ => gv_eq (x := .int me.length) (y := .int own) ((gv_lenT (gme rfl s1)).imp fun v' H' e => by rw [e, List.length_map]) (gv_v rfl) rfl) fun x H2 s2 ex => ?_))
    have hfull : (!me.contains b && decide (V.int me.length = V.int own)) = (!me.contains b && me.length == own) := by
      have e2 : decide (V.int me.length = V.int own) = (me.length == own) := by
        by_cases h : me.length = own
        · rw [h]; simp
        · have : ¬ V.int (me.length : Int) = V.int (own : Int) := fun z => h (by have := V.int.inj z; omega)
          simp [h, this]
      rw [e2]
    have ex : x = .bl (!me.contains b && me.length == own) := by rw [← hfull]; exact ex
    subst ex
    generalize hF : (!me.contains b && me.length == own) = isF
    have s02 := s1.trans s2
    dsimp only
    generalize hO : (if isF then st.headD (-1) else -1) = out
    generalize hS : (if !me.contains b || lru then st.filter (fun o => !(o == out) && !(o == b)) ++ [b] else st) = st2
    have hgoal : lawStep lru own st me b = (if me.contains b then 0 else 1, out, st2, srt (me.filter (fun o => !(o == out) && !(o == b)) ++ [b])) := by
      unfold lawStep
      rw [hF]
      simp only [hO]
      rw [hS]
    rw [hgoal] at q
    -- the state
    refine seq_join (fun σ' H' => ∃ u1 x10, σ' = [some (.int (own : Int)), some (.str (wordS lru)), some (.ref a), some (.int b), some u1, some v2, some (.int pl), some (.bl (me.contains b)), some (.int out), some (.bl isF), x10, none, none] ∧ Same H H' ∧ Is K H' u1 (tI st2)) (fun σ' H3 j => ?_) fun N hN => ?_
    · obtain ⟨u1, x10, rfl, s3, hu1⟩ := j
      have gf := gv_filtI (K := K) (i := 10) (tt := tAnd (tTest (tOp rNe (tVar 10) (tVar 8))) (tTest (tOp rNe (tVar 10) (tVar 3)))) (p := fun o => !(o == out) && !(o == b)) (gme (σ := [some (.int (own : Int)), some (.str (wordS lru)), some (.ref a), some (.int b), some u1, some v2, some (.int pl), some (.bl (me.contains b)), some (.int out), some (.bl isF), x10, none, none]) rfl s3) (by omega) (by show 10 < 13; decide) fun H5 s5 k hk =>
        gt_and (gt_neI (gv_v rfl) (gv_v rfl)) fun _ => gt_neI (gv_v rfl) (gv_v rfl)
      have hfl : (me.filter (fun o => !(o == out) && !(o == b))).length ≤ 50 := Nat.le_trans (List.length_filter_le _ _) hl2
      refine seq_in (asg_in (gf.run fun x H4 s4 hx => ?_))
      dsimp only
      show tRet _ _ [some (.int (own : Int)), some (.str (wordS lru)), some (.ref a), some (.int b), some u1, some v2, some (.int pl), some (.bl (me.contains b)), some (.int out), some (.bl isF), x10, none, some x] _
      have gcat : Gv (tOp rCat (tVar 12) (tLst (tCons (tVar 3) tNil))) [some (.int (own : Int)), some (.str (wordS lru)), some (.ref a), some (.int b), some u1, some v2, some (.int pl), some (.bl (me.contains b)), some (.int out), some (.bl isF), x10, none, some x] H4 (PLi (me.filter (fun o => !(o == out) && !(o == b)) ++ [b])) :=
        gv_op (gv_var (i := 12) (P := PLi (me.filter (fun o => !(o == out) && !(o == b)))) rfl hx up_Li) (gv_lst (K := K) (ds := [.num b]) (gd_cons (gv_v (i := 3) (v := .int b) rfl).num gd_nil)) up_Li fun x y H' Q hx hy q => by
          obtain ⟨l1, rfl, h1⟩ := hx
          obtain ⟨l2, ys, rfl, h2, i2⟩ := hy
          have e2 := ints_of (ns := [b]) i2
          subst e2
          refine ⟨l1, l2, _, _, rfl, rfl, h1, h2, by rw [List.length_map, sizeLine_eq]; (try simp); (try omega), fun p hp => q _ _ (Same.new hp) ⟨p, rfl, ?_⟩⟩
          rw [upd_same, List.map_append]; try rfl
      have hnot : (if (!me.contains b) = true then (1 : Int) else 0) = if me.contains b then 0 else 1 := by cases me.contains b <;> rfl
      refine Gv.run (gv_tup (gd_cons (by rw [← hnot]; exact (gv_intB (gv_notV (gv_v (v := .bl (me.contains b)) rfl))).num) (gd_cons (gv_v (i := 8) (v := .int out) rfl).num (gd_cons (gv_tup (gd_cons (gv_d (i := 4) rfl (hu1.mono (.of s4))) (gd_cons (gv_tupLi (gv_sortedI gcat fun ns' h1 h2 => srt_of h1 h2)) (gd_cons (gv_v (i := 3) (v := .int b) rfl).num gd_nil)))) gd_nil)))) fun v' H' s' h' => q v' H' ((s3.trans s4).trans s') h'
    · refine Gt.run (gt_val (gv_isi (T := "str") (c := "str") (b := true) (gv_var (i := 1) (v := .str (wordS lru)) (P := PTy K "str") rfl (.data (.text _)) up_Ty) rfl)) fun H3 s3 => ?_
      refine iteT ?_
      refine seq_join (fun σ' H' => σ' = [some (.int (own : Int)), some (.str (wordS lru)), some (.ref a), some (.int b), some v1, some v2, some (.int pl), some (.bl (me.contains b)), some (.int out), some (.bl isF), none, none, none] ∧ Same H H') (fun σ' H4 j => ?_) fun N2 hN2 => ?_
      · obtain ⟨rfl, s4⟩ := j
        refine Gt.run (gt_or (b2 := lru) (gt_not (gt_val (gv_v (v := .bl (me.contains b)) rfl))) fun _ => (gt_test (gv_eq (x := .str (wordS lru)) (y := .str "last used") (gv_v rfl) gv_c rfl)).cast (word_last lru)) fun H5 s5 => ?_
        by_cases hc : (!me.contains b || lru) = true
        · rw [if_pos hc] at hS
          rw [if_pos hc]
          subst hS
          have gst : ∀ {σ : L2.St} {H' : Hp}, σ[4]? = some (some v1) → Same H H' → Gv (tVar 4) σ H' (PD K (tI st)) := fun e s => gv_d e (i1.mono (.of s))
          have gf := gv_filtI (K := K) (i := 10) (tt := tAnd (tTest (tOp rNe (tVar 10) (tVar 8))) (tTest (tOp rNe (tVar 10) (tVar 3)))) (p := fun o => !(o == out) && !(o == b)) (gst (σ := [some (.int (own : Int)), some (.str (wordS lru)), some (.ref a), some (.int b), some v1, some v2, some (.int pl), some (.bl (me.contains b)), some (.int out), some (.bl isF), none, none, none]) rfl (s4.trans s5)) (by omega) (by show 10 < 13; decide) fun H5 s5 k hk =>
            gt_and (gt_neI (gv_v rfl) (gv_v rfl)) fun _ => gt_neI (gv_v rfl) (gv_v rfl)
          refine asg_in (Gv.run (gv_snoc (gv_tupLi gf) (gv_v (i := 3) (v := .int b) rfl) (Nat.le_trans (List.length_filter_le _ _) (by omega))) fun x H6 s6 hx => ?_)
          exact hN _ _ ⟨x, _, rfl, (s4.trans s5).trans s6, hx⟩
        · rw [if_neg hc] at hS
          rw [if_neg hc]
          subst hS
          exact next_in (hN _ _ ⟨v1, _, rfl, s4.trans s5, i1.mono (.of (s4.trans s5))⟩)
      · refine Gt.run (gt_val (gv_v (v := .bl isF) rfl)) fun H4 s4 => ?_
        cases isF with
        | true =>
          rw [if_pos rfl]
          rw [if_pos rfl] at hO
          rw [Bool.and_eq_true] at hF
          cases st with
          | nil => exact absurd rfl (hne (by simpa using hF.1) (by simpa using hF.2))
          | cons o r =>
            have hO : o = out := hO
            subst hO
            have gst : Gv (tVar 4) [some (.int (own : Int)), some (.str (wordS lru)), some (.ref a), some (.int b), some v1, some v2, some (.int pl), some (.bl (me.contains b)), some (.int (-1)), some (.bl true), none, none, none] H4 (PD K (tI (o :: r))) := gv_d rfl (i1.mono (.of ((s02.trans s3).trans s4)))
            refine asg_in (Gv.run (gv_ixT (d := .num o) (ds := .num o :: r.map .num) gst gv_c (show atI (NestedKey.num o :: r.map .num) ((0 : Nat) : Int) = _ from atI_nat rfl)).int fun x H5 s5 ex => ?_)
            have ex : x = .int o := ex
            subst ex
            exact hN2 _ _ ⟨rfl, ((s02.trans s3).trans s4).trans s5⟩
        | false =>
          rw [if_neg (by decide)]
          rw [if_neg (by decide)] at hO
          subst hO
          exact next_in (hN2 _ _ ⟨rfl, (s02.trans s3).trans s4⟩)
abbrev N__law_begin : List Str := ["_law_rule"]
theorem sc__law_begin : FnScope N__law_begin ["_law_rule"] (defScope (top 65)) := ⟨rfl, rfl, rfl, by decide +kernel, rfl, by decide +kernel, by decide +kernel⟩
theorem ok_law_begin (d : DefAt K mg "_law_begin" 65) (T : Tx mg) : Cal P w K mg base "_law_begin" 1 ["_law_rule"] (spP (RLBegin K)) := by
  obtain ⟨f, fd, g, F⟩ := d
  refine ⟨f, fd, g, F.kp, F.binds fun _ _ _ _ _ _ us hl => match us, hl with | [_], _ => rfl, F.okX sc__law_begin (fun vs H Q E h => ?_) (fun cdv A outer s H vs Q E hr h => ?_)⟩
  · obtain ⟨_, ⟨lru, rfl, _⟩, _⟩ := h; rfl
  · obtain ⟨_, ⟨lru, rfl, rfl⟩, q⟩ := h
    refine ⟨_, 
        (pss_one (ps_ret (pe_ifExp (pt_val (pe_callB call_isi rfl T.isinstance boot_isi (pa_cons (pv 0) (pa_cons (pe_bltn (v := .ty "str") rfl T.str boot_str' rfl) pa_nil)))) (pe_tup (pa_cons (pe_tup pa_nil) (pa_cons (pe_tup pa_nil) (pa_cons (pe_un un_neg pe_int) pa_nil)))) (pe_tup (pa_cons pe_int (pa_cons (pe_tup pa_nil) (pa_cons (pe_un un_neg pe_int) pa_nil))))))), ?_⟩
    refine Gv.run (gv_if (b := true) (gt_val (gv_isi (T := "str") (c := "str") (b := true) (gv_var (i := 0) (v := .str (wordS lru)) (P := PTy K "str") rfl (.data (.text _)) up_Ty) rfl)) (fun _ => gv_tup (gd_cons (gv_tup (ds := []) gd_nil) (gd_cons (gv_tup (ds := []) gd_nil) (gd_cons (gv_neg gv_c).num gd_nil)))) fun e => by cases e) q
abbrev N__law_moves : List Str := ["_law_rooms", "_law_rule", "_law_walk_here", "_law_standing", "_law_moves_here", "_law_block", "_law_moved", "_law_out"]
theorem sc__law_moves : FnScope N__law_moves ["_law_rooms", "_law_rule", "_law_walk_here"] (defScope (top 66)) := ⟨rfl, rfl, rfl, by decide +kernel, rfl, by decide +kernel, by decide +kernel⟩
theorem ok_law_moves (d : DefAt K mg "_law_moves" 66) (T : Tx mg) (c__law_begin : Cal P w K mg base "_law_begin" 1 ["_law_rule"] (spP (RLBegin K))) (c__law_step : Cal P w K mg base "_law_step" 1 ["_law_rooms", "_law_rule", "_law_standing", "_law_block"] (spP (RLStep K))) : Cal P w K mg base "_law_moves" 2 ["_law_rooms", "_law_rule", "_law_walk_here"] (spP (RMoves K)) := by
  obtain ⟨f, fd, g, F⟩ := d
  refine ⟨f, fd, g, F.kp, F.binds fun _ _ _ _ _ _ us hl => match us, hl with | [_, _, _], _ => rfl, F.okX sc__law_moves (fun vs H Q E h => ?_) (fun cdv A outer s H vs Q E hr h => ?_)⟩
  · obtain ⟨_, ⟨v, S, w, rfl, _⟩, _⟩ := h; rfl
  · obtain ⟨_, ⟨v, S, w, rfl, hv, hw, W, ho, hb, rfl⟩, q⟩ := h
    refine ⟨_, 
        (pss_cons (ps_par (i := 3) (j := 4) rfl sc__law_moves.nd rfl rfl (by decide) rfl rfl (pa_cons (pe_cal c__law_begin (hr.mono (by decide)) (pa_cons (pv 1) pa_nil)) (pa_cons pe_int pa_nil)) (by rfl)) 
        (pss_cons (ps_for (passes_of rfl) rfl (pi_tup (pv 2)) (pg_name (i := 5) sc__law_moves.nd rfl (Or.inl rfl)) 
          (pss_cons (ps_asg (pe_cal c__law_step (hr.mono (by decide)) (pa_cons (pv 0) (pa_cons (pv 1) (pa_cons (pv 3) (pa_cons (pv 5) pa_nil))))) (pg_tup rfl (pgs_cons (pg_name (i := 6) sc__law_moves.nd rfl (Or.inl rfl)) (pgs_cons (pg_name (i := 7) sc__law_moves.nd rfl (Or.inl rfl)) (pgs_cons (pg_name (i := 3) sc__law_moves.nd rfl (Or.inl rfl)) pgs_nil))))) 
          (pss_one (ps_set (i := 4) sc__law_moves.nd rfl (Or.inl rfl) (pe_op op_add (pv 4) (pv 6)))))) 
        (pss_one (ps_ret (pv 4))))), ?_⟩
    have hs0 : srt [] = [] := by simp [srt]
    obtain ⟨av, rfl, htw⟩ := hv.ints
    -- standing, moves
    refine seq_in ?_
    refine par_run (Pa := PD K (.tup [tI [], tI [], .num (-1)])) (Pb := PV (.int 0)) (gv_call (R := RLBegin K) (ga_one (gv_v (i := 1) (v := .str (wordS S.lru)) rfl) up_V) fun vs H' s pp => ?_) up_D gv_c fun x y H1 s1 hx ey => ?_
    · cases pp with
      | cons e pp => cases pp; cases e; exact ⟨S.lru, rfl, rfl⟩
    have ey : y = .int 0 := ey
    subst ey
    refine seq_in ⟨_, rfl, av, rfl, ⟨_, (htw.mono (.of s1)).seq⟩, ?_⟩
    refine for_tup (K := K) (a := av) (xs := w.map V.int) (fun j σ H' => ∃ (xs : V) (x5 x6 x7 : Option V) (st : List Int) (pl : Int), σ = [some (.int (S.own : Int)), some (.str (wordS S.lru)), some (.ref av), some xs, some (.int (ruleMoves S.lru S.own [] [] (w.take j))), x5, x6, x7] ∧ Same H H' ∧ Is K H' xs (.tup [tI st, tI (srt st), .num pl]) ∧ ruleEnd S.lru S.own ([], []) (w.take j) = (st, srt st) ∧ st.Nodup ∧ (∀ x ∈ st, 0 ≤ x ∧ x < (S.n : Int)) ∧ st.length ≤ S.own)
      ⟨x, none, none, none, [], -1, rfl, s1, by rw [hs0]; exact hx, by rw [hs0]; rfl, .nil, (fun _ h => by cases h), Nat.zero_le _⟩ (fun j σ H' _ pp => by obtain ⟨_, _, _, _, _, _, rfl, t, _⟩ := pp; exact (htw.mono (.of t)).seq) (fun j x σ H' hx pp => ?_) fun σ H' pp => ?_
    · obtain ⟨xs, x5, x6, x7, st, pl, rfl, s2, hxs, hend, nd, rng, len⟩ := pp
      rw [List.getElem?_map] at hx
      obtain ⟨b, hbj, rfl⟩ := Option.map_eq_some_iff.mp hx
      have hbr := hb b (List.mem_of_getElem? hbj)
      dsimp only
      show tSeq _ _ _ [some (.int (S.own : Int)), some (.str (wordS S.lru)), some (.ref av), some xs, some (.int (ruleMoves S.lru S.own [] [] (w.take j))), some (.int b), x6, x7] _
      have hlaw := lawStep_eq W.own (b := b) nd rng
      have G := rule_good W nd rng len hbr
      refine seq_in ?_
      refine Gv.run (gv_call (R := RLStep K) (P := PD K (.tup [.num (ruleStep S.lru S.own st (srt st) b).1, .num (ruleStep S.lru S.own st (srt st) b).2.1, .tup [tI (ruleStep S.lru S.own st (srt st) b).2.2.1, tI (ruleStep S.lru S.own st (srt st) b).2.2.2, .num b]])) (ga_cons (gv_v (i := 0) (v := .int (S.own : Int)) rfl) up_V (ga_cons (gv_v (i := 1) (v := .str (wordS S.lru)) rfl) up_V (ga_cons (gv_d (i := 3) rfl hxs) up_D (ga_cons (gv_v (i := 5) (v := .int b) rfl) up_V ga_nil)))) fun vs H'' s pp => ?_) fun rv H3 s3 hrv => ?_
      · cases pp with
        | cons e1 pp => cases pp with
          | cons e2 pp => cases pp with
            | cons e3 pp => cases pp with
              | cons e4 pp =>
                cases pp; cases e1; cases e2; cases e4
                refine ⟨_, S.own, S.lru, st, srt st, pl, b, rfl, e3, by omega, by rw [srt_len]; omega, fun h1 h2 e => ?_, by rw [hlaw]⟩
                subst e
                have := W.own
                rw [srt_len] at h2
                simp at h2; omega
      · obtain ⟨a4, xs4, rfl, ht4, hi4⟩ := hrv.tup_inv
        obtain ⟨u1, u2, u3, rfl, j1, j2, j3⟩ := isAll3 hi4
        obtain rfl := j1.int_inv
        obtain rfl := j2.int_inv
        refine gtup3 ht4 ?_
        dsimp only
        show tAsg _ _ _ [some (.int (S.own : Int)), some (.str (wordS S.lru)), some (.ref av), some u3, some (.int (ruleMoves S.lru S.own [] [] (w.take j))), some (.int b), some (.int _), some (.int _)] _
        refine asg_in (Gv.run (gv_opI (g := fun i j => .int (i + j)) (gv_v (i := 4) rfl) (gv_v (i := 6) rfl)) fun x H4 s4 ex => ?_)
        have ex : x = .int _ := ex
        subst ex
        have take1 : w.take (j + 1) = w.take j ++ [b] := take_succ hbj
        have hm1 : ruleMoves S.lru S.own [] [] (w.take (j + 1)) = ruleMoves S.lru S.own [] [] (w.take j) + (ruleStep S.lru S.own st (srt st) b).1 := by rw [take1, ruleMoves_snoc, hend]
        have he1 : ruleEnd S.lru S.own ([], []) (w.take (j + 1)) = ((ruleStep S.lru S.own st (srt st) b).2.2.1, (ruleStep S.lru S.own st (srt st) b).2.2.2) := by rw [take1, ruleEnd_snoc, hend]
        rw [G.me] at he1
        refine ⟨u3, _, _, _, (ruleStep S.lru S.own st (srt st) b).2.2.1, b, by rw [hm1]; rfl, (s2.trans s3).trans s4, ?_, he1, G.nd, G.rng, G.len⟩
        rw [← G.me]
        exact j3.mono (.of s4)
    · obtain ⟨xs, x5, x6, x7, st, pl, rfl, s2, hxs, hend, nd, rng, len⟩ := pp
      have e1 : w.take (w.map V.int).length = w := by rw [List.length_map, List.take_length]
      rw [e1]
      refine Gv.run (gv_v (i := 4) (v := .int (ruleMoves S.lru S.own [] [] w)) rfl) fun v' H4 s4 e => q v' H4 (s2.trans s4) e
abbrev N__law_never_rises : List Str := ["_law_row", "_law_at"]
theorem sc__law_never_rises : FnScope N__law_never_rises ["_law_row"] (defScope (top 68)) := ⟨rfl, rfl, rfl, by decide +kernel, rfl, by decide +kernel, by decide +kernel⟩
theorem ok_law_never (d : DefAt K mg "_law_never_rises" 68) (T : Tx mg) : Cal P w K mg base "_law_never_rises" 1 ["_law_row"] (spP (RNever K)) := by
  obtain ⟨f, fd, g, F⟩ := d
  refine ⟨f, fd, g, F.kp, F.binds fun _ _ _ _ _ _ us hl => match us, hl with | [_], _ => rfl, F.okX sc__law_never_rises (fun vs H Q E h => ?_) (fun cdv A outer s H vs Q E hr h => ?_)⟩
  · obtain ⟨_, ⟨a, rs, rfl, _⟩, _⟩ := h; rfl
  · obtain ⟨_, ⟨a, rs, rfl, ht, hl, hP, rfl⟩, q⟩ := h
    refine ⟨_, 
        (pss_cons (ps_for (passes_of rfl) rfl (pi_range1 rfl T.range (pa_cons (pe_op op_sub (pe_callB cr_lenS rfl T.len boot_len' (pa_cons (pv 0) pa_nil)) pe_int) pa_nil)) (pg_name (i := 1) sc__law_never_rises.nd rfl (Or.inl rfl)) 
          (pss_one (ps_if (PW.pt (pw_and (pt_cmpR op_notN (pe_ix ix_tup (pv 0) (pv 1) (fun _ _ => rfl)) pe_non (nomark _)) (pw_and1 (PW.pt (pw_or (pt_cmpR op_isN (pe_ix ix_tup (pv 0) (pe_op op_add (pv 1) pe_int) (fun _ _ => rfl)) pe_non (nomark _)) (pw_or1 (pt_cmpR op_gt (pe_ix ix_tup (pv 0) (pe_op op_add (pv 1) pe_int) (fun _ _ => rfl)) (pe_ix ix_tup (pv 0) (pv 1) (fun _ _ => rfl)) (nomark _)))))))) 
            (pss_one (ps_ret pe_bl)) pss_nil))) 
        (pss_one (ps_ret pe_bl))), ?_⟩
    have hxl : (rs.map lossV).length = rs.length := by simp
    have gl : Gv (tCB (rLenS K) (tCons (tVar 0) tNil)) (start N__law_never_rises [.ref a]) H (PV (.int rs.length)) :=
      gv_call1 (gv_var (i := 0) (v := .ref a) (P := fun v H' => v = .ref a ∧ TupAt K H' a (rs.map lossV)) rfl ⟨rfl, ht⟩ fun _ _ _ s h => ⟨h.1, h.2.mono (.of s)⟩) fun x H' Q ex q' => by
        obtain ⟨rfl, t⟩ := ex
        exact ⟨a, _, rfl, .inr t.seq, q' _ H' (Same.refl _) (by rw [hxl])⟩
    refine seq_in ?_
    refine wi_rng1 (j := (rs.length : Int) - 1) (ga_one (gv_opI (g := fun i j => .int (i - j)) (i := (rs.length : Int)) (j := 1) gl gv_c) up_V) (by omega) (by omega) _ (Same.refl _) _ fun H1 s1 => ?_
    have en : ((rs.length : Int) - 1).toNat = rs.length - 1 := by omega
    refine for_range (lo := 0) (n := ((rs.length : Int) - 1).toNat) (fun k σ H' => ∃ x1, σ = [some (.ref a), x1] ∧ Same H H') ⟨none, rfl, s1⟩ (fun k σ H' hk pp => ?_) fun σ H' pp => ?_
    · obtain ⟨x1, rfl, s2⟩ := pp
      rw [en] at hk
      have e0 : (0 : Int) + (k : Int) = k := by omega
      rw [e0]
      dsimp only
      show tIfS _ _ _ _ [some (.ref a), some (.int (k : Int))] _
      obtain ⟨x, hx⟩ : ∃ x, rs[k]? = some x := ⟨_, List.getElem?_eq_getElem (by omega)⟩
      obtain ⟨y, hy⟩ : ∃ y, rs[k + 1]? = some y := ⟨_, List.getElem?_eq_getElem (by omega)⟩
      have hna := hP k x y hx hy
      have gx : ∀ {H' : Hp}, Same H H' → Gv (tOp (rIxT K) (tVar 0) (tVar 1)) [some (.ref a), some (.int (k : Int))] H' (PV (lossV x)) := fun s => gv_ixV (gv_v rfl) (ht.mono (.of s)) (gv_v rfl) (atI_nat (by rw [List.getElem?_map, hx]; rfl))
      have gy : ∀ {H' : Hp}, Same H H' → Gv (tOp (rIxT K) (tVar 0) (tOp (rI0 fun i j => .int (i + j)) (tVar 1) (tC (.int 1)))) [some (.ref a), some (.int (k : Int))] H' (PV (lossV y)) := fun s => gv_ixV (gv_v rfl) (ht.mono (.of s)) (gv_opI (g := fun i j => .int (i + j)) (i := (k : Int)) (j := 1) (gv_v rfl) gv_c) (show atI (rs.map lossV) ((k + 1 : Nat) : Int) = _ from atI_nat (by rw [List.getElem?_map, hy]; rfl))
      cases x with
      | none =>
        refine Gt.run ((gt_and (b1 := false) (b2 := false) (gt_notN (gx s2)) fun e => by cases e)) fun H3 s3 => ?_
        rw [if_neg (by decide)]
        exact next_in ⟨_, rfl, s2.trans s3⟩
      | some x =>
        cases y with
        | none => exact absurd hna id
        | some y =>
          have hyx : y ≤ x := hna
          refine Gt.run ((gt_and (b1 := true) (b2 := false) (gt_notN (gx s2)) fun _ => (gt_or (b1 := false) (b2 := false) (gt_isN (gy s2)) fun _ => (gt_test (gv_opI (g := fun i j => .bl (decide (j < i))) (gy s2) (gx s2))).cast (decide_eq_false (by omega))))) fun H3 s3 => ?_
          rw [if_neg (by decide)]
          exact next_in ⟨_, rfl, s2.trans s3⟩
    · obtain ⟨x1, rfl, s2⟩ := pp
      refine Gv.run (gv_c (σ := [some (.ref a), x1])) fun v' H4 s4 e => q v' H4 (s2.trans s4) e
end
end K52
set_option maxHeartbeats 4000000
/-! The law's errors: made through super. -/
namespace PySem
namespace K52X
open PySem.W PySem.Calls PyProof.Rows PySem.HandSPX
abbrev excB : List Value := [.type "Exception", .type "BaseException", .type "object"]
/-- the text of __init__ -/
structure IPos where
  (a1 a2 p0 p1 p2 p3 p4 p5 q1 q2 q3 q4 : Pos)
  msg : Str
def iA (p : IPos) : Arguments := { posonlyargs := [], args := [{ arg := "self", annotation := none, pos := p.a1 }, { arg := "at", annotation := none, pos := p.a2 }], vararg := none, kwonlyargs := [], kw_defaults := [], kwarg := none, defaults := [] }
def iB (p : IPos) : List Stmt := [.Expr (.Call (.Attribute (.Call (.Name "super" p.p0) [] [] p.p1) "__init__" p.p2) [.Constant (.str p.msg) 0 p.p3] [] p.p4) p.p5, .Assign [.Attribute (.Name "self" p.q1) "at" p.q2] (.Name "at" p.q3) p.q4]
/-- the call stands in the text so that it is a method's call -/
def iOk (p : IPos) : Prop := ∃ pl : Env → Sem Bool, ∀ env : Env, eval (.Call (.Attribute (.Call (.Name "super" p.p0) [] [] p.p1) "__init__" p.p2) [.Constant (.str p.msg) 0 p.p3] [] p.p4) env = (do
      let ov ← attributeBase (.Call (.Name "super" p.p0) [] [] p.p1) "__init__" env (eval (.Call (.Name "super" p.p0) [] [] p.p1) env)
      standAt p.p2.atName
      let (f, first) ← holding [ov] (getMethod ov "__init__" (pl env))
      callWith p.p4 f first (backTo p.p4 (starEach [.Constant (.str p.msg) 0 p.p3] env)) [])
theorem iOk_test : iOk ⟨⟨6, 17, 6, 21⟩, ⟨6, 23, 6, 25⟩, ⟨7, 8, 7, 13⟩, ⟨7, 8, 7, 15⟩, ⟨7, 8, 7, 24⟩, ⟨7, 25, 7, 36⟩, ⟨7, 8, 7, 37⟩, ⟨7, 8, 7, 37⟩, ⟨8, 8, 8, 12⟩, ⟨8, 8, 8, 15⟩, ⟨8, 18, 8, 20⟩, ⟨8, 8, 8, 20⟩, "not a web"⟩ := ⟨_, fun _ => rfl⟩
def iS : Scope := { kind := .function, names := [(PySem.Str.ofString "self", .local), (PySem.Str.ofString "at", .local), (PySem.Str.ofString "__class__", .free), (PySem.Str.ofString "super", .globalImplicit)], isGenerator := false, isCoroutine := false, more := [] }
/-- what the written part says of an own error x, at C, and of its __init__, at fI -/
structure ErrTxt (P : Program) (K : Frag) (mg : Str → Option Value) (x : Str) (C fI : Addr) : Prop where
  gC : mg x = some (.ref C)
  cls : ∃ nm q N bs bm sn sub ab col dd k0 k1 k2 k3 k5, K.lookup C = some (excClassObj nm q C N bs bm true sn sub ab col dd k0 k1 k2 k3 k5 "Exception.__new__") ∧ excTail excB bm = true
  sa : findIn K (.ref C) "__setattr__" = some (some (.builtin "object.__setattr__"))
  ga : findIn K (.ref C) "__getattribute__" = some (some (.builtin "BaseException.__getattribute__"))
  gg : findIn K (.ref C) "__getattr__" = some none
  noN : findIn K (.ref C) "at" = some none
  iC : findIn K (.ref C) "__init__" = some (some (.ref fI))
  tC : typeIn K (.ref fI) = some (.type "function")
  kC : keepIn K (.ref C) = true
  exC : subIn K (.ref C) (.type "BaseException") = some true
  exE : subIn K (.ref C) (.type "Exception") = some true
  tyC : typeIn K (.ref C) = some (.type "type")
  hdC : hasDictIn K C = true
  own : mroIn K C (.ref C) = some true
  sup : ks_superIn K C C "__init__" = some (some (.builtin "Exception.__init__"))
  any : nsIn K cStatics "thirdparty.any" = some none
  noS : mg "super" = none
  top : (P.main.scope.names.lookup ("super" : Str)).isSome = false
  fn : ∃ (q : Str) (oc : Value) (od : Option Addr) (doc pm : Value) (an : Option Addr) (ct : Value) (osl : Array (Option Value)) (cc cda : Addr) (p : IPos) (cl : Value) (cld : Option Addr) (csl : Array (Option Value)) (ccl : Value) (cdd : Option Addr) (vs : Array Value) (ccs : Array (Option Value)) (file : Str) (tf : Tok),
    K.lookup fI = some ⟨oc, od, .func (ksFn "__init__" q (iA p) (iB p) iS .none .none doc pm an (.ref cda) ct cc), osl⟩ ∧ codeIn K (.ref cda) q = true ∧ K.lookup cc = some ⟨cl, cld, .cell (some (.ref C)), csl⟩ ∧
    K.lookup cda = some ⟨ccl, cdd, .fields vs, ccs⟩ ∧ vs[2]? = some (.str file tf) ∧ ((P.main.file : Str) == file) = true ∧ iOk p
/-- what __init__ leaves of a fresh exception at x -/
structure InitEnd (h h' : Heap) (x C dx t1 : Addr) (v : Value) : Prop where
  keep : ∀ b o, b ≠ x → h.get? b = some o → h'.get? b = some o
  obj : h'.get? x = some { cls := .ref C, dict := some dx, data := .fields #[.ref t1, .none, .none, .none, .bool false, .none] }
  dbig : h.objs.size ≤ dx
  dne : dx ≠ x
  ns : h'.Ns1 dx (fun y => if y = "at" then some v else none)
/-- a made error -/
structure OwnMade (h h' : Heap) (e C d : Addr) (v : Value) : Prop where
  keep : ∀ b o, h.get? b = some o → h'.get? b = some o
  new : h.objs.size ≤ e
  obj : ∃ oe vs, h'.get? e = some oe ∧ oe.cls = .ref C ∧ oe.dict = some d ∧ oe.data = .fields vs ∧ vs[1]? = some .none
  dbig : h.objs.size ≤ d
  dne : d ≠ e
  ns : h'.Ns1 d (fun y => if y = "at" then some v else none)
section
variable {prog : Program} {w : World} {A : Around} {E : Value → Shared → Prop} {R : Result → Shared → Prop} {s : Shared} {K : Frag} {mg mb : Str → Option Value} {C fI : Addr} {xn : Str}
theorem over (T : ErrTxt prog K mg xn C fI) : excOver K C excB = true := by
  obtain ⟨nm, q, N, bs, bm, sn, sub, ab, col, dd, k0, k1, k2, k3, k5, hC, hbm⟩ := T.cls
  have hcl : clsIn K C = some { name := nm, bases := bs, mro := .ref C :: bm, ns := N, qualname := q, hasDict := true, slotNames := sn, subclasses := sub, abstract := ab, collection := col, hasDel := false } := by unfold clsIn; rw [hC] <;> rfl
  unfold excOver
  rw [hcl]
  show (C == C && excTail excB bm) = true
  rw [hbm]; simp
theorem err_init (T : ErrTxt prog K mg xn C fI) {x t0 : Addr} {v : Value} (X : K.In s.heap) (hg : s.heap.Ns mainGlobals mg) (hb : s.heap.Ns builtinsNs mb) (hbs : mb "super" = some (.type "super")) (hlim : s.heap.NoLimit) (hx : s.heap.get? x = some (excO C t0)) (hnx : K.lookup x = none) (hroom : A.depth < recursionLimit)
    (hq : ∀ h' tk dx t1, InitEnd s.heap h' x C dx t1 v → R (.ok (.ret .none)) { s with heap := h', toks := tk }) :
    codeAny (model prog w) A (.call (.ref fI) ⟨[.ref x, v], []⟩) R s := by
  obtain ⟨q, oc, od, doc, pm, an, ct, osl, cc, cda, p, cl, cld, csl, ccl, cdd, vs, ccs, file, tf, ho, hcd, hcell, hcode, hvs, hfile, pl, hev⟩ := T.fn
  obtain ⟨nm, qn, N, bs, bm, sn, sub, ab, col, dd, k0, k1, k2, k3, k5, hC, hbm⟩ := T.cls
  have hcl : clsIn K C = some { name := nm, bases := bs, mro := .ref C :: bm, ns := N, qualname := qn, hasDict := true, slotNames := sn, subclasses := sub, abstract := ab, collection := col, hasDel := false } := by unfold clsIn; rw [hC] <;> rfl
  have hk1 : iS.kind = .function := rfl
  have hks : iS.names.lookup ("super" : Str) = some .globalImplicit := by decide +kernel
  have hkc : iS.names.lookup ("__class__" : Str) = some .free := by decide +kernel
  have hka : iS.names.lookup ("self" : Str) = some .local := by decide +kernel
  have hkb : iS.names.lookup ("at" : Str) = some .local := by decide +kernel
  have hlocs : ∀ y ∈ ([("self", .ref x), ("at", v)] : List (Str × Value)), iS.names.lookup y.1 = some .local := by
    intro y hy
    rcases List.mem_cons.mp hy with rfl | hy
    · exact hka
    · rcases List.mem_cons.mp hy with rfl | hy
      · exact hkb
      · cases hy
  have hcells : ∀ y ∈ iS.names, y.2 ≠ .cell := by decide
  refine ks_codeAny_call_defAt (fd := ksFn "__init__" q (iA p) (iB p) iS .none .none doc pm an (.ref cda) ct cc) (body := iB p) (binds := [("self", .ref x), ("at", v)]) hroom (X _ _ ho) rfl hlim (codeRec_of X hcd) rfl
    (BindsTo.of_eq (by first | rfl | with_unfolding_all rfl)) hcells hlocs (fun h₁ hns k => ?_) rfl rfl rfl
  have X₁ : K.In h₁ := X.keeps k
  have hx₁ := k _ _ hx
  have hg₁ : h₁.Ns mainGlobals mg := hg.keeps k
  have hb₁ : h₁.Ns builtinsNs mb := hb.keeps k
  have hxC : x ≠ C := fun e => by rw [e, hC] at hnx; cases hnx
  have hxL : x ≠ s.heap.objs.size := Nat.ne_of_lt (Heap.lt_size hx)
  have hI : InstAt h₁ x (excO C t0) C none := ⟨hx₁, rfl, rfl, trivial⟩
  obtain ⟨hp, g, d, t, os⟩ := s
  dsimp only at hns k hx hxL X hg hb hlim hq ⊢
  -- super().__init__(msg)
  refine ks_wpAt_execs_cons (ks_wpAt_Expr_any (ks_wpAt_MethodCall ?_ (hev _)))
  refine ks_wpAt_super_base hks hkc (by decide) rfl (X₁ _ _ ho) rfl rfl rfl (X₁ _ _ hcode) rfl hvs hfile T.top ?_
  refine ks_loadName_global hk1 hks (loadGlobal_builtin hg₁ T.noS hb₁ hbs ⟨rfl, ?_⟩)
  refine wpAny_loadName_free hk1 hkc rfl ⟨_, X₁ _ _ hcell, rfl⟩ ?_
  refine wpAny_loadName_local hk1 hka hns (by first | rfl | kernel_rfl) ?_
  refine ks_wpAny_isType_cls (X₁ _ _ hC) rfl ⟨rfl, ?_⟩
  refine ks_wpAny_call_super (X₁ _ _ hC) rfl hx₁ rfl (fun c e => by cases e) (looks_mroIn X₁ T.own) (fun h₂ e2 k2 => ?_)
  have X₂ : K.In h₂ := X₁.keeps k2
  have I₂ : InstAt h₂ x (excO C t0) C none := ⟨k2 _ _ hx₁, rfl, rfl, trivial⟩
  have hmro : Looks (model prog w) h₂ (mroOf (.ref C)) (.ref C :: bm) := fun A Q E s k q => wpAny_bind ((looks_clsIn X₂ hcl) A _ E s k (wpAny_pure q))
  have hsup : alongIn K "__init__" (((Value.ref C :: bm).dropWhile (· != .ref C)).drop 1) = some (some (.builtin "Exception.__init__")) := by
    have := T.sup
    unfold ks_superIn at this
    rw [hcl] at this
    exact this
  refine ESX.getMethod_super e2 (looks_opaque X₂ T.any) hmro rfl X₂ hsup hxC (by decide) (I₂.type.andThen (looks_subIn X₂ T.exE)) ?_
  have k3 : ∀ b o, h₂.get? b = some o → (h₂.push (ESX.bw x)).get? b = some o := fun b o e => Heap.get?_push_of_some _ e
  refine ESX.callWith_bound (x := x) (first := []) ?_
  refine Calls.spliced_cons (wpAny_Constant_str (k := 0) (pos := p.p3) (Calls.spliced_nil ⟨Heap.get?_push_at rfl rfl, ?_⟩))
  refine ESX.call_bw ((X₂.keeps k3) _ _ hC) (k3 _ _ I₂.at_) (Heap.get?_push_at rfl rfl) (by show 1 ≤ sizeLine; rw [sizeLine_eq]; decide) (fun h₄ t1 k4 hx₄ => ?_)
  have k14 : ∀ b o, b ≠ x → h₁.get? b = some o → h₄.get? b = some o := fun b o hb e => k4 b o hb (k3 b o (k2 b o e))
  have k04 : ∀ b o, b ≠ x → hp.get? b = some o → h₄.get? b = some o := fun b o hb e => k14 b o hb (k b o e)
  have X₄ : K.In h₄ := fun a o e => k04 a o (fun z => by rw [z, hnx] at e; cases e) (X a o e)
  have I₄ : InstAt h₄ x (excO C t1) C none := ⟨hx₄, rfl, rfl, trivial⟩
  obtain ⟨oL, esL, epL, hoL, rL⟩ := hns
  have hns₄ : h₄.Ns hp.objs.size (fun y => ([("self", .ref x), ("at", v)] : List (Str × Value)).reverse.lookup y) := ⟨oL, esL, epL, k14 _ _ hxL.symm hoL, rL⟩
  have tk0 : takerIn K C "at" = some none := by unfold takerIn; rw [T.noN]; rfl
  -- self.at = at
  show wpAt _ _ _ (execs _ _) _ _ _
  refine wpAt_of_wpAny ?_
  refine wpAny_execs_cons (plainObj_wpAny_Assign_Attribute ?_)
  refine ESX.ldL (v := v) hns₄ (by first | rfl | kernel_rfl) (ESX.ldL (v := .ref x) hns₄ (by first | rfl | kernel_rfl) ?_ rfl (by first | rfl | kernel_rfl)) rfl (by first | rfl | kernel_rfl)
  refine set_plain X₄ (od := none) I₄ T.sa (osa_openX F.store_Exception X₄ I₄ (over T) tk0 fun b => ?_)
  obtain ⟨cd, hc, hd'⟩ := any_some T.hdC
  refine wpAny_bind (wpAny_pure (wpAny_bind (instanceDict_exc hx₄ (looks_clsIn X₄ hc) hd' ?_)))
  have hxs : x < h₄.objs.size := Heap.lt_size hx₄
  have hpush : (h₄.push (dictOf [] 0)).get? x = some (excO C t1) := Heap.get?_push_of_some _ hx₄
  show wpAny _ _ (Builtin.ObjectAttr.storeInDict h₄.objs.size (.str "at" _) "at" v) _ _ _
  refine HandSPX.store_in_new (dx := h₄.objs.size) ?_ fun h' tk' hn' hs => ?_
  · exact ⟨_, #[], _, (Heap.get?_update_ne _ _ _ _ (Nat.ne_of_gt hxs)).trans (Heap.get?_push_at rfl rfl), rfl, fun e he => absurd he (by simp), fun _ => rfl⟩
  · show wpAny _ _ (execs [] _) _ _ _
    have kk : ∀ b o, b ≠ x → h₄.get? b = some o → h'.get? b = some o := fun b o hb e => (hs.2 b (Nat.ne_of_lt (Heap.lt_size e))).trans ((Heap.get?_update_ne _ _ _ _ hb).trans (Heap.get?_push_of_some _ e))
    have z : hp.objs.size < h₄.objs.size := Heap.lt_size (k14 _ _ hxL.symm hoL)
    exact wpAny_execs_nil (hq h' tk' h₄.objs.size t1 ⟨fun b o hb e => kk b o hb (k04 b o hb e), (hs.2 x (Nat.ne_of_lt hxs)).trans (Heap.get?_update_self _ hpush rfl), Nat.le_of_lt z, Nat.ne_of_gt hxs, hn'⟩)
theorem err_made (T : ErrTxt prog K mg xn C fI) {v : Value} (X : K.In s.heap) (hg : s.heap.Ns mainGlobals mg) (hb : s.heap.Ns builtinsNs mb) (hbs : mb "super" = some (.type "super")) (hlim : s.heap.NoLimit) (hroom : A.depth + 1 < recursionLimit)
    (hq : ∀ h' tk e d, OwnMade s.heap h' e C d v → R (.ok (.ret (.ref e))) { s with heap := h', toks := tk }) :
    codeAny (model prog w) A (.call (.ref C) ⟨[v], []⟩) R s := by
  obtain ⟨nm, q, N, bs, bm, sn, sub, ab, col, dd, k0, k1, k2, k3, k5, hC, hbm⟩ := T.cls
  obtain ⟨hp, g, dr, tk, os⟩ := s
  have k : ∀ b o, hp.get? b = some o → ((hp.push (kdv_tup [v])).push (excO C hp.objs.size)).get? b = some o := fun b o e => Heap.get?_push_of_some _ (Heap.get?_push_of_some _ e)
  have hget : ((hp.push (kdv_tup [v])).push (excO C hp.objs.size)).get? (hp.objs.size + 1) = some (excO C hp.objs.size) := by heap_get
  have hnx : K.lookup (hp.objs.size + 1) = none := by
    cases e : K.lookup (hp.objs.size + 1) with
    | none => rfl
    | some o =>
      have z : hp.get? (hp.objs.size + 1) = some o := X _ _ e
      exact absurd (Nat.lt_of_succ_lt (Heap.lt_size z)) (Nat.lt_irrefl _)
  refine call_own F.excBase_Exception (fun X => excTail_contains X bm hbm) (X _ _ hC) (looks_findIn X T.iC) (fun self => bind_fn X self T.tC) (by show 1 ≤ sizeLine; rw [sizeLine_eq]; decide) ?_
  refine err_init (s := ⟨(hp.push (kdv_tup [v])).push (excO C hp.objs.size), g, dr, tk, os⟩) (mb := mb) T (X.keeps k) (hg.keeps k) (hb.keeps k) hbs (hlim.keeps k) hget hnx ?_ fun h' tk' dx t1 ⟨k', hx, dn, dne, hns⟩ => ?_
  · show A.depth + 1 < recursionLimit
    exact hroom
  · have old : ∀ b o, hp.get? b = some o → h'.get? b = some o := fun b o e => k' b o (Nat.ne_of_lt (Nat.lt_succ_of_lt (Heap.lt_size e))) (k b o e)
    have z : hp.objs.size + 1 + 1 ≤ dx := by
      first
        | (simpa only [Heap.size_push] using dn)
        | exact dn
        | (have q := dn; rw [Heap.size_push, Heap.size_push] at q; exact q)
    exact ⟨rfl, hq h' tk' (hp.objs.size + 1) dx ⟨old, Nat.le_succ _, ⟨_, _, hx, rfl, rfl, rfl, rfl⟩, Nat.le_trans (Nat.le_trans (Nat.le_succ _) (Nat.le_succ _)) z, dne, hns⟩⟩
end
end K52X
end PySem
namespace K52
open PySem PySem.Spec PyProof.Rows L2
open PySem.K52X (ErrTxt)
theorem relO_at {v : V} {v' : Value} (r : RelV v v') (f : Str) : RelO (List.lookup f [(("at" : Str), v)]) (if f = "at" then some v' else none) := by
  by_cases hw : f = "at"
  · subst hw
    rw [if_pos rfl]
    have q : List.lookup ("at" : Str) [(("at" : Str), v)] = some v := by simp [List.lookup]
    rw [q]
    exact r
  · rw [if_neg hw]
    have qw : (f == ("at" : Str)) = false := by simpa using hw
    have q2 : List.lookup f [(("at" : Str), v)] = none := by simp [List.lookup, qw]
    rw [q2]
    trivial
section
variable {X : Cx} {C fI : Addr} {xn : Str}
/-- x(e) -/
def tMkE (C : Addr) (ta : TA) : L2.St → Hp → XK → Prop := fun σ H Q => ta σ H fun vs H1 => ∃ v, vs = [v] ∧ ∀ d, H1 d = none → Q (.ref C) (some d) (upd H1 d (.xd [(("at" : Str), v)]))
theorem pmk_err {a : Expr} {ta : TA} {p pos : Pos} {k : Nat} (T : ErrTxt X.prog X.K X.mg xn C fI) (hr : Room k X.A) (ha : PA X [a] ta) (hg : Gl X xn := by rfl) (hdb : (xn == ("__debug__" : Str)) = false := by decide)
    (he : starEach (a :: []) X.env = (false, eval a X.env) :: starEach [] X.env := by rfl) (hpl : (backTo pos (starEach [] X.env)).any (·.1) = false := by rfl) :
    PMk X (.Call (.Name xn p) [a] [] pos) (tMkE C ta) := by
  intro pins s σ H Q I h
  refine wpAny_Call_Name_kw (ld_glob I hg T.gC ?_ hdb)
  refine PySem.W.callWith_K (h₀ := X.base) I.ok.mod.kin T.kC (thn (ha.run pos pins s σ H _ I h) fun us s1 hh => ?_) he hpl
  obtain ⟨vs, H1, I1, r1, v, ev, q1⟩ := hh
  subst ev
  refine ⟨I1.kIn, ?_⟩
  cases r1 with
  | cons rv rn =>
    rename_i v' us'
    cases rn
    show wpAny _ _ (call (.ref C) [v']) _ _ _
    have hlim := I1.nolimit
    obtain ⟨mb, b1, b2⟩ := I1.mod.blt
    have hG := I1.mod.glob.keeps I1.bk
    have hB := b1.keeps I1.bk
    have hS : mb "super" = some (.type "super") := (b2 "super" (by decide)).trans PyProof.Rows.Boot.super
    obtain ⟨hp, g, dr, tk, os⟩ := s1
    refine wpAny_call (PySem.K52X.err_made T I1.kIn hG hB hS hlim (by have := hr.dp; omega) fun h' tk' e d M => ?_)
    show MkP X pins σ Q (.ref e) ⟨h', g, dr, tk', os⟩
    obtain ⟨oe, fv, hoe, hc, hd, hdat, h1⟩ := M.obj
    have hns := M.ns
    obtain ⟨G', g1, g2⟩ := restrict h' fun b => decide (b ≠ e)
    have gk : ∀ b, b ≠ e → G'.get? b = h'.get? b := fun b hb => g1 b (decide_eq_true hb)
    have ge : G'.get? e = none := g2 e (by simp)
    have old : ∀ b o, hp.get? b = some o → G'.get? b = some o := fun b o q => (gk b (Nat.ne_of_lt (Nat.lt_of_lt_of_le (Heap.lt_size q) M.new))).trans (M.keep b o q)
    have ob : ObjOk X.prog X.w (upd H1 d (.xd [(("at" : Str), v)])) G' d (.xd [(("at" : Str), v)]) :=
      ⟨_, hns.at (fun o q => (gk d M.dne).trans q), fun f => relO_at rv f⟩
    have J : Inv X pins σ (upd H1 d (.xd [(("at" : Str), v)])) ⟨G', g, dr, tk', os⟩ := I1.laid (t' := tk') old M.dbig ob
    refine ⟨e, oe, fv, ⟨G', g, dr, tk', os⟩, _, .ref C, some d, rfl, J, fun b o q => ?_, ge, hoe, ⟨hc, hd⟩, hdat, h1, ?_, rfl, I1.bare, raises_own T.exC T.tyC, q1 d (I1.hok.fresh M.dbig)⟩
    · by_cases hb : b = e
      · have q' : G'.get? b = some o := q
        rw [hb, ge] at q'; cases q'
      · exact (gk b hb).symm.trans q
    · rw [upd_ne (Ne.symm M.dne)]
      exact I1.hok.fresh M.new
/-- raise x(e) -/
def tRaiseE (C : Addr) (W : WX) (ta : TA) : L2.TS := fun _ σ H => tMkE C ta σ H fun cls d H' => W cls d σ H'
theorem ps_raiseE {a : Expr} {ta : TA} {W : WX} {p pos pos2 : Pos} {k : Nat} (hc : X.calm = true) (T : ErrTxt X.prog X.K X.mg xn C fI) (hr : Room k X.A) (tk : Takes X W) (ha : PA X [a] ta) (hg : Gl X xn := by rfl) (hdb : (xn == ("__debug__" : Str)) = false := by decide)
    (he : starEach (a :: []) X.env = (false, eval a X.env) :: starEach [] X.env := by rfl) (hpl : (backTo pos (starEach [] X.env)).any (·.1) = false := by rfl) :
    PS X (.Raise (some (.Call (.Name xn p) [a] [] pos)) none pos2) (tRaiseE C W ta) := ps_raise hc tk (pmk_err T hr ha hg hdb he hpl)
/-- e.at, e the exception that the suite holds (at a; its class cls, its dict d) -/
def tAtE (C : Addr) (a : Addr) (cls : Value) (d : Option Addr) (te : TE) : TE := fun σ H Q => te σ H fun x H1 => x = .ref a ∧ cls = .ref C ∧ ∃ (dd : Addr) (v : V), d = some dd ∧ H1 dd = some (.xd [(("at" : Str), v)]) ∧ Q v H1
theorem pe_atE {a : Addr} {oe : Obj} {cls : Value} {d : Option Addr} {pn : List (Addr × Obj)} {e : Expr} {te : TE} {pos : Pos} (T : ErrTxt X.prog X.K X.mg xn C fI) (hz : Zc cls d oe) (hf : ∃ vs, oe.data = .fields vs) (he : PE (X.suite a ((a, oe) :: pn)) e te)
    (hb : attributeBase e "at" X.env (eval e X.env) = eval e X.env := by rfl) :
    PE (X.suite a ((a, oe) :: pn)) (.Attribute e "at" pos) (tAtE C a cls d te) := by
  refine ⟨fun pins s σ H Q I h => ?_⟩
  refine attr_of hb (thn (he.run pins s σ H _ I h) fun u s1 hh => ?_)
  obtain ⟨x, H1, I1, rx, ex, ec, dd, v, ed, ea, q⟩ := hh
  subst ex
  obtain rfl : u = Value.ref a := rx
  subst ec
  subst ed
  obtain ⟨ha, _⟩ := I1.pin (a, oe) (List.mem_append_left _ List.mem_cons_self)
  obtain ⟨vs, hd⟩ := hf
  have hx : ObjOk X.prog X.w H1 s1.heap dd (.xd [(("at" : Str), v)]) := I1.hok dd _ ea
  obtain ⟨mA, hns, hr⟩ := hx
  obtain ⟨od, ho, hl⟩ := lookIn_ns hns
  have l : List.lookup ("at" : Str) [(("at" : Str), v)] = some v := by simp [List.lookup]
  obtain ⟨u, hu, ru⟩ := RelO.some_of (v := v) (o := mA "at") (by rw [← l]; exact hr "at")
  have J : PySem.W.InstAt s1.heap a oe C (some od) := ⟨ha, hz.1, by unfold PySem.W.notCls; rw [hd] <;> rfl, by rw [hz.2]; exact ho⟩
  exact HandSPX.exc_get I1.kIn J T.ga T.gg T.exC (PySem.W.findObj_own T.hdC T.noN rfl (by rw [hl, hu])) (handed_of ru) ⟨v, H1, I1.tok _, ru, q⟩
end
end K52
set_option maxHeartbeats 4000000
/-! What is refused. -/
namespace K52
open PySem PySem.Spec PyProof.Rows L2
open PySem.K52X (ErrTxt)
/-- an own error with its place -/
def spErr (R : List V → Hp → Prop) (C : Addr) (k : Int) : Sp := fun vs H _ E => R vs H ∧ ∀ (H' : Hp) (d : Addr), Same H H' → H' d = some (.xd [(("at" : Str), .int k)]) → E (.ref C) (some d) H'
section
variable {X : Cx} {k : Nat} {ps : List Str} {sp : Sp} {x : Str} {p pos : Pos} {e : Expr} {es : List Expr} {t : TA} {W : WX}
theorem pe_calE (c : Cal X.prog X.w X.K X.mg X.base x k ps sp) (hr : Room k X.A) (tk : Takes X W) (ha : PA X (e :: es) t) (hg : Gl X x := by rfl) (hdb : (x == ("__debug__" : Str)) = false := by decide)
    (he : starEach (e :: es) X.env = (false, eval e X.env) :: starEach es X.env := by rfl) (hpl : (backTo pos (starEach es X.env)).any (·.1) = false := by rfl) : PE X (.Call (.Name x p) (e :: es) [] pos) (tCallS sp (WE W) t) := by
  obtain ⟨f, fd, g, kp, b, F⟩ := c
  exact pe_callS F hr hg g kp b (fun σ => passAt tk σ) ha hdb he hpl
end
section
variable {P : Program} {w : World} {K : PySem.W.Frag} {mg : Str → Option Value} {base : Heap} {C fI : Addr}
theorem raise_run {ta : TE} {En : L2.Ends} {σ : L2.St} {H H0 : Hp} {v : Int} {Wx : WX} (h : Gv ta σ H (PV (.int v))) (s0 : Same H0 H) (q : ∀ (H' : Hp) (d : Addr), Same H0 H' → H' d = some (.xd [(("at" : Str), .int v)]) → Wx (.ref C) (some d) σ H') : tRaiseE C Wx (tCons ta tNil) En σ H := by
  refine h.run fun x H1 s1 ex => ?_
  have ex : x = .int v := ex
  subst ex
  exact ⟨_, rfl, fun d hd => q _ d ((s0.trans s1).trans (Same.new hd)) upd_same⟩

def BadWeb (K : PySem.W.Frag) : List V → Hp → Prop := fun vs H => ∃ v, vs = [v] ∧ Is K H v (webD 2 [(0, 0)])
theorem bad_need_web (d : DefAt K mg "need_web" 21) (T : Tx mg) (C0 : Co K mg) (E_InvalidWeb : ErrTxt P K mg "InvalidWeb" C fI) (c_is_pair : Cal P w K mg base "is_pair" 2 ["value"] (spP (RPair K))) (c_is_number : Cal P w K mg base "is_number" 2 ["value"] (spP RNum)) (c_is_sequence : Cal P w K mg base "is_sequence" 1 ["value"] (spP (RTy K fun t => t == "list" || t == "tuple")))
    (c_is_link : Cal P w K mg base "is_link" 4 ["many", "value"] (spP (RLink K))) (c_ordered_pair : Cal P w K mg base "ordered_pair" 1 ["one", "other"] (spP (ROrd K))) : Cal P w K mg base "need_web" 5 ["value"] (spErr (BadWeb K) C 0) := by
  obtain ⟨t40, e40⟩ := C0.blocks
  obtain ⟨f, fd, g, F⟩ := d
  refine ⟨f, fd, g, F.kp, F.binds fun _ _ _ _ _ _ us hl => match us, hl with | [_], _ => rfl, F.okX sc_need_web (fun vs H Q E h => ?_) (fun cdv A outer s H vs Q E hr h => ?_)⟩
  · obtain ⟨⟨v, rfl, _⟩, _⟩ := h; rfl
  · obtain ⟨⟨v, rfl, hv⟩, q⟩ := h
    have hu := hr.units
    refine ⟨_, 
        (pss_cons (ps_if (PW.pt (pw_or (pt_not (pt_val (pe_cal c_is_pair (hr.mono (by decide)) (pa_cons (pv 0) pa_nil)))) (pw_or (pt_not (pt_val (pe_cal c_is_number (hr.mono (by decide)) (pa_cons (pe_ix ix_tup (pv 0) pe_int (fun _ _ => rfl)) pa_nil)))) (pw_or (pt_not (pt_chain op_le op_le pe_int (pe_ix ix_tup (pv 0) pe_int (fun _ _ => rfl)) (pe_glob (v := .int 40) rfl e40 ⟨_, rfl⟩))) (pw_or1 (pt_not (pt_val (pe_cal c_is_sequence (hr.mono (by decide)) (pa_cons (pe_ix ix_tup (pv 0) pe_int (fun _ _ => rfl)) pa_nil))))))))) 
          (pss_one (ps_raiseE rfl E_InvalidWeb hr (takes_of rfl rfl rfl rfl) (pa_cons (pe_un un_neg pe_int) pa_nil))) pss_nil) 
        (pss_cons (ps_par (i := 1) (j := 2) rfl sc_need_web.nd rfl rfl (by decide) rfl rfl (pa_cons (pe_ix ix_tup (pv 0) pe_int (fun _ _ => rfl)) (pa_cons (pe_ix ix_tup (pv 0) pe_int (fun _ _ => rfl)) pa_nil)) (by rfl)) 
        (pss_cons (ps_for (passes_of rfl) rfl (pi_enumT rfl T.enumerate (pa_cons (pv 2) pa_nil)) (pg_tup rfl (pgs_cons (pg_name (i := 3) sc_need_web.nd rfl (Or.inl rfl)) (pgs_cons (pg_name (i := 4) sc_need_web.nd rfl (Or.inl rfl)) pgs_nil))) 
          (pss_one (ps_if (pt_not (pt_val (pe_cal c_is_link (hr.mono (by decide)) (pa_cons (pv 1) (pa_cons (pv 4) pa_nil))))) 
            (pss_one (ps_raiseE rfl E_InvalidWeb hr (takes_of rfl rfl rfl rfl) (pa_cons (pv 3) pa_nil))) pss_nil))) 
        (pss_one (ps_ret (pe_tup (pa_cons (pv 1) (pa_cons (pe_callTy cr_tupOf rfl T.tuple boot_tuple' (pa_cons (pe_callB (cr_sortedT rfl) rfl T.sorted boot_sorted' (pa_cons (pe_setT (own := [("link", 4)]) (g := gName 4) (tt := tYes) hu rfl sc_need_web.nd (pi_tup (pv 2)) (blkOk_by (N := N_need_web) (sc := defScope (top 21)) (by decide +kernel)) (fun _ _ _ _ _ => (pg_name (i := 4) sc_need_web.nd rfl (Or.inl rfl))) (fun _ _ _ _ _ => pts_nil) (fun _ _ _ _ _ => (pe_cal c_ordered_pair (hr.mono (by decide)) (pa_cons (pe_ix (ixK (r := rIxT) ix_tup) (pv 4) pe_int (fun _ _ => rfl)) (pa_cons (pe_ix (ixK (r := rIxT) ix_tup) (pv 4) pe_int (fun _ _ => rfl)) pa_nil))))) pa_nil)) pa_nil)) pa_nil)))))))), ?_⟩
    have g0 : ∀ {σ : L2.St} {H' : Hp}, σ[0]? = some (some v) → Same H H' → Gv (tVar 0) σ H' (PD K (webD 2 [(0, 0)])) := fun e s => gv_d e (hv.mono (.of s))
    have ix0 : ∀ {σ : L2.St} {H' : Hp}, σ[0]? = some (some v) → Same H H' → Gv (tOp (rIxT K) (tVar 0) (tC (.int 0))) σ H' (PV (.int 2)) := fun e s => (gv_ixT (d := .num 2) (g0 e s) gv_c rfl).int
    have ix1 : ∀ {σ : L2.St} {H' : Hp}, σ[0]? = some (some v) → Same H H' → Gv (tOp (rIxT K) (tVar 0) (tC (.int 1))) σ H' (PD K (.tup ([((0 : Int), (0 : Int))].map prD))) := fun e s => gv_ixT (d := .tup ([((0 : Int), (0 : Int))].map prD)) (g0 e s) gv_c rfl
    refine Gt.run ((gt_or (gt_not (gt_val (gv_call (P := PV (.bl true)) (ga_one (g0 rfl (Same.refl _)) up_D) fun vs H' s p => ?_))) fun _ => gt_or (gt_not (gt_val (gv_call (P := PV (.bl (decide ((0 : Int) ≤ 2)))) (ga_one (ix0 rfl (Same.refl _)) up_V) fun vs H' s p => ?_))) fun _ =>
      gt_or (gt_not (gt_chainI gv_c (ix0 rfl (Same.refl _)) gv_c)) fun _ => gt_not (gt_val (gv_call (P := PV (.bl true)) (ga_one (ix1 rfl (Same.refl _)) up_D) fun vs H' s p => ?_))).cast (b' := false) ?_) fun H1 s1 => ?_
    · cases p with
      | cons e p => cases p; exact ⟨_, _, rfl, e, rfl⟩
    · cases p with
      | cons e p => cases p; cases e; exact ⟨2, rfl, rfl⟩
    · cases p with
      | cons e p => cases p; exact ⟨_, _, rfl, .data e, rfl⟩
    · decide
    rw [if_neg (by decide)]
    refine seq_in (par_run (ix0 rfl s1) up_V (ix1 rfl s1) fun x y H2 s2 ex ey => ?_)
    have ex : x = .int 2 := ex
    subst ex
    have s02 := s1.trans s2
    obtain ⟨la, xs, rfl, ht, hi⟩ := ey.tup_inv
    have hxl : xs.length = 1 := by rw [hi.length]; rfl
    refine seq_in ⟨_, rfl, la, xs, rfl, ht.seq, for_it walk_enumT (fun j σ H' => j = 0 ∧ (∃ x1 x2, σ = [some v, some (.int 2), some (.ref la), x1, x2]) ∧ Same H2 H') ⟨rfl, ⟨none, none, rfl⟩, Same.refl _⟩ (fun j σ H' _ p => (ht.mono (.of p.2.2)).seq) (fun j x σ H' H'' hj p y => ?_) fun σ H' p => ?_⟩
    · obtain ⟨rfl, ⟨x1, x2, rfl⟩, s3⟩ := p
      obtain ⟨T', x, y, rfl, hT, rfl, ex, ey⟩ := y
      cases ex
      have sT : Same H' (upd H' T' (.tup [.int ((0 : Nat) : Int), y])) := Same.new hT
      refine gtup2 (.inl upd_same) ?_
      obtain ⟨dd, hd, hxd⟩ := hi.get ey
      have hd : prD (0, 0) = dd := Option.some.inj hd
      subst hd
      have hy : Is K (upd H' T' (.tup [.int ((0 : Nat) : Int), y])) y (tI [0, 0]) := hxd.mono (.of (s3.trans sT))
      refine Gt.run ((gt_not (gt_val (gv_call (P := PV (.bl false)) (ga_two (gv_v (v := .int 2) rfl) up_V (gv_d (v := y) (d := tI [0, 0]) rfl hy) up_D) fun vs H3 s4 pp => ?_))).cast (b' := true) rfl) fun H3 s4 => ?_
      · cases pp with
        | cons e pp => cases pp with
          | cons e' pp =>
            cases pp; cases e
            exact ⟨_, 2, 0, 0, rfl, e', by rw [show linkB 2 0 0 = false by decide]⟩
      rw [if_pos rfl]
      exact raise_run (v := 0) (gv_v (v := .int 0) rfl) (((s02.trans s3).trans sT).trans s4) q
    · have := p.1
      omega

theorem bad_need_rooms (d : DefAt K mg "need_rooms" 23) (C0 : Co K mg) (E_InvalidRooms : ErrTxt P K mg "InvalidRooms" C fI) (c_is_number : Cal P w K mg base "is_number" 2 ["value"] (spP RNum)) : Cal P w K mg base "need_rooms" 3 ["value"] (spErr (fun vs _ => vs = [.int 0]) C (-1)) := by
  obtain ⟨t5, e5⟩ := C0.rooms
  obtain ⟨f, fd, g, F⟩ := d
  refine ⟨f, fd, g, F.kp, F.binds fun _ _ _ _ _ _ us hl => match us, hl with | [_], _ => rfl, F.okX sc_need_rooms (fun vs H Q E h => ?_) (fun cdv A outer s H vs Q E hr h => ?_)⟩
  · obtain ⟨rfl, _⟩ := h; rfl
  · obtain ⟨rfl, q⟩ := h
    refine ⟨_, 
        (pss_cons (ps_if (PW.pt (pw_or (pt_not (pt_val (pe_cal c_is_number (hr.mono (by decide)) (pa_cons (pv 0) pa_nil)))) (pw_or1 (pt_not (pt_chain op_le op_le pe_int (pv 0) (pe_glob (v := .int 5) rfl e5 ⟨_, rfl⟩)))))) 
          (pss_one (ps_raiseE rfl E_InvalidRooms hr (takes_of rfl rfl rfl rfl) (pa_cons (pe_un un_neg pe_int) pa_nil))) pss_nil) 
        (pss_one (ps_ret (pv 0)))), ?_⟩
    refine Gt.run ((gt_or (gt_not (gt_val (gv_call (P := PV (.bl (decide ((0 : Int) ≤ 0)))) (ga_one (gv_v (v := .int 0) rfl) up_V) fun vs H' s p => ?_))) fun _ => gt_not (gt_chainI gv_c (gv_v (v := .int 0) rfl) gv_c)).cast (b' := true) ?_) fun H1 s1 => ?_
    · cases p with
      | cons e p => cases p; cases e; exact ⟨0, rfl, rfl⟩
    · decide
    · rw [if_pos rfl]
      exact raise_run (v := -1) (gv_neg gv_c) s1 q
end
end K52
set_option maxHeartbeats 4000000
/-! Several clauses, each with a name, one of which takes the exception and returns. -/
namespace K52
open PySem PySem.Spec PyProof.Rows L2
/-- the clauses: the class, the suite's reading -/
abbrev Clauses := List (Value × (Addr → Value → Option Addr → L2.TS))
/-- the first clause that names the class takes it; its suite returns -/
def wFirst (K : PySem.W.Frag) (i : Nat) (D : L2.Ends) : Clauses → WX
  | [] => fun _ _ _ _ => False
  | (c, ts) :: r => fun cls d σ H => ∃ b, PySem.W.exmOne K cls c = some b ∧ (b = true → ∀ a, H a = none → ts a cls d { nx := fun _ _ => False, rt := D.rt } (σ.set i (some (.ref a))) H) ∧ (b = false → wFirst K i D r cls d σ H)
inductive AsOk (X : Cx) (n : Str) : List ExceptHandler → Clauses → Prop
  | nil : AsOk X n [] []
  | cons {x : Str} {c : Value} {ts : Addr → Value → Option Addr → L2.TS} {b₀ : Stmt} {suite : List Stmt} {np pos' : Pos} {hds : List ExceptHandler} {l : Clauses} (hc : Names X x c)
      (hsu : ∀ (a : Addr) (oe : Obj) (cls : Value) (d : Option Addr) (pn : List (Addr × Obj)), Zc cls d oe → (∃ vs, oe.data = .fields vs) → PSs (X.suite a ((a, oe) :: pn)) (b₀ :: suite) (ts a cls d)) (r : AsOk X n hds l) :
      AsOk X n (.ExceptHandler (some (.Name x np)) (some n) (b₀ :: suite) pos' :: hds) ((c, ts) :: l)
section
variable {X : Cx} {body : List Stmt} {n : Str} {i : Nat} {h₀ : ExceptHandler} {hds : List ExceptHandler} {l : Clauses} {pos : Pos} {tb : WX → L2.TS}
theorem ps_try_first (hs : X.stack = X.env :: X.outer) (hf : X.env.frame = some X.env.locals) (hN : X.N.Nodup) (hi : X.N[i]? = some n) (hln : X.env.kindOf n = some .local)
    (hb : ∀ (W : WX) (pn : List (Addr × Obj)) (xe : Value → Shared → Prop), Takes (X.tr pn xe) W → PassesOwn (model X.prog X.w) X.A X.env xe → PSs (X.tr pn xe) body (tb W))
    (hh : AsOk X n (h₀ :: hds) l) : PS X (.Try body (h₀ :: hds) [] [] pos) (fun D σ H => tb (wFirst X.K i D l) D σ H) := by
  refine ⟨fun pins s σ H D I h => wpAny_Try_except ?_⟩
  have ok := I.ok
  have hfr : X.A.frames = some (X.env :: X.outer) := by rw [ok.frames, hs]
  have caught : ∀ u s', XE (X.tr (X.pn ++ pins) (fun e s₁ => wpAny (model X.prog X.w) X.A (noteFrame e X.env) (fun _ s₂ => wpAny (model X.prog X.w) X.A (setFlight e none) (fun _ s₃ =>
      wpAny (model X.prog X.w) X.A (handleBy e X.env (h₀ :: hds)) (SP X pins D) X.xe s₃) X.xe s₂) X.xe s₁)) (wFirst X.K i D l) u s' →
      wpAny (model X.prog X.w) X.A (noteFrame u X.env) (fun _ s₂ => wpAny (model X.prog X.w) X.A (setFlight u none) (fun _ s₃ => wpAny (model X.prog X.w) X.A (handleBy u X.env (h₀ :: hds)) (SP X pins D) X.xe s₃) X.xe s₂) X.xe s' := by
    rintro u s' ⟨a, B, sI, pins', σ', H', cls, d, rfl, J', nb, up, sky, na, os, ag, w⟩
    have J : Inv X pins σ' H' sI := J'.ofTry ok
    have sky' : Sky B (X.env :: X.outer) a (Zc cls d) X.env.locals s'.heap := by rw [← hs]; exact sky
    refine Sky.land Zc.steady hfr hf sky' fun h3 fl3 up3 => ?_
    have J3 : Inv X pins σ' H' { s' with heap := h3 } := J.landed nb fl3.1 (up.trans up3) os ag
    obtain ⟨oe3, vs3, he3, hz3, hd3⟩ := fl3.there
    have nfr : a ∉ frs (X.env :: X.outer) := fun hm => by
      obtain ⟨_, o', e', hnf⟩ := (fl3.2.2.1).mem hm
      rw [he3] at e'; cases e'
      exact hnf _ hd3
    have nL : a ≠ X.env.locals := fun z => nfr (List.mem_filterMap.mpr ⟨X.env, List.mem_cons_self, by rw [hf, z]⟩)
    have nF : a ∉ X.fs := fun hm => by
      obtain ⟨e, he, q⟩ := List.mem_filterMap.mp hm
      exact nfr (List.mem_filterMap.mpr ⟨e, List.mem_cons_of_mem _ he, q⟩)
    have LT : PySem.W.Looks (model X.prog X.w) h3 (typeOf (.ref a)) cls := fun A Q E s k q => wpAny_typeOf_ref (k _ _ he3) (by rw [hz3.1]; exact q)
    have each : ∀ {hds' : List ExceptHandler} {l' : Clauses}, AsOk X n hds' l' → wFirst X.K i D l' cls d σ' H' → wpAny (model X.prog X.w) X.A (handleBy (.ref a) X.env hds') (SP X pins D) X.xe { s' with heap := h3 } := by
      intro hds' l' hk
      induction hk with
      | nil => exact fun w => w.elim
      | @cons x c ts b₀ suite np pos' hds2 l2 hc hsu r ih =>
        rintro ⟨b, hb1, hyes, hno⟩
        have S3 := J3.suite he3 hd3 na nL nF
        refine wpAny_handleBy_cons (codeAny_handlers_test ?_) (by intro q; cases q)
        have test : ∀ {Q : Value → Shared → Prop} {E : Value → Shared → Prop}, Q c { s' with heap := h3 } → wpAny (model X.prog X.w) (X.A.mark (some (.ref a))) (eval (.Name x np) X.env) Q E { s' with heap := h3 } := fun {Q E} q => by
          obtain ⟨hg, hdbg, hm | ⟨hm, hv, hnn⟩⟩ := hc
          · exact ld_glob (X := X.suite a ((a, oe3) :: (X.pn ++ pins))) S3 hg hm q hdbg
          · exact ld_blt (X := X.suite a ((a, oe3) :: (X.pn ++ pins))) S3 hg hm hv q hnn hdbg
        refine test ((PySem.W.exm_one (M := model X.prog X.w) J3.kIn LT hb1).here ?_)
        cases b with
        | false =>
          show wpAny _ X.A (handleBy (.ref a) X.env hds2) _ _ _
          exact ih (hno rfl)
        | true =>
          refine codeAny_handlers_suite_as (HandSPX.lands_againZ fl3 fun h4 fl4 up4 => ?_)
          have J4 : Inv X pins σ' H' { s' with heap := h4 } := J.landed nb fl4.1 ((up.trans up3).trans up4) os ag
          obtain ⟨oe4, vs4, he4, hz4, hd4⟩ := fl4.there
          refine store_ok (X := X.suite a ((a, oe4) :: (X.pn ++ pins))) (v := .ref a) (J4.suite he4 hd4 na nL nF) hN hi (.inl hln) rfl (fun s5 S5 => ?_) (.inr hln)
          refine wpAny_mono ((hsu a oe4 cls d (X.pn ++ pins) hz4 ⟨_, hd4⟩).run [] s5 _ H' _ S5 (hyes rfl a na)) (fun f s6 hsp => ?_) (fun _ _ z => False.elim z)
          cases f with
          | ret u =>
            obtain ⟨v6, σ6, H6, S6, r6, q6⟩ := hsp
            exact gone_ok (S6.unsuite ok) hN hi hln fun s7 J7 => ⟨_, _, _, J7, r6, q6⟩
          | next => obtain ⟨_, _, _, q6⟩ := hsp; exact False.elim q6
          | brk => obtain ⟨_, _, _, q6⟩ := hsp; exact False.elim q6
          | cont => obtain ⟨_, _, _, q6⟩ := hsp; exact False.elim q6
    exact each hh w
  refine wpAny_mono ((hb (wFirst X.K i D l) (X.pn ++ pins) _ caught PassesOwn.looking).run [] s σ H D (I.toTry _) h) (fun f s1 hsp => ?_) (fun e s1 he => he)
  cases f with
  | next =>
    obtain ⟨σ', H', J', q⟩ := hsp
    exact wpAny_execs_nil ⟨σ', H', J'.ofTry ok, q⟩
  | brk =>
    obtain ⟨σ', H', J', q⟩ := hsp
    exact ⟨σ', H', J'.ofTry ok, q⟩
  | cont =>
    obtain ⟨σ', H', J', q⟩ := hsp
    exact ⟨σ', H', J'.ofTry ok, q⟩
  | ret u =>
    obtain ⟨v, σ', H', J', r, q⟩ := hsp
    exact ⟨v, σ', H', J'.ofTry ok, r, q⟩
end
end K52
set_option maxHeartbeats 4000000
/-! A row's refusals; what is heard. -/
namespace K52
open PySem PySem.Spec PyProof.Rows L2
open PySem.K52X (ErrTxt)
/-- no rule's word -/
def Wrong (K : PySem.W.Frag) (H : Hp) (v : V) : Prop := ∃ T, Ty6 K H v T ∧ (T = "str" → ∃ s : Str, v = .str s ∧ s ≠ "last used" ∧ s ≠ "first in")
theorem Wrong.mono {K : PySem.W.Frag} {H H' : Hp} (s : Same H H') {v : V} (h : Wrong K H v) : Wrong K H' v := let ⟨T, a, b⟩ := h; ⟨T, a.mono s, b⟩
/-- the ways a row is refused -/
inductive BadRow (K : PySem.W.Frag) (Cw Cr Cu : Addr) (vs : List V) (H : Hp) (E : XK) : Prop
  | word (x : V) (n : Nat) (L : List (Int × Int)) (rooms : Nat) (v : V) (e : vs = [x, .int (rooms : Int), v]) (ask : Ask K H x n L rooms) (hw : Wrong K H v) (q : ∀ (H' : Hp) (d : Addr), Same H H' → H' d = some (.xd [(("at" : Str), .int (-1))]) → E (.ref Cu) (some d) H')
  | rooms (x : V) (n : Nat) (L : List (Int × Int)) (v : V) (e : vs = [x, .int 0, v]) (ask : Ask K H x n L 1) (q : ∀ (H' : Hp) (d : Addr), Same H H' → H' d = some (.xd [(("at" : Str), .int (-1))]) → E (.ref Cr) (some d) H')
  | web (x y v : V) (e : vs = [x, y, v]) (hx : Is K H x (webD 2 [(0, 0)])) (q : ∀ (H' : Hp) (d : Addr), Same H H' → H' d = some (.xd [(("at" : Str), .int 0)]) → E (.ref Cw) (some d) H')
def spBadRow (K : PySem.W.Frag) (Cw Cr Cu : Addr) : Sp := fun vs H _ E => BadRow K Cw Cr Cu vs H E
section
variable {P : Program} {w : World} {K : PySem.W.Frag} {mg : Str → Option Value} {base : Heap} {Cw Cr Cu fw fr fu : Addr}
theorem bad_losses_row (d : DefAt K mg "losses_row" 54) (T : Tx mg) (Cc : Co K mg) (E_InvalidRule : ErrTxt P K mg "InvalidRule" Cu fu) (c_need_web : Cal P w K mg base "need_web" 5 ["value"] (spP (RWeb K))) (c_need_rooms : Cal P w K mg base "need_rooms" 3 ["value"] (spP RRooms))
    (c_need_web_bad : Cal P w K mg base "need_web" 5 ["value"] (spErr (BadWeb K) Cw 0)) (c_need_rooms_bad : Cal P w K mg base "need_rooms" 3 ["value"] (spErr (fun vs _ => vs = [.int 0]) Cr (-1)))
    (c_is_string : Cal P w K mg base "is_string" 1 ["value"] (spP (RTy K fun t => t == "str"))) (c_greatest_loss : Cal P w K mg base "greatest_loss" 9 ["web", "rooms", "own", "rule"] (spP (RLoss K))) :
    Cal P w K mg base "losses_row" 10 ["web", "rooms", "word"] (spBadRow K Cw Cr Cu) := by
  obtain ⟨t5, e5⟩ := Cc.rooms
  obtain ⟨f, fd, g, F⟩ := d
  refine ⟨f, fd, g, F.kp, F.binds fun _ _ _ _ _ _ us hl => match us, hl with | [_, _, _], _ => rfl, F.okX sc_losses_row (fun vs H Q E h => ?_) (fun cdv A outer s H vs Q E hr h => ?_)⟩
  · cases h with
    | word x n L rooms v e => rw [e]; rfl
    | rooms x n L v e => rw [e]; rfl
    | web x y v e => rw [e]; rfl
  · have web1 : ∀ {x : V} {n : Nat} {L : List (Int × Int)} {r : Nat} {y v : V}, Ask K H x n L r → Gv (tCall (spP (RWeb K)) [] E0 (tCons (tVar 0) tNil)) (start N_losses_row [x, y, v]) H (fun v' H' => ∃ L', PD K (webD n L') v' H' ∧ (CanonL n L' ∧ L'.length ≤ L.length ∧ ∀ i j, adj L' i j = adj L i j)) := fun {x n L r y v} ask =>
      gv_call (ga_one (gv_d (v := x) rfl ask.web) up_D) fun vs H' s p => by
        cases p with
        | cons e p => cases p; exact ⟨_, n, L, rfl, e, by have := ask.n1; omega, by have := ask.n4; omega, ask.len, ask.good, rfl⟩
    cases h with
    | word x n L rooms v e ask hw q =>
      subst e
      refine ⟨_, 
        (pss_cons (ps_par (i := 0) (j := 1) rfl sc_losses_row.nd rfl rfl (by decide) rfl rfl (pa_cons (pe_cal c_need_web (hr.mono (by decide)) (pa_cons (pv 0) pa_nil)) (pa_cons (pe_cal c_need_rooms (hr.mono (by decide)) (pa_cons (pv 1) pa_nil)) pa_nil)) (by rfl)) 
        (pss_cons (ps_if (PW.pt (pw_or (pt_not (pt_val (pe_cal c_is_string (hr.mono (by decide)) (pa_cons (pv 2) pa_nil)))) (pw_or1 (pt_cmpR op_notIn_seq (pv 2) (pe_tup (pa_cons pe_str (pa_cons pe_str pa_nil))) (by rfl))))) 
          (pss_one (ps_raiseE rfl E_InvalidRule hr (takes_of rfl rfl rfl rfl) (pa_cons (pe_un un_neg pe_int) pa_nil))) pss_nil) 
        (pss_cons (ps_set (i := 3) sc_losses_row.nd rfl (Or.inl rfl) (pe_lst pa_nil)) 
        (pss_cons (ps_for (passes_of rfl) rfl (pi_range2 rfl T.range (pa_cons (pv 1) (pa_cons (pe_op op_add (pe_glob (v := .int 5) rfl e5 ⟨_, rfl⟩) pe_int) pa_nil))) (pg_name (i := 4) sc_losses_row.nd rfl (Or.inl rfl)) 
          (pss_cons (ps_expr (pe_bm PySem.F.plainAttrs_list PySem.F.slot_list_append PySem.F.type_list_append mt_append (pv 3) (pa_cons (pe_cal c_greatest_loss (hr.mono (by decide)) (pa_cons (pv 0) (pa_cons (pv 1) (pa_cons (pv 4) (pa_cons (pv 2) pa_nil))))) pa_nil))) 
          (pss_one (ps_if (pt_cmpR op_eq (pe_ix ix_list (pv 3) (pe_un un_neg pe_int) (fun _ _ => rfl)) pe_int (nomark _)) 
            (pss_one (ps_ret (pe_callTy cr_tupOf rfl T.tuple boot_tuple' (pa_cons (pv 3) pa_nil)))) pss_nil)))) 
        (pss_one (ps_ret (pe_callTy cr_tupOf rfl T.tuple boot_tuple' (pa_cons (pv 3) pa_nil)))))))), ?_⟩
      refine seq_in (par_run (web1 ask) (fun _ _ _ s ⟨L', h, r⟩ => ⟨L', h.mono (.of s), r⟩) (gv_call (P := PV (.int (rooms : Int))) (ga_one (gv_v (v := .int (rooms : Int)) rfl) up_V) fun vs H' s p => ?_) fun x y H1 s1 hx ey => ?_)
      · cases p with
        | cons e p => cases p; cases e; exact ⟨_, rfl, by have := ask.r1; omega, by have := ask.r5; omega, rfl⟩
      have ey : y = .int rooms := ey
      subst ey
      dsimp only
      obtain ⟨ty, hty, hstr⟩ := hw
      refine seq_in (Gt.run ((gt_or (b1 := !(ty == "str")) (b2 := true) (gt_not (gt_val (gv_call (P := PV (.bl (ty == "str"))) (ga_one (gv_var (i := 2) (v := v) (P := PTy K ty) rfl (hty.mono s1) up_Ty) up_Ty) fun vs H' s p => ?_))) fun hb => ?_).cast (b' := true) ?_) fun H2 s2 => ?_)
      · cases p with
        | cons e p => cases p; exact ⟨_, _, rfl, e, rfl⟩
      · have ht : ty = "str" := by simpa using hb
        obtain ⟨z, rfl, h1, h2⟩ := hstr ht
        have hin : inV (V.str z) [.str "last used", .str "first in"] = false := by
          have e1 : ¬ V.str z = V.str "last used" := fun e => h1 (V.str.inj e)
          have e2 : ¬ V.str z = V.str "first in" := fun e => h2 (V.str.inj e)
          simp [inV, eqV, e1, e2, h1, h2, Ne.symm h1, Ne.symm h2]
        refine gt_test (gv_op (Pa := PV (.str z)) (Pb := PD K (.tup [.text "last used", .text "first in"])) (gv_v rfl) (gv_tup (gd_cons (gv_text _) (gd_cons (gv_text _) gd_nil))) up_V fun x y H' Q ex hy q => ?_)
        have ex : x = .str z := ex
        subst ex
        obtain ⟨p, ys, rfl, t, i⟩ := hy.tup_inv
        obtain ⟨z1, z2, rfl, k1, k2⟩ := isAll2 i
        obtain rfl := k1.text_inv
        obtain rfl := k2.text_inv
        refine ⟨p, _, rfl, .inr t.seq, rfl, rfl, ?_⟩
        rw [hin]
        exact q _ H' (Same.refl _) rfl
      · simp
      rw [if_pos rfl]
      exact raise_run (v := -1) (gv_neg gv_c) (s1.trans s2) q
    | rooms x n L v e ask q =>
      subst e
      refine ⟨_, 
        (pss_cons (ps_par (i := 0) (j := 1) rfl sc_losses_row.nd rfl rfl (by decide) rfl rfl (pa_cons (pe_cal c_need_web (hr.mono (by decide)) (pa_cons (pv 0) pa_nil)) (pa_cons (pe_calE c_need_rooms_bad (hr.mono (by decide)) (takes_of rfl rfl rfl rfl) (pa_cons (pv 1) pa_nil)) pa_nil)) (by rfl)) 
        (pss_cons (ps_if (PW.pt (pw_or (pt_not (pt_val (pe_cal c_is_string (hr.mono (by decide)) (pa_cons (pv 2) pa_nil)))) (pw_or1 (pt_cmpR op_notIn_seq (pv 2) (pe_tup (pa_cons pe_str (pa_cons pe_str pa_nil))) (by rfl))))) 
          (pss_one (ps_raiseE rfl E_InvalidRule hr (takes_of rfl rfl rfl rfl) (pa_cons (pe_un un_neg pe_int) pa_nil))) pss_nil) 
        (pss_cons (ps_set (i := 3) sc_losses_row.nd rfl (Or.inl rfl) (pe_lst pa_nil)) 
        (pss_cons (ps_for (passes_of rfl) rfl (pi_range2 rfl T.range (pa_cons (pv 1) (pa_cons (pe_op op_add (pe_glob (v := .int 5) rfl e5 ⟨_, rfl⟩) pe_int) pa_nil))) (pg_name (i := 4) sc_losses_row.nd rfl (Or.inl rfl)) 
          (pss_cons (ps_expr (pe_bm PySem.F.plainAttrs_list PySem.F.slot_list_append PySem.F.type_list_append mt_append (pv 3) (pa_cons (pe_cal c_greatest_loss (hr.mono (by decide)) (pa_cons (pv 0) (pa_cons (pv 1) (pa_cons (pv 4) (pa_cons (pv 2) pa_nil))))) pa_nil))) 
          (pss_one (ps_if (pt_cmpR op_eq (pe_ix ix_list (pv 3) (pe_un un_neg pe_int) (fun _ _ => rfl)) pe_int (nomark _)) 
            (pss_one (ps_ret (pe_callTy cr_tupOf rfl T.tuple boot_tuple' (pa_cons (pv 3) pa_nil)))) pss_nil)))) 
        (pss_one (ps_ret (pe_callTy cr_tupOf rfl T.tuple boot_tuple' (pa_cons (pv 3) pa_nil)))))))), ?_⟩
      refine seq_in ?_
      refine (web1 ask).run fun x H1 s1 hx => ?_
      exact ⟨_, rfl, rfl, fun H' d s h => q H' d (s1.trans s) h⟩
    | web x y v e hx q =>
      subst e
      refine ⟨_, 
        (pss_cons (ps_par (i := 0) (j := 1) rfl sc_losses_row.nd rfl rfl (by decide) rfl rfl (pa_cons (pe_calE c_need_web_bad (hr.mono (by decide)) (takes_of rfl rfl rfl rfl) (pa_cons (pv 0) pa_nil)) (pa_cons (pe_cal c_need_rooms (hr.mono (by decide)) (pa_cons (pv 1) pa_nil)) pa_nil)) (by rfl)) 
        (pss_cons (ps_if (PW.pt (pw_or (pt_not (pt_val (pe_cal c_is_string (hr.mono (by decide)) (pa_cons (pv 2) pa_nil)))) (pw_or1 (pt_cmpR op_notIn_seq (pv 2) (pe_tup (pa_cons pe_str (pa_cons pe_str pa_nil))) (by rfl))))) 
          (pss_one (ps_raiseE rfl E_InvalidRule hr (takes_of rfl rfl rfl rfl) (pa_cons (pe_un un_neg pe_int) pa_nil))) pss_nil) 
        (pss_cons (ps_set (i := 3) sc_losses_row.nd rfl (Or.inl rfl) (pe_lst pa_nil)) 
        (pss_cons (ps_for (passes_of rfl) rfl (pi_range2 rfl T.range (pa_cons (pv 1) (pa_cons (pe_op op_add (pe_glob (v := .int 5) rfl e5 ⟨_, rfl⟩) pe_int) pa_nil))) (pg_name (i := 4) sc_losses_row.nd rfl (Or.inl rfl)) 
          (pss_cons (ps_expr (pe_bm PySem.F.plainAttrs_list PySem.F.slot_list_append PySem.F.type_list_append mt_append (pv 3) (pa_cons (pe_cal c_greatest_loss (hr.mono (by decide)) (pa_cons (pv 0) (pa_cons (pv 1) (pa_cons (pv 4) (pa_cons (pv 2) pa_nil))))) pa_nil))) 
          (pss_one (ps_if (pt_cmpR op_eq (pe_ix ix_list (pv 3) (pe_un un_neg pe_int) (fun _ _ => rfl)) pe_int (nomark _)) 
            (pss_one (ps_ret (pe_callTy cr_tupOf rfl T.tuple boot_tuple' (pa_cons (pv 3) pa_nil)))) pss_nil)))) 
        (pss_one (ps_ret (pe_callTy cr_tupOf rfl T.tuple boot_tuple' (pa_cons (pv 3) pa_nil)))))))), ?_⟩
      refine seq_in ?_
      exact ⟨_, rfl, ⟨x, rfl, hx⟩, q⟩
abbrev N__law_heard : List Str := ["_law_work", "e"]
theorem sc__law_heard : FnScope N__law_heard ["_law_work"] (defScope (top 67)) := ⟨rfl, rfl, rfl, by decide +kernel, rfl, by decide +kernel, by decide +kernel⟩
/-- what an error is made of by the hearer -/
def EHeard (Cw Cr Cu : Addr) (Q : VK) : XK := fun cls d H' => ∃ (dd : Addr) (v : V), d = some dd ∧ H' dd = some (.xd [(("at" : Str), v)]) ∧
  ((cls = .ref Cw ∧ ∀ p, H' p = none → Q (.ref p) (upd H' p (.tup [.str "web", v]))) ∨ (cls = .ref Cr ∧ ∀ p, H' p = none → Q (.ref p) (upd H' p (.tup [.str "rooms", v]))) ∨ (cls = .ref Cu ∧ ∀ p, H' p = none → Q (.ref p) (upd H' p (.tup [.str "rule", v]))))
def THeard (Cw Cr Cu : Addr) : (XK → Hp → VK → Prop) → Hp → VK → Prop := fun tl H Q => tl (EHeard Cw Cr Cu Q) H fun _ H1 => Q .non H1
structure Apart (K : PySem.W.Frag) (Cw Cr Cu : Addr) : Prop where
  ww : PySem.W.exmOne K (.ref Cw) (.ref Cw) = some true
  rw : PySem.W.exmOne K (.ref Cr) (.ref Cw) = some false
  rr : PySem.W.exmOne K (.ref Cr) (.ref Cr) = some true
  uw : PySem.W.exmOne K (.ref Cu) (.ref Cw) = some false
  ur : PySem.W.exmOne K (.ref Cu) (.ref Cr) = some false
  uu : PySem.W.exmOne K (.ref Cu) (.ref Cu) = some true
theorem takes_len {X : Cx} {W : WX} (t : Takes X W) : Takes X (fun cls d σ H => σ.length = X.N.length → W cls d σ H) := fun u s' ⟨a, B, sI, pins, σ, H, cls, d, e, I, nb, up, sky, na, os, ag, w⟩ => t u s' ⟨a, B, sI, pins, σ, H, cls, d, e, I, nb, up, sky, na, os, ag, w I.len⟩
end
section
variable {X : Cx} {Cw Cr Cu fw fr fu : Addr}
theorem heard_gives {g : Addr} {cdg : Value} {q : Str} (Ew : ErrTxt X.prog X.K X.mg "InvalidWeb" Cw fw) (Er : ErrTxt X.prog X.K X.mg "InvalidRooms" Cr fr) (Eu : ErrTxt X.prog X.K X.mg "InvalidRule" Cu fu) (Ap : Apart X.K Cw Cr Cu) :
    LamX.GivesTo X N__law_heard "_law_heard" (defScope (top 67)) g cdg (defBody (top 67)) "_law_work" q (THeard Cw Cr Cu) := by
  intro f c' s H Q tl act hc h
  have at1 : ∀ {σ : L2.St} {a : Addr}, σ.length = 2 → (σ.set 1 (some (.ref a)))[1]? = some (some (.ref a)) := fun {σ a} e => by rw [List.getElem?_set_self (by omega)]
  refine ⟨_, pss_cons (ps_try_first (X := (cxOf C8.CX0 X.prog X.w X.K X.mg X.base N__law_heard "_law_heard" (defScope (top 67)) g cdg X.A X.stack s H C8.E0).nox) (i := 1) (n := "e")
      (tb := fun W D σ H => ∃ Ech : XK, (∀ cls d σ' H', Ech cls d H' → σ'.length = 2 → W cls d σ' H') ∧ σ[0]? = some (some (.ref f)) ∧ H c' = some (LamX.CodeO c' q) ∧ tl Ech H fun _ H1 => D.nx σ H1)
      (l := [(.ref Cw, fun a cls d => tRet (tTup (tCons (tC (.str "web")) (tCons (tAtE Cw a cls d (tVar 1)) tNil)))), (.ref Cr, fun a cls d => tRet (tTup (tCons (tC (.str "rooms")) (tCons (tAtE Cr a cls d (tVar 1)) tNil)))), (.ref Cu, fun a cls d => tRet (tTup (tCons (tC (.str "rule")) (tCons (tAtE Cu a cls d (tVar 1)) tNil))))])
      rfl rfl sc__law_heard.nd rfl rfl (fun W pn xe tk _ => ?_)
      (.cons ⟨rfl, by decide, .inl Ew.gC⟩ (fun a oe cls d pn hz hf => pss_one (ps_ret (pe_tup (pa_cons pe_str (pa_cons (pe_atE Ew hz hf (pv 1)) pa_nil)))))
        (.cons ⟨rfl, by decide, .inl Er.gC⟩ (fun a oe cls d pn hz hf => pss_one (ps_ret (pe_tup (pa_cons pe_str (pa_cons (pe_atE Er hz hf (pv 1)) pa_nil)))))
          (.cons ⟨rfl, by decide, .inl Eu.gC⟩ (fun a oe cls d pn hz hf => pss_one (ps_ret (pe_tup (pa_cons pe_str (pa_cons (pe_atE Eu hz hf (pv 1)) pa_nil))))) .nil)))) (pss_one (ps_ret pe_non)), ?_⟩
  · refine ⟨fun pins s' σ H' D I h' => ?_⟩
    obtain ⟨Ech, hW, h1, h2, h3⟩ := h'
    have hp := act (fun cls d σ H => σ.length = 2 → W cls d σ H) pn xe Ech ⟨339, 8, 339, 17⟩ ⟨339, 8, 339, 19⟩ (takes_len tk) hW
    exact (pss_one (ps_expr (pos := ⟨339, 8, 339, 19⟩) hp)).run pins s' σ H' D I ⟨h1, h2, h3⟩
  · refine ⟨EHeard Cw Cr Cu Q, fun cls d σ' H' he hl => ?_, rfl, hc, h⟩
    obtain ⟨dd, v, rfl, hd, h3⟩ := he
    have one : ∀ {C : Addr} {nm : Str} {a : Addr}, (∀ p, H' p = none → Q (.ref p) (upd H' p (.tup [.str nm, v]))) → cls = .ref C → tRet (tTup (tCons (tC (.str nm)) (tCons (tAtE C a cls (some dd) (tVar 1)) tNil))) { nx := fun _ _ => False, rt := Q } (σ'.set 1 (some (.ref a))) H' := fun {C nm a} k e => by
      subst e
      refine ⟨_, at1 hl, rfl, rfl, dd, v, rfl, hd, ?_⟩
      exact ⟨by show 2 ≤ sizeLine; decide, fun p hp => k p hp⟩
    rcases h3 with ⟨rfl, k⟩ | ⟨rfl, k⟩ | ⟨rfl, k⟩
    · exact ⟨true, Ap.ww, fun _ a _ => one k rfl, fun e => by cases e⟩
    · exact ⟨false, Ap.rw, fun e => (by cases e), fun _ => ⟨true, Ap.rr, fun _ a _ => one k rfl, fun e => by cases e⟩⟩
    · exact ⟨false, Ap.uw, fun e => (by cases e), fun _ => ⟨false, Ap.ur, fun e => (by cases e), fun _ => ⟨true, Ap.uu, fun _ a _ => one k rfl, fun e => by cases e⟩⟩⟩
end
end K52
set_option maxHeartbeats 4000000
/-! The law: what its walk rests on. -/
namespace K52
open PySem PySem.Spec PyProof.Rows L2
open LamX (Tabs TabS ExtN CodeO)
variable {P : Program} {w : World} {K : PySem.W.Frag}
theorem TS.extN {H H' : Hp} (e : ExtN H H') : TS H H' := fun a xs h => e a _ h fun ps z => by cases (show HO.tup xs = HO.tbl ps from z)
theorem rd_list {K : PySem.W.Frag} {H H' : Hp} {a : Addr} {xs : List V} (k : ∀ o, H a = some o → (∀ ps, o ≠ .tbl ps) → H' a = some o) (h : SqL K H a xs) : SqL K H' a xs := by
  rcases h with (h | ⟨o, h⟩) | h
  · exact .inl (.inl (k _ h fun ps z => by cases (show HO.lst xs = HO.tbl ps from z)))
  · exact .inl (.inr ⟨o, k _ h fun ps z => by cases (show HO.frz o (HO.lst xs) = HO.tbl ps from z)⟩)
  · exact .inr h
theorem SqL.extN {H H' : Hp} {a : Addr} {xs : List V} (e : ExtN H H') (h : SqL K H a xs) : SqL K H' a xs := rd_list (fun o q n => e a o q n) h
theorem SqL.same' {H H' : Hp} {a : Addr} {xs : List V} (e : Same H H') (h : SqL K H a xs) : SqL K H' a xs := rd_list (fun o q _ => e a o q) h
theorem SqL.but {H0 H H' : Hp} {a l : Addr} {xs : List V} (e : But l H H') (h0 : SqL K H0 a xs) (hl : H0 l = none) (h : SqL K H a xs) : SqL K H' a xs := by
  rcases h0 with (h0 | ⟨o, h0⟩) | h0
  · exact rd_list (fun o q _ => e a o q (ne_of_none h0 hl)) h
  · exact rd_list (fun o q _ => e a o q (ne_of_none h0 hl)) h
  · exact .inr h0
theorem Tabs.but {T : List (Addr × Str)} {H H' : Hp} {l : Addr} (B : BoxAt H l) (e : But l H H') (t : Tabs T H) : Tabs T H' := fun p hp => by
  obtain ⟨ps, h1, h2, h3⟩ := t p hp
  obtain ⟨x, y, z, hl⟩ := B
  refine ⟨ps, e _ _ h1 fun q => ?_, h2, fun pos cv hc => ?_⟩
  · rw [q, hl] at h1
    cases (show HO.lst _ = HO.tbl ps from Option.some.inj h1)
  · obtain ⟨c, rfl, h4⟩ := h3 pos cv hc
    refine ⟨c, rfl, e _ _ h4 fun q => ?_⟩
    rw [q, hl] at h4
    cases (show HO.lst _ = HO.ext _ from Option.some.inj h4)
theorem Wrong.extN {H H' : Hp} (e : ExtN H H') {v : V} (h : Wrong K H v) : Wrong K H' v := by
  obtain ⟨T, a, b⟩ := h
  refine ⟨T, ?_, b⟩
  cases a with
  | data h => exact .data (h.mono (.extN e))
  | @lst a xs h => exact .lst (e _ _ h fun ps z => by cases (show HO.lst xs = HO.tbl ps from z))
  | bl z => exact .bl z
theorem Ask.ts {H H' : Hp} {v : V} {n : Nat} {L : List (Int × Int)} {rooms : Nat} (s : TS H H') (h : Ask K H v n L rooms) : Ask K H' v n L rooms := ⟨h.web.mono s, h.n1, h.n4, h.len, h.good, h.r1, h.r5⟩
theorem LRows.but {H H' : Hp} {R l : Addr} {as : List Addr} {n : Nat} {L : List (Int × Int)} (f : But l H H') (h1 : R ≠ l) (h2 : ∀ a ∈ as, a ≠ l) (h : LRows H R as n L) : LRows H' R as n L :=
  ⟨f _ _ h.1 h1, h.2.1, fun k a e => f _ _ (h.2.2 k a e) (h2 a (List.mem_of_getElem? e))⟩
theorem LRows.same {H H' : Hp} {R : Addr} {as : List Addr} {n : Nat} {L : List (Int × Int)} (f : Same H H') (h : LRows H R as n L) : LRows H' R as n L :=
  ⟨f _ _ h.1, h.2.1, fun k a e => f _ _ (h.2.2 k a e)⟩
section
variable {σ : L2.St} {H : Hp} {tl : TA} {Pv : V → Hp → Prop} {R : List V → Hp → (V → Hp → Prop) → Prop}
def reprL : Option Int → Str
  | some m => toString m
  | none => "None"
theorem gv_repr {te : TE} {r : Option Int} (hs : ∀ m, r = some m → 0 ≤ m ∧ m ≤ 6000) (h : Gv te σ H (PV (lossV r))) : Gv (tCB rReprN (tCons te tNil)) σ H (PV (.str (reprL r))) :=
  gv_call1 h fun x H' Q ex q => by
    have ex : x = lossV r := ex
    subst ex
    cases r with
    | none => exact .inr ⟨rfl, q _ H' (Same.refl _) rfl⟩
    | some m =>
      have hm := hs m rfl
      refine .inl ⟨m, rfl, ?_, q _ H' (Same.refl _) rfl⟩
      have h1 : m.natAbs ≤ 6000 := by omega
      by_cases h0 : m.natAbs = 0
      · rw [h0]; decide
      · have : m.natAbs.log2 < 13 := (Nat.log2_lt h0).mpr (by omega)
        omega
/-- heard: the error's word and place -/
theorem heard_in {Cw Cr Cu C : Addr} {nm : Str} {kk : Int} {t : XK → TE} {tb : TE} {A : L2.TS} {En : L2.Ends} {T : List (Addr × Str)} (hT : Tabs T H)
    (go : ∀ (H1 : Hp) (E : XK) (Q : VK), ExtN H H1 → Tabs T H1 → (∀ (H' : Hp) (d : Addr), Same H1 H' → H' d = some (.xd [(("at" : Str), .int kk)]) → E (.ref C) (some d) H') → t E σ H1 Q)
    (hC : (C = Cw ∧ nm = "web") ∨ (C = Cr ∧ nm = "rooms") ∨ (C = Cu ∧ nm = "rule")) (hsh : SeqAt.shaped (NestedKey.tup [NestedKey.text nm, NestedKey.num kk]).data = true) (hb : ∀ H', Gv tb σ H' (PD K (.tup [.text nm, .num kk]))) (q : ∀ H', ExtN H H' → Tabs T H' → En.nx σ H') :
    tIfS (tTest (tOp (rNeD K) (LamX.tLam T (THeard Cw Cr Cu) t) tb)) A tNext En σ H := by
  refine ⟨hT, fun H1 e1 t1 => go H1 _ _ e1 t1 fun H' d s hd => ⟨d, .int kk, rfl, hd, ?_⟩⟩
  have key : ∀ p, H' p = none → tb σ (upd H' p (.tup [.str nm, .int kk])) fun y H2 => rNeD K (.ref p) y H2 fun v H3 => ∃ b, v = .bl b ∧ if b = true then A En σ H3 else tNext En σ H3 := fun p hp => by
    have s1 : Same H' (upd H' p (.tup [.str nm, .int kk])) := Same.new hp
    refine hb _ _ (Same.refl _) _ fun y H3 s3 hy => ?_
    have hx : Is K H3 (.ref p) (.tup [.text nm, .num kk]) := .tup (.inl (s3 _ _ upd_same)) (.cons (.text _) (.cons (.num _) .nil))
    refine ⟨_, _, hx.dp, hy.dp, hsh, hsh, false, ?_, ?_⟩
    · rw [eqv_dec]; simp
    · rw [if_neg (by decide)]
      have sa := (s.trans s1).trans s3
      exact q H3 (e1.trans (.of sa)) (t1.ext sa)
  rcases hC with ⟨rfl, rfl⟩ | ⟨rfl, rfl⟩ | ⟨rfl, rfl⟩
  · exact .inl ⟨rfl, key⟩
  · exact .inr (.inl ⟨rfl, key⟩)
  · exact .inr (.inr ⟨rfl, key⟩)
end
/-- what a told row says -/
theorem RowOk.room {n : Nat} {L : List (Int × Int)} {rooms : Nat} {lru : Bool} {rs : List (Option Int)} (h : RowOk (SetW n L rooms lru) rooms rs) (h1 : 1 ≤ rooms) : rooms + rs.length - 1 ≤ max n rooms := by
  apply Decidable.byContradiction
  intro hc
  have hlt : max n rooms - rooms + 1 < rs.length := by omega
  obtain ⟨r, hr⟩ : ∃ r, rs[max n rooms - rooms]? = some r := ⟨_, List.getElem?_eq_getElem (by omega)⟩
  have hl := (h.loss _ r hr).1
  have hw := loss_wide (S := SetW n L rooms lru (rooms + (max n rooms - rooms))) (wf_set h1 (by omega)) (by
    show (rowsC n L).length ≤ rooms + (max n rooms - rooms)
    rw [rowsC_len]; omega)
  rw [hl.unique hw] at hr
  exact h.pre _ hlt hr
theorem RowOk.falls {n : Nat} {L : List (Int × Int)} {rooms : Nat} {rs : List (Option Int)} (h : RowOk (SetW n L rooms true) rooms rs) (h1 : 1 ≤ rooms) : ∀ k x y, rs[k]? = some x → rs[k + 1]? = some y → notAbove y x := fun k x y hx hy =>
  lru_falls (S := SetW n L rooms true (rooms + k)) (wf_set h1 (by omega)) rfl (h.loss k x hx).1 (h.loss (k + 1) y hy).1
theorem last_get {α : Type} {l : List α} {x : α} (h : l.getLast? = some x) : l[l.length - 1]? = some x := by rw [← List.getLast?_eq_getElem?]; exact h
theorem Wrong.but {H H' : Hp} {l : Addr} (B : BoxAt H l) (B' : BoxAt H' l) (f : But l H H') {v : V} (h : Wrong K H v) : Wrong K H' v := by
  obtain ⟨T, a, b⟩ := h
  refine ⟨T, ?_, b⟩
  cases a with
  | data h => exact .data (h.mono (f.ts B))
  | @lst c xs h =>
    by_cases e : c = l
    · subst e
      obtain ⟨x, y, z, h'⟩ := B'
      exact .lst h'
    · exact .lst (f _ _ h e)
  | bl z => exact .bl z
theorem up_Wrong : Up (fun v H => Wrong K H v) := fun _ _ _ s h => h.mono s
theorem pall_all {W : V → Hp → Prop} {H : Hp} : ∀ {Ps : List (V → Hp → Prop)} {vs : List V}, PAll Ps vs H → (∀ Q ∈ Ps, ∀ v, Q v H → W v H) → vs.length = Ps.length ∧ ∀ v ∈ vs, W v H
  | _, _, .nil, _ => ⟨rfl, fun _ h => by cases h⟩
  | _, _, .cons (P := P) (Ps := Ps) h t, k => by
    obtain ⟨h1, h2⟩ := pall_all t fun Q hQ => k Q (List.mem_cons_of_mem _ hQ)
    refine ⟨by simp [h1], fun v hv => ?_⟩
    rcases List.mem_cons.mp hv with rfl | hv
    · exact k P List.mem_cons_self _ h
    · exact h2 v hv
theorem pall3 {A B C : V → Hp → Prop} {vs : List V} {H : Hp} (h : PAll [A, B, C] vs H) : ∃ x y z, vs = [x, y, z] ∧ A x H ∧ B y H ∧ C z H := by
  cases h with
  | cons a h => cases h with
    | cons b h => cases h with
      | cons c h => cases h; exact ⟨_, _, _, rfl, a, b, c⟩
theorem pall4 {A B C D : V → Hp → Prop} {vs : List V} {H : Hp} (h : PAll [A, B, C, D] vs H) : ∃ x y z u, vs = [x, y, z, u] ∧ A x H ∧ B y H ∧ C z H ∧ D u H := by
  cases h with
  | cons a h =>
    obtain ⟨x, y, z, rfl, b⟩ := pall3 h
    exact ⟨_, _, _, _, rfl, a, b⟩
section
variable {σ : L2.St} {H : Hp} {tb : TE} {tl : TA} {l : Addr} {PA : List V → Hp → Prop} {Q : VK}
theorem pick_lst (hb : Gv tb σ H (PV (.ref l))) (hs : Ga tl σ H PA) (B : BoxAt H l) (hne : ∀ vs H', PA vs H' → vs ≠ [] ∧ vs.length ≤ 1000) (k : ∀ vs v H1 H', Same H H1 → PA vs H1 → v ∈ vs → BoxAt H' l → But l H1 H' → Q v H') : tCall spPick [] E0 (tCons tb (tCons (tLst tl) tNil)) σ H Q := by
  refine hb.run fun x H1 s1 ex => ?_
  have ex : x = .ref l := ex
  subst ex
  refine hs H1 s1 _ fun vs H2 s2 p => ?_
  obtain ⟨n1, n2⟩ := hne _ _ p
  refine ⟨by rw [sizeLine_eq]; omega, fun c hc => ?_⟩
  have B2 := B.same (s1.trans s2)
  exact ⟨l, c, vs, rfl, B2.same (Same.new hc), upd_same, (B2.ne hc).symm, n1, n2, fun v H' hv hb' f' => k vs v H2 H' (s1.trans s2) p hv hb' ((But.of (Same.new hc)).trans f')⟩
end
/-- a told loss as data -/
def lossD : Option Int → D
  | none => .none
  | some m => .num m
theorem isAll_loss {H : Hp} : ∀ rs : List (Option Int), IsAll K H (rs.map lossV) (rs.map lossD)
  | [] => .nil
  | none :: r => .cons .none (isAll_loss r)
  | some m :: r => .cons (.num m) (isAll_loss r)
theorem wrong_non {H : Hp} : Wrong K H .non := ⟨"NoneType", .data .none, fun e => absurd e (by decide)⟩
theorem wrong_int {H : Hp} (k : Int) : Wrong K H (.int k) := ⟨"int", .data (.num k), fun e => absurd e (by decide)⟩
theorem wrong_str {H : Hp} {s : Str} (h1 : s ≠ "last used") (h2 : s ≠ "first in") : Wrong K H (.str s) := ⟨"str", .data (.text s), fun _ => ⟨s, rfl, h1, h2⟩⟩
theorem wrong_tup {H : Hp} {ds : List D} {v : V} (h : Is K H v (.tup ds)) : Wrong K H v := ⟨"tuple", .data h, fun e => absurd e (by decide)⟩
theorem wrong_lst {H : Hp} {a : Addr} {xs : List V} (h : H a = some (.lst xs)) : Wrong K H (.ref a) := ⟨"list", .lst h, fun e => absurd e (by decide)⟩
end K52
set_option maxHeartbeats 4000000
/-! The law: its derivation. -/
namespace K52
open PySem PySem.Spec PyProof.Rows L2
open PySem.K52X (ErrTxt)
/-- a def that is called by keywords alone -/
def CalK (P : Program) (w : World) (K : PySem.W.Frag) (mg : Str → Option Value) (base : Heap) (x : Str) (k : Nat) (ps : List Str) (sp : Sp) : Prop :=
  ∃ f fd, mg x = some (.ref f) ∧ PySem.W.keepIn K (.ref f) = true ∧ (∀ (s : Shared) (ws : List Value), K.In s.heap → ws.length = ps.length → BindsTo s fd ⟨[], ps.zip ws⟩ (ps.zip ws)) ∧ FnOk P w K mg base (L2.CX P w) k f fd ps sp
def tCallK0 (sp : Sp) (tk : TA) : TE := fun σ H Q => tk σ H fun vs H1 => sp vs H1 Q E0
section
variable {X : Cx} {k : Nat} {ps : List Str} {sp : Sp} {x : Str} {p pos : Pos} {kws : List Keyword} {tk : TA}
theorem pe_callK0 (c : CalK X.prog X.w X.K X.mg X.base x k ps sp) (hr : Room k X.A) (hkw : PK X kws tk) (hg : Gl X x := by rfl) (hall : (backToKw pos (keywordEach kws X.env)).all (·.1.isSome) = true := by rfl) (hks : (backToKw pos (keywordEach kws X.env)).filterMap (·.1) = ps := by rfl)
    (hdb : (x == ("__debug__" : Str)) = false := by decide) (hpl : ((backTo pos (starEach [] X.env)).any (·.1) || (backToKw pos (keywordEach kws X.env)).any (·.1.isNone)) = false := by rfl) :
    PE X (.Call (.Name x p) [] kws pos) (tCallK0 sp tk) := by
  refine ⟨fun pins s σ H Q I h => ?_⟩
  obtain ⟨f, fd, g, kp, b, F⟩ := c
  refine wpAny_Call_Name_kw (ld_glob I hg g ?_ hdb)
  refine PySem.W.callWith_KW0 (h₀ := X.base) I.ok.mod.kin kp hall (thn (hkw.run pos pins s σ H _ I h) fun ws s2 ⟨zs, H2, I2, rz, q2⟩ => ⟨I2.kIn, ?_⟩) hpl
  rw [hks]
  show wpAny _ _ (call (.ref f) [] (ps.zip ws)) _ _ _
  have hl : ws.length = ps.length := by rw [← rz.length]; exact F.len _ _ _ _ q2
  refine wpAny_call (codeAny_mono (F.run X.A X.stack s2 H2 ⟨[], ps.zip ws⟩ ws zs Q E0 hr I2.env0 (b s2 ws I2.kIn hl) rz q2) fun r s' hq => ?_)
  cases r with
  | error e => exact passL pins σ _ _ e s' I2 hq
  | ok fl =>
    cases fl with
    | ret u => exact I2.after hq
    | next => exact False.elim hq
    | brk => exact False.elim hq
    | cont => exact False.elim hq
variable {Cw Cr Cu fw fr fu c P0 : Addr} {t : XK → TE} {params : Arguments} {body : Expr} {scope : Scope} {lpos : Pos}
theorem pe_heard (d : DefAt X.K X.mg "_law_heard" 67) (Ew : ErrTxt X.prog X.K X.mg "InvalidWeb" Cw fw) (Er : ErrTxt X.prog X.K X.mg "InvalidRooms" Cr fr) (Eu : ErrTxt X.prog X.K X.mg "InvalidRule" Cu fu) (Ap : Apart X.K Cw Cr Cu) (TB : LamX.TabB X.base X.mg c P0) (hcode : X.env.code = .ref c) (hr : Room (k + 2) X.A)
    (L : LamX.LamS X.env.scope scope) (hdef : defaultsOf params X.env = ([], [])) (hbind : ∀ (q : Str) (cl : List (Str × Addr)) (pm cv ctv : Value), bindArgs (PySem.W.kla_fn "<lambda>" q params body scope cl pm cv ctv) ⟨[], []⟩ = pure [])
    (hbody : ∀ (A : Around) (outer : List Env) (s : Shared) (H : Hp) (E : XK) (f c' : Addr), Room k (A.deeper (LamX.lamEnv X scope s.heap.objs.size f c')) → PE (LamX.lamCx X A outer s H E scope f c') body (t E)) (hg : Gl X "_law_heard" := by rfl) :
    PE X (.Call (.Name "_law_heard" p) [.Lambda params body scope lpos] [] pos) (LamX.tLam [(P0, X.env.qual ++ "<lambda>")] (THeard Cw Cr Cu) t) := by
  obtain ⟨g, fd, gm, F⟩ := d
  have hb := F.binds (ps := ["_law_work"]) fun _ _ _ _ _ _ us hl => match us, hl with | [_], _ => rfl
  have kp := F.kp
  obtain ⟨oc, od, kV, doc, pm, an, cdv, ct, osl, rfl, lk, hcd⟩ := F.ex
  exact LamX.pe_lamcall (a := "_law_work") hg gm kp lk hcd hb sc__law_heard rfl (Or.inl rfl) (heard_gives Ew Er Eu Ap) TB hcode List.mem_cons_self (fun p hp _ => by cases hp with | head => rfl | tail _ h => cases h) hr L hdef hbind hbody
end
section
variable {P : Program} {w : World} {K : PySem.W.Frag} {mg : Str → Option Value} {base : Heap} {Cw Cr Cu fw fr fu c P0 : Addr}
theorem okK_losses_row (d : DefAt K mg "losses_row" 54) (T : Tx mg) (Cc : Co K mg) (c_need_web : Cal P w K mg base "need_web" 5 ["value"] (spP (RWeb K))) (c_need_rooms : Cal P w K mg base "need_rooms" 3 ["value"] (spP RRooms)) (c_is_string : Cal P w K mg base "is_string" 1 ["value"] (spP (RTy K fun t => t == "str"))) (c_greatest_loss : Cal P w K mg base "greatest_loss" 9 ["web", "rooms", "own", "rule"] (spP (RLoss K))) :
    CalK P w K mg base "losses_row" 10 ["web", "rooms", "word"] (spP (RRow K)) := by
  obtain ⟨f, fd, g, F⟩ := d
  have h := fn_losses_row (P := P) (w := w) (base := base) F T Cc c_need_web c_need_rooms c_is_string c_greatest_loss
  have kp := F.kp
  obtain ⟨oc, od, kV, doc, pm, an, cdv, ct, osl, rfl, lk, hcd⟩ := F.ex
  exact ⟨f, _, g, kp, fun s ws _ hl => match ws, hl with | [_, _, _], _ => BindsTo.of_eq (by first | rfl | with_unfolding_all rfl), h⟩
section
variable {σ : L2.St} {H : Hp} {tl : TA} {Pv : V → Hp → Prop} {R : List V → Hp → (V → Hp → Prop) → Prop}
theorem gv_callK0 {PA : List V → Hp → Prop} (ha : Ga tl σ H PA) (hr : ∀ vs H', Same H H' → PA vs H' → R vs H' Pv) : Gv (tCallK0 (spP R) tl) σ H Pv :=
  fun H1 s Q q => ha H1 s _ fun vs H2 s2 p => ⟨Pv, hr vs H2 (s.trans s2) p, fun v H3 s3 pv => q v H3 (s2.trans s3) pv⟩
end
section
variable {σ : L2.St} {H : Hp} {ta : TA}
theorem callS_in {sp : Sp} {EE : L2.St → XK} {Q : VK} {PA : List V → Hp → Prop} (ha : Ga ta σ H PA) (k : ∀ vs H1, Same H H1 → PA vs H1 → sp vs H1 Q (EE σ)) : tCallS sp EE ta σ H Q :=
  ha H (Same.refl _) _ fun vs H1 s p => k vs H1 s p
end
/-- the law's promise -/
def spLaw (K : PySem.W.Frag) (P0 : Addr) : Sp := fun vs H Q _ => ∃ (a : Addr) (ns : List Int), vs = [.ref a] ∧ SqL K H a (ns.map V.int) ∧ ns.length ≤ 63 ∧ H P0 = some (.tbl #[]) ∧ ∀ H', Q (.bl true) H'
abbrev N_law : List Str := ["_law_script", "_law_k", "_law_box_here", "_law_word", "_law_web_here", "_law_rows", "_law_rooms", "_law_told", "_law_at", "_law_most", "_law_walk_here", "_law_wrong"]
theorem sc_law : FnScope N_law ["_law_script"] (defScope (top 69)) := ⟨rfl, rfl, rfl, by decide +kernel, rfl, by decide +kernel, by decide +kernel⟩
theorem ok_law {f : Addr} {oc : Value} {od : Option Addr} {kV doc pm ct : Value} {an : Option Addr} {osl : Array (Option Value)} (lk : K.lookup f = some ⟨oc, od, .func (PySem.W.fnOf "law" "law" (defArgs (top 69)) (defBody (top 69)) (defScope (top 69)) .none kV doc pm an (.ref c) ct), osl⟩) (hcd : PySem.W.codeIn K (.ref c) "law" = true)
    (TB : LamX.TabB base mg c P0) (T : Tx mg) (dh : DefAt K mg "_law_heard" 67) (E_InvalidWeb : ErrTxt P K mg "InvalidWeb" Cw fw) (E_InvalidRooms : ErrTxt P K mg "InvalidRooms" Cr fr) (E_InvalidRule : ErrTxt P K mg "InvalidRule" Cu fu) (Ap : Apart K Cw Cr Cu)
    (c__law_box : Cal P w K mg base "_law_box" 1 ["_law_script", "_law_k"] (spP (RBox K))) (c__law_pick : Cal P w K mg base "_law_pick" 2 ["_law_box_here", "_law_some"] spPick) (c__law_web : Cal P w K mg base "_law_web" 3 ["_law_box_here", "_law_least_here", "_law_most"] (spWebL K))
    (c__law_beside : Cal P w K mg base "_law_beside" 1 ["_law_web_here"] (spP (RBesideL K))) (c__law_take : Cal P w K mg base "_law_take" 1 ["_law_box_here", "_law_many"] spTake) (c_losses_rowK : CalK P w K mg base "losses_row" 10 ["web", "rooms", "word"] (spP (RRow K)))
    (c_losses_row_bad : Cal P w K mg base "losses_row" 10 ["web", "rooms", "word"] (spBadRow K Cw Cr Cu)) (c__law_never_rises : Cal P w K mg base "_law_never_rises" 1 ["_law_row"] (spP (RNever K))) (c_greatest_loss : Cal P w K mg base "greatest_loss" 9 ["web", "rooms", "own", "rule"] (spP (RLoss K)))
    (c__law_walk : Cal P w K mg base "_law_walk" 3 ["_law_box_here", "_law_rows", "_law_most"] (spWalkL K)) (c__law_moves : Cal P w K mg base "_law_moves" 2 ["_law_rooms", "_law_rule", "_law_walk_here"] (spP (RMoves K))) (c__law_least : Cal P w K mg base "_law_least" 2 ["_law_walk_here", "_law_rooms"] (spP (RLeast K))) :
    FnOk P w K mg base (L2.CX P w) 13 f (PySem.W.fnOf "law" "law" (defArgs (top 69)) (defBody (top 69)) (defScope (top 69)) .none kV doc pm an (.ref c) ct) ["_law_script"] (spLaw K P0) := by
  refine fn_of lk hcd sc_law (fun vs H Q E h => ?_) fun A outer s H vs Q E hr h => ?_
  · obtain ⟨a, ns, rfl, _⟩ := h; rfl
  · obtain ⟨a, ns, rfl, hS, hlen, hP0, q⟩ := h
    refine ⟨_, 
        (pss_cons (ps_for (passes_of rfl) rfl (pi_range1 rfl T.range (pa_cons pe_int pa_nil)) (pg_name (i := 1) sc_law.nd rfl (Or.inl rfl)) 
          (pss_cons (ps_set (i := 2) sc_law.nd rfl (Or.inl rfl) (pe_cal c__law_box (hr.mono (by decide)) (pa_cons (pv 0) (pa_cons (pv 1) pa_nil)))) 
          (pss_cons (ps_set (i := 3) sc_law.nd rfl (Or.inl rfl) (pe_cal c__law_pick (hr.mono (by decide)) (pa_cons (pv 2) (pa_cons (pe_lst (pa_cons pe_str (pa_cons pe_str (pa_cons pe_str pa_nil)))) pa_nil)))) 
          (pss_cons (ps_set (i := 4) sc_law.nd rfl (Or.inr rfl) (pe_cal c__law_web (hr.mono (by decide)) (pa_cons (pv 2) (pa_cons pe_int (pa_cons (pe_ix ix_list (pe_lst (pa_cons pe_int (pa_cons pe_int pa_nil))) (pe_callTy call_int1 rfl T.int boot_int' (pa_cons (pe_cmpR op_eq (pv 3) pe_str (nomark _)) pa_nil)) (fun _ _ => rfl)) pa_nil))))) 
          (pss_cons (ps_asg (pe_tup (pa_cons (pe_cal c__law_beside (hr.mono (by decide)) (pa_cons (pv 4) pa_nil)) (pa_cons (pe_op op_add pe_int (pe_cal c__law_take (hr.mono (by decide)) (pa_cons (pv 2) (pa_cons pe_int pa_nil)))) pa_nil))) (pg_tup rfl (pgs_cons (pg_name (i := 5) sc_law.nd rfl (Or.inl rfl)) (pgs_cons (pg_name (i := 6) sc_law.nd rfl (Or.inr rfl)) pgs_nil)))) 
          (pss_cons (ps_set (i := 7) sc_law.nd rfl (Or.inr rfl) (pe_callK0 c_losses_rowK (hr.mono (by decide)) (pk_cons (pv 4) (pk_cons (pv 6) (pk_cons (pv 3) pk_nil))))) 
          (pss_cons (ps_if (PW.pt (pw_or (pt_not (pt_val (pe_callB call_isi rfl T.isinstance boot_isi (pa_cons (pv 7) (pa_cons (pe_bltn (v := .ty "tuple") rfl T.tuple boot_tuple' rfl) pa_nil))))) (pw_or (pt_cmpR op_eq (pe_callB cr_lenS rfl T.len boot_len' (pa_cons (pv 7) pa_nil)) pe_int (nomark _)) (pw_or1 (pt_cmpR op_gt (pe_callB cr_lenS rfl T.len boot_len' (pa_cons (pv 7) pa_nil)) (pe_op op_sub pe_int (pv 6)) (nomark _)))))) 
            (pss_one (ps_ret pe_bl)) pss_nil) 
          (pss_cons (ps_if (PW.pt (pw_or (pt_cmpR (op_neD hr.units) (pe_lc (own := [("_law_at", 8)]) (g := gName 8) (tt := _) rfl sc_law.nd (pi_range1 rfl T.range (pa_cons (pe_op op_sub (pe_callB cr_lenS rfl T.len boot_len' (pa_cons (pv 7) pa_nil)) pe_int) pa_nil)) (blkOk_by (N := N_law) (sc := defScope (top 69)) (by decide +kernel)) (fun _ _ _ _ _ => (pg_name (i := 8) sc_law.nd rfl (Or.inl rfl))) (fun _ _ _ _ _ => (pts_one (pt_cmpR op_eq (pe_ix (ixK (r := rIxT) ix_tup) (pv 7) (pv 8) (fun _ _ => rfl)) pe_int (nomark _)))) (fun _ _ _ _ _ => (pv 8))) (pe_lst pa_nil) (nomark _)) (pw_or1 (PW.pt (pw_and (pt_cmpR op_ne (pe_ix ix_tup (pv 7) (pe_un un_neg pe_int) (fun _ _ => rfl)) pe_int (nomark _)) (pw_and1 (pt_cmpR op_ne (pe_callB cr_lenS rfl T.len boot_len' (pa_cons (pv 7) pa_nil)) (pe_op op_sub pe_int (pv 6)) (nomark _)))))))) 
            (pss_one (ps_ret pe_bl)) pss_nil) 
          (pss_cons (ps_if (PW.pt (pw_or (pt_cmpR op_gt (pe_op op_sub (pe_op op_add (pv 6) (pe_callB cr_lenS rfl T.len boot_len' (pa_cons (pv 7) pa_nil))) pe_int) (pe_callB (call_max2 rfl) rfl T.max boot_max' (pa_cons (pe_ix ix_tup (pv 4) pe_int (fun _ _ => rfl)) (pa_cons (pv 6) pa_nil))) (nomark _)) (pw_or1 (PW.pt (pw_and (pt_cmpR op_eq (pv 3) pe_str (nomark _)) (pw_and1 (pt_not (pt_val (pe_cal c__law_never_rises (hr.mono (by decide)) (pa_cons (pv 7) pa_nil)))))))))) 
            (pss_one (ps_ret pe_bl)) pss_nil) 
          (pss_cons (ps_for (passes_of rfl) rfl (pi_enumT rfl T.enumerate (pa_cons (pv 7) pa_nil)) (pg_tup rfl (pgs_cons (pg_name (i := 8) sc_law.nd rfl (Or.inl rfl)) (pgs_cons (pg_name (i := 9) sc_law.nd rfl (Or.inl rfl)) pgs_nil))) 
            (pss_cons (ps_if (pt_cmpR op_ne (pe_callB cr_reprN rfl T.repr boot_repr' (pa_cons (pv 9) pa_nil)) (pe_callB cr_reprN rfl T.repr boot_repr' (pa_cons (pe_cal c_greatest_loss (hr.mono (by decide)) (pa_cons (pv 4) (pa_cons (pv 6) (pa_cons (pe_op op_add (pv 6) (pv 8)) (pa_cons (pv 3) pa_nil))))) pa_nil)) (nomark _)) 
              (pss_one (ps_ret pe_bl)) pss_nil) 
            (pss_cons (ps_set (i := 10) sc_law.nd rfl (Or.inl rfl) (pe_cal c__law_walk (hr.mono (by decide)) (pa_cons (pv 2) (pa_cons (pv 5) (pa_cons pe_int pa_nil))))) 
            (pss_one (ps_if (PW.pt (pw_and (pt_cmpR op_notN (pv 9) pe_non (nomark _)) (pw_and1 (pt_cmpR op_gt (pe_op op_sub (pe_cal c__law_moves (hr.mono (by decide)) (pa_cons (pe_op op_add (pv 6) (pv 8)) (pa_cons (pv 3) (pa_cons (pv 10) pa_nil)))) (pe_cal c__law_least (hr.mono (by decide)) (pa_cons (pv 10) (pa_cons (pv 6) pa_nil)))) (pv 9) (nomark _))))) 
              (pss_one (ps_ret pe_bl)) pss_nil))))) 
          (pss_cons (ps_set (i := 11) sc_law.nd rfl (Or.inr rfl) (pe_cal c__law_pick (hr.mono (by decide)) (pa_cons (pv 2) (pa_cons (pe_lst (pa_cons pe_non (pa_cons pe_str (pa_cons pe_str (pa_cons pe_int (pa_cons (pe_tup (pa_cons pe_int (pa_cons (pe_tup pa_nil) pa_nil))) (pa_cons (pe_lst (pa_cons pe_str pa_nil)) (pa_cons pe_str pa_nil)))))))) pa_nil)))) 
          (pss_cons (ps_if (pt_cmpR (op_neD hr.units) (pe_heard dh E_InvalidWeb E_InvalidRooms E_InvalidRule Ap TB rfl (hr.mono (by decide)) (LamX.lamS_by (show LamX.lamSB (defScope (top 69)) _ = true by decide +kernel)) rfl (fun _ _ _ _ _ => rfl) (fun A outer s H E f c' hr2 => pe_calE c_losses_row_bad hr2 (takes_of rfl rfl rfl rfl) (pa_cons (pv 4) (pa_cons (pv 6) (pa_cons (pv 11) pa_nil))))) (pe_tup (pa_cons pe_str (pa_cons (pe_un un_neg pe_int) pa_nil))) (nomark _)) 
            (pss_one (ps_ret pe_bl)) pss_nil) 
          (pss_cons (ps_if (pt_cmpR (op_neD hr.units) (pe_heard dh E_InvalidWeb E_InvalidRooms E_InvalidRule Ap TB rfl (hr.mono (by decide)) (LamX.lamS_by (show LamX.lamSB (defScope (top 69)) _ = true by decide +kernel)) rfl (fun _ _ _ _ _ => rfl) (fun A outer s H E f c' hr2 => pe_calE c_losses_row_bad hr2 (takes_of rfl rfl rfl rfl) (pa_cons (pv 4) (pa_cons pe_int (pa_cons (pv 11) pa_nil))))) (pe_tup (pa_cons pe_str (pa_cons (pe_un un_neg pe_int) pa_nil))) (nomark _)) 
            (pss_one (ps_ret pe_bl)) pss_nil) 
          (pss_one (ps_if (pt_cmpR (op_neD hr.units) (pe_heard dh E_InvalidWeb E_InvalidRooms E_InvalidRule Ap TB rfl (hr.mono (by decide)) (LamX.lamS_by (show LamX.lamSB (defScope (top 69)) _ = true by decide +kernel)) rfl (fun _ _ _ _ _ => rfl) (fun A outer s H E f c' hr2 => pe_calE c_losses_row_bad hr2 (takes_of rfl rfl rfl rfl) (pa_cons (pe_tup (pa_cons pe_int (pa_cons (pe_tup (pa_cons (pe_tup (pa_cons pe_int (pa_cons pe_int pa_nil))) pa_nil)) pa_nil))) (pa_cons pe_non (pa_cons (pv 11) pa_nil))))) (pe_tup (pa_cons pe_str (pa_cons pe_int pa_nil))) (nomark _)) 
            (pss_one (ps_ret pe_bl)) pss_nil))))))))))))))) 
        (pss_one (ps_ret pe_bl))), ?_⟩
    have TT0 : LamX.Tabs [(P0, ("law" : Str) ++ ".<locals>." ++ "<lambda>")] H := fun p hp => by
      cases hp with
      | head => exact LamX.TabS.nil hP0
      | tail _ h => cases h
    refine seq_in ?_
    refine wi_rng1 (j := 2) (ga_one gv_c up_V) (by omega) (by omega) _ (Same.refl _) _ fun H1 s1 => ?_
    refine for_range (lo := 0) (n := ((2 : Int)).toNat) (fun k σ H' => (∃ x1 x2 x3 x4 x5 x6 x7 x8 x9 x10 x11 : Option V, σ = [some (.ref a), x1, x2, x3, x4, x5, x6, x7, x8, x9, x10, x11]) ∧ SqL K H' a (ns.map V.int) ∧ LamX.Tabs [(P0, ("law" : Str) ++ ".<locals>." ++ "<lambda>")] H')
      ⟨⟨none, none, none, none, none, none, none, none, none, none, none, rfl⟩, SqL.same' s1 hS, TT0.ext s1⟩ (fun k σ H' hk pp => ?_) fun σ H' pp => ?_
    · obtain ⟨⟨x1, x2, x3, x4, x5, x6, x7, x8, x9, x10, x11, rfl⟩, hS0, hT0⟩ := pp
      have e0 : (0 : Int) + (k : Int) = k := by omega
      rw [e0]
      dsimp only
      -- the box
      refine seq_in (asg_in (Gv.run (gv_call (R := RBox K) (P := fun v' H'' => ∃ l, v' = .ref l ∧ BoxAt H'' l ∧ H' l = none) (ga_two (gv_var (i := 0) (v := .ref a) (P := fun v H => v = .ref a ∧ SqL K H a (ns.map V.int)) rfl ⟨rfl, hS0⟩ fun _ _ _ s h => ⟨h.1, SqL.same' s h.2⟩) (fun _ _ _ s h => ⟨h.1, SqL.same' s h.2⟩) (gv_v (i := 1) (v := .int (k : Int)) rfl) up_V) fun vs H2 s pp => ?_) fun x H2 s2 hx => ?_))
      · cases pp with
        | cons e1 pp => cases pp with
          | cons e2 pp =>
            cases pp; cases e2
            obtain ⟨rfl, hq⟩ := e1
            exact ⟨a, ns, k, rfl, hq, hlen, fun v' H3 ⟨l, h1, h2, h3⟩ => ⟨l, h1, h2, same_none s h3⟩⟩
      obtain ⟨l, rfl, hb2, hl0⟩ := hx
      have hS2 := SqL.same' s2 hS0
      have hT2 := hT0.ext s2
      dsimp only
      -- the word
      refine seq_in (asg_in ?_)
      refine pick_lst (l := l) (gv_v (i := 2) rfl) (ga_cons (gv_c (v := .str "last used")) up_V (ga_cons (gv_c (v := .str "last used")) up_V (ga_cons (gv_c (v := .str "first in")) up_V ga_nil))) hb2 (fun vs H' p => ?_) fun vs v H2' H3 sp p hv hb3 f3' => ?_
      · obtain ⟨x, y, z, rfl, _⟩ := pall3 p
        exact ⟨by simp, by simp⟩
      obtain ⟨lru, rfl⟩ : ∃ lru, v = .str (wordS lru) := by
        obtain ⟨x, y, z, rfl, h1, h2, h3⟩ := pall3 p
        have h1 : x = .str "last used" := h1
        have h2 : y = .str "last used" := h2
        have h3 : z = .str "first in" := h3
        subst h1; subst h2; subst h3
        rcases List.mem_cons.mp hv with rfl | hv
        · exact ⟨true, rfl⟩
        · rcases List.mem_cons.mp hv with rfl | hv
          · exact ⟨true, rfl⟩
          · rcases List.mem_cons.mp hv with rfl | hv
            · exact ⟨false, rfl⟩
            · cases hv
      have f3 : But l H2 H3 := (But.of sp).trans f3'
      have hS3 := SqL.but f3 hS0 hl0 hS2
      have hT3 := Tabs.but hb2 f3 hT2
      dsimp only
      -- the web
      refine seq_in (asg_in ?_)
      have gm : Gv (tOp (rIxL K) (tLst (tCons (tC (.int 4)) (tCons (tC (.int 3)) tNil))) (tCB (fun xs H Q => (∃ i, xs = [.int i] ∧ Q (.int i) H) ∨ ∃ k, xs = [.bl k] ∧ Q (.int (if k then 1 else 0)) H) (tCons (tOp rEq (tVar 3) (tC (.str "first in"))) tNil))) [some (.ref a), some (.int (k : Int)), some (.ref l), some (.str (wordS lru)), x4, x5, x6, x7, x8, x9, x10, x11] H3 (PV (.int ((if lru then 4 else 3 : Nat) : Int))) :=
        (gv_ixL (K := K) (ds := [.num 4, .num 3]) (d := .num ((if lru then 4 else 3 : Nat) : Int)) (k := if (!lru) = true then 1 else 0) (gv_lst (gd_cons (gv_num 4) (gd_cons (gv_num 3) gd_nil))) (gv_intB (b := !lru) ((gv_eq (x := .str (wordS lru)) (y := .str "first in") (gv_v (i := 3) rfl) gv_c rfl).imp fun v H' e => by rw [e, word_first])) (by cases lru <;> rfl)).int
      refine (ga_cons (gv_v (i := 2) (v := .ref l) rfl) up_V (ga_cons (gv_c (v := .int 2)) up_V (ga_cons gm up_V ga_nil))) H3 (Same.refl _) _ fun vs H4 s4 p => ?_
      obtain ⟨y1, y2, y3, rfl, e1, e2, e3⟩ := pall3 p
      have e1 : y1 = .ref l := e1
      have e2 : y2 = .int 2 := e2
      have e3 : y3 = .int ((if lru then 4 else 3 : Nat) : Int) := e3
      subst e1; subst e2; subst e3
      refine ⟨l, if lru then 4 else 3, rfl, hb3.same s4, by cases lru <;> simp, fun n L wv H5 n2 nm G hw hb5 f5 => ?_⟩
      have n4 : n ≤ 4 := Nat.le_trans nm (by cases lru <;> simp)
      have f35 : But l H3 H5 := (But.of s4).trans f5
      have hS5 := SqL.but f35 hS0 hl0 hS3
      have hT5 := Tabs.but hb3 f35 hT3
      dsimp only
      -- rows, rooms
      refine seq_in ?_
      refine Gv.run (te := tCall (spP (RBesideL K)) [] E0 (tCons (tVar 4) tNil)) (gv_call (R := RBesideL K) (P := fun v' H'' => ∃ R as, v' = .ref R ∧ LRows H'' R as n L ∧ H5 R = none ∧ ∀ c ∈ as, H5 c = none) (ga_one (gv_d (i := 4) (v := wv) (d := webD n L) rfl hw) up_D) fun vs H6 s pp => ?_) fun rv H6 s6 hR => ?_
      · cases pp with
        | cons e pp => cases pp; exact ⟨_, n, L, rfl, e, G, by omega, fun v' H'' ⟨R, as, h1, h2, h3, h4⟩ => ⟨R, as, h1, h2, same_none s h3, fun c hc => same_none s (h4 c hc)⟩⟩
      obtain ⟨R, as, rfl, hR6, hRn, hasn⟩ := hR
      have nR : R ≠ l := (hb5.ne hRn).symm
      have nas : ∀ c ∈ as, c ≠ l := fun c hc => (hb5.ne (hasn c hc)).symm
      refine take_run (l := l) (m := 3) (gv_v (i := 2) rfl) gv_c (hb5.same s6) (by decide) (by decide) fun k1 H7 k10 k13 hb7 f7 => ?_
      refine ⟨1, k1, rfl, rfl, ?_⟩
      obtain ⟨rooms, hrm⟩ : ∃ r : Nat, (1 : Int) + k1 = r := ⟨(1 + k1).toNat, by omega⟩
      dsimp only
      rw [hrm]
      have r1 : 1 ≤ rooms := by omega
      have r3 : rooms ≤ 3 := by omega
      refine ⟨by show 2 ≤ sizeLine; decide, fun p hp => ?_⟩
      refine gtup2 (.inl upd_same) ?_
      have s8 : Same H7 (upd H7 p (.tup [.ref R, .int (rooms : Int)])) := Same.new hp
      generalize upd H7 p (.tup [.ref R, .int (rooms : Int)]) = H8 at s8 ⊢
      have hb8 := hb7.same s8
      have f58 : But l H5 H8 := ((But.of s6).trans f7).trans (.of s8)
      have ask8 : Ask K H8 wv n L rooms := ⟨hw.mono (f58.ts hb5), by omega, n4, G.len, G.good, r1, by omega⟩
      have hR8 : LRows H8 R as n L := (hR6.but f7 nR nas).same s8
      have hS8 := SqL.but f58 hS0 hl0 hS5
      have hT8 := Tabs.but hb5 f58 hT5
      -- told
      refine seq_in (asg_in (Gv.run (gv_callK0 (R := RRow K) (Pv := fun v' H'' => ∃ ta rs, v' = .ref ta ∧ TupAt K H'' ta (rs.map lossV) ∧ RowOk (SetW n L rooms lru) rooms rs) (ga_cons (gv_d (i := 4) (v := wv) (d := webD n L) rfl ask8.web) up_D (ga_cons (gv_v (i := 6) (v := .int (rooms : Int)) rfl) up_V (ga_cons (gv_v (i := 3) (v := .str (wordS lru)) rfl) up_V ga_nil))) fun vs H' s pp => ?_) fun tv H9 s9 ht => ?_))
      · obtain ⟨y1, y2, y3, rfl, e1, e2, e3⟩ := pall3 pp
        have e2 : y2 = .int (rooms : Int) := e2
        have e3 : y3 = .str (wordS lru) := e3
        subst e2; subst e3
        exact ⟨y1, n, L, rooms, lru, rfl, ⟨e1, ask8.n1, ask8.n4, ask8.len, ask8.good, ask8.r1, ask8.r5⟩, fun v' H'' h => h⟩
      obtain ⟨ta, rs, rfl, ht9, hrow⟩ := ht
      dsimp only
      show tSeq _ _ _ [some (.ref a), some (.int (k : Int)), some (.ref l), some (.str (wordS lru)), some wv, some (.ref R), some (.int (rooms : Int)), some (.ref ta), x8, x9, x10, x11] _
      have hlen6 := hrow.len
      have hne := List.length_pos_iff.mpr hrow.ne
      have g7 : ∀ {σ : L2.St} {H' : Hp}, σ[7]? = some (some (.ref ta)) → Same H9 H' → Gv (tVar 7) σ H' (PD K (.tup (rs.map lossD))) := fun e s => gv_d (v := .ref ta) e (.tup (ht9.mono (.of s)) (isAll_loss rs))
      have glen : ∀ {σ : L2.St} {H' : Hp}, σ[7]? = some (some (.ref ta)) → Same H9 H' → Gv (tCB (rLenS K) (tCons (tVar 7) tNil)) σ H' (PV (.int rs.length)) := fun e s => (gv_lenT (g7 e s)).imp fun v' H' e => by rw [e, List.length_map]
      -- a tuple, not empty, not too long
      refine seq_in (Gt.run ((gt_or (b1 := false) (b2 := false) (gt_not (gt_val (gv_isi (T := "tuple") (c := "tuple") (b := true) (gv_var (i := 7) (v := .ref ta) (P := PTy K "tuple") rfl (.data (.tup (ds := rs.map lossD) ht9 (isAll_loss rs))) up_Ty) rfl))) fun _ => (gt_or (gt_test (gv_eq (x := .int rs.length) (y := .int 0) (glen rfl (Same.refl _)) gv_c rfl)) fun _ => gt_test (gv_opI (g := fun i j => .bl (decide (j < i))) (i := (rs.length : Int)) (j := 6 - (rooms : Int)) (glen rfl (Same.refl _)) (gv_opI (g := fun i j => .int (i - j)) (i := 6) (j := (rooms : Int)) gv_c (gv_v (i := 6) rfl)))).cast (b' := false) ?_).cast (b' := false) rfl) fun H10 s10 => ?_)
      · have e1 : ¬ V.int (rs.length : Int) = V.int 0 := fun z => by have := V.int.inj z; omega
        rw [decide_eq_false e1, decide_eq_false (by omega)]; rfl
      rw [if_neg (by decide)]
      refine next_in ?_
      dsimp only
      have s90 := s10
      have s80 := s9.trans s10
      -- no nought but the last; the last is one, or it is the fifth room
      obtain ⟨rl, hrl⟩ : ∃ r, rs.getLast? = some r := by
        cases e : rs.getLast? with
        | none => exact absurd (List.getLast?_eq_none_iff.mp e) hrow.ne
        | some r => exact ⟨r, rfl⟩
      have hrs : rs = rs.dropLast ++ [rl] := by
        have := List.dropLast_concat_getLast hrow.ne
        rw [List.getLast?_eq_some_getLast hrow.ne] at hrl
        rw [Option.some.inj hrl] at this
        exact this.symm
      have w1 := wi_rng1 (j := (rs.length : Int) - 1) (σ := [some (.ref a), some (.int (k : Int)), some (.ref l), some (.str (wordS lru)), some wv, some (.ref R), some (.int (rooms : Int)), some (.ref ta), x8, x9, x10, x11]) (H := H10) (ga_one (gv_opI (g := fun i j => .int (i - j)) (i := (rs.length : Int)) (j := 1) (glen rfl s90) gv_c) up_V) (by omega) (by omega)
      have en : ((rs.length : Int) - 1).toNat = rs.length - 1 := by omega
      rw [en] at w1
      have hcomp := gv_lcRngN (K := K) (i := 8) (tt := tTest (tOp rEq (tOp (rIxT K) (tVar 7) (tVar 8)) (tC (.int 0)))) (te := tVar 8) (f := fun _ => none) w1 (by omega) fun H4 s4 j hj H5 s5 => by
        obtain ⟨r, hr⟩ : ∃ r, rs[j]? = some r := ⟨_, List.getElem?_eq_getElem (by omega)⟩
        have hne0 : ¬ lossV r = .int 0 := fun e => hrow.pre j (by omega) (by rw [hr]; cases r with
          | none => cases e
          | some m => rw [V.int.inj e])
        have ej : (0 : Int) + (j : Int) = ((j : Nat) : Int) := by omega
        rw [ej]
        exact ⟨false, (gt_test (gv_eq (x := lossV r) (y := .int 0) (gv_ixV (xs := rs.map lossV) (k := (j : Int)) (gv_v rfl) (ht9.mono (.of ((s90.trans s4).trans s5))) (gv_v rfl) (atI_nat (by rw [List.getElem?_map, hr]; rfl))) gv_c (scal_loss r 0))).cast (decide_eq_false hne0), fun e => (by cases e), fun _ => rfl⟩
      have hno : ∀ vs : List V, vs.filterMap (fun _ => (none : Option D)) = [] := fun vs => by
        induction vs with
        | nil => rfl
        | cons x xs ih => rw [List.filterMap_cons]; exact ih
      have gcomp : Gv (tOp (rNeD K) (tLc (iRng1 (tCons (tOp (rI0 fun i j => .int (i - j)) (tCB (rLenS K) (tCons (tVar 7) tNil)) (tC (.int 1))) tNil)) (gName 8) (tTest (tOp rEq (tOp (rIxT K) (tVar 7) (tVar 8)) (tC (.int 0)))) (tVar 8) [8]) (tLst tNil)) [some (.ref a), some (.int (k : Int)), some (.ref l), some (.str (wordS lru)), some wv, some (.ref R), some (.int (rooms : Int)), some (.ref ta), x8, x9, x10, x11] H10 (PV (.bl false)) :=
        gv_op (Pa := PL K []) (Pb := PL K []) (hcomp.imp fun v' H' ⟨c, xs, e, h1, h2, _⟩ => ⟨c, xs, e, h1, by rw [hno] at h2; exact h2⟩) (gv_lst (ds := []) gd_nil) up_L fun x y H' Q hx hy q => by
          obtain ⟨l1, xs1, rfl, h1, i1⟩ := hx
          obtain ⟨l2, xs2, rfl, h2, i2⟩ := hy
          cases i1; cases i2
          exact ⟨.list [], .list [], .lst (SqL.of h1) .nil, .lst (SqL.of h2) .nil, rfl, rfl, q _ H' (Same.refl _) rfl⟩
      refine seq_in (Gt.run ((gt_or (b1 := false) (b2 := false) (gt_test gcomp) fun _ => (gt_and (b1 := !decide (lossV rl = .int 0)) (b2 := !decide (V.int (rs.length : Int) = V.int (6 - (rooms : Int)))) (gt_test (gv_ne (x := lossV rl) (y := .int 0) (gv_ixV (xs := rs.map lossV) (k := -1) (gv_v (i := 7) rfl) (ht9.mono (.of s90)) (gv_neg gv_c) (by rw [hrs, List.map_append]; exact atI_last _ _)) gv_c (scal_loss rl 0))) fun _ => gt_test (gv_ne (x := .int rs.length) (y := .int (6 - (rooms : Int))) (glen rfl s90) (gv_opI (g := fun i j => .int (i - j)) (i := 6) (j := (rooms : Int)) gv_c (gv_v (i := 6) rfl)) rfl)).cast (b' := false) ?_).cast (b' := false) rfl) fun H11 s11 => ?_)
      · rcases hrow.last with h | h
        · rw [hrl] at h
          rw [Option.some.inj h]; rfl
        · have : V.int (rs.length : Int) = V.int (6 - (rooms : Int)) := by congr 1; omega
          rw [decide_eq_true this, Bool.not_true, Bool.and_false]
      rw [if_neg (by decide)]
      refine next_in ?_
      dsimp only
      have s91 := s90.trans s11
      have s81 := s80.trans s11
      have ask11 := ask8.same s81
      -- room for all; the falling row
      refine seq_in (Gt.run ((gt_or (b1 := false) (b2 := false) ((gt_test (gv_opI (g := fun i j => .bl (decide (j < i))) (i := (rooms : Int) + (rs.length : Int) - 1) (j := max (n : Int) (rooms : Int)) (gv_opI (g := fun i j => .int (i - j)) (i := (rooms : Int) + (rs.length : Int)) (j := 1) (gv_opI (g := fun i j => .int (i + j)) (i := (rooms : Int)) (j := (rs.length : Int)) (gv_v (i := 6) rfl) (glen rfl s91)) gv_c) (gv_max (gv_ixT (d := .num (n : Int)) (gv_d (i := 4) (v := wv) (d := webD n L) rfl ask11.web) gv_c rfl).int (gv_v (i := 6) (v := .int (rooms : Int)) rfl)))).cast ?_) fun _ => (gt_and (b1 := lru) (b2 := false) ((gt_test (gv_eq (x := .str (wordS lru)) (y := .str "last used") (gv_v (i := 3) rfl) gv_c rfl)).cast (word_last lru)) fun hl => gt_not (b := true) (gt_val (gv_call (R := RNever K) (P := PV (.bl true)) (ga_one (gv_v (i := 7) (v := .ref ta) rfl) up_V) fun vs H' s pp => ?_))).cast (b' := false) (Bool.and_false _)).cast (b' := false) rfl) fun H12 s12 => ?_)
      · have := hrow.room r1
        exact decide_eq_false (by omega)
      · cases pp with
        | cons e pp =>
          cases pp; cases e
          subst hl
          exact ⟨ta, rs, rfl, ht9.mono (.of (s91.trans s)), by omega, hrow.falls r1, rfl⟩
      rw [if_neg (by decide)]
      refine next_in ?_
      dsimp only
      have s82 := s81.trans s12
      have s92 := s91.trans s12
      have ask12 := ask8.same s82
      have hb12 := hb8.same s82
      have ht12 := ht9.mono (.of s92)
      have hR12 := hR8.same s82
      have hS12 := SqL.same' s82 hS8
      have hT12 := hT8.ext s82
      -- each told loss
      refine seq_in ⟨_, rfl, ta, rs.map lossV, rfl, ht12.seq, for_it walk_enumT (fun j σ H' => (∃ x8 x9 x10, σ = [some (.ref a), some (.int (k : Int)), some (.ref l), some (.str (wordS lru)), some wv, some (.ref R), some (.int (rooms : Int)), some (.ref ta), x8, x9, x10, x11]) ∧ BoxAt H' l ∧ But l H12 H')
        ⟨⟨x8, x9, x10, rfl⟩, hb12, But.of (Same.refl _)⟩ (fun j σ H' _ p => (ht12.mono (p.2.2.ts hb12)).seq) (fun j x σ H' H'' hj p y => ?_) fun σ H' p => ?_⟩
      · obtain ⟨⟨x8, x9, x10, rfl⟩, hbj, fj⟩ := p
        obtain ⟨T', x, y, rfl, hT, rfl, ex, ey⟩ := y
        cases ex
        have sT : Same H' (upd H' T' (.tup [.int (j : Int), y])) := Same.new hT
        refine gtup2 (.inl upd_same) ?_
        have ey : (rs.map lossV)[j]? = some y := ey
        rw [List.getElem?_map] at ey
        obtain ⟨r, hr, rfl⟩ := Option.map_eq_some_iff.mp ey
        generalize upd H' T' (.tup [.int (j : Int), lossV r]) = Hj at sT ⊢
        have hjl : j < rs.length := (List.getElem?_eq_some_iff.mp hr).1
        have hloss := hrow.loss j r hr
        have fT := fj.trans (But.of (l := l) sT)
        have hbT := hbj.same sT
        have askj := ask12.ts (fT.ts hb12)
        have hWf : WfS (SetW n L rooms lru (rooms + j)) := wf_set r1 (by omega)
        show tSeq _ _ _ [some (.ref a), some (.int (k : Int)), some (.ref l), some (.str (wordS lru)), some wv, some (.ref R), some (.int (rooms : Int)), some (.ref ta), some (.int (j : Int)), some (lossV r), x10, x11] _
        have g68 : ∀ {σ : L2.St} {H' : Hp}, σ[6]? = some (some (.int (rooms : Int))) → σ[8]? = some (some (.int (j : Int))) → Gv (tOp (rI0 fun i j => .int (i + j)) (tVar 6) (tVar 8)) σ H' (PV (.int ((rooms + j : Nat) : Int))) := fun e1 e2 => gv_opI (g := fun i j => .int (i + j)) (gv_v e1) (gv_v e2)
        -- told alone
        refine seq_in (Gt.run ((gt_test (gv_ne (x := .str (reprL r)) (y := .str (reprL r)) (gv_repr hloss.2 (gv_v (i := 9) (v := lossV r) rfl)) (gv_repr hloss.2 (gv_call (R := RLoss K) (P := PV (lossV r)) (ga_cons (gv_d (i := 4) (v := wv) (d := webD n L) rfl askj.web) up_D (ga_cons (gv_v (i := 6) (v := .int (rooms : Int)) rfl) up_V (ga_cons (g68 rfl rfl) up_V (ga_cons (gv_v (i := 3) (v := .str (wordS lru)) rfl) up_V ga_nil)))) fun vs H' s pp => ?_)) rfl)).cast (b' := false) (by simp)) fun H14 s14 => ?_)
        · obtain ⟨y1, y2, y3, y4, rfl, e1, e2, e3, e4⟩ := pall4 pp
          have e2 : y2 = .int (rooms : Int) := e2
          have e3 : y3 = .int ((rooms + j : Nat) : Int) := e3
          have e4 : y4 = .str (wordS lru) := e4
          subst e2; subst e3; subst e4
          refine ⟨y1, n, L, rooms, rooms + j, lru, rfl, ⟨e1, askj.n1, askj.n4, askj.len, askj.good, askj.r1, askj.r5⟩, by omega, by omega, fun v' H'' ⟨r', h1, h2⟩ => ?_⟩
          rw [h1.1.unique hloss.1] at h2
          exact h2
        rw [if_neg (by decide)]
        refine next_in ?_
        dsimp only
        -- the walk
        have f14 := fT.trans (But.of (l := l) s14)
        have hb14 := hbT.same s14
        refine seq_in (asg_in ?_)
        refine (ga_cons (gv_v (i := 2) (v := .ref l) rfl) up_V (ga_cons (gv_v (i := 5) (v := .ref R) rfl) up_V (ga_cons (gv_c (v := .int 10)) up_V ga_nil))) H14 (Same.refl _) _ fun vs H15 s15 p => ?_
        obtain ⟨y1, y2, y3, rfl, e1, e2, e3⟩ := pall3 p
        have e1 : y1 = .ref l := e1
        have e2 : y2 = .ref R := e2
        have e3 : y3 = .int 10 := e3
        subst e1; subst e2; subst e3
        refine ⟨l, R, as, n, L, rfl, hb14.same s15, (hR12.but f14 nR nas).same s15, nR, nas, G, n2, by omega, fun wk wkv H16 hw10 hwalk hwr hwk hb16 f16 => ?_⟩
        have f17 := (f14.trans (But.of (l := l) s15)).trans f16
        dsimp only
        show tIfS _ _ _ _ [some (.ref a), some (.int (k : Int)), some (.ref l), some (.str (wordS lru)), some wv, some (.ref R), some (.int (rooms : Int)), some (.ref ta), some (.int (j : Int)), some (lossV r), some wkv, x11] _
        refine Gt.run (b := false) ?_ fun H17 s17 => ?_
        · cases r with
          | none => exact (gt_and (b1 := !decide (lossV none = V.non)) (b2 := false) (gt_notN (v := lossV none) (gv_v (i := 9) (v := lossV none) rfl)) fun e => absurd e (by decide)).cast (Bool.and_false _)
          | some mm =>
            have hwb : ∀ x ma, Mate rooms [] wk ma x → ruleMoves lru (rooms + j) [] [] wk - x ≤ mm := fun x ma M => walk_bound (S := SetW n L rooms lru (rooms + j)) hloss.1 M (hwalk _ rfl)
            have gmv : Gv (tCall (spP (RMoves K)) [] E0 (tCons (tOp (rI0 fun i j => .int (i + j)) (tVar 6) (tVar 8)) (tCons (tVar 3) (tCons (tVar 10) tNil)))) [some (.ref a), some (.int (k : Int)), some (.ref l), some (.str (wordS lru)), some wv, some (.ref R), some (.int (rooms : Int)), some (.ref ta), some (.int (j : Int)), some (lossV (some mm)), some wkv, x11] H16 (PV (.int (ruleMoves lru (rooms + j) [] [] wk))) :=
              gv_call (R := RMoves K) (ga_cons (g68 rfl rfl) up_V (ga_cons (gv_v (i := 3) (v := .str (wordS lru)) rfl) up_V (ga_cons (gv_d (i := 10) (v := wkv) (d := tI wk) rfl hwk) up_D ga_nil))) fun vs H' s pp => by
                obtain ⟨y1, y2, y3, rfl, e1, e2, e3⟩ := pall3 pp
                have e1 : y1 = .int ((rooms + j : Nat) : Int) := e1
                have e2 : y2 = .str (wordS lru) := e2
                subst e1; subst e2
                exact ⟨y3, SetW n L rooms lru (rooms + j), wk, rfl, e3, by omega, hWf, by show rooms + j ≤ 10; omega, fun b hb => by
                  show 0 ≤ b ∧ b < ((rowsC n L).length : Int)
                  rw [rowsC_len]; exact hwr b hb, rfl⟩
            have gls : Gv (tCall (spP (RLeast K)) [] E0 (tCons (tVar 10) (tCons (tVar 6) tNil))) [some (.ref a), some (.int (k : Int)), some (.ref l), some (.str (wordS lru)), some wv, some (.ref R), some (.int (rooms : Int)), some (.ref ta), some (.int (j : Int)), some (lossV (some mm)), some wkv, x11] H16 (fun v _ => ∃ x, v = .int x ∧ ruleMoves lru (rooms + j) [] [] wk - x ≤ mm) :=
              gv_call (R := RLeast K) (ga_two (gv_d (i := 10) (v := wkv) (d := tI wk) rfl hwk) up_D (gv_v (i := 6) (v := .int (rooms : Int)) rfl) up_V) fun vs H' s pp => by
                cases pp with
                | cons e1 pp => cases pp with
                  | cons e2 pp =>
                    cases pp; cases e2
                    exact ⟨_, wk, rooms, rfl, e1, hw10, r1, r3, fun v' H'' ⟨x, ma, h1, h2⟩ => ⟨x, h1, hwb x ma h2⟩⟩
            have gdf : Gv (tOp (rI0 fun i j => .int (i - j)) (tCall (spP (RMoves K)) [] E0 (tCons (tOp (rI0 fun i j => .int (i + j)) (tVar 6) (tVar 8)) (tCons (tVar 3) (tCons (tVar 10) tNil)))) (tCall (spP (RLeast K)) [] E0 (tCons (tVar 10) (tCons (tVar 6) tNil)))) [some (.ref a), some (.int (k : Int)), some (.ref l), some (.str (wordS lru)), some wv, some (.ref R), some (.int (rooms : Int)), some (.ref ta), some (.int (j : Int)), some (lossV (some mm)), some wkv, x11] H16 (fun v _ => ∃ z, v = .int z ∧ z ≤ mm) :=
              gv_op gmv gls up_V fun x y H' Q hx hy q => by
                have hx : x = .int _ := hx
                subst hx
                obtain ⟨z, rfl, hz⟩ := hy
                exact ⟨_, _, rfl, rfl, q _ H' (Same.refl _) ⟨_, rfl, hz⟩⟩
            exact gt_and (b1 := true) (b2 := false) (gt_notN (v := .int mm) (gv_v (i := 9) rfl)) fun _ => gt_test (gv_op gdf (gv_v (i := 9) (v := .int mm) rfl) (fun _ _ _ _ h => h) fun x y H' Q hx hy q => by
              obtain ⟨z, rfl, hz⟩ := hx
              have hy : y = .int mm := hy
              subst hy
              exact ⟨_, _, rfl, rfl, q _ H' (Same.refl _) (show V.bl (decide (mm < z)) = V.bl false by rw [decide_eq_false (by omega)])⟩)
        · rw [if_neg (by decide)]
          exact next_in ⟨⟨_, _, _, rfl⟩, hb16.same s17, f17.trans (.of s17)⟩
      · obtain ⟨⟨x8, x9, x10, rfl⟩, hb13, f13⟩ := p
        dsimp only
        have ask13 := ask12.ts (f13.ts hb12)
        have hS13 := SqL.but f13 hS0 hl0 hS12
        have hT13 := Tabs.but hb12 f13 hT12
        -- a wrong word
        refine seq_in (asg_in ?_)
        have gw : ∀ {te : TE} {v : V} {σ : L2.St} {H' : Hp}, Gv te σ H' (PV v) → (∀ H, Wrong K H v) → Gv te σ H' (fun v H => Wrong K H v) := fun h k => h.imp fun v' H' e => by rw [show v' = _ from e]; exact k H'
        refine pick_lst (l := l) (gv_v (i := 2) rfl) (ga_cons (gw (gv_c (v := .non)) fun _ => wrong_non) up_Wrong (ga_cons (gw (gv_c (v := .str "")) fun _ => wrong_str (by decide) (by decide)) up_Wrong (ga_cons (gw (gv_c (v := .str "last")) fun _ => wrong_str (by decide) (by decide)) up_Wrong (ga_cons (gw (gv_c (v := .int 0)) fun _ => wrong_int 0) up_Wrong
          (ga_cons ((gv_tup (K := K) (gd_cons (gv_num 1) (gd_cons (gv_tup (ds := []) gd_nil) gd_nil))).imp (P' := fun v H => Wrong K H v) fun v H h => wrong_tup h) up_Wrong (ga_cons ((gv_lst (K := K) (gd_cons (gv_text "last used") gd_nil)).imp (P' := fun v H => Wrong K H v) fun v H h => (by obtain ⟨c, xs, rfl, h, _⟩ := h; exact wrong_lst h)) up_Wrong (ga_cons (gw (gv_c (v := .str "first in ")) fun _ => wrong_str (by decide) (by decide)) up_Wrong ga_nil))))))) hb13 (fun vs H' p => ?_) fun vs v H15 H16 s15 p hv hb16 f16 => ?_
        · have h := (pall_all (W := fun v H => Wrong K H v) p (fun Q hQ v h => by
            simp only [List.mem_cons, List.not_mem_nil, or_false] at hQ
            rcases hQ with rfl | rfl | rfl | rfl | rfl | rfl | rfl <;> exact h)).1
          have h : vs.length = 7 := h
          exact ⟨fun e => (by rw [e] at h; cases h), by omega⟩
        have hwr : Wrong K H16 v := Wrong.but (hb13.same s15) hb16 f16 ((pall_all (W := fun v H => Wrong K H v) p (fun Q hQ v h => by
            simp only [List.mem_cons, List.not_mem_nil, or_false] at hQ
            rcases hQ with rfl | rfl | rfl | rfl | rfl | rfl | rfl <;> exact h)).2 v hv)
        have f136 : But l _ H16 := (But.of s15).trans f16
        have ask16 := ask13.ts (f136.ts hb13)
        have hS16 := SqL.but f136 hS0 hl0 hS13
        have hT16 := Tabs.but hb13 f136 hT13
        clear hT13 hT12 hT8 hT5 hT3 hT2 hT0
        dsimp only
        show tSeq _ _ _ [some (.ref a), some (.int (k : Int)), some (.ref l), some (.str (wordS lru)), some wv, some (.ref R), some (.int (rooms : Int)), some (.ref ta), x8, x9, x10, some v] _
        -- heard
        refine seq_in ?_
        refine heard_in (C := Cu) (nm := "rule") (kk := -1) hT16 (fun H1 E Q e1 t1 hE => ?_) (.inr (.inr ⟨rfl, rfl⟩)) (by decide +kernel) (fun H' => gv_tup (gd_cons (gv_text _) (gd_cons (gv_neg gv_c).num gd_nil))) fun H17 e17 t17 => ?_
        · exact ⟨_, rfl, _, rfl, _, rfl, .word wv n L rooms v rfl (ask16.ts (.extN e1)) (Wrong.extN e1 hwr) hE⟩
        dsimp only
        refine seq_in ?_
        refine heard_in (C := Cr) (nm := "rooms") (kk := -1) t17 (fun H1 E Q e1 t1 hE => ?_) (.inr (.inl ⟨rfl, rfl⟩)) (by decide +kernel) (fun H' => gv_tup (gd_cons (gv_text _) (gd_cons (gv_neg gv_c).num gd_nil))) fun H18 e18 t18 => ?_
        · have ask17 := ask16.ts (.extN (e17.trans e1))
          exact ⟨_, rfl, _, rfl, .rooms wv n L v rfl ⟨ask17.web, ask17.n1, ask17.n4, ask17.len, ask17.good, by omega, by omega⟩ hE⟩
        dsimp only
        refine heard_in (C := Cw) (nm := "web") (kk := 0) t18 (fun H1 E Q e1 t1 hE => ?_) (.inl ⟨rfl, rfl⟩) (by decide +kernel) (fun H' => gv_tup (gd_cons (gv_text _) (gd_cons (gv_num 0) gd_nil))) fun H19 e19 t19 => ?_
        · refine callS_in (ga_cons (gv_tup (K := K) (gd_cons (gv_num 2) (gd_cons (gv_tup (gd_cons (gv_tup (gd_cons (gv_num 0) (gd_cons (gv_num 0) gd_nil))) gd_nil)) gd_nil))) up_D (ga_cons (gv_c (v := .non)) up_V (ga_cons (gv_v (i := 11) (v := v) rfl) up_V ga_nil))) fun vs H2 s2 pp => ?_
          obtain ⟨y1, y2, y3, rfl, e1', e2', e3'⟩ := pall3 pp
          have e2' : y2 = .non := e2'
          have e3' : y3 = v := e3'
          subst e2'; subst e3'
          exact .web y1 .non y3 rfl e1' fun H' d s h => hE H' d (s2.trans s) h
        exact ⟨⟨_, _, _, _, _, _, _, _, _, _, _, rfl⟩, SqL.extN ((e17.trans e18).trans e19) hS16, t19⟩
    · exact q H'
end
end K52
set_option maxHeartbeats 4000000
/-! What the top has left; the chain of promises; the law at the head. -/
namespace K52
open PySem PySem.Spec PyProof.Rows L2
open PySem.K52X (ErrTxt)
theorem DefAt.mk {K : PySem.W.Frag} {h : Heap} {mg : Str → Option Value} {x : Str} {i : Nat} {f : Addr} {oc : Value} {od an : Option Addr} {osl : Array (Option Value)} {kV doc pm cdv ct : Value} (X : K.In h) (G : h.Ns mainGlobals mg)
    (a : PySem.W.nsIn K mainGlobals x = some (some (.ref f))) (l : K.lookup f = some ⟨oc, od, .func (PySem.W.fnOf x x (defArgs (top i)) (defBody (top i)) (defScope (top i)) .none kV doc pm an cdv ct), osl⟩) (c : PySem.W.codeIn K cdv x = true) (k : PySem.W.keepIn K (.ref f) = true) : DefAt K mg x i :=
  ⟨f, _, PySem.W.mg_of X G a, fun_mk l c k⟩
theorem DefM.mk {K : PySem.W.Frag} {h : Heap} {mg : Str → Option Value} {C : Addr} {m q : Str} {st : Stmt} {f : Addr} {oc : Value} {od an : Option Addr} {osl : Array (Option Value)} {kV doc pm cdv ct : Value}
    (X : K.In h) (G : h.Ns mainGlobals mg) (gC : PySem.W.nsIn K mainGlobals "RuleRunner" = some (some (.ref C))) (a : PySem.W.findIn K (.ref C) m = some (some (.ref f))) (i : PySem.W.isFn K (.ref f) = true) (l : K.lookup f = some ⟨oc, od, .func (PySem.W.fnOf m q (defArgs st) (defBody st) (defScope st) .none kV doc pm an cdv ct), osl⟩) (c : PySem.W.codeIn K cdv q = true) (k : PySem.W.keepIn K (.ref f) = true) : DefM K C m q st :=
  ⟨f, _, ⟨a, i, k⟩, fun_mk l c k⟩
structure Txt (P : Program) (K : PySem.W.Frag) (mg : Str → Option Value) (C Cw Cr Cu fw fr fu : Addr) : Prop where
  T : Tx mg
  Cc : Co K mg
  d_is_integer : DefAt K mg "is_integer" 7
  d_is_number : DefAt K mg "is_number" 8
  d_is_below : DefAt K mg "is_below" 9
  d_is_string : DefAt K mg "is_string" 10
  d_is_sequence : DefAt K mg "is_sequence" 11
  d_is_pair : DefAt K mg "is_pair" 12
  d_ordered_pair : DefAt K mg "ordered_pair" 15
  d_beside_rows : DefAt K mg "beside_rows" 16
  d_is_link : DefAt K mg "is_link" 20
  d_need_web : DefAt K mg "need_web" 21
  d_neighbours : DefAt K mg "neighbours" 22
  d_need_rooms : DefAt K mg "need_rooms" 23
  d_with_block : DefAt K mg "with_block" 25
  d_need_rule : DefAt K mg "need_rule" 32
  d_word_step : DefAt K mg "word_step" 33
  d_following_blocks : DefAt K mg "following_blocks" 35
  d_need_setting : DefAt K mg "need_setting" 38
  d_first_standing : DefAt K mg "first_standing" 39
  d_mate_steps : DefAt K mg "mate_steps" 40
  d_standing_steps : DefAt K mg "standing_steps" 41
  d_met_table : DefAt K mg "met_table" 42
  d_step_gain : DefAt K mg "step_gain" 43
  d_choice_ring : DefAt K mg "choice_ring" 44
  d_raise_heights : DefAt K mg "raise_heights" 45
  d_gain_heights : DefAt K mg "gain_heights" 46
  d_steps_to : DefAt K mg "steps_to" 47
  d_ring_steps : DefAt K mg "ring_steps" 48
  d_touches_in : DefAt K mg "touches_in" 49
  d_told_ring : DefAt K mg "told_ring" 50
  d_chosen_walk : DefAt K mg "chosen_walk" 51
  d_loss_paper : DefAt K mg "loss_paper" 52
  d_greatest_loss : DefAt K mg "greatest_loss" 53
  d_losses_row : DefAt K mg "losses_row" 54
  d__law_box : DefAt K mg "_law_box" 56
  d__law_take : DefAt K mg "_law_take" 57
  d__law_pick : DefAt K mg "_law_pick" 58
  d__law_web : DefAt K mg "_law_web" 59
  d__law_beside : DefAt K mg "_law_beside" 60
  d__law_walk : DefAt K mg "_law_walk" 61
  d__law_cheapest : DefAt K mg "_law_cheapest" 62
  d__law_least : DefAt K mg "_law_least" 63
  d__law_step : DefAt K mg "_law_step" 64
  d__law_begin : DefAt K mg "_law_begin" 65
  d__law_moves : DefAt K mg "_law_moves" 66
  d__law_heard : DefAt K mg "_law_heard" 67
  d__law_never_rises : DefAt K mg "_law_never_rises" 68
  gC : mg "RuleRunner" = some (.ref C)
  mkC : PySem.W.makesIn K C = true
  kC : PySem.W.keepIn K (.ref C) = true
  R : RC K C
  d_init : DefM K C "__init__" "RuleRunner.__init__" (inClass (top 34) 0)
  d_begin : DefM K C "begin" "RuleRunner.begin" (inClass (top 34) 1)
  d_step : DefM K C "step" "RuleRunner.step" (inClass (top 34) 2)
  Ew : ErrTxt P K mg "InvalidWeb" Cw fw
  Er : ErrTxt P K mg "InvalidRooms" Cr fr
  Eu : ErrTxt P K mg "InvalidRule" Cu fu
  Ap : Apart K Cw Cr Cu
section
variable {P : Program} {w : World} {K : PySem.W.Frag} {mg : Str → Option Value} {base : Heap} {C Cw Cr Cu fw fr fu c P0 : Addr}
theorem law_chain (t : Txt P K mg C Cw Cr Cu fw fr fu) (TB : LamX.TabB base mg c P0) {f : Addr} {oc : Value} {od : Option Addr} {kV doc pm ct : Value} {an : Option Addr} {osl : Array (Option Value)} (lk : K.lookup f = some ⟨oc, od, .func (PySem.W.fnOf "law" "law" (defArgs (top 69)) (defBody (top 69)) (defScope (top 69)) .none kV doc pm an (.ref c) ct), osl⟩) (hcd : PySem.W.codeIn K (.ref c) "law" = true) :
    FnOk P w K mg base (L2.CX P w) 13 f (PySem.W.fnOf "law" "law" (defArgs (top 69)) (defBody (top 69)) (defScope (top 69)) .none kV doc pm an (.ref c) ct) ["_law_script"] (spLaw K P0) := by
  have c_is_integer := ok_is_integer (P := P) (w := w) (base := base) t.d_is_integer t.T
  have c_is_number := ok_is_number (P := P) (w := w) (base := base) t.d_is_number t.T c_is_integer
  have c_is_below := ok_is_below (P := P) (w := w) (base := base) t.d_is_below c_is_number
  have c_is_string := ok_is_string (P := P) (w := w) (base := base) t.d_is_string t.T
  have c_is_sequence := ok_is_sequence (P := P) (w := w) (base := base) t.d_is_sequence t.T
  have c_is_pair := ok_is_pair (P := P) (w := w) (base := base) t.d_is_pair t.T c_is_sequence
  have c_ordered_pair := ok_ordered_pair (P := P) (w := w) (base := base) t.d_ordered_pair t.T
  have c_beside_rows := ok_beside_rows (P := P) (w := w) (base := base) t.d_beside_rows t.T
  have c_is_link := ok_is_link (P := P) (w := w) (base := base) t.d_is_link t.T c_is_pair c_is_below
  have c_need_web := ok_need_web (P := P) (w := w) (base := base) t.d_need_web t.T t.Cc c_is_pair c_is_number c_is_sequence c_is_link c_ordered_pair
  have c_neighbours := ok_neighbours (P := P) (w := w) (base := base) t.d_neighbours c_need_web c_beside_rows
  have c_need_rooms := ok_need_rooms (P := P) (w := w) (base := base) t.d_need_rooms t.Cc c_is_number
  have c_with_block := ok_with_block (P := P) (w := w) (base := base) t.d_with_block t.T
  have c_need_rule := ok_need_rule (P := P) (w := w) (base := base) t.d_need_rule t.T t.Cc c_need_rooms c_is_string
  have c_word_step := ok_word_step (P := P) (w := w) (base := base) t.d_word_step t.T
  have c_following_blocks := ok_following_blocks (P := P) (w := w) (base := base) t.d_following_blocks t.T
  have c_step_gain := ok_step_gain (P := P) (w := w) (base := base) t.d_step_gain
  obtain ⟨fi, fdi, Mi, bi, Fi⟩ := ok_rr_init (w := w) (base := base) t.d_init t.R c_need_rooms c_need_rule c_is_string
  have c_RuleRunner : CalI P w K mg base C "RuleRunner" 5 ["self", "rooms", "rule"] (spInit C) := ⟨fi, fdi, t.gC, ⟨t.mkC, Mi.at_, Mi.fn, t.kC⟩, bi, Fi⟩
  have c_begin := ok_rr_begin (P := P) (w := w) (mg := mg) (base := base) t.d_begin t.R c_is_string
  have c_step := ok_rr_step (P := P) (w := w) (mg := mg) (base := base) t.d_step t.T t.R c_is_string c_word_step
  have c_mate_steps := ok_mate_steps (P := P) (w := w) (base := base) t.d_mate_steps t.T c_with_block
  have c_touches_in := ok_touches_in (P := P) (w := w) (base := base) t.d_touches_in t.T
  have c_need_setting := ok_need_setting (P := P) (w := w) (base := base) t.d_need_setting c_need_web c_need_rooms c_neighbours c_RuleRunner
  have c_first_standing := ok_first_standing (P := P) (w := w) (base := base) t.d_first_standing t.R c_begin
  have c_standing_steps := ok_standing_steps (P := P) (w := w) (base := base) t.d_standing_steps t.R c_step c_following_blocks c_mate_steps
  have c_met_table := ok_met_table (P := P) (w := w) (base := base) t.d_met_table t.T t.Cc c_first_standing c_standing_steps
  have c_choice_ring := ok_choice_ring (P := P) (w := w) (base := base) t.d_choice_ring
  have c_raise_heights := ok_raise_heights (P := P) (w := w) (base := base) t.d_raise_heights c_step_gain
  have c_gain_heights := ok_gain_heights (P := P) (w := w) (base := base) t.d_gain_heights c_raise_heights c_choice_ring
  have c_steps_to := ok_steps_to (P := P) (w := w) (base := base) t.d_steps_to t.T
  have c_ring_steps := ok_ring_steps (P := P) (w := w) (base := base) t.d_ring_steps
  have c_told_ring := ok_told_ring (P := P) (w := w) (base := base) t.d_told_ring t.T c_first_standing c_steps_to c_ring_steps c_touches_in
  have c_chosen_walk := ok_chosen_walk (P := P) (w := w) (base := base) t.d_chosen_walk t.T c_first_standing c_touches_in
  have c_loss_paper := ok_loss_paper (P := P) (w := w) (base := base) t.d_loss_paper t.T c_need_setting c_met_table c_gain_heights c_told_ring c_first_standing c_chosen_walk
  have c_greatest_loss := ok_greatest_loss (P := P) (w := w) (base := base) t.d_greatest_loss c_loss_paper
  have c__law_box := ok_law_box (P := P) (w := w) (base := base) t.d__law_box t.T
  have c__law_take := ok_law_take (P := P) (w := w) (base := base) t.d__law_take t.T
  have c__law_pick := ok_law_pick (P := P) (w := w) (base := base) t.d__law_pick t.T c__law_take
  have c__law_web := ok_law_web (P := P) (w := w) (base := base) t.d__law_web t.T c__law_take c__law_pick
  have c__law_beside := ok_law_beside (P := P) (w := w) (base := base) t.d__law_beside t.T
  have c__law_walk := ok_law_walk (P := P) (w := w) (base := base) t.d__law_walk t.T c__law_take c__law_pick
  have c__law_cheapest := ok_law_cheapest (P := P) (w := w) (base := base) t.d__law_cheapest t.T
  have c__law_least := ok_law_least (P := P) (w := w) (base := base) t.d__law_least t.T c__law_cheapest
  have c__law_step := ok_law_step (P := P) (w := w) (base := base) t.d__law_step t.T
  have c__law_begin := ok_law_begin (P := P) (w := w) (base := base) t.d__law_begin t.T
  have c__law_moves := ok_law_moves (P := P) (w := w) (base := base) t.d__law_moves t.T c__law_begin c__law_step
  have c__law_never_rises := ok_law_never (P := P) (w := w) (base := base) t.d__law_never_rises t.T
  have c_need_web_bad := bad_need_web (P := P) (w := w) (base := base) t.d_need_web t.T t.Cc t.Ew c_is_pair c_is_number c_is_sequence c_is_link c_ordered_pair
  have c_need_rooms_bad := bad_need_rooms (P := P) (w := w) (base := base) t.d_need_rooms t.Cc t.Er c_is_number
  have c_losses_row_bad := bad_losses_row (P := P) (w := w) (base := base) t.d_losses_row t.T t.Cc t.Eu c_need_web c_need_rooms c_need_web_bad c_need_rooms_bad c_is_string c_greatest_loss
  have c_losses_rowK := okK_losses_row (P := P) (w := w) (base := base) t.d_losses_row t.T t.Cc c_need_web c_need_rooms c_is_string c_greatest_loss
  exact ok_law lk hcd TB t.T t.d__law_heard t.Ew t.Er t.Eu t.Ap c__law_box c__law_pick c__law_web c__law_beside c__law_take c_losses_rowK c_losses_row_bad c__law_never_rises c_greatest_loss c__law_walk c__law_moves c__law_least
end
theorem law_at {w : World} {K : PySem.W.Frag} {h : Heap} {mg : Str → Option Value} {fa f C Cw Cr Cu fw fr fu c P0 : Addr} {oc : Value} {od : Option Addr} {kV doc pm ct : Value} {an : Option Addr} {osl : Array (Option Value)} (X : K.In h) (G : h.Ns mainGlobals mg) (hfa : mg "law" = some (.ref fa))
    (t : Txt PySem.Challenge.rw_slowshelves_k52_whole_losses_with_rooms.prog K mg C Cw Cr Cu fw fr fu) (a : PySem.W.nsIn K mainGlobals "law" = some (some (.ref f)))
    (lk : K.lookup f = some ⟨oc, od, .func (PySem.W.fnOf "law" "law" (defArgs (top 69)) (defBody (top 69)) (defScope (top 69)) .none kV doc pm an (.ref c) ct), osl⟩) (hcd : PySem.W.codeIn K (.ref c) "law" = true) (hT : h.get? P0 = some { cls := .none, data := .fields #[] }) (nT : K.lookup P0 = none) (Ch : PySem.W.CodeHd h c P0) :
    LamX.LawAtS PySem.Challenge.rw_slowshelves_k52_whole_losses_with_rooms w K (L2.CX PySem.Challenge.rw_slowshelves_k52_whole_losses_with_rooms.prog w) 13 63 "_law_script" mg fa h := by
  have e := hfa.symm.trans (PySem.W.mg_of X G a)
  cases e
  have one : ∀ {p : Addr × Addr} {Q : Addr × Addr → Prop}, p ∈ [(c, P0)] → Q (c, P0) → Q p := fun {p Q} hp q => by
    rcases List.mem_cons.mp hp with rfl | hp
    · exact q
    · cases hp
  refine ⟨_, [(c, P0)], spLaw K P0, fun p hp => one (Q := fun p => h.get? p.2 = some { cls := .none, data := .fields #[] }) hp hT, fun p hp => one (Q := fun p => K.lookup p.2 = none) hp nT, fun p hp => one (Q := fun p => PySem.W.CodeHd h p.1 p.2) hp Ch, ?_, fun H b ns hl _ hH hS => ⟨b, ns, rfl, hS, hl, hH (c, P0) List.mem_cons_self, fun _ => rfl⟩, fun base KB GB TB => law_chain t (TB (c, P0) List.mem_cons_self) lk hcd⟩
  exact fun s u => .of_eq (by first | rfl | with_unfolding_all rfl)
theorem co_mk {K : PySem.W.Frag} {h : Heap} {mg : Str → Option Value} {t1 t2 t3 t4 t5 : Tok} {a : Addr} {od : Option Addr} {n : Nat} {sl : Array (Option Value)} (X : K.In h) (G : h.Ns mainGlobals mg)
    (a1 : PySem.W.nsIn K mainGlobals "MOST_BLOCKS" = some (some (.int 40 t1))) (a2 : PySem.W.nsIn K mainGlobals "MOST_ROOMS" = some (some (.int 5 t2))) (a3 : PySem.W.nsIn K mainGlobals "MOST_MET" = some (some (.int 20000 t3)))
    (a4 : PySem.W.nsIn K mainGlobals "RULE_WORDS" = some (some (.ref a))) (l : K.lookup a = some ⟨.type "tuple", od, .seq #[.str "last used" t4, .str "first in" t5] n, sl⟩) : Co K mg :=
  ⟨⟨_, PySem.W.mg_of X G a1⟩, ⟨_, PySem.W.mg_of X G a2⟩, ⟨_, PySem.W.mg_of X G a3⟩, ⟨a, _, _, _, PySem.W.mg_of X G a4, l, rfl, rfl, by show 2 ≤ sizeLine; decide, .cons ⟨_, rfl⟩ (.cons ⟨_, rfl⟩ .nil)⟩⟩
theorem exm_mk {K : PySem.W.Frag} {S c : Addr} {b : Bool} (h1 : PySem.W.subIn K (.ref c) (.type "BaseException") = some true) (h2 : PySem.W.isClsIn K c = true) (h3 : PySem.W.typeIn K (.ref c) = some (.type "type")) (h4 : PySem.W.subIn K (.ref S) (.ref c) = some b) :
    PySem.W.exmOne K (.ref S) (.ref c) = some b := by
  have e1 : (PySem.W.subIn K (.ref c) (.type "BaseException") == some true) = true := by rw [h1] <;> rfl
  have e2 : ((PySem.W.clsIn K c).isSome && PySem.W.typeIn K (.ref c) == some (.type "type")) = true := by
    have h2' : (PySem.W.clsIn K c).isSome = true := h2
    rw [h2', h3] <;> rfl
  show (if (PySem.W.subIn K (.ref c) (.type "BaseException") == some true) = true then (if ((PySem.W.clsIn K c).isSome && PySem.W.typeIn K (.ref c) == some (.type "type")) = true then PySem.W.subIn K (.ref S) (.ref c) else none) else none) = some b
  rw [if_pos e1, if_pos e2]
  exact h4
theorem err_mk {P : Program} {K : PySem.W.Frag} {h : Heap} {mg : Str → Option Value} {x : Str} {C fI N : Addr} {nm q qn : Str} {bs bm : List Value} {sn : List Str} {sub : List Value} {ab : Bool} {col : Option Bool} {dd : Option Addr} {k0 k1 k2 k3 k5 : Option Value}
    {oc doc pm ct cl ccl : Value} {od an cld cdd : Option Addr} {osl csl ccs : Array (Option Value)} {cc cda : Addr} {a1 a2 p0 p1 p2 p3 p4 p5 q1 q2 q3 q4 : Pos} {msg : Str} {vs : Array Value} {file : Str} {tf : Tok} (X : K.In h) (G : h.Ns mainGlobals mg)
    (gC : PySem.W.nsIn K mainGlobals x = some (some (.ref C))) (lC : K.lookup C = some (excClassObj nm qn C N bs bm true sn sub ab col dd k0 k1 k2 k3 k5 "Exception.__new__"))
    (sa : PySem.W.findIn K (.ref C) "__setattr__" = some (some (.builtin "object.__setattr__"))) (ga : PySem.W.findIn K (.ref C) "__getattribute__" = some (some (.builtin "BaseException.__getattribute__"))) (gg : PySem.W.findIn K (.ref C) "__getattr__" = some none)
    (noN : PySem.W.findIn K (.ref C) "at" = some none) (iC : PySem.W.findIn K (.ref C) "__init__" = some (some (.ref fI))) (tC : PySem.W.typeIn K (.ref fI) = some (.type "function")) (kC : PySem.W.keepIn K (.ref C) = true)
    (exC : PySem.W.subIn K (.ref C) (.type "BaseException") = some true) (exE : PySem.W.subIn K (.ref C) (.type "Exception") = some true) (tyC : PySem.W.typeIn K (.ref C) = some (.type "type")) (hdC : PySem.W.hasDictIn K C = true) (own : PySem.W.mroIn K C (.ref C) = some true)
    (sup : PySem.W.ks_superIn K C C "__init__" = some (some (.builtin "Exception.__init__"))) (any : PySem.W.nsIn K cStatics "thirdparty.any" = some none) (noS : PySem.W.nsIn K mainGlobals "super" = some none)
    (lI : K.lookup fI = some ⟨oc, od, .func (PySem.W.ksFn "__init__" q (PySem.K52X.iA ⟨a1, a2, p0, p1, p2, p3, p4, p5, q1, q2, q3, q4, msg⟩) (PySem.K52X.iB ⟨a1, a2, p0, p1, p2, p3, p4, p5, q1, q2, q3, q4, msg⟩) PySem.K52X.iS .none .none doc pm an (.ref cda) ct cc), osl⟩) (hcd : PySem.W.codeIn K (.ref cda) q = true)
    (lc : K.lookup cc = some ⟨cl, cld, .cell (some (.ref C)), csl⟩) (lda : K.lookup cda = some ⟨ccl, cdd, .fields vs, ccs⟩) (hbm : PySem.W.excTail PySem.K52X.excB bm = true) (hvs : vs[2]? = some (.str file tf)) (hfile : ((P.main.file : Str) == file) = true) (top : (P.main.scope.names.lookup ("super" : Str)).isSome = false)
    (ok : PySem.K52X.iOk ⟨a1, a2, p0, p1, p2, p3, p4, p5, q1, q2, q3, q4, msg⟩) : ErrTxt P K mg x C fI :=
  { gC := PySem.W.mg_of X G gC, cls := ⟨nm, qn, N, bs, bm, sn, sub, ab, col, dd, k0, k1, k2, k3, k5, lC, hbm⟩, sa := sa, ga := ga, gg := gg, noN := noN, iC := iC, tC := tC, kC := kC, exC := exC, exE := exE, tyC := tyC, hdC := hdC, own := own, sup := sup, any := any, noS := PySem.W.mg_none_of X G noS, top := top,
    fn := ⟨q, oc, od, doc, pm, an, ct, osl, cc, cda, _, cl, cld, csl, ccl, cdd, vs, ccs, file, tf, lI, hcd, lc, lda, hvs, hfile, ok⟩ }
/-- the runner's class -/
structure RR (K : PySem.W.Frag) (mg : Str → Option Value) (C : Addr) : Prop where
  gC : mg "RuleRunner" = some (.ref C)
  mkC : PySem.W.makesIn K C = true
  kC : PySem.W.keepIn K (.ref C) = true
  R : RC K C
theorem rr_mk {K : PySem.W.Frag} {h : Heap} {mg : Str → Option Value} {C : Addr} (X : K.In h) (G : h.Ns mainGlobals mg) (gC : PySem.W.nsIn K mainGlobals "RuleRunner" = some (some (.ref C))) (mk : PySem.W.makesIn K C = true) (kc : PySem.W.keepIn K (.ref C) = true)
    (pg : PySem.W.plainGet K C Str.empty = true) (hd : PySem.W.hasDictIn K C = true) (po : PySem.W.plainOver K C = true) (sa : PySem.W.findIn K (.ref C) "__setattr__" = some (some (.builtin "object.__setattr__")))
    (n1 : PySem.W.findIn K (.ref C) "rooms" = some none) (n2 : PySem.W.findIn K (.ref C) "rule" = some none) (n3 : PySem.W.findIn K (.ref C) "rows" = some none) : RR K mg C :=
  ⟨PySem.W.mg_of X G gC, mk, kc, ⟨⟨pg, hd, po, sa⟩, n1, n2, n3⟩⟩
end K52
open PySem PySem.W PyProof.Rows
set_option maxRecDepth 100000 in
set_option maxHeartbeats 0 in
theorem PySem.Challenge.cw_slowshelves_k52_whole_losses_with_rooms_holds : PySem.Challenge.rw_slowshelves_k52_whole_losses_with_rooms.Holds := by
  w_on; o_law; k_head; (case hw => w_witness2)
  k_fill
  refine LamX.walk_ofTs (l := PySem.Challenge.rw_slowshelves_k52_whole_losses_with_rooms) (n := 63) (k := 13) (x := "_law_script") (CX := fun w => L2.CX PySem.Challenge.rw_slowshelves_k52_whole_losses_with_rooms.prog w) rfl (by decide) rfl ⟨rfl, by decide, by decide⟩ (fun w h Y => PySem.W.km_in_of Y) ?F ?X
  case X =>
    rintro w H s e s' ⟨a, B, H', cls, d, _, _, _, _, _, _, _, hE⟩
    exact hE
  case F =>
    intro w mg fa h Y KX G hmg
    have hT := PySem.W.km_tabs_of Y
    have T : K52.Tx mg := by
      refine' ⟨PySem.W.mg_none_of KX G ?z0, PySem.W.mg_none_of KX G ?z1, PySem.W.mg_none_of KX G ?z2, PySem.W.mg_none_of KX G ?z3, PySem.W.mg_none_of KX G ?z4, PySem.W.mg_none_of KX G ?z5, PySem.W.mg_none_of KX G ?z6, PySem.W.mg_none_of KX G ?z7, PySem.W.mg_none_of KX G ?z8, PySem.W.mg_none_of KX G ?z9, PySem.W.mg_none_of KX G ?z10, PySem.W.mg_none_of KX G ?z11, PySem.W.mg_none_of KX G ?z12, PySem.W.mg_none_of KX G ?z13, PySem.W.mg_none_of KX G ?z14, PySem.W.mg_none_of KX G ?z15⟩
      (case z0 => k_is); (case z1 => k_is); (case z2 => k_is); (case z3 => k_is); (case z4 => k_is); (case z5 => k_is); (case z6 => k_is); (case z7 => k_is); (case z8 => k_is); (case z9 => k_is); (case z10 => k_is); (case z11 => k_is); (case z12 => k_is); (case z13 => k_is); (case z14 => k_is); (case z15 => k_is)
    have Cc := K52.co_mk KX G (by k_is) (by k_is) (by k_is) (by k_is) (by k_is)
    have d_is_integer := K52.DefAt.mk (x := "is_integer") (i := 7) KX G (by k_is) (by k_is) (by k_is) (by k_is)
    have d_is_number := K52.DefAt.mk (x := "is_number") (i := 8) KX G (by k_is) (by k_is) (by k_is) (by k_is)
    have d_is_below := K52.DefAt.mk (x := "is_below") (i := 9) KX G (by k_is) (by k_is) (by k_is) (by k_is)
    have d_is_string := K52.DefAt.mk (x := "is_string") (i := 10) KX G (by k_is) (by k_is) (by k_is) (by k_is)
    have d_is_sequence := K52.DefAt.mk (x := "is_sequence") (i := 11) KX G (by k_is) (by k_is) (by k_is) (by k_is)
    have d_is_pair := K52.DefAt.mk (x := "is_pair") (i := 12) KX G (by k_is) (by k_is) (by k_is) (by k_is)
    have d_ordered_pair := K52.DefAt.mk (x := "ordered_pair") (i := 15) KX G (by k_is) (by k_is) (by k_is) (by k_is)
    have d_beside_rows := K52.DefAt.mk (x := "beside_rows") (i := 16) KX G (by k_is) (by k_is) (by k_is) (by k_is)
    have d_is_link := K52.DefAt.mk (x := "is_link") (i := 20) KX G (by k_is) (by k_is) (by k_is) (by k_is)
    have d_need_web := K52.DefAt.mk (x := "need_web") (i := 21) KX G (by k_is) (by k_is) (by k_is) (by k_is)
    have d_neighbours := K52.DefAt.mk (x := "neighbours") (i := 22) KX G (by k_is) (by k_is) (by k_is) (by k_is)
    have d_need_rooms := K52.DefAt.mk (x := "need_rooms") (i := 23) KX G (by k_is) (by k_is) (by k_is) (by k_is)
    have d_with_block := K52.DefAt.mk (x := "with_block") (i := 25) KX G (by k_is) (by k_is) (by k_is) (by k_is)
    have d_need_rule := K52.DefAt.mk (x := "need_rule") (i := 32) KX G (by k_is) (by k_is) (by k_is) (by k_is)
    have d_word_step := K52.DefAt.mk (x := "word_step") (i := 33) KX G (by k_is) (by k_is) (by k_is) (by k_is)
    have d_following_blocks := K52.DefAt.mk (x := "following_blocks") (i := 35) KX G (by k_is) (by k_is) (by k_is) (by k_is)
    have d_need_setting := K52.DefAt.mk (x := "need_setting") (i := 38) KX G (by k_is) (by k_is) (by k_is) (by k_is)
    have d_first_standing := K52.DefAt.mk (x := "first_standing") (i := 39) KX G (by k_is) (by k_is) (by k_is) (by k_is)
    have d_mate_steps := K52.DefAt.mk (x := "mate_steps") (i := 40) KX G (by k_is) (by k_is) (by k_is) (by k_is)
    have d_standing_steps := K52.DefAt.mk (x := "standing_steps") (i := 41) KX G (by k_is) (by k_is) (by k_is) (by k_is)
    have d_met_table := K52.DefAt.mk (x := "met_table") (i := 42) KX G (by k_is) (by k_is) (by k_is) (by k_is)
    have d_step_gain := K52.DefAt.mk (x := "step_gain") (i := 43) KX G (by k_is) (by k_is) (by k_is) (by k_is)
    have d_choice_ring := K52.DefAt.mk (x := "choice_ring") (i := 44) KX G (by k_is) (by k_is) (by k_is) (by k_is)
    have d_raise_heights := K52.DefAt.mk (x := "raise_heights") (i := 45) KX G (by k_is) (by k_is) (by k_is) (by k_is)
    have d_gain_heights := K52.DefAt.mk (x := "gain_heights") (i := 46) KX G (by k_is) (by k_is) (by k_is) (by k_is)
    have d_steps_to := K52.DefAt.mk (x := "steps_to") (i := 47) KX G (by k_is) (by k_is) (by k_is) (by k_is)
    have d_ring_steps := K52.DefAt.mk (x := "ring_steps") (i := 48) KX G (by k_is) (by k_is) (by k_is) (by k_is)
    have d_touches_in := K52.DefAt.mk (x := "touches_in") (i := 49) KX G (by k_is) (by k_is) (by k_is) (by k_is)
    have d_told_ring := K52.DefAt.mk (x := "told_ring") (i := 50) KX G (by k_is) (by k_is) (by k_is) (by k_is)
    have d_chosen_walk := K52.DefAt.mk (x := "chosen_walk") (i := 51) KX G (by k_is) (by k_is) (by k_is) (by k_is)
    have d_loss_paper := K52.DefAt.mk (x := "loss_paper") (i := 52) KX G (by k_is) (by k_is) (by k_is) (by k_is)
    have d_greatest_loss := K52.DefAt.mk (x := "greatest_loss") (i := 53) KX G (by k_is) (by k_is) (by k_is) (by k_is)
    have d_losses_row := K52.DefAt.mk (x := "losses_row") (i := 54) KX G (by k_is) (by k_is) (by k_is) (by k_is)
    have d__law_box := K52.DefAt.mk (x := "_law_box") (i := 56) KX G (by k_is) (by k_is) (by k_is) (by k_is)
    have d__law_take := K52.DefAt.mk (x := "_law_take") (i := 57) KX G (by k_is) (by k_is) (by k_is) (by k_is)
    have d__law_pick := K52.DefAt.mk (x := "_law_pick") (i := 58) KX G (by k_is) (by k_is) (by k_is) (by k_is)
    have d__law_web := K52.DefAt.mk (x := "_law_web") (i := 59) KX G (by k_is) (by k_is) (by k_is) (by k_is)
    have d__law_beside := K52.DefAt.mk (x := "_law_beside") (i := 60) KX G (by k_is) (by k_is) (by k_is) (by k_is)
    have d__law_walk := K52.DefAt.mk (x := "_law_walk") (i := 61) KX G (by k_is) (by k_is) (by k_is) (by k_is)
    have d__law_cheapest := K52.DefAt.mk (x := "_law_cheapest") (i := 62) KX G (by k_is) (by k_is) (by k_is) (by k_is)
    have d__law_least := K52.DefAt.mk (x := "_law_least") (i := 63) KX G (by k_is) (by k_is) (by k_is) (by k_is)
    have d__law_step := K52.DefAt.mk (x := "_law_step") (i := 64) KX G (by k_is) (by k_is) (by k_is) (by k_is)
    have d__law_begin := K52.DefAt.mk (x := "_law_begin") (i := 65) KX G (by k_is) (by k_is) (by k_is) (by k_is)
    have d__law_moves := K52.DefAt.mk (x := "_law_moves") (i := 66) KX G (by k_is) (by k_is) (by k_is) (by k_is)
    have d__law_heard := K52.DefAt.mk (x := "_law_heard") (i := 67) KX G (by k_is) (by k_is) (by k_is) (by k_is)
    have d__law_never_rises := K52.DefAt.mk (x := "_law_never_rises") (i := 68) KX G (by k_is) (by k_is) (by k_is) (by k_is)
    have rr := K52.rr_mk KX G (by k_is) (by k_is) (by k_is) (by k_is) (by k_is) (by k_is) (by k_is) (by k_is) (by k_is) (by k_is)
    have dm_init := K52.DefM.mk (m := "__init__") (q := "RuleRunner.__init__") (st := L2.inClass (K52.top 34) 0) KX G (by k_is) (by k_is) (by k_is) (by k_is) (by k_is) (by k_is)
    have dm_begin := K52.DefM.mk (m := "begin") (q := "RuleRunner.begin") (st := L2.inClass (K52.top 34) 1) KX G (by k_is) (by k_is) (by k_is) (by k_is) (by k_is) (by k_is)
    have dm_step := K52.DefM.mk (m := "step") (q := "RuleRunner.step") (st := L2.inClass (K52.top 34) 2) KX G (by k_is) (by k_is) (by k_is) (by k_is) (by k_is) (by k_is)
    have Ew := K52.err_mk (P := PySem.Challenge.rw_slowshelves_k52_whole_losses_with_rooms.prog) (x := "InvalidWeb") KX G (by k_is) (by k_is) (by k_is) (by k_is) (by k_is) (by k_is) (by k_is) (by k_is) (by k_is) (by k_is) (by k_is) (by k_is) (by k_is) (by k_is) (by ks_is) (by k_is) (by k_is) (by k_is) (by k_is) (by k_is) (by k_is) (by decide +kernel) (by rfl) (by decide +kernel) (by decide +kernel) (by exact ⟨_, fun _ => rfl⟩)
    have Er := K52.err_mk (P := PySem.Challenge.rw_slowshelves_k52_whole_losses_with_rooms.prog) (x := "InvalidRooms") KX G (by k_is) (by k_is) (by k_is) (by k_is) (by k_is) (by k_is) (by k_is) (by k_is) (by k_is) (by k_is) (by k_is) (by k_is) (by k_is) (by k_is) (by ks_is) (by k_is) (by k_is) (by k_is) (by k_is) (by k_is) (by k_is) (by decide +kernel) (by rfl) (by decide +kernel) (by decide +kernel) (by exact ⟨_, fun _ => rfl⟩)
    have Eu := K52.err_mk (P := PySem.Challenge.rw_slowshelves_k52_whole_losses_with_rooms.prog) (x := "InvalidRule") KX G (by k_is) (by k_is) (by k_is) (by k_is) (by k_is) (by k_is) (by k_is) (by k_is) (by k_is) (by k_is) (by k_is) (by k_is) (by k_is) (by k_is) (by ks_is) (by k_is) (by k_is) (by k_is) (by k_is) (by k_is) (by k_is) (by decide +kernel) (by rfl) (by decide +kernel) (by decide +kernel) (by exact ⟨_, fun _ => rfl⟩)
    have t := K52.Txt.mk (P := PySem.Challenge.rw_slowshelves_k52_whole_losses_with_rooms.prog) T Cc d_is_integer d_is_number d_is_below d_is_string d_is_sequence d_is_pair d_ordered_pair d_beside_rows d_is_link d_need_web d_neighbours d_need_rooms d_with_block d_need_rule d_word_step d_following_blocks d_need_setting d_first_standing d_mate_steps d_standing_steps d_met_table d_step_gain d_choice_ring d_raise_heights d_gain_heights d_steps_to d_ring_steps d_touches_in d_told_ring d_chosen_walk d_loss_paper d_greatest_loss d_losses_row d__law_box d__law_take d__law_pick d__law_web d__law_beside d__law_walk d__law_cheapest d__law_least d__law_step d__law_begin d__law_moves d__law_heard d__law_never_rises rr.gC rr.mkC rr.kC rr.R dm_init dm_begin dm_step Ew Er Eu (K52.Apart.mk (K52.exm_mk (by k_is) (by k_is) (by k_is) (by k_is)) (K52.exm_mk (by k_is) (by k_is) (by k_is) (by k_is)) (K52.exm_mk (by k_is) (by k_is) (by k_is) (by k_is)) (K52.exm_mk (by k_is) (by k_is) (by k_is) (by k_is)) (K52.exm_mk (by k_is) (by k_is) (by k_is) (by k_is)) (K52.exm_mk (by k_is) (by k_is) (by k_is) (by k_is)))
    exact K52.law_at KX G hmg t (by k_is) (by k_is) (by k_is) (hT _ List.mem_cons_self) (by kernel_rfl) (PySem.W.codeHd_of_K KX (by kernel_rfl))

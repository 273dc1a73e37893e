import PyProof.Rows.All
import Wide.All
import OpenK.AllK
import Wide.FinOn
import HandS.ForMost
import HandS.More
import HandS.SortOrd
import HandS.SortRule
import KE.KSortTupAny
import PyProof.ReprRoads
import HandS.IsInst
import HandS.Walk
import HandS.ListItems
import PyProof.ReprLen
import PyProof.FitsInt
import PySem.Challenge.RW_scribehall_k41_whole_each_ask_once
set_option Elab.async false
set_option maxRecDepth 100000
set_option maxHeartbeats 4000000
/-! The mirror: tables, books and rows as plain lists, and the mathematics of the law. -/
namespace K41
open PySem PySem.Spec PyProof.Rows L2

/-! ### association lists -/
section
variable {κ β : Type} [DecidableEq κ]
def aget (t : List (κ × β)) (k : κ) : Option β := (t.find? fun p => decide (p.1 = k)).map (·.2)
def aput (t : List (κ × β)) (k : κ) (v : β) : List (κ × β) :=
  if (t.any fun p => decide (p.1 = k)) = true then t.map (fun p => if p.1 = k then (p.1, v) else p) else t ++ [(k, v)]
def adrop (t : List (κ × β)) (k : κ) : List (κ × β) := t.filter fun p => decide (p.1 ≠ k)

theorem aget_nil {k : κ} : aget ([] : List (κ × β)) k = none := rfl
theorem aget_pos {p : κ × β} {r : List (κ × β)} {k : κ} (e : p.1 = k) : aget (p :: r) k = some p.2 := by simp [aget, List.find?_cons, e]
theorem aget_neg {p : κ × β} {r : List (κ × β)} {k : κ} (e : ¬ p.1 = k) : aget (p :: r) k = aget r k := by simp [aget, List.find?_cons, e]
theorem any_aget (k : κ) : ∀ t : List (κ × β), (t.any fun p => decide (p.1 = k)) = (aget t k).isSome
  | [] => rfl
  | p :: r => by
    by_cases e : p.1 = k
    · rw [aget_pos e, List.any_cons, decide_eq_true e] <;> rfl
    · rw [aget_neg e, List.any_cons, decide_eq_false e, Bool.false_or, any_aget k r]
theorem aget_map_same (k : κ) (v : β) : ∀ t : List (κ × β), (aget t k).isSome = true → aget (t.map fun p => if p.1 = k then (p.1, v) else p) k = some v
  | [], h => by cases h
  | p :: r, h => by
    by_cases e : p.1 = k
    · rw [List.map_cons, if_pos e, aget_pos (p := (p.1, v)) e]
    · rw [aget_neg e] at h
      rw [List.map_cons, if_neg e, aget_neg e, aget_map_same k v r h]
theorem aget_snoc (k : κ) (v : β) : ∀ t : List (κ × β), aget t k = none → aget (t ++ [(k, v)]) k = some v
  | [], _ => by rw [List.nil_append, aget_pos (p := (k, v)) rfl]
  | p :: r, h => by
    by_cases e : p.1 = k
    · rw [aget_pos e] at h; cases h
    · rw [aget_neg e] at h
      rw [List.cons_append, aget_neg e, aget_snoc k v r h]
theorem aget_put (t : List (κ × β)) (k : κ) (v : β) : aget (aput t k v) k = some v := by
  unfold aput
  by_cases h : (aget t k).isSome = true
  · rw [any_aget, if_pos h, aget_map_same k v t h]
  · rw [any_aget, if_neg h, aget_snoc k v t (by cases e : aget t k with | none => rfl | some _ => rw [e] at h; exact absurd rfl h)]
theorem len_put (t : List (κ × β)) (k : κ) (v : β) : (aput t k v).length ≤ t.length + 1 := by
  unfold aput
  split
  · rw [List.length_map]; omega
  · rw [List.length_append]; exact Nat.le_refl _
theorem len_drop (t : List (κ × β)) (k : κ) : (adrop t k).length ≤ t.length := List.length_filter_le _ _
theorem mem_put {t : List (κ × β)} {k : κ} {v : β} {p : κ × β} (h : p ∈ aput t k v) : p ∈ t ∨ p = (k, v) := by
  unfold aput at h
  split at h
  · obtain ⟨q, hq, e⟩ := List.mem_map.mp h
    by_cases z : q.1 = k
    · rw [if_pos z, z] at e; exact .inr e.symm
    · rw [if_neg z] at e; exact .inl (e ▸ hq)
  · rcases List.mem_append.mp h with h | h
    · exact .inl h
    · exact .inr (List.mem_singleton.mp h)
theorem mem_drop {t : List (κ × β)} {k : κ} {p : κ × β} (h : p ∈ adrop t k) : p ∈ t := (List.mem_filter.mp h).1
theorem drop_none (t : List (κ × β)) (k : κ) (h : aget t k = none) : adrop t k = t := by
  unfold adrop
  rw [List.filter_eq_self]
  intro p hp
  refine decide_eq_true fun e => ?_
  have q : (t.any fun p => decide (p.1 = k)) = true := List.any_eq_true.mpr ⟨p, hp, decide_eq_true e⟩
  rw [any_aget, h] at q
  cases q
theorem aget_mem {t : List (κ × β)} {k : κ} {v : β} (h : aget t k = some v) : (k, v) ∈ t := by
  unfold aget at h
  cases e : t.find? (fun p => decide (p.1 = k)) with
  | none => rw [e] at h; cases h
  | some p =>
    rw [e] at h
    have h0 : decide (p.1 = k) = true := List.find?_some (p := fun q : κ × β => decide (q.1 = k)) e
    have h1 := of_decide_eq_true h0
    have h2 : p.2 = v := Option.some.inj h
    have h3 := List.mem_of_find?_eq_some e
    rw [← h1, ← h2]
    exact h3
theorem aget_none {t : List (κ × β)} {k : κ} (h : aget t k = none) : k ∉ t.map (·.1) := fun m => by
  obtain ⟨p, hp, e⟩ := List.mem_map.mp m
  have q : (t.any fun p => decide (p.1 = k)) = true := List.any_eq_true.mpr ⟨p, hp, decide_eq_true e⟩
  rw [any_aget, h] at q
  cases q
theorem aget_of_mem : ∀ {t : List (κ × β)} {k : κ} {v : β}, (t.map (·.1)).Nodup → (k, v) ∈ t → aget t k = some v
  | [], _, _, _, h => by cases h
  | p :: r, k, v, n, h => by
    obtain ⟨n1, n2⟩ := List.nodup_cons.mp (show (p.1 :: r.map (·.1)).Nodup from n)
    rcases List.mem_cons.mp h with e | h
    · subst e; exact aget_pos rfl
    · have e : ¬ p.1 = k := fun e => n1 (List.mem_map.mpr ⟨(k, v), h, e.symm⟩)
      rw [aget_neg e]
      exact aget_of_mem n2 h
theorem keys_put_any (t : List (κ × β)) (k : κ) (v : β) (h : (aget t k).isSome = true) : (aput t k v).map (·.1) = t.map (·.1) := by
  unfold aput
  rw [any_aget, if_pos h, List.map_map]
  refine List.map_congr_left fun p _ => ?_
  show (if p.1 = k then (p.1, v) else p).1 = p.1
  split <;> rfl
theorem nodup_put {t : List (κ × β)} (k : κ) (v : β) (n : (t.map (·.1)).Nodup) : ((aput t k v).map (·.1)).Nodup := by
  by_cases h : (aget t k).isSome = true
  · rw [keys_put_any t k v h]; exact n
  · have e : aget t k = none := by cases e : aget t k with | none => rfl | some _ => rw [e] at h; exact absurd rfl h
    unfold aput
    rw [any_aget, if_neg h, List.map_append]
    refine List.nodup_append.mpr ⟨n, by simp, fun a ha b hb => ?_⟩
    have hb' : b = k := by simpa using hb
    subst hb'
    exact fun e2 => aget_none e (e2 ▸ ha)
theorem nodup_drop {t : List (κ × β)} (k : κ) (n : (t.map (·.1)).Nodup) : ((adrop t k).map (·.1)).Nodup :=
  n.sublist (List.Sublist.map _ List.filter_sublist)
end

/-! ### answers, asks, deeds -/
inductive Ans where
  | non | bl (b : Bool) | int (i : Int)
  deriving DecidableEq
def Ans.v : Ans → V
  | .non => .non
  | .bl b => .bl b
  | .int i => .int i
def Ans.d : Ans → PyData
  | .non => .none
  | .bl b => .bool b
  | .int i => .int i
def oA : Option Int → Ans
  | none => .non
  | some i => .int i
def oV : Option Int → V
  | none => .non
  | some i => .int i
theorem oA_v (o : Option Int) : (oA o).v = oV o := by cases o <;> rfl

inductive Ask where
  | put (k : Str) (v : Int) | add (k : Str) (v : Int) | drop (k : Str) | swap (k : Str) (o : Option Int) (v : Int) | read (k : Str) | many
def Ask.vs : Ask → List V
  | .put k v => [.str "put", .str k, .int v]
  | .add k v => [.str "add", .str k, .int v]
  | .drop k => [.str "drop", .str k]
  | .swap k o v => [.str "swap", .str k, oV o, .int v]
  | .read k => [.str "read", .str k]
  | .many => [.str "many"]
def KeyOk (k : Str) : Prop := 1 ≤ k.length ∧ k.length ≤ 8 ∧ ∀ c ∈ k.cps.toList, 97 ≤ c ∧ c ≤ 122
def ValOk (v : Int) : Prop := -1000000000000 ≤ v ∧ v ≤ 1000000000000
def OldOk : Option Int → Prop
  | none => True
  | some v => ValOk v
def Ask.ok : Ask → Prop
  | .put k v => KeyOk k ∧ ValOk v
  | .add k v => KeyOk k ∧ ValOk v
  | .drop k => KeyOk k
  | .swap k o v => KeyOk k ∧ OldOk o ∧ ValOk v
  | .read k => KeyOk k
  | .many => True
inductive Deed where
  | blank | members (ns : List Int) | call (c n : Int) (a : Ask)
def Deed.ok : Deed → Prop
  | .call c n a => (0 ≤ c ∧ c ≤ 9) ∧ (1 ≤ n ∧ n ≤ 1000000) ∧ a.ok
  | _ => True
abbrev Row := Int × Deed
abbrev Tri := Int × Int × Ans
def RowsOk (rs : List Row) : Prop := ∀ r ∈ rs, r.2.ok

/-! ### what is done -/
abbrev Tab := List (Str × Int)
abbrev Lst := List (Int × Int × Ans)
abbrev Bk := Tab × Lst
def doAsk (t : Tab) : Ask → Tab × Ans
  | .many => (t, .int t.length)
  | .put k v => (aput t k v, oA (aget t k))
  | .add k v => (aput t k (v + (aget t k).getD 0), .int (v + (aget t k).getD 0))
  | .drop k => (adrop t k, oA (aget t k))
  | .swap k o v => if aget t k = o then (aput t k v, .bl true) else (t, .bl false)
  | .read k => (t, oA (aget t k))
inductive Said where
  | late | again (a : Ans) | done (a : Ans)
def was (l : Lst) (c : Int) : Int × Ans := (aget l c).getD (0, .non)
def callB (b : Bk) (c n : Int) (a : Ask) : Bk × Said :=
  if n < (was b.2 c).1 then (b, .late) else if n = (was b.2 c).1 then (b, .again (was b.2 c).2) else
    (((doAsk b.1 a).1, aput b.2 c (n, (doAsk b.1 a).2)), .done (doAsk b.1 a).2)
/-- a row: the book behind it, what is told, whether it is done -/
def stepB (b : Bk) (r : Row) : Bk × List Tri × List Row :=
  match r.2 with
  | .call c n a =>
    match callB b c n a with
    | (b', .late) => (b', [], [])
    | (b', .again x) => (b', [(c, n, x)], [])
    | (b', .done x) => (b', [(c, n, x)], [r])
  | _ => (b, [], [])
def runB (b : Bk) : List Row → Bk × List Tri × List Row
  | [] => (b, [], [])
  | r :: rs => ((runB (stepB b r).1 rs).1, (stepB b r).2.1 ++ (runB (stepB b r).1 rs).2.1, (stepB b r).2.2 ++ (runB (stepB b r).1 rs).2.2)
theorem runB_snoc (r : Row) : ∀ (rs : List Row) (b : Bk), runB b (rs ++ [r]) =
    ((stepB (runB b rs).1 r).1, (runB b rs).2.1 ++ (stepB (runB b rs).1 r).2.1, (runB b rs).2.2 ++ (stepB (runB b rs).1 r).2.2)
  | [], b => by simp [runB]
  | x :: rs, b => by
    rw [List.cons_append]
    simp only [runB]
    rw [runB_snoc r rs]
    simp only [List.append_assoc]
def dbl : List Row → List Row
  | [] => []
  | r :: rs => r :: r :: dbl rs
theorem dbl_snoc (r : Row) : ∀ rs : List Row, dbl (rs ++ [r]) = dbl rs ++ [r, r]
  | [] => rfl
  | x :: rs => by rw [List.cons_append, dbl, dbl_snoc r rs, dbl]; rfl
theorem dbl_len : ∀ rs : List Row, (dbl rs).length = 2 * rs.length
  | [] => rfl
  | _ :: rs => by rw [dbl, List.length_cons, List.length_cons, List.length_cons, dbl_len rs]; omega
theorem dbl_mem {r : Row} : ∀ {rs : List Row}, r ∈ dbl rs → r ∈ rs
  | [], h => h
  | x :: rs, h => by
    rcases List.mem_cons.mp h with e | h
    · exact e ▸ List.mem_cons_self
    · rcases List.mem_cons.mp h with e | h
      · exact e ▸ List.mem_cons_self
      · exact List.mem_cons_of_mem _ (dbl_mem h)
theorem done_mem {q : Row} : ∀ {rs : List Row} {b : Bk}, q ∈ (runB b rs).2.2 → q ∈ rs
  | [], _, h => by cases h
  | r :: rs, b, h => by
    rcases List.mem_append.mp (show q ∈ (stepB b r).2.2 ++ (runB (stepB b r).1 rs).2.2 from h) with h | h
    · have e : q = r := by
        unfold stepB at h
        split at h
        · split at h
          · cases h
          · cases h
          · exact List.mem_singleton.mp h
        · cases h
      exact e ▸ List.mem_cons_self
    · exact List.mem_cons_of_mem _ (done_mem h)
theorem done_len : ∀ (rs : List Row) (b : Bk), (runB b rs).2.2.length ≤ rs.length
  | [], _ => Nat.le_refl _
  | r :: rs, b => by
    have h := done_len rs (stepB b r).1
    have h1 : (stepB b r).2.2.length ≤ 1 := by
      unfold stepB
      split
      · split <;> simp
      · simp
    show ((stepB b r).2.2 ++ (runB (stepB b r).1 rs).2.2).length ≤ _
    rw [List.length_append, List.length_cons]
    omega
theorem tri_len : ∀ (rs : List Row) (b : Bk), (runB b rs).2.1.length ≤ rs.length
  | [], _ => Nat.le_refl _
  | r :: rs, b => by
    have h := tri_len rs (stepB b r).1
    have h1 : (stepB b r).2.1.length ≤ 1 := by
      unfold stepB
      split
      · split <;> simp
      · simp
    show ((stepB b r).2.1 ++ (runB (stepB b r).1 rs).2.1).length ≤ _
    rw [List.length_append, List.length_cons]
    omega
/-- a row that does nothing leaves the book -/
theorem idle {b : Bk} {r : Row} (h : (stepB b r).2.2 = []) : (stepB b r).1 = b := by
  unfold stepB at h ⊢
  split at h
  · rename_i c n a e
    unfold callB at h ⊢
    by_cases h1 : n < (was b.2 c).1
    · simp only [if_pos h1]
    · by_cases h2 : n = (was b.2 c).1
      · simp only [if_neg h1, if_pos h2]
      · simp only [if_neg h1, if_neg h2] at h
        cases h
  · rfl
theorem acts {b : Bk} {r : Row} : (stepB b r).2.2 = [] ∨ (stepB b r).2.2 = [r] := by
  unfold stepB
  split
  · split
    · exact .inl rfl
    · exact .inl rfl
    · exact .inr rfl
  · exact .inl rfl
/-- the first rows alone: the same book -/
theorem run_done : ∀ (rs : List Row) (b : Bk), (runB b (runB b rs).2.2).1 = (runB b rs).1
  | [], _ => rfl
  | r :: rs, b => by
    show (runB b ((stepB b r).2.2 ++ (runB (stepB b r).1 rs).2.2)).1 = (runB (stepB b r).1 rs).1
    rcases acts (b := b) (r := r) with h | h
    · have e := idle h
      rw [h, List.nil_append]
      have q := run_done rs (stepB b r).1
      rw [e] at q ⊢
      exact q
    · rw [h, List.singleton_append]
      exact run_done rs (stepB b r).1
theorem was_put (l : Lst) (c n : Int) (x : Ans) : was (aput l c (n, x)) c = (n, x) := by
  unfold was
  rw [aget_put]
  rfl
/-- a row again -/
theorem step_twice (b : Bk) (r : Row) : (stepB (stepB b r).1 r).1 = (stepB b r).1 := by
  refine idle ?_
  rcases acts (b := b) (r := r) with h | h
  · rw [idle h]; exact h
  · unfold stepB at h ⊢
    split at h
    · rename_i c n a e
      unfold callB at h ⊢
      by_cases h1 : n < (was b.2 c).1
      · simp only [if_pos h1] at h
        cases h
      · by_cases h2 : n = (was b.2 c).1
        · simp only [if_neg h1, if_pos h2] at h
          cases h
        · simp only [if_neg h1, if_neg h2, was_put, if_true, Int.lt_irrefl, if_false]
    · cases h
theorem run_dbl : ∀ (rs : List Row) (b : Bk), (runB b (dbl rs)).1 = (runB b rs).1
  | [], _ => rfl
  | r :: rs, b => by
    show (runB (stepB (stepB b r).1 r).1 (dbl rs)).1 = (runB (stepB b r).1 rs).1
    rw [step_twice]
    exact run_dbl rs _

/-! ### bounds -/
/-- what holds of a book behind so many rows -/
structure Good (m : Nat) (b : Bk) : Prop where
  tn : (b.1.map (·.1)).Nodup
  tl : b.1.length ≤ m
  tk : ∀ p ∈ b.1, KeyOk p.1 ∧ p.2.natAbs ≤ 1000000000000 * m
  ln : (b.2.map (·.1)).Nodup
  ll : b.2.length ≤ m
  lb : ∀ p ∈ b.2, (0 ≤ p.1 ∧ p.1 ≤ 9) ∧ (1 ≤ p.2.1 ∧ p.2.1 ≤ 1000000) ∧ ∀ i, p.2.2 = .int i → i.natAbs ≤ 1000000000000 * (m + 1)
theorem good0 : Good 0 ([], []) := ⟨List.nodup_nil, Nat.le_refl _, (fun _ h => by cases h), List.nodup_nil, Nat.le_refl _, (fun _ h => by cases h)⟩
theorem Good.mono {m n : Nat} {b : Bk} (g : Good m b) (h : m ≤ n) : Good n b :=
  ⟨g.tn, Nat.le_trans g.tl h, fun p hp => ⟨(g.tk p hp).1, Nat.le_trans (g.tk p hp).2 (Nat.mul_le_mul_left _ h)⟩, g.ln, Nat.le_trans g.ll h,
    fun p hp => ⟨(g.lb p hp).1, (g.lb p hp).2.1, fun i e => Nat.le_trans ((g.lb p hp).2.2 i e) (Nat.mul_le_mul_left _ (by omega))⟩⟩
theorem ValOk.abs {v : Int} (h : ValOk v) : v.natAbs ≤ 1000000000000 := by
  unfold ValOk at h
  omega
theorem get_bound {m : Nat} {t : Tab} (h : ∀ p ∈ t, KeyOk p.1 ∧ p.2.natAbs ≤ 1000000000000 * m) (k : Str) : ((aget t k).getD 0).natAbs ≤ 1000000000000 * m := by
  cases e : aget t k with
  | none => exact Nat.zero_le _
  | some v => exact (h _ (aget_mem e)).2
/-- an ask done: the table stays good, the answer is bounded -/
theorem ask_good {m : Nat} {t : Tab} {a : Ask} (n : (t.map (·.1)).Nodup) (l : t.length ≤ m) (h : ∀ p ∈ t, KeyOk p.1 ∧ p.2.natAbs ≤ 1000000000000 * m) (ok : a.ok) :
    ((doAsk t a).1.map (·.1)).Nodup ∧ (doAsk t a).1.length ≤ m + 1 ∧ (∀ p ∈ (doAsk t a).1, KeyOk p.1 ∧ p.2.natAbs ≤ 1000000000000 * (m + 1)) ∧ ∀ i, (doAsk t a).2 = .int i → i.natAbs ≤ 1000000000000 * (m + 1) := by
  have up : ∀ p ∈ t, KeyOk p.1 ∧ p.2.natAbs ≤ 1000000000000 * (m + 1) := fun p hp => ⟨(h p hp).1, by have := (h p hp).2; omega⟩
  have wr : ∀ (k : Str) (v : Int), KeyOk k → v.natAbs ≤ 1000000000000 * (m + 1) → ∀ p ∈ aput t k v, KeyOk p.1 ∧ p.2.natAbs ≤ 1000000000000 * (m + 1) := fun k v hk hv p hp => by
    rcases mem_put hp with hp | e
    · exact up p hp
    · subst e; exact ⟨hk, hv⟩
  have oa : ∀ (k : Str) (i : Int), oA (aget t k) = .int i → i.natAbs ≤ 1000000000000 * (m + 1) := fun k i e => by
    have b := get_bound h k
    cases q : aget t k with
    | none => rw [q] at e; cases e
    | some v =>
      rw [q] at e b
      have e2 : v = i := Ans.int.inj e
      subst e2
      have b' : v.natAbs ≤ 1000000000000 * m := b
      omega
  have lp : ∀ (k : Str) (v : Int), (aput t k v).length ≤ m + 1 := fun k v => by have := len_put t k v; omega
  cases a with
  | put k v => exact ⟨nodup_put k v n, lp k v, wr k v ok.1 (by have := ok.2.abs; omega), oa k⟩
  | add k v =>
    have b := get_bound h k
    have b2 := ok.2.abs
    have b3 : (v + (aget t k).getD 0).natAbs ≤ 1000000000000 * (m + 1) := by omega
    refine ⟨nodup_put k _ n, lp k _, wr k _ ok.1 b3, fun i e => ?_⟩
    have e2 : v + (aget t k).getD 0 = i := Ans.int.inj e
    rw [← e2]
    exact b3
  | drop k => exact ⟨nodup_drop k n, by have := len_drop t k; show (adrop t k).length ≤ _; omega, fun p hp => up p (mem_drop hp), oa k⟩
  | swap k o v =>
    by_cases e : aget t k = o
    · rw [doAsk, if_pos e]
      exact ⟨nodup_put k v n, lp k v, wr k v ok.1 (by have := ok.2.2.abs; omega), fun i z => by cases z⟩
    · rw [doAsk, if_neg e]
      exact ⟨n, Nat.le_succ_of_le l, up, fun i z => by cases z⟩
  | read k => exact ⟨n, by show t.length ≤ _; omega, up, oa k⟩
  | many =>
    refine ⟨n, by show t.length ≤ _; omega, up, fun i e => ?_⟩
    have e2 : (t.length : Int) = i := Ans.int.inj e
    omega
theorem TriOk.aux {l : Lst} {c : Int} (m : Nat) (h : ∀ p ∈ l, (0 ≤ p.1 ∧ p.1 ≤ 9) ∧ (1 ≤ p.2.1 ∧ p.2.1 ≤ 1000000) ∧ ∀ i, p.2.2 = .int i → i.natAbs ≤ 1000000000000 * (m + 1)) : ∀ i, (was l c).2 = .int i → i.natAbs ≤ 1000000000000 * (m + 1) := fun i e => by
  unfold was at e
  cases q : aget l c with
  | none => rw [q] at e; cases e
  | some p =>
    rw [q] at e
    exact (h _ (aget_mem q)).2.2 i e
def TriOk (m : Nat) (t : Tri) : Prop := (0 ≤ t.1 ∧ t.1 ≤ 9) ∧ (1 ≤ t.2.1 ∧ t.2.1 ≤ 1000000) ∧ ∀ i, t.2.2 = .int i → i.natAbs ≤ 1000000000000 * (m + 2)
theorem step_good {m : Nat} {b : Bk} {r : Row} (g : Good m b) (ok : r.2.ok) : Good (m + 1) (stepB b r).1 ∧ ∀ t ∈ (stepB b r).2.1, TriOk m t := by
  have g' := g.mono (Nat.le_succ m)
  unfold stepB
  split
  · rename_i c n a e
    rw [e] at ok
    obtain ⟨hc, hn, ha⟩ := ok
    unfold callB
    have wb := TriOk.aux (c := c) m g.lb
    by_cases h1 : n < (was b.2 c).1
    · simp only [if_pos h1]
      exact ⟨g', fun _ h => by cases h⟩
    · by_cases h2 : n = (was b.2 c).1
      · simp only [if_neg h1, if_pos h2]
        refine ⟨g', fun t ht => ?_⟩
        rw [List.mem_singleton.mp ht]
        exact ⟨hc, hn, fun i z => by have := wb i z; omega⟩
      · simp only [if_neg h1, if_neg h2]
        obtain ⟨a1, a2, a3, a4⟩ := ask_good g.tn g.tl g.tk ha
        refine ⟨⟨a1, a2, a3, nodup_put _ _ g.ln, by have := len_put b.2 c (n, (doAsk b.1 a).2); have := g.ll; show (aput _ _ _).length ≤ _; omega, fun p hp => ?_⟩, fun t ht => ?_⟩
        · rcases mem_put hp with hp | e2
          · exact g'.lb p hp
          · subst e2
            exact ⟨hc, hn, fun i z => by have := a4 i z; omega⟩
        · rw [List.mem_singleton.mp ht]
          exact ⟨hc, hn, fun i z => by have := a4 i z; omega⟩
  · exact ⟨g', fun _ h => by cases h⟩
theorem TriOk.mono {m n : Nat} {t : Tri} (h : TriOk m t) (l : m ≤ n) : TriOk n t := ⟨h.1, h.2.1, fun i e => by have := h.2.2 i e; omega⟩
theorem run_good : ∀ (rs : List Row) (m : Nat) (b : Bk), Good m b → RowsOk rs → Good (m + rs.length) (runB b rs).1 ∧ ∀ t ∈ (runB b rs).2.1, TriOk (m + rs.length) t
  | [], _, _, g, _ => ⟨g, fun _ h => by cases h⟩
  | r :: rs, m, b, g, ok => by
    obtain ⟨g1, t1⟩ := step_good g (ok r List.mem_cons_self)
    obtain ⟨g2, t2⟩ := run_good rs (m + 1) _ g1 fun q hq => ok q (List.mem_cons_of_mem _ hq)
    have e : m + 1 + rs.length = m + (r :: rs).length := by rw [List.length_cons]; omega
    rw [e] at g2 t2
    refine ⟨g2, fun t ht => ?_⟩
    rcases List.mem_append.mp (show t ∈ (stepB b r).2.1 ++ (runB (stepB b r).1 rs).2.1 from ht) with h | h
    · exact (t1 t h).mono (by omega)
    · exact t2 t h

/-! ### as the heap's dicts have them -/
def tabV (t : Tab) : List (Key × V) := t.map fun p => (Sum.inr p.1, V.int p.2)
theorem valV_tab (k : Str) : ∀ t : Tab, valV (tabV t) (Sum.inr k : Key) = (aget t k).map V.int
  | [] => rfl
  | p :: r => by
    show valV ((Sum.inr p.1, V.int p.2) :: tabV r) _ = _
    by_cases e : p.1 = k
    · rw [aget_pos e, valV_pos (p := ((Sum.inr p.1 : Key), V.int p.2)) (congrArg Sum.inr e)]; rfl
    · rw [aget_neg e, valV_neg (p := ((Sum.inr p.1 : Key), V.int p.2)) (fun z => e (Sum.inr.inj z)), valV_tab k r]
theorem putK_tab (t : Tab) (k : Str) (v : Int) : putK (tabV t) (Sum.inr k : Key) (V.int v) = tabV (aput t k v) := by
  unfold putK aput
  rw [valV_any, any_aget, valV_tab, Option.isSome_map]
  split
  · unfold tabV
    rw [List.map_map, List.map_map]
    refine List.map_congr_left fun p _ => ?_
    show (if (Sum.inr p.1 : Key) = Sum.inr k then ((Sum.inr p.1 : Key), V.int v) else ((Sum.inr p.1 : Key), V.int p.2)) = ((Sum.inr (if p.1 = k then (p.1, v) else p).1 : Key), V.int (if p.1 = k then (p.1, v) else p).2)
    by_cases e : p.1 = k
    · rw [if_pos (congrArg Sum.inr e), if_pos e]
    · rw [if_neg (fun z => e (Sum.inr.inj z)), if_neg e]
  · unfold tabV
    rw [List.map_append]; rfl
theorem dropK_tab (t : Tab) (k : Str) : dropK (tabV t) (Sum.inr k : Key) = tabV (adrop t k) := by
  unfold dropK adrop tabV
  rw [List.filter_map]
  refine congrArg _ (List.filter_congr fun p _ => ?_)
  by_cases e : p.1 = k
  · simp [e]
  · have e2 : ¬ (Sum.inr p.1 : Key) = Sum.inr k := fun z => e (Sum.inr.inj z)
    simp [e, e2]
theorem tabV_len (t : Tab) : (tabV t).length = t.length := List.length_map _
theorem tabV_keys (t : Tab) : (tabV t).map (·.1) = (t.map (·.1)).map Sum.inr := by
  unfold tabV
  rw [List.map_map, List.map_map]; rfl
end K41
set_option Elab.async false
set_option maxRecDepth 100000
set_option maxHeartbeats 4000000
/-! Rules of our own: a thing locked for good, get of a written dict, repr of data, sorted of pairs (text, number). -/
namespace K41
open PySem PySem.Spec PyProof.Rows L2

section
variable {X : Cx}
/-- what e hands on is locked from then on -/
def tFrz (t : TE) : TE := fun σ H Q => t σ H fun x H1 => ∃ d u, x = .ref d ∧ H1 d = some u ∧ Mut (some u) ∧ ∀ od, Q x (upd H1 d (.frz od u))
theorem pe_frz {e : Expr} {t : TE} (he : PE X e t) : PE X e (tFrz t) := by
  refine ⟨fun pins s σ H Q I hq => thn (he.run pins s σ H _ I hq) fun v s1 hv => ?_⟩
  obtain ⟨x, H1, I1, r, d, u, ex, hd, mu, q⟩ := hv
  obtain ⟨od, I2⟩ := I1.lock hd mu
  exact ⟨x, _, I2, r, q od⟩

/-- d.get(key), d a dict of the module whose keys are texts, the key there -/
def tKGet (K : PySem.W.Frag) (d : Addr) (td ty : TE) : TE := fun σ H Q => td σ H fun x H1 => x = .ref d ∧ ty σ H1 fun y H2 => ∃ (z : Str) (u0 : Value) (v0 : V), y = .str z ∧ PySem.W.nsIn K d z = some (some u0) ∧ RelV v0 u0 ∧ Q v0 H2
theorem pe_kget {d : Addr} {es : Array DictEntry} {n : Nat} {o e : Expr} {apos cpos : Pos} {td ty : TE} (D : KDict X.K X.w d es n) (ho : PE X o td) (he : PE X e ty) (m : M1 X o "get" apos e cpos) :
    PE X (.Call (.Attribute o "get" apos) [e] [] cpos) (tKGet X.K d td ty) := by
  refine ⟨fun pins s σ H Q I h => ?_⟩
  refine wpAny_Call_method m.base m.few m.line PySem.F.plainAttrs_dict PySem.F.slot_dict_get PySem.F.type_dict_get (thn (ho.run pins s σ H _ I h) fun u s1 hu => ?_)
  obtain ⟨x, H1, I1, rx, ex, q1⟩ := hu
  subst ex
  obtain rfl : u = Value.ref d := rx
  refine ⟨kd_type D I1, fun b q => ?_, ?_⟩
  · cases q
    exact ⟨_, I1.kIn _ _ D.at_, rfl⟩
  rw [m.trees]
  refine Calls.callWith_builtin rfl (Calls.evalArgs_plain (Calls.spliced_cons (thn (he.run pins s1 σ H1 _ I1 q1) fun iv s2 hv => Calls.spliced_nil ?_)))
  obtain ⟨y, H2, I2, ry, z, u0, v0, ey, e0, r0, q2⟩ := hv
  subst ey
  obtain ⟨t, rfl⟩ : ∃ t, iv = Value.str z t := ry
  refine call_meetsIn PySem.F.slot_dict_get (kd_type D I2) PySem.F.entry_dict_get (PySem.F.args_dict_get_2 _ _) (meets_dict_get (PySem.strKind X.prog X.w) d (PySem.strKind_is X.prog X.w z t) D.low) ⟨_, PySem.W.mapOf_K (prog := X.prog) I2.kIn D.at_ D.lit, ?_⟩
  rw [PySem.W.find_K D.at_ e0]
  exact ⟨v0, H2, I2.tok _, r0, q2⟩

/-- repr(x), x a list or tuple of data: its text -/
theorem call_reprD (hg : X.A.guards = some []) (hu : X.A.units + 64 < cLine) : CallR X (.builtin "repr") (fun xs H Q => ∃ (a : Addr) (d : PyData), xs = [.ref a] ∧ Dp X.K H (.ref a) d ∧ d.showable = true ∧ d.hasDict = false ∧ d.depth + 1 ≤ 64 ∧
    d.shown.length ≤ sizeLine ∧ Q (.str d.shown) H) := by
  intro pins s σ H xs us Q I r h
  obtain ⟨a, d, rfl, hd, hs, hn, hdp, hz, q⟩ := h
  obtain ⟨u, rfl, ru⟩ := vals1 r
  obtain rfl : u = Value.ref a := ru
  obtain ⟨as, rd⟩ := Dp.reads I d _ _ hd rfl
  exact repr_of_reads' rd hs (PyData.noDict_hsm hn) hg (by omega) (fun _ _ e => e) (fun h' u tk hk => ⟨.str _, H, I.kept (t' := tk) hk, ⟨u, rfl⟩, q⟩) hz
end
end K41

namespace K41
open PySem PySem.Spec PyProof.Rows Srt SrtO
section
variable {prog : Program} {w : World} {A : Around} {E : Value → Shared → Prop} {s : Shared}
/-- v is a tuple of a text and a number -/
def TxNum (h : Heap) (v : Value) (x : Str) (y : Int) : Prop := ∃ a o t u n, v = .ref a ∧ h.get? a = some o ∧ o.cls = .type "tuple" ∧ o.data = .seq #[.str x t, .int y u] n
theorem TxNum.keeps {h h' : Heap} {v : Value} {x : Str} {y : Int} (p : TxNum h v x y) (k : ∀ b o, h.get? b = some o → o.cls = .type "tuple" → h'.get? b = some o) : TxNum h' v x y := by
  obtain ⟨a, o, t, u, n, e, ho, hc, hd⟩ := p
  exact ⟨a, o, t, u, n, e, k _ _ ho hc, hc, hd⟩
/-- by the text alone -/
def txB (x y : Str) : Bool := decide (x.cps.toList < y.cps.toList)
theorem swo_tx {α : Type} (k : α → Str) : Swo fun v u => txB (k v) (k u) := by
  refine ⟨fun x y h => ?_, fun x y z h1 h2 => ?_⟩
  · have a : (k x).cps.toList < (k y).cps.toList := of_decide_eq_true h
    exact decide_eq_false (List.lt_asymm a)
  · have a : ¬ (k y).cps.toList < (k x).cps.toList := of_decide_eq_false h1
    have b : ¬ (k z).cps.toList < (k y).cps.toList := of_decide_eq_false h2
    exact decide_eq_false (List.le_trans (show (k x).cps.toList ≤ (k y).cps.toList from a) (show (k y).cps.toList ≤ (k z).cps.toList from b))
theorem txNum_firsts {h : Heap} : ∀ {vs : List Value}, (∀ v ∈ vs, ∃ x y, TxNum h v x y) → ∃ fs : List Value, PySem.W.KatTups h vs fs ∧ fs.length = vs.length ∧ ∀ f ∈ fs, ∃ x t, f = Value.str x t
  | [], _ => ⟨[], PySem.W.KatTups.nil, rfl, fun _ hm => by cases hm⟩
  | v :: vs, hp => by
    obtain ⟨fs, h1, h2, h3⟩ := txNum_firsts (vs := vs) fun v' hm => hp v' (List.mem_cons_of_mem _ hm)
    obtain ⟨x, y, a, o, t, u, n, e, ho, hc, hd⟩ := hp v List.mem_cons_self
    subst e
    refine ⟨.str x t :: fs, PySem.W.KatTups.cons ho hc hd rfl h1, by rw [List.length_cons, List.length_cons, h2], fun f hm => ?_⟩
    rcases List.mem_cons.mp hm with rfl | hm
    · exact ⟨x, t, rfl⟩
    · exact h3 f hm
theorem txNum_cmp {vs : List Value} {k : Value → Str × Int} (hp : ∀ v ∈ vs, TxNum s.heap v (k v).1 (k v).2) (hk : ∀ v ∈ vs, ∀ u ∈ vs, (k v).1 = (k u).1 → (k v).2 = (k u).2) :
    Cmp prog w A s (tuples' true) (fun p => p.1 ∈ vs) (lt2 fun v u => txB (k v).1 (k u).1) := by
  intro p q hm hm'
  have h1 := hp _ hm
  have h2 := hp _ hm'
  have h3 := hk _ hm _ hm'
  show wpAny (model prog w) A (keyLt' (tuples' true) p.1 q.1) (fun r s' => s' = s ∧ r = txB (k p.1).1 (k q.1).1) (fun _ _ => False) s
  generalize (k p.1).1 = x at h1 h3 ⊢
  generalize (k p.1).2 = y at h1 h3
  generalize (k q.1).1 = x' at h2 h3 ⊢
  generalize (k q.1).2 = y' at h2 h3
  obtain ⟨a, o, t, u, n, e, ho, hc, hd⟩ := h1
  obtain ⟨a', o', t', u', n', e', ho', hc', hd'⟩ := h2
  rw [e, e']
  refine PySem.W.kat_lt ho hd ho' hd' ?_
  show PySem.W.KatLex prog w A true (decide (2 < 2)) _ [(.str x t, .str x' t'), (.int y u, .int y' u')] 0 s
  refine PySem.W.kat_cons (SeqAt.EqAt.str_str x t x' t' prog w _ _ ?_)
  refine PySem.W.kat_go (fun e1 => ?_) (fun e1 => ?_)
  · have ex : x = x' := by simpa using e1
    have ey := h3 ex
    refine PySem.W.kat_yes (PySem.W.kat_cons (SeqAt.EqAt.int_int y u y' u' prog w _ _ ?_))
    refine PySem.W.kat_go (fun e2 => ?_) (fun e2 => ?_)
    · refine PySem.W.kat_yes (PySem.W.kat_nil ⟨rfl, ?_⟩)
      rw [ex]
      exact (decide_eq_false (List.lt_irrefl _)).symm
    · exact absurd ey (by simpa using e2)
  · exact PySem.W.kat_no (oneLt_str ⟨rfl, rfl⟩)
theorem txNum_sortable {a : Addr} {vs : List Value} {k : Value → Str × Int} (h0 : 0 < vs.length) (hp : ∀ v ∈ vs, TxNum s.heap v (k v).1 (k v).2) (hk : ∀ v ∈ vs, ∀ u ∈ vs, (k v).1 = (k u).1 → (k v).2 = (k u).2)
    (ha : ∀ o, s.heap.get? a = some o → o.cls ≠ .type "tuple") : SortableO prog w A s a vs fun v u => txB (k v).1 (k u).1 := by
  intro h' keep
  have hp' : ∀ v ∈ vs, TxNum h' v (k v).1 (k v).2 := fun v hm => (hp v hm).keeps fun b o e c => keep b o (fun z => by subst z; exact ha o e c) e
  obtain ⟨fs, h1, h2, h3⟩ := txNum_firsts fun v hm => ⟨_, _, hp' v hm⟩
  refine ⟨tuples' true, fun Q E hq => ?_, txNum_cmp hp' hk⟩
  refine PySem.W.kat_kind (T := .type "str") h1 (by omega) (fun f hm => ?_) (by rfl) ?_
  · obtain ⟨x, t, rfl⟩ := h3 f hm
    exact PySem.W.Looks.now
  · have e : (Value.type "str" != Value.type "tuple") = true := by first | decide +kernel | rfl | decide
    rw [e]
    exact hq
theorem sorted_txNum {l : Addr} {vs : List Value} {k : Value → Str × Int} {Q : Value → Shared → Prop} (hl : s.heap.IsList l vs.toArray) (hz : vs.length ≤ sizeLine) (hp : ∀ v ∈ vs, TxNum s.heap v (k v).1 (k v).2)
    (hk : ∀ v ∈ vs, ∀ u ∈ vs, (k v).1 = (k u).1 → (k v).2 = (k u).2)
    (h : ∀ (h' : Heap) (d : Addr) (out : List Value), Srtd (fun v u => txB (k v).1 (k u).1) out → Stb (fun v u => txB (k v).1 (k u).1) out vs → (∀ b o, s.heap.get? b = some o → h'.get? b = some o) → s.heap.objs.size ≤ d → (∃ n, h'.get? d = some (seqObj "list" out.toArray n)) → Q (.ref d) { s with heap := h' }) :
    wpAny (model prog w) A (call (.builtin "sorted") [.ref l]) Q E s := by
  refine sorted_ord (swo_tx fun v => (k v).1) hl hz (fun h2 h₁ a ha kk => ?_) fun out hs hb => ?_
  · refine txNum_sortable (s := { s with heap := h₁ }) (by omega) (fun v hm => (hp v hm).keeps fun b o e _ => (kk b o e).2) hk fun o e => ?_
    have e' : some o = some (seqObj "list" vs.toArray 0) := e.symm.trans ha
    cases e'
    intro c
    exact absurd (Value.type.inj c) (by decide)
  · exact h _ _ out hs hb (fun b o e => sortedAll_old e) (Nat.le_succ _) (sortedAll_at s.heap vs out.toArray)
end
end K41

namespace K41
open PySem PySem.Spec PyProof.Rows L2
section
variable {X : Cx}
/-- sorted(xs), xs a list of pairs (text, number), no text twice with unlike numbers: by the texts -/
def rSortedTN (K : PySem.W.Frag) : List V → Hp → VK → Prop := fun vs H Q => ∃ (a : Addr) (xs : List V) (k : V → Str × Int), vs = [V.ref a] ∧ SqL K H a xs ∧ (∀ x ∈ xs, ∃ t, x = V.ref t ∧ H t = some (.tup [.str (k x).1, .int (k x).2])) ∧
  (∀ x ∈ xs, ∀ y ∈ xs, (k x).1 = (k y).1 → (k x).2 = (k y).2) ∧ ∀ (ys : List V) (p : Addr), ys.Perm xs → ys.Pairwise (fun x y => txB (k y).1 (k x).1 = false) → H p = none → Q (.ref p) (upd H p (.lst ys))
theorem cr_sortedTN : CallR X (.builtin "sorted") (rSortedTN X.K) := by
  intro pins s σ H vs us Q I r h
  obtain ⟨a, xs, k, rfl, hs, hx, hk, q⟩ := h
  obtain ⟨its, rv, hl, hz⟩ := I.list hs
  obtain ⟨u, rfl, ru⟩ := vals1 r
  obtain rfl : u = Value.ref a := ru
  obtain ⟨e1, e2⟩ := refs_back rv fun x m => by
    obtain ⟨t, e, _⟩ := hx x m
    exact ⟨t, e⟩
  have mem : ∀ v ∈ its, backV v ∈ xs := fun v hv => by
    rw [e1]
    exact List.mem_map.mpr ⟨v, hv, rfl⟩
  refine sorted_txNum (k := fun u => k (backV u)) hl.isList (by rw [← rv.length]; exact hz) (fun v hv => ?_) (fun v hv u hu => hk _ (mem v hv) _ (mem u hu)) fun h' d out h1 h2 kp hd hn => ?_
  · obtain ⟨t, rfl⟩ := e2 v hv
    obtain ⟨t', e, ht⟩ := hx _ (mem _ hv)
    cases e
    obtain ⟨_, its2, r2, o, ho, hc, n, hd⟩ := I.hok _ _ ht
    obtain ⟨u1, u2, rfl, ri, rj⟩ := vals2 r2
    obtain ⟨t1, rfl⟩ := ri
    obtain ⟨t2, rfl⟩ := rj
    exact ⟨t, o, t1, t2, n, rfl, ho, hc, hd⟩
  · have h3 : ∀ u ∈ out, ∃ a, u = Value.ref a := fun u hu => e2 u (h2.perm.mem_iff.mp hu)
    obtain ⟨n, hn⟩ := hn
    have hb : (out.map backV).Perm xs := by
      rw [e1]
      exact h2.perm.map backV
    refine ⟨.ref d, upd H d (.lst (out.map backV)), I.laid (t' := s.toks) kp hd ⟨?_, out, n, vals_back h3, hn⟩, rfl, q _ d hb (List.pairwise_map.mpr h1) (I.hok.fresh hd)⟩
    rw [hb.length_eq]
    exact hz
end
end K41
set_option Elab.async false
set_option maxRecDepth 100000
set_option maxHeartbeats 4000000
/-! The law's own def runs where nothing is being shown: its body may ask for repr. -/
namespace K41
open PySem PySem.Spec PyProof.Rows L2

/-- a def's promise, kept where no guard stands -/
def FnG (P : Program) (w : World) (K : PySem.W.Frag) (mg : Str → Option Value) (base : Heap) (k : Nat) (f : Addr) (fd : FuncData) (ps : List Str) (sp : Sp) : Prop :=
  ∀ (A : Around) (outer : List Env) (s : Shared) (H : Hp) (args : Args) (us : List Value) (vs : List V) (Q : VK) (E : XK), A.guards = some [] → Room k A → Env0 P w K mg base A outer s H → BindsTo s fd args (ps.zip us) → Vals vs us → sp vs H Q E →
    codeAny (model P w) A (.call (.ref f) args) (CR CX0 outer P w H s Q E) s

theorem fn_guarded {P : Program} {w : World} {K : PySem.W.Frag} {mg : Str → Option Value} {base : Heap} {x qual : Str} {st : Stmt} {f : Addr} {fd : FuncData} {N ps : List Str} {k : Nat} {sp : Sp} (F : Fun K x qual st f fd) (S : FnScope N ps (defScope st))
    (len : ∀ vs H Q E, sp vs H Q E → vs.length = ps.length)
    (hbody : ∀ (cdv : Value) (A : Around) (outer : List Env) (s : Shared) (H : Hp) (vs : List V) (Q : VK) (E : XK), A.guards = some [] → Room k (A.deeper (envOfC qual (defScope st) s.heap.objs.size f cdv)) → sp vs H Q E →
      ∃ t, PSs (cxOf CX0 P w K mg base N qual (defScope st) f cdv A outer s H E).nox (defBody st) t ∧ t { nx := fun _ H' => Q .non H', rt := Q } (start N vs) H) : FnG P w K mg base (k + 1) f fd ps sp := by
  obtain ⟨oc, od, kV, doc, pm, an, cdv, ct, osl, efd, lk, hcd⟩ := F.ex
  subst efd
  intro A outer s H args us vs Q E hg hr e0 hb r hsp
  have hl := len _ _ _ _ hsp
  have KX : K.In s.heap := e0.mod.kin.keeps fun b o e => (e0.bs b o e).1
  have lim : s.heap.NoLimit := e0.mod.nolimit.keeps fun b o e => (e0.bs b o e).1
  have hkind : ∀ y ∈ ps.zip us, (defScope st).names.lookup y.1 = some .local ∨ ((defScope st).names.lookup y.1 = some .cell ∧ ((cellsFrom (s.heap.objs.size + 1) (defScope st).names []).lookup y.1).isSome = true) := fun ⟨n, v⟩ hy => by
    rcases S.par n (List.of_mem_zip hy).1 with q | q
    · exact .inl q
    · exact .inr ⟨q, PySem.W.cellsFrom_some _ _ _ (.inl q)⟩
  refine codeAny_call_function hr.depth (KX _ _ lk) rfl S.co S.gen rfl (PySem.W.codeRec_of KX hcd) (hb _ _ _ _ ?_)
  refine wpAny_newFunctionEnv_cells S.kind hkind fun env he s1 x => ?_
  subst he
  refine ⟨lim.keeps x.toInCall.keep, codeAny_func ?_⟩
  obtain ⟨t, ht, hq⟩ := hbody cdv A outer s H vs Q E hg (hr.deeper _) hsp
  have I : Inv (cxOf CX0 P w K mg base N qual (defScope st) f cdv A outer s H E) [] (start N vs) H s1 := inv_start S hr.hd e0 hl r x
  refine wpAny_mono (ht.nox.run [] s1 (start N vs) H _ I hq) (fun fl s' hs => ?_) fun e s' hs => hs
  have fin : ∀ {σ' : L2.St} {H' : Hp} {v : V} {u : Value}, Inv (cxOf CX0 P w K mg base N qual (defScope st) f cdv A outer s H E) [] σ' H' s' → RelV v u → Q v H' → CE outer P w H s Q u s' :=
    fun {σ' H' v u} J rv q => ⟨v, H', J.os, J.bare, J.base, J.hok, rv, q⟩
  cases fl with
  | ret u =>
    obtain ⟨v, σ', H', J, rv, q⟩ := hs
    exact fin J rv q
  | next =>
    obtain ⟨σ', H', J, q⟩ := hs
    exact fin (v := V.non) (u := Value.none) J rfl q
  | brk =>
    obtain ⟨_, _, _, q⟩ := hs
    exact False.elim q
  | cont =>
    obtain ⟨_, _, _, q⟩ := hs
    exact False.elim q

theorem law_guarded {P : Program} {w : World} {K : PySem.W.Frag} {mg mb : Str → Option Value} {k : Nat} {fa a : Addr} {fd : FuncData} {x : Str} {sp : Sp} {s₁ : Shared} {vs : List Value} {ns : List Int}
    (KX : K.In s₁.heap) (hns : s₁.heap.Ns mainGlobals mg) (hb : s₁.heap.Ns builtinsNs mb) (hbb : ∀ x : Str, x ≠ "__name__" → mb x = bootBuiltins x) (hlim : s₁.heap.NoLimit) (hg : s₁.gens = #[])
    (ha : s₁.heap.get? a = some { cls := .type "list", data := .seq vs.toArray }) (hi : IntsAre vs ns) (hl : ns.length ≤ sizeLine) (hr : Room k callerA)
    (F : ∀ base : Heap, K.In base → base.Ns mainGlobals mg → FnG P w K mg base k fa fd [x] sp) (hbind : ∀ (s : Shared) (u : Value), BindsTo s fd ⟨[u], []⟩ [(x, u)])
    (hsp : ∀ H : Hp, Only H → SqL K H a (ns.map V.int) → sp [.ref a] H (fun v _ => v = .bl true) fun _ _ _ => False) :
    codeAny (model P w) callerA (.call (.ref fa) ⟨[.ref a], []⟩) (fun r s' => r = .ok (.ret (.bool true)) ∧ OldK s₁.heap s'.heap ∧ s'.os = s₁.os ∧ AllBare s'.gens) s₁ := by
  have rv := vals_ints hi
  have lenV := hi.length
  have core : ∀ H : Hp, Only H → SqL K H a (ns.map V.int) → HOk P w H s₁.heap → (∀ b, H b ≠ none → b = a) → (H a ≠ none → K.lookup a = none) →
      codeAny (model P w) callerA (.call (.ref fa) ⟨[.ref a], []⟩) (fun r s' => r = .ok (.ret (.bool true)) ∧ OldK s₁.heap s'.heap ∧ s'.os = s₁.os ∧ AllBare s'.gens) s₁ := by
    intro H hO hS hok hA hK
    have base_of : ∀ {b : Addr} {o : Obj}, s₁.heap.get? b = some o → H b = none → (hidT s₁.heap H).get? b = some o := fun e n => hidT_get e n
    have noA : ∀ {b : Addr} {o : Obj} {es : Array DictEntry} {ep : Nat}, s₁.heap.get? b = some o → o.data = .dict es ep → H b = none := fun {b o es ep} e d => by
      cases q : H b with
      | none => rfl
      | some u =>
        have e' : b = a := hA b (by rw [q]; simp)
        subst e'
        rw [ha] at e; cases e
        have d' : Data.seq vs.toArray _ = Data.dict es ep := d
        cases d'
    have nsK : ∀ {b : Addr} {m : Str → Option Value}, s₁.heap.Ns b m → (hidT s₁.heap H).Ns b m := fun {b m} ⟨o, es, ep, e, d, r⟩ => ⟨o, es, ep, base_of e (noA e d), d, r⟩
    have hKb : K.In (hidT s₁.heap H) := fun b o e => base_of (KX b o e) (by
      cases q : H b with
      | none => rfl
      | some u =>
        have e' : b = a := hA b (by rw [q]; simp)
        subst e'
        rw [hK (by rw [q]; simp)] at e; cases e)
    have hM : Mod K mg (hidT s₁.heap H) := ⟨hKb, nsK hns, ⟨mb, nsK hb, hbb⟩, let ⟨mc, h1, h2⟩ := hlim; ⟨mc, nsK h1, h2⟩⟩
    have e0 : Env0 P w K mg (hidT s₁.heap H) callerA [] s₁ H := ⟨rfl, hM, fun b o e => of_hidT e, Nat.le_of_eq (hidT_size _ _), trivial, fun b hb => absurd (show b ∈ ([] : List Addr) from hb) (by simp), hok, .of_eq hg⟩
    refine codeAny_mono (F _ hKb (nsK hns) callerA [] s₁ H ⟨[.ref a], []⟩ [.ref a] [.ref a] _ _ rfl hr e0 (hbind s₁ (.ref a)) (.cons rfl .nil) (hsp H hO hS)) fun r s' h => ?_
    cases r with
    | error e => exact False.elim h
    | ok fl =>
      cases fl with
      | next => exact False.elim h
      | brk => exact False.elim h
      | cont => exact False.elim h
      | ret u =>
        obtain ⟨v, H', os, bare, un, hok', r', q⟩ := h
        have q' : v = .bl true := q
        subst q'
        obtain rfl : u = Value.bool true := r'
        refine ⟨rfl, OldK.of_keep fun b o e => ?_, os, bare⟩
        cases q : H b with
        | none => exact un.keep b o e q (by intro z; exact absurd (show b ∈ ([] : List Addr) from z) (by simp)) (by simp)
        | some u =>
          rcases hO b with z | ⟨ob, xs, z⟩
          · rw [q] at z; cases z
          · have z2 := un.frzs b ob _ z
            obtain ⟨e1, _⟩ := hok b _ z
            obtain ⟨e2, _⟩ := hok' b _ z2
            rw [e] at e1; cases e1
            exact e2
  cases hk : K.lookup a with
  | some o =>
    have e := KX a o hk
    rw [ha] at e
    cases e
    refine core (fun _ => none) (fun _ => .inl rfl) (.inr ⟨_, vs.toArray, _, hk, rfl, rfl, rfl, by rw [List.size_toArray, lenV]; exact hl, by simpa using rv⟩) (fun b u z => by have z' : (none : Option HO) = some u := z; cases z') (fun b z => absurd rfl z) fun z => absurd rfl z
  | none =>
    refine core (fun b => if b = a then some (.frz { cls := .type "list", data := .seq vs.toArray } (.lst (ns.map V.int))) else none) (fun b => ?_) (.inl (.inr ⟨{ cls := .type "list", data := .seq vs.toArray }, if_pos rfl⟩)) (fun b u z => ?_) (fun b z => ?_) fun _ => hk
    · by_cases hb : b = a
      · exact .inr ⟨_, _, if_pos hb⟩
      · exact .inl (if_neg hb)
    · by_cases hb : b = a
      · have z' := (if_pos hb).symm.trans z
        cases z'
        subst hb
        exact ⟨ha, by rw [List.length_map]; exact hl, vs, _, rv, ha⟩
      · have z' := (if_neg hb).symm.trans z
        cases z'
    · by_cases hb : b = a
      · exact hb
      · exact absurd (if_neg hb) z

/-- the goal that the head leaves, from the law's promise -/
theorem walk_guarded {l : PySem.W.OpenLaw} {n k : Nat} {q : Program} {loose : List Str} {XP : (Str → Option Value) → Heap → Prop} {YP : World → Heap → Prop} {d : DefRec} {K : Params → PySem.W.Frag} {sp : PySem.W.Frag → Sp} {x : Str}
    (hn : l.most = some n) (hn2 : n ≤ sizeLine) (hdf : d.params.defaults = []) (hr : Room k callerA)
    (hY : ∀ (w : World) (h : Heap), YP w h → (K w.params).In h)
    (F : ∀ (w : World) (mg : Str → Option Value) (fa : Addr) (h : Heap), (K w.params).In h → h.Ns mainGlobals mg → mg d.name = some (.ref fa) →
      ∃ fd : FuncData, (∀ (s : Shared) (u : Value), BindsTo s fd ⟨[u], []⟩ [(x, u)]) ∧
        ∀ base : Heap, (K w.params).In base → base.Ns mainGlobals mg → FnG l.prog w (K w.params) mg base k fa fd [x] (sp (K w.params)))
    (hsp : ∀ (K : PySem.W.Frag) (H : Hp) (a : Addr) (ns : List Int), ns.length ≤ n → Only H → SqL K H a (ns.map V.int) → sp K [.ref a] H (fun v _ => v = .bl true) fun _ _ _ => False) :
    PySem.W.WalkO q loose XP YP l.row.toRowW d [] (fun f vs => PySem.call f vs) := by
  refine Att.attach_call hn hdf fun w s₀ s₁ mg mb fa o pm cd doc a vs ns G Y ho hd hcd hmg hobj hints hlen hg => ?_
  have KX := hY w _ Y
  obtain ⟨fd, hb, hF⟩ := F w mg fa _ KX G.T.g hmg
  exact law_guarded KX G.T.g G.T.b G.T.builtins G.T.nolimit hg hobj hints (Nat.le_trans hlen hn2) hr hF hb (fun H hO hS => hsp _ H a ns hlen hO hS)
end K41
set_option Elab.async false
set_option maxRecDepth 100000
set_option maxHeartbeats 4000000
/-! The text by places, what the top has written, defs and methods as the proofs use them. -/
namespace K41
open PySem PySem.Spec PyProof.Rows L2

def top (i : Nat) : Stmt := PySem.Challenge.pw_scribehall_k41_whole_each_ask_once.main.body.getD i (.Pass ⟨0, 0, 0, 0⟩)
abbrev sTable (j : Nat) : Stmt := inClass (top 19) j
abbrev sBook (j : Nat) : Stmt := inClass (top 21) j

/-- what the top has written -/
structure Txt (w : World) (K : PySem.W.Frag) (mg : Str → Option Value) (CT CB : Addr) : Prop where
  clT : Cls K CT
  clB : Cls K CB
  nHeld : NoAttr K CT "held"
  nOwn : NoAttr K CB "own_table"
  nLasts : NoAttr K CB "lasts"
  mgT : mg "Table" = some (.ref CT)
  mgB : mg "Book" = some (.ref CB)
  isi : mg "isinstance" = none
  int : mg "int" = none
  bool : mg "bool" = none
  str : mg "str" = none
  tuple : mg "tuple" = none
  list : mg "list" = none
  dict : mg "dict" = none
  len : mg "len" = none
  all : mg "all" = none
  sorted : mg "sorted" = none
  range : mg "range" = none
  repr : mg "repr" = none
  min : mg "min" = none
  most : ∃ t, mg "MOST" = some (.int 1000000 t)
  lastc : ∃ t, mg "LAST_CALLER" = some (.int 9 t)
  letters : ∃ t, mg "LETTERS" = some (.str "abcdefghijklmnopqrstuvwxyz" t)
  mostl : ∃ t, mg "MOST_LETTERS" = some (.int 8 t)
  mostv : ∃ t, mg "MOST_VALUE" = some (.int 1000000000000 t)
  sizes : ∃ (a : Addr) (es : Array DictEntry) (n : Nat), mg "SIZES" = some (.ref a) ∧ KDict K w a es n ∧
    (∃ t, PySem.W.nsIn K a "put" = some (some (.int 3 t))) ∧ (∃ t, PySem.W.nsIn K a "add" = some (some (.int 3 t))) ∧ (∃ t, PySem.W.nsIn K a "drop" = some (some (.int 2 t))) ∧
    (∃ t, PySem.W.nsIn K a "swap" = some (some (.int 4 t))) ∧ (∃ t, PySem.W.nsIn K a "read" = some (some (.int 2 t))) ∧ ∃ t, PySem.W.nsIn K a "many" = some (some (.int 1 t))

/-- a def of the text, as it stands behind the top -/
def Def (K : PySem.W.Frag) (mg : Str → Option Value) (x : Str) (st : Stmt) (ps : List Str) : Prop := ∃ f fd, Fun K x x st f fd ∧ Binds K fd ps [] ∧ mg x = some (.ref f)
/-- a method of the class at C -/
def Mth (K : PySem.W.Frag) (C : Addr) (m qual : Str) (st : Stmt) (ps : List Str) : Prop := ∃ f fd, Fun K m qual st f fd ∧ Binds K fd ps [] ∧ Meth K C m f
/-- a class made by C(): its __init__ -/
def Ini (K : PySem.W.Frag) (C : Addr) (qual : Str) (st : Stmt) (ps : List Str) : Prop := ∃ f fd, Fun K "__init__" qual st f fd ∧ Binds K fd ps [] ∧ Mk K C f

/-- a def that keeps its promise -/
def Fn (P : Program) (w : World) (K : PySem.W.Frag) (mg : Str → Option Value) (base : Heap) (x : Str) (k : Nat) (ps : List Str) (sp : Sp) : Prop :=
  ∃ f fd, FnOk P w K mg base CX0 k f fd ps sp ∧ mg x = some (.ref f) ∧ PySem.W.keepIn K (.ref f) = true ∧ Binds K fd ps []
def Me (P : Program) (w : World) (K : PySem.W.Frag) (mg : Str → Option Value) (base : Heap) (C : Addr) (m : Str) (k : Nat) (ps : List Str) (sp : Sp) : Prop :=
  ∃ f fd, FnOk P w K mg base CX0 k f fd ps sp ∧ Meth K C m f ∧ Binds K fd ps []
def Im (P : Program) (w : World) (K : PySem.W.Frag) (mg : Str → Option Value) (base : Heap) (C : Addr) (k : Nat) (ps : List Str) (sp : Sp) : Prop :=
  ∃ f fd, FnOk P w K mg base CX0 k f fd ps sp ∧ Mk K C f ∧ Binds K fd ps []

section
variable {X : Cx} {k : Nat} {ps : List Str} {sp : Sp} {x m : Str} {C : Addr} {p pos apos : Pos} {e o : Expr} {es : List Expr} {t : TA} {ta : TE}
theorem pe_fn (G : Fn X.prog X.w X.K X.mg X.base x k ps sp) (hr : Room k X.A) (hg : Gl X x) (ha : PA X (e :: es) t) (hdb : (x == ("__debug__" : Str)) = false := by decide)
    (he : starEach (e :: es) X.env = (false, eval e X.env) :: starEach es X.env := by rfl) (hpl : (backTo pos (starEach es X.env)).any (·.1) = false := by rfl) :
    PE X (.Call (.Name x p) (e :: es) [] pos) (tCall sp [] E0 t) := by
  obtain ⟨f, fd, F, m, kp, b⟩ := G
  exact pe_call F hr hg m kp b .nil pass0 ha hdb he hpl
theorem pe_me {pl : Sem Bool} (G : Me X.prog X.w X.K X.mg X.base C m k ps sp) (c : Cls X.K C) (hr : Room k X.A) (ho : PE X o ta) (ha : PA X (e :: es) t)
    (hst : starEach (e :: es) X.env = (false, eval e X.env) :: starEach es X.env := by rfl) (hpl : (backTo pos (starEach es X.env)).any (·.1) = false := by rfl)
    (ht : eval (.Call (.Attribute o m apos) (e :: es) [] pos) X.env = (do
      let ov ← eval o X.env
      standAt apos.atName
      let (f, first) ← holding [ov] (getMethod ov m pl)
      callWith pos f first (backTo pos (starEach (e :: es) X.env)) (backToKw pos (keywordEach [] X.env))) := by rfl) :
    PE X (.Call (.Attribute o m apos) (e :: es) [] pos) (tMeth C m sp [] E0 ta t) := by
  obtain ⟨f, fd, F, hm, b⟩ := G
  exact pe_meth ho c hm F hr b .nil pass0 ha hst hpl ht
theorem pe_me0 {pl : Sem Bool} (G : Me X.prog X.w X.K X.mg X.base C m k ps sp) (c : Cls X.K C) (hr : Room k X.A) (ho : PE X o ta)
    (ht : eval (.Call (.Attribute o m apos) [] [] pos) X.env = (do
      let ov ← eval o X.env
      standAt apos.atName
      let (f, first) ← holding [ov] (getMethod ov m pl)
      callWith pos f first (backTo pos (starEach [] X.env)) (backToKw pos (keywordEach [] X.env))) := by rfl) :
    PE X (.Call (.Attribute o m apos) [] [] pos) (tMeth C m sp [] E0 ta tNil) := by
  obtain ⟨f, fd, F, hm, b⟩ := G
  exact pe_meth0 ho c hm F hr b .nil pass0 ht
theorem pe_im (G : Im X.prog X.w X.K X.mg X.base C k ps sp) (hr : Room (k + 1) X.A) (hg : Gl X x) (hm : X.mg x = some (.ref C)) (hdb : (x == ("__debug__" : Str)) = false := by decide) :
    PE X (.Call (.Name x p) [] [] pos) (tMake C sp [] E0 tNil) := by
  obtain ⟨f, fd, F, M, b⟩ := G
  exact pe_make0 M F hr hg hm b .nil pass0 hdb
end
/-- a global of the module that holds a number, a text -/
theorem pe_gint {X : Cx} {x : Str} {i : Int} {pos : Pos} (hm : ∃ t, X.mg x = some (.int i t)) (hg : Gl X x) (hd : (x == ("__debug__" : Str)) = false := by decide) : PE X (.Name x pos) (tC (.int i)) := by
  obtain ⟨t, hm⟩ := hm
  exact pe_glob hg hm ⟨t, rfl⟩ hd
theorem pe_gstr {X : Cx} {x z : Str} {pos : Pos} (hm : ∃ t, X.mg x = some (.str z t)) (hg : Gl X x) (hd : (x == ("__debug__" : Str)) = false := by decide) : PE X (.Name x pos) (tC (.str z)) := by
  obtain ⟨t, hm⟩ := hm
  exact pe_glob hg hm ⟨t, rfl⟩ hd
/-- a built-in type as a value -/
theorem pe_gty {X : Cx} {x : Str} {T : String} {pos : Pos} (hm : X.mg x = none) (hg : Gl X x) (hv : bootBuiltins x = some (.type T)) (hn : x ≠ "__name__" := by decide) (hd : (x == ("__debug__" : Str)) = false := by decide) : PE X (.Name x pos) (tC (.ty T)) :=
  pe_bltn hg hm hv rfl hn hd

/-! ### heaps -/
/-- all that was tracked is as it was, but at S -/
def Keep (S : List Addr) (H H' : Hp) : Prop := ∀ b o, H b = some o → b ∉ S → H' b = some o
theorem Keep.refl {S : List Addr} {H : Hp} : Keep S H H := fun _ _ h _ => h
theorem Keep.trans {S : List Addr} {H H1 H2 : Hp} (a : Keep S H H1) (b : Keep S H1 H2) : Keep S H H2 := fun c o h n => b c o (a c o h n) n
theorem Keep.of {S : List Addr} {H H' : Hp} (s : Same H H') : Keep S H H' := fun b o h _ => s b o h
theorem Keep.same {H H' : Hp} (s : Keep [] H H') : Same H H' := fun b o h => s b o h (by simp)
theorem Keep.mono {S S' : List Addr} {H H' : Hp} (a : Keep S H H') (h : ∀ b ∈ S, b ∈ S') : Keep S' H H' := fun b o e n => a b o e fun z => n (h b z)
/-- a new thing -/
theorem Keep.new {S : List Addr} {H H' : Hp} {p : Addr} {o : HO} (a : Keep S H H') (n : H p = none) : Keep S H (upd H' p o) := fun b u e nb => by
  rw [upd_ne (ne_of_none e n)]
  exact a b u e nb
/-- a thing of S is changed -/
theorem Keep.put {S : List Addr} {H H' : Hp} {p : Addr} {o : HO} (a : Keep S H H') (n : p ∈ S) : Keep S H (upd H' p o) := fun b u e nb => by
  have h : b ≠ p := fun z => nb (z ▸ n)
  rw [upd_ne h]
  exact a b u e nb
/-- what was not there and is changed later -/
theorem Keep.drop {S : List Addr} {d : Addr} {H H' : Hp} (a : Keep (d :: S) H H') (n : H d = none) : Keep S H H' := fun b u e nb => by
  refine a b u e fun z => ?_
  rcases List.mem_cons.mp z with z | z
  · subst z; rw [n] at e; cases e
  · exact nb z
/-- a new address stays new where nothing but new things came -/
theorem Keep.free {S : List Addr} {H H' : Hp} (a : Keep S H H') {p : Addr} (h : H' p = none) (n : p ∉ S) : H p = none := by
  cases e : H p with
  | none => rfl
  | some o => rw [a p o e n] at h; cases h
/-- tuples stay -/
def Tups (H H' : Hp) : Prop := ∀ b xs, H b = some (.tup xs) → H' b = some (.tup xs)
theorem Tups.trans {H H1 H2 : Hp} (a : Tups H H1) (b : Tups H1 H2) : Tups H H2 := fun c xs h => b c xs (a c xs h)
theorem Tups.refl {H : Hp} : Tups H H := fun _ _ h => h
theorem Same.tups {H H' : Hp} (s : Same H H') : Tups H H' := fun b xs h => s b _ h
theorem Keep.tups {S : List Addr} {H H' : Hp} (a : Keep S H H') (n : ∀ b ∈ S, ∀ xs, H b ≠ some (.tup xs)) : Tups H H' := fun b xs h => a b _ h fun z => n b z xs h
end K41
set_option Elab.async false
set_option maxRecDepth 100000
set_option maxHeartbeats 4000000
set_option linter.all false
/-! Asks, deeds, rows and answers as data in the heap; what repr tells of them, and its length. -/
namespace K41
open PySem PySem.Spec PyProof.Rows L2

def oD : Option Int → PyData
  | none => .none
  | some i => .int i
def Ask.ds : Ask → List PyData
  | .put k v => [.str "put", .str k, .int v]
  | .add k v => [.str "add", .str k, .int v]
  | .drop k => [.str "drop", .str k]
  | .swap k o v => [.str "swap", .str k, oD o, .int v]
  | .read k => [.str "read", .str k]
  | .many => [.str "many"]
def Deed.d : Deed → PyData
  | .blank => .tuple [.str "blank"]
  | .members ns => .tuple [.str "members", .tuple (ns.map PyData.int)]
  | .call c n a => .tuple [.str "call", .int c, .int n, .tuple a.ds]
def rowD (r : Row) : PyData := .tuple [.int r.1, r.2.d]
def triD (t : Tri) : PyData := .tuple [.int t.1, .int t.2.1, t.2.2.d]
def parD (p : Str × Int) : PyData := .tuple [.str p.1, .int p.2]

def DeedAt (H : Hp) (p : Addr) : Deed → Prop
  | .blank => H p = some (.tup [.str "blank"])
  | .members ns => ∃ q, H p = some (.tup [.str "members", .ref q]) ∧ H q = some (.tup (ns.map V.int))
  | .call c n a => ∃ q, H p = some (.tup [.str "call", .int c, .int n, .ref q]) ∧ H q = some (.tup a.vs)
def RowV (H : Hp) (v : V) (r : Row) : Prop := ∃ p d, v = .ref p ∧ H p = some (.tup [.int r.1, .ref d]) ∧ DeedAt H d r.2
def TriV (H : Hp) (v : V) (t : Tri) : Prop := ∃ p, v = .ref p ∧ H p = some (.tup [.int t.1, .int t.2.1, t.2.2.v])
def ParV (H : Hp) (v : V) (p : Str × Int) : Prop := ∃ a, v = .ref a ∧ H a = some (.tup [.str p.1, .int p.2])
theorem DeedAt.keeps {H H' : Hp} {p : Addr} (t : Tups H H') : ∀ {d : Deed}, DeedAt H p d → DeedAt H' p d
  | .blank, h => t _ _ h
  | .members _, ⟨q, h1, h2⟩ => ⟨q, t _ _ h1, t _ _ h2⟩
  | .call _ _ _, ⟨q, h1, h2⟩ => ⟨q, t _ _ h1, t _ _ h2⟩
theorem RowV.keeps {H H' : Hp} {v : V} {r : Row} (t : Tups H H') (h : RowV H v r) : RowV H' v r := by
  obtain ⟨p, d, e, h1, h2⟩ := h
  exact ⟨p, d, e, t _ _ h1, h2.keeps t⟩
theorem TriV.keeps {H H' : Hp} {v : V} {r : Tri} (t : Tups H H') (h : TriV H v r) : TriV H' v r := by
  obtain ⟨p, e, h1⟩ := h
  exact ⟨p, e, t _ _ h1⟩
theorem ParV.keeps {H H' : Hp} {v : V} {r : Str × Int} (t : Tups H H') (h : ParV H v r) : ParV H' v r := by
  obtain ⟨p, e, h1⟩ := h
  exact ⟨p, e, t _ _ h1⟩
abbrev RowsV (H : Hp) : List V → List Row → Prop := Paired (RowV H)
abbrev TrisV (H : Hp) : List V → List Tri → Prop := Paired (TriV H)
abbrev ParsV (H : Hp) : List V → List (Str × Int) → Prop := Paired (ParV H)
theorem RowsV.keeps {H H' : Hp} {vs : List V} {rs : List Row} (t : Tups H H') (h : RowsV H vs rs) : RowsV H' vs rs := Paired.mapP h fun _ _ q => q.keeps t
theorem TrisV.keeps {H H' : Hp} {vs : List V} {rs : List Tri} (t : Tups H H') (h : TrisV H vs rs) : TrisV H' vs rs := Paired.mapP h fun _ _ q => q.keeps t
theorem ParsV.keeps {H H' : Hp} {vs : List V} {rs : List (Str × Int)} (t : Tups H H') (h : ParsV H vs rs) : ParsV H' vs rs := Paired.mapP h fun _ _ q => q.keeps t

/-! ### paired lists -/
section
variable {α β : Type} {R : α → β → Prop}
theorem paired_app : ∀ {as cs : List α} {bs ds : List β}, Paired R as bs → Paired R cs ds → Paired R (as ++ cs) (bs ++ ds)
  | _, _, _, _, .nil, h => h
  | _, _, _, _, .cons r t, h => .cons r (paired_app t h)
theorem paired_snoc {as : List α} {bs : List β} {a : α} {b : β} (h : Paired R as bs) (r : R a b) : Paired R (as ++ [a]) (bs ++ [b]) := paired_app h (.cons r .nil)
theorem paired_at : ∀ {as : List α} {bs : List β} {i : Nat} {a : α}, Paired R as bs → as[i]? = some a → ∃ b, bs[i]? = some b ∧ R a b
  | _, _, _, _, .nil, e => by simp at e
  | _, _, 0, _, .cons r _, e => by simp at e; subst e; exact ⟨_, rfl, r⟩
  | _, _, i + 1, a, .cons _ t, e => by
    obtain ⟨b, h1, h2⟩ := paired_at (i := i) (a := a) t (by simpa using e)
    exact ⟨b, by simpa using h1, h2⟩
theorem paired_map {γ : Type} (f : γ → α) (g : γ → β) : ∀ l : List γ, (∀ x ∈ l, R (f x) (g x)) → Paired R (l.map f) (l.map g)
  | [], _ => .nil
  | x :: l, h => .cons (h x List.mem_cons_self) (paired_map f g l fun y hy => h y (List.mem_cons_of_mem _ hy))
end

/-! ### as data -/
section
variable {K : PySem.W.Frag} {H : Hp}
theorem dp_oV (o : Option Int) : Dp K H (oV o) (oD o) := by
  cases o with
  | none => exact .non
  | some i => exact .int i
theorem dp_ans (x : Ans) : Dp K H x.v x.d := by
  cases x with
  | non => exact .non
  | bl b => exact .bl b
  | int i => exact .int i
theorem dp_ask (a : Ask) : DpAll K H a.vs a.ds := by
  cases a with
  | put k v => exact .cons (.str _) (.cons (.str _) (.cons (.int _) .nil))
  | add k v => exact .cons (.str _) (.cons (.str _) (.cons (.int _) .nil))
  | drop k => exact .cons (.str _) (.cons (.str _) .nil)
  | swap k o v => exact .cons (.str _) (.cons (.str _) (.cons (dp_oV o) (.cons (.int _) .nil)))
  | read k => exact .cons (.str _) (.cons (.str _) .nil)
  | many => exact .cons (.str _) .nil
theorem dp_ints : ∀ ns : List Int, DpAll K H (ns.map V.int) (ns.map PyData.int)
  | [] => .nil
  | n :: ns => .cons (.int n) (dp_ints ns)
theorem dp_deed {p : Addr} : ∀ {d : Deed}, DeedAt H p d → Dp K H (.ref p) d.d
  | .blank, h => .tup (SqT.of h) (.cons (.str _) .nil)
  | .members ns, ⟨q, h1, h2⟩ => .tup (SqT.of h1) (.cons (.str _) (.cons (.tup (SqT.of h2) (dp_ints ns)) .nil))
  | .call c n a, ⟨q, h1, h2⟩ => .tup (SqT.of h1) (.cons (.str _) (.cons (.int _) (.cons (.int _) (.cons (.tup (SqT.of h2) (dp_ask a)) .nil))))
theorem dp_row {v : V} {r : Row} (h : RowV H v r) : Dp K H v (rowD r) := by
  obtain ⟨p, d, rfl, h1, h2⟩ := h
  exact .tup (SqT.of h1) (.cons (.int _) (.cons (dp_deed h2) .nil))
theorem dp_tri {v : V} {t : Tri} (h : TriV H v t) : Dp K H v (triD t) := by
  obtain ⟨p, rfl, h1⟩ := h
  exact .tup (SqT.of h1) (.cons (.int _) (.cons (.int _) (.cons (dp_ans _) .nil)))
theorem dp_par {v : V} {t : Str × Int} (h : ParV H v t) : Dp K H v (parD t) := by
  obtain ⟨p, rfl, h1⟩ := h
  exact .tup (SqT.of h1) (.cons (.str _) (.cons (.int _) .nil))
theorem dp_all {α : Type} {R : V → α → Prop} {f : α → PyData} (h : ∀ v x, R v x → Dp K H v (f x)) : ∀ {vs : List V} {xs : List α}, Paired R vs xs → DpAll K H vs (xs.map f)
  | _, _, .nil => .nil
  | _, _, .cons r t => .cons (h _ _ r) (dp_all h t)
theorem dp_rows {a : Addr} {vs : List V} {rs : List Row} (e : SqL K H a vs) (h : RowsV H vs rs) : Dp K H (.ref a) (.list (rs.map rowD)) := .lst e (dp_all (fun _ _ q => dp_row q) h)
theorem dp_tris {a : Addr} {vs : List V} {rs : List Tri} (e : SqL K H a vs) (h : TrisV H vs rs) : Dp K H (.ref a) (.list (rs.map triD)) := .lst e (dp_all (fun _ _ q => dp_tri q) h)
theorem dp_pars {a : Addr} {vs : List V} {rs : List (Str × Int)} (e : SqL K H a vs) (h : ParsV H vs rs) : Dp K H (.ref a) (.list (rs.map parD)) := .lst e (dp_all (fun _ _ q => dp_par q) h)
end

/-! ### shaped: for == -/
theorem key_strOk {k : Str} (h : KeyOk k) : PyData.strOk k = true := by
  unfold PyData.strOk
  rw [Array.all_eq_true']
  intro c hc
  have := h.2.2 c (Array.mem_toList_iff.mpr hc)
  exact decide_eq_true (by omega)
theorem oD_can (o : Option Int) : (oD o).canLay0 = true := by cases o <;> rfl
theorem ask_can {a : Ask} (h : a.ok) : (PyData.tuple a.ds).canLay0 = true := by
  have kk : ∀ k : Str, KeyOk k → (PyData.str k).canLay0 = true := fun k h => key_strOk h
  have ww : (PyData.str "put").canLay0 = true ∧ (PyData.str "add").canLay0 = true ∧ (PyData.str "drop").canLay0 = true ∧ (PyData.str "swap").canLay0 = true ∧ (PyData.str "read").canLay0 = true ∧ (PyData.str "many").canLay0 = true := by decide +kernel
  obtain ⟨w1, w2, w3, w4, w5, w6⟩ := ww
  have ii : ∀ i : Int, (PyData.int i).canLay0 = true := fun _ => rfl
  cases a with
  | put k v => simp only [Ask.ds, PyData.canLay0, PyData.canLayAll0] at *; simp [w1, kk k h.1]
  | add k v => simp only [Ask.ds, PyData.canLay0, PyData.canLayAll0] at *; simp [w2, kk k h.1]
  | drop k => simp only [Ask.ds, PyData.canLay0, PyData.canLayAll0] at *; simp [w3, kk k h]
  | swap k o v =>
    have := oD_can o
    simp only [Ask.ds, PyData.canLay0, PyData.canLayAll0] at *
    simp [w4, kk k h.1, this]
  | read k => simp only [Ask.ds, PyData.canLay0, PyData.canLayAll0] at *; simp [w5, kk k h]
  | many => simp only [Ask.ds, PyData.canLay0, PyData.canLayAll0] at *; simp [w6]
theorem depth_oD (o : Option Int) : (oD o).depth = 0 := by cases o <;> simp [oD, PyData.depth]
theorem ask_depth (a : Ask) : (PyData.tuple a.ds).depth = 1 := by
  cases a <;> simp [Ask.ds, PyData.depth, PyData.depthAll, depth_oD]
theorem ask_shaped {a : Ask} (h : a.ok) : SeqAt.shaped (.tuple a.ds) = true := by
  unfold SeqAt.shaped
  rw [ask_can h, ask_depth]
  rfl
theorem ints_can : ∀ ns : List Int, PyData.canLayAll0 (ns.map PyData.int) = true
  | [] => rfl
  | n :: ns => by
    rw [List.map_cons]
    simp only [PyData.canLayAll0, PyData.canLay0, ints_can ns, Bool.and_self]
theorem ints_depth : ∀ ns : List Int, PyData.depthAll (ns.map PyData.int) = 0
  | [] => by simp [PyData.depthAll]
  | n :: ns => by
    rw [List.map_cons]
    simp only [PyData.depthAll, PyData.depth, ints_depth ns, Nat.max_self]
theorem row_can {r : Row} (h : r.2.ok) : (rowD r).canLay0 = true := by
  have ww : PyData.strOk "blank" = true ∧ PyData.strOk "members" = true ∧ PyData.strOk "call" = true := by decide +kernel
  obtain ⟨w1, w2, w3⟩ := ww
  obtain ⟨i, d⟩ := r
  cases d with
  | blank => simp only [rowD, Deed.d, PyData.canLay0, PyData.canLayAll0, w1, Bool.and_self]
  | members ns => simp only [rowD, Deed.d, PyData.canLay0, PyData.canLayAll0, w2, ints_can ns, Bool.and_self]
  | call c n a =>
    have := ask_can h.2.2
    simp only [PyData.canLay0] at this
    simp only [rowD, Deed.d, PyData.canLay0, PyData.canLayAll0, w3, this, Bool.and_self]
theorem row_depth (r : Row) : (rowD r).depth ≤ 3 := by
  obtain ⟨i, d⟩ := r
  cases d with
  | blank => simp [rowD, Deed.d, PyData.depth, PyData.depthAll]
  | members ns => simp [rowD, Deed.d, PyData.depth, PyData.depthAll, ints_depth ns]
  | call c n a =>
    have := ask_depth a
    simp only [PyData.depth] at this
    simp [rowD, Deed.d, PyData.depth, PyData.depthAll]
    omega
theorem can_all {α : Type} {f : α → PyData} : ∀ {l : List α}, (∀ x ∈ l, (f x).canLay0 = true) → PyData.canLayAll0 (l.map f) = true
  | [], _ => rfl
  | x :: l, h => by
    rw [List.map_cons]
    simp only [PyData.canLayAll0, h x List.mem_cons_self, can_all fun y hy => h y (List.mem_cons_of_mem _ hy), Bool.and_self]
theorem depth_all {α : Type} {f : α → PyData} {m : Nat} : ∀ {l : List α}, (∀ x ∈ l, (f x).depth ≤ m) → PyData.depthAll (l.map f) ≤ m
  | [], _ => by simp [PyData.depthAll]
  | x :: l, h => by
    rw [List.map_cons]
    have h1 := h x List.mem_cons_self
    have h2 := depth_all (l := l) fun y hy => h y (List.mem_cons_of_mem _ hy)
    simp only [PyData.depthAll]
    omega
theorem rows_shaped {rs : List Row} (h : RowsOk rs) : SeqAt.shaped (.list (rs.map rowD)) = true := by
  have h1 : (PyData.list (rs.map rowD)).canLay0 = true := by
    simp only [PyData.canLay0]
    exact can_all fun r hr => row_can (h r hr)
  have h2 : (PyData.list (rs.map rowD)).depth ≤ 64 := by
    simp only [PyData.depth]
    have := depth_all (f := rowD) (m := 3) (l := rs) fun r _ => row_depth r
    omega
  unfold SeqAt.shaped
  rw [h1, decide_eq_true h2]
  rfl
theorem nil_shaped : SeqAt.shaped (.list []) = true := by decide +kernel
theorem unit_shaped : SeqAt.shaped (.tuple []) = true := by decide +kernel

/-! ### repr: its size -/
theorem log_small {n : Nat} (h : n < 2 ^ 63) : n.log2 < 63 := by
  by_cases e : n = 0
  · subst e; decide
  · exact (Nat.log2_lt e).mpr h
theorem int_short {i : Int} (h : i.natAbs < 1000000000000000000) : (PyData.shown (.int i)).length ≤ 20 := by
  have e := int_text_length_le10 (a := i) (k := 18) (by decide) (Nat.lt_of_lt_of_le h (by decide))
  simp only [PyData.shown]
  rw [PySem.ofString_length]
  omega
theorem int_show {i : Int} (h : i.natAbs < 1000000000000000000) : (PyData.int i).showable = true := by
  simp only [PyData.showable]
  have := log_small (n := i.natAbs) (Nat.lt_of_lt_of_le h (by decide))
  exact decide_eq_true (by omega)
theorem int_weight {i : Int} (h : i.natAbs < 1000000000000000000) : (PyData.int i).weight ≤ 64 := by
  have := log_small (n := i.natAbs) (Nat.lt_of_lt_of_le h (by decide))
  simp only [PyData.weight]
  split <;> omega
/-- what a piece of data is to be, for repr -/
structure Fine (m : Nat) (d : PyData) : Prop where
  sh : d.showable = true
  nd : d.hasDict = false
  dp : d.depth ≤ 4
  lv : d.leavesShort 20 = true
  wt : d.weight ≤ m
theorem Fine.int {i : Int} (h : i.natAbs < 1000000000000000000) : Fine 64 (.int i) :=
  ⟨int_show h, by simp [PyData.hasDict], by simp [PyData.depth], by simp only [PyData.leavesShort]; exact decide_eq_true (int_short h), int_weight h⟩
theorem Fine.ans {x : Ans} (h : ∀ i, x = .int i → i.natAbs < 1000000000000000000) : Fine 64 x.d := by
  cases x with
  | non => exact ⟨by simp [Ans.d, PyData.showable], by simp [Ans.d, PyData.hasDict], by simp [Ans.d, PyData.depth], by simp [Ans.d, PyData.leavesShort], by simp [Ans.d, PyData.weight]⟩
  | bl b => exact ⟨by simp [Ans.d, PyData.showable], by simp [Ans.d, PyData.hasDict], by simp [Ans.d, PyData.depth], by simp [Ans.d, PyData.leavesShort], by simp [Ans.d, PyData.weight]⟩
  | int i => exact Fine.int (h i rfl)
theorem Fine.key {k : Str} (h : KeyOk k) : Fine 64 (.str k) := by
  refine ⟨by simp [PyData.showable], by simp [PyData.hasDict], by simp [PyData.depth], ?_, ?_⟩
  · simp only [PyData.leavesShort, List.all_eq_true, decide_eq_true_eq]
    intro c hc
    have := h.2.2 c hc
    omega
  · simp only [PyData.weight]
    have h1 : k.cps.size = k.length := rfl
    have := h.2.1
    omega
theorem tri_fine {t : Tri} (h : TriOk 200 t) : (triD t).showable = true ∧ (triD t).hasDict = false ∧ (triD t).depth ≤ 1 ∧ (triD t).leavesShort 20 = true ∧ (triD t).weight ≤ 200 := by
  obtain ⟨h1, h2, h3⟩ := h
  have a := Fine.int (i := t.1) (by omega)
  have b := Fine.int (i := t.2.1) (by omega)
  have c := Fine.ans (x := t.2.2) fun i e => by have := h3 i e; omega
  have dd : t.2.2.d.depth = 0 := by cases t.2.2 <;> simp [Ans.d, PyData.depth]
  have wa := a.wt
  have wb := b.wt
  have wc := c.wt
  refine ⟨?_, ?_, ?_, ?_, ?_⟩
  · simp [triD, PyData.showable, PyData.showableAll, a.sh, b.sh, c.sh] <;> exact ⟨by simpa [PyData.showable] using a.sh, by simpa [PyData.showable] using b.sh⟩
  · simp [triD, PyData.hasDict, PyData.hasDictAll, c.nd]
  · simp [triD, PyData.depth, PyData.depthAll, dd]
  · have x := a.lv
    have y := b.lv
    simp only [triD, PyData.leavesShort, PyData.leavesShortAll] at *
    simp [x, y, c.lv]
  · simp only [triD, PyData.weight, PyData.weightAll] at *
    omega
theorem par_fine {p : Str × Int} (h : KeyOk p.1 ∧ p.2.natAbs < 1000000000000000000) : (parD p).showable = true ∧ (parD p).hasDict = false ∧ (parD p).depth ≤ 1 ∧ (parD p).leavesShort 20 = true ∧ (parD p).weight ≤ 200 := by
  have a := Fine.key h.1
  have b := Fine.int h.2
  have wa := a.wt
  have wb := b.wt
  refine ⟨?_, ?_, ?_, ?_, ?_⟩
  · have y := b.sh
    simp only [parD, PyData.showable, PyData.showableAll] at *
    simp [y]
  · simp [parD, PyData.hasDict, PyData.hasDictAll]
  · simp [parD, PyData.depth, PyData.depthAll]
  · have x := a.lv
    have y := b.lv
    simp only [parD, PyData.leavesShort, PyData.leavesShortAll] at *
    simp [x, y]
  · simp only [parD, PyData.weight, PyData.weightAll] at *
    omega
theorem list_fine {α : Type} {f : α → PyData} : ∀ {l : List α}, (∀ x ∈ l, (f x).showable = true ∧ (f x).hasDict = false ∧ (f x).depth ≤ 1 ∧ (f x).leavesShort 20 = true ∧ (f x).weight ≤ 200) →
    PyData.showableAll (l.map f) = true ∧ PyData.hasDictAll (l.map f) = false ∧ PyData.leavesShortAll 20 (l.map f) = true ∧ PyData.weightAll (l.map f) ≤ 201 * l.length
  | [], _ => by simp [PyData.showableAll, PyData.hasDictAll, PyData.leavesShortAll, PyData.weightAll]
  | x :: l, h => by
    obtain ⟨a1, a2, _, a4, a5⟩ := h x List.mem_cons_self
    obtain ⟨b1, b2, b3, b4⟩ := list_fine (l := l) fun y hy => h y (List.mem_cons_of_mem _ hy)
    rw [List.map_cons]
    refine ⟨by simp only [PyData.showableAll, a1, b1, Bool.and_self], by simp only [PyData.hasDictAll, a2, b2, Bool.or_self], by simp only [PyData.leavesShortAll, a4, b3, Bool.and_self], ?_⟩
    simp only [PyData.weightAll, List.length_cons]
    omega
/-- all that repr asks of a list of such things -/
theorem list_repr {α : Type} {f : α → PyData} {l : List α} (h : ∀ x ∈ l, (f x).showable = true ∧ (f x).hasDict = false ∧ (f x).depth ≤ 1 ∧ (f x).leavesShort 20 = true ∧ (f x).weight ≤ 200) (n : l.length ≤ 1000) :
    (PyData.list (l.map f)).showable = true ∧ (PyData.list (l.map f)).hasDict = false ∧ (PyData.list (l.map f)).depth + 1 ≤ 64 ∧ (PyData.list (l.map f)).shown.length ≤ sizeLine := by
  obtain ⟨b1, b2, b3, b4⟩ := list_fine h
  have d := depth_all (f := f) (m := 1) (l := l) fun x hx => (h x hx).2.2.1
  refine ⟨by simp only [PyData.showable]; exact b1, by simp only [PyData.hasDict]; exact b2, by simp only [PyData.depth]; omega, ?_⟩
  have e := PyData.shown_le 20 (by decide) (.list (l.map f)) (by simp only [PyData.leavesShort]; exact b3)
  have w : (PyData.list (l.map f)).weight ≤ 201 * l.length := by simp only [PyData.weight]; exact b4
  rw [sizeLine_eq]
  omega
theorem tris_repr {l : List Tri} (h : ∀ t ∈ l, TriOk 200 t) (n : l.length ≤ 1000) :
    (PyData.list (l.map triD)).showable = true ∧ (PyData.list (l.map triD)).hasDict = false ∧ (PyData.list (l.map triD)).depth + 1 ≤ 64 ∧ (PyData.list (l.map triD)).shown.length ≤ sizeLine := list_repr (fun x hx => tri_fine (h x hx)) n
theorem pars_repr {l : List (Str × Int)} (h : ∀ p ∈ l, KeyOk p.1 ∧ p.2.natAbs < 1000000000000000000) (n : l.length ≤ 1000) :
    (PyData.list (l.map parD)).showable = true ∧ (PyData.list (l.map parD)).hasDict = false ∧ (PyData.list (l.map parD)).depth + 1 ≤ 64 ∧ (PyData.list (l.map parD)).shown.length ≤ sizeLine := list_repr (fun x hx => par_fine (h x hx)) n
end K41
set_option Elab.async false
set_option maxRecDepth 100000
set_option maxHeartbeats 4000000
/-! numbers.py, is_value. -/
namespace K41
open PySem PySem.Spec PyProof.Rows L2
section
variable {P : Program} {w : World} {K : PySem.W.Frag} {mg : Str → Option Value} {base : Heap} {CT CB : Addr}
def spWhole : Sp := fun vs H Q _ => ∃ i : Int, vs = [.int i] ∧ Q (.bl true) H
theorem sc_whole : FnScope ["thing"] ["thing"] (defScope (top 8)) := ⟨rfl, rfl, rfl, by decide +kernel, rfl, by decide +kernel, by decide +kernel⟩
theorem fn_whole (D : Def K mg "is_whole" (top 8) ["thing"]) (T : Txt w K mg CT CB) : Fn P w K mg base "is_whole" 1 ["thing"] spWhole := by
  obtain ⟨f, fd, F, b, m⟩ := D
  refine ⟨f, fd, F.ok sc_whole (fun vs H Q E h => ?_) (fun cdv A outer s H vs Q E hr h => ?_), m, F.kp, b⟩
  · obtain ⟨i, rfl, _⟩ := h
    rfl
  · obtain ⟨i, rfl, k⟩ := h
    refine ⟨_, pss_one (ps_ret (pe_and (pe_callB call_isi (by rfl) T.isi (by decide +kernel) (pa_cons (pv 0) (pa_cons (pe_gty (T := "int") T.int (by rfl) (by decide +kernel)) pa_nil)))
      (pe_one (pe_not (pe_callB call_isi (by rfl) T.isi (by decide +kernel) (pa_cons (pv 0) (pa_cons (pe_gty (T := "bool") T.bool (by rfl) (by decide +kernel)) pa_nil))))))), ?_⟩
    refine ⟨_, rfl, _, _, _, _, true, rfl, .ty _, .base (.int _), kit_ty (by decide +kernel), true, rfl, iteT ?_⟩
    exact ⟨_, rfl, _, _, _, _, false, rfl, .ty _, .base (.int _), kit_ty (by decide +kernel), false, rfl, k⟩

def spAmong : Sp := fun vs H Q _ => ∃ i lo hi : Int, vs = [.int i, .int lo, .int hi] ∧ lo ≤ i ∧ i ≤ hi ∧ Q (.bl true) H
theorem sc_among : FnScope ["thing", "least", "most"] ["thing", "least", "most"] (defScope (top 9)) := ⟨rfl, rfl, rfl, by decide +kernel, rfl, by decide +kernel, by decide +kernel⟩
theorem fn_among (D : Def K mg "is_among" (top 9) ["thing", "least", "most"]) (G : Fn P w K mg base "is_whole" 1 ["thing"] spWhole) : Fn P w K mg base "is_among" 2 ["thing", "least", "most"] spAmong := by
  obtain ⟨f, fd, F, b, m⟩ := D
  refine ⟨f, fd, F.ok sc_among (fun vs H Q E h => ?_) (fun cdv A outer s H vs Q E hr h => ?_), m, F.kp, b⟩
  · obtain ⟨i, lo, hi, rfl, _⟩ := h
    rfl
  · obtain ⟨i, lo, hi, rfl, h1, h2, k⟩ := h
    refine ⟨_, pss_one (ps_ret (pe_and (pe_fn G hr (by rfl) (pa_cons (pv 0) pa_nil)) (pe_one (pe_chain op_le op_le (pv 1) (pv 0) (pv 2))))), ?_⟩
    refine ⟨_, rfl, i, rfl, true, rfl, iteT ?_⟩
    refine ⟨_, rfl, _, rfl, _, _, rfl, rfl, _, rfl, ?_⟩
    rw [decide_eq_true h1]
    refine iteT ?_
    refine ⟨_, rfl, _, _, rfl, rfl, ?_⟩
    show Q (.bl (decide (i ≤ hi))) H
    rw [decide_eq_true h2]
    exact k

def spNeed : Sp := fun vs H Q _ => ∃ i lo hi : Int, vs = [.int i, .int lo, .int hi] ∧ lo ≤ i ∧ i ≤ hi ∧ Q .non H
theorem sc_need : FnScope ["thing", "least", "most"] ["thing", "least", "most"] (defScope (top 10)) := ⟨rfl, rfl, rfl, by decide +kernel, rfl, by decide +kernel, by decide +kernel⟩
theorem fn_need (D : Def K mg "need_number" (top 10) ["thing", "least", "most"]) (G : Fn P w K mg base "is_among" 2 ["thing", "least", "most"] spAmong) : Fn P w K mg base "need_number" 3 ["thing", "least", "most"] spNeed := by
  obtain ⟨f, fd, F, b, m⟩ := D
  refine ⟨f, fd, F.ok sc_need (fun vs H Q E h => ?_) (fun cdv A outer s H vs Q E hr h => ?_), m, F.kp, b⟩
  · obtain ⟨i, lo, hi, rfl, _⟩ := h
    rfl
  · obtain ⟨i, lo, hi, rfl, h1, h2, k⟩ := h
    refine ⟨_, pss_one (ps_if (pt_not (pt_val (pe_fn G hr (by rfl) (pa_cons (pv 0) (pa_cons (pv 1) (pa_cons (pv 2) pa_nil)))))) pss_never pss_nil), ?_⟩
    exact ⟨_, rfl, _, rfl, _, rfl, i, lo, hi, rfl, h1, h2, true, rfl, iteF k⟩

def spValue : Sp := fun vs H Q _ => ∃ i : Int, vs = [.int i] ∧ ValOk i ∧ Q (.bl true) H
theorem sc_value : FnScope ["thing"] ["thing"] (defScope (top 17)) := ⟨rfl, rfl, rfl, by decide +kernel, rfl, by decide +kernel, by decide +kernel⟩
theorem fn_value (D : Def K mg "is_value" (top 17) ["thing"]) (T : Txt w K mg CT CB) (G : Fn P w K mg base "is_whole" 1 ["thing"] spWhole) : Fn P w K mg base "is_value" 2 ["thing"] spValue := by
  obtain ⟨f, fd, F, b, m⟩ := D
  refine ⟨f, fd, F.ok sc_value (fun vs H Q E h => ?_) (fun cdv A outer s H vs Q E hr h => ?_), m, F.kp, b⟩
  · obtain ⟨i, rfl, _⟩ := h
    rfl
  · obtain ⟨i, rfl, ⟨h1, h2⟩, k⟩ := h
    refine ⟨_, pss_one (ps_ret (pe_and (pe_fn G hr (by rfl) (pa_cons (pv 0) pa_nil)) (pe_one (pe_chain op_le op_le (pe_op op_sub pe_int (pe_gint T.mostv (by rfl))) (pv 0) (pe_gint T.mostv (by rfl)))))), ?_⟩
    refine ⟨_, rfl, i, rfl, true, rfl, iteT ?_⟩
    refine ⟨_, _, rfl, rfl, _, rfl, _, _, rfl, rfl, _, rfl, ?_⟩
    rw [decide_eq_true (show (0 : Int) - 1000000000000 ≤ i by omega)]
    refine iteT ?_
    refine ⟨_, _, rfl, rfl, ?_⟩
    show Q (.bl (decide (i ≤ 1000000000000))) H
    rw [decide_eq_true h2]
    exact k
end
end K41
set_option Elab.async false
set_option maxRecDepth 100000
set_option maxHeartbeats 4000000
/-! is_key. -/
namespace K41
open PySem PySem.Spec PyProof.Rows L2
theorem letters_are : ("abcdefghijklmnopqrstuvwxyz" : Str).cps.toList = List.range' 97 26 := by decide +kernel
theorem letter_in {c : Nat} (h : 97 ≤ c ∧ c ≤ 122) : c ∈ ("abcdefghijklmnopqrstuvwxyz" : Str).cps.toList := by
  rw [letters_are, List.mem_range'_1]
  omega
theorem yesT {A B : Hp → Prop} {σ : L2.St} {H : Hp} (h : A H) : tYes σ H (fun b H3 => if b = true then A H3 else B H3) := by
  show (if true = true then A H else B H)
  exact iteT h
section
variable {P : Program} {w : World} {K : PySem.W.Frag} {mg : Str → Option Value} {base : Heap} {CT CB : Addr}
def spKey : Sp := fun vs H Q _ => ∃ k : Str, vs = [.str k] ∧ KeyOk k ∧ ∀ H', Same H H' → Q (.bl true) H'
theorem sc_key : FnScope ["thing", "sign"] ["thing"] (defScope (top 16)) := ⟨rfl, rfl, rfl, by decide +kernel, rfl, by decide +kernel, by decide +kernel⟩
theorem fn_key (D : Def K mg "is_key" (top 16) ["thing"]) (T : Txt w K mg CT CB) : Fn P w K mg base "is_key" 1 ["thing"] spKey := by
  obtain ⟨f, fd, F, b, m⟩ := D
  refine ⟨f, fd, F.ok sc_key (fun vs H Q E h => ?_) (fun cdv A outer s H vs Q E hr h => ?_), m, F.kp, b⟩
  · obtain ⟨k, rfl, _⟩ := h
    rfl
  · obtain ⟨z, rfl, ⟨h1, h2, h3⟩, q⟩ := h
    refine ⟨_, pss_cons (ps_if (PW.pt (pw_or (pt_not (pt_val (pe_callB call_isi (by rfl) T.isi (by decide +kernel) (pa_cons (pv 0) (pa_cons (pe_gty (T := "str") T.str (by rfl) (by decide +kernel)) pa_nil)))))
        (pw_or1 (pt_not (pt_chain op_le op_le pe_int (pe_callB call_len_str (by rfl) T.len (by decide +kernel) (pa_cons (pv 0) pa_nil)) (pe_gint T.mostl (by rfl))))))) pss_never pss_nil)
      (pss_one (ps_ret (pe_callB (cr_all rfl) (by rfl) T.all (by decide +kernel) (pa_cons (pe_lc (own := [("sign", 1)]) (g := gName 1) (tt := tYes) rfl sc_key.nd (pi_str (pv 0)) (blkOk_by (own := [("sign", 1)]) (N := ["thing", "sign"]) (sc := defScope (top 16)) (by decide +kernel))
        (fun _ _ _ _ _ => pg_name (i := 1) sc_key.nd rfl (Or.inl rfl)) (fun _ _ _ _ _ => pts_nil) (fun _ _ _ _ _ => pe_cmpR op_in_sign (pv 1) (pe_gstr T.letters (by rfl)) rfl)) pa_nil)))), ?_⟩
    refine ⟨_, rfl, _, _, _, _, true, rfl, .ty _, .base (.str _), kit_ty (by decide +kernel), true, rfl, iteF ?_⟩
    have hz : z.length ≤ sizeLine := by rw [sizeLine_eq]; omega
    refine ⟨_, rfl, _, rfl, hz, _, _, rfl, rfl, _, rfl, ?_⟩
    rw [decide_eq_true (show (1 : Int) ≤ (z.length : Int) by omega)]
    refine iteT ⟨_, _, rfl, rfl, _, rfl, ?_⟩
    rw [decide_eq_true (show (z.length : Int) ≤ 8 by omega)]
    refine iteF ?_
    refine ⟨_, rfl, z, rfl, fun D hD => lc_it walk_str (fun i H' => H' = upd H D (.lst (List.replicate i (V.bl true)))) rfl (fun _ _ _ _ => trivial) (fun i x H1 H2 hi hp hy => ?_) (fun H1 hp => ?_)⟩
    · subst hp
      obtain ⟨rfl, c, hc, rfl⟩ := hy
      refine ⟨rfl, ?_⟩
      refine yesT ?_
      refine ⟨_, rfl, c, _, rfl, rfl, ?_⟩
      have hm : c ∈ z.cps.toList := Array.mem_toList_iff.mpr (Array.mem_of_getElem? hc)
      refine ⟨_, upd_same, ?_, ?_⟩
      · rw [List.length_replicate, sizeLine_eq]
        have : z.cps.size = z.length := rfl
        omega
      · show upd (upd H D _) D _ = _
        rw [upd_upd, decide_eq_true (letter_in (h3 c hm)), ← List.replicate_succ']
    · subst hp
      refine ⟨D, List.replicate z.cps.size true, rfl, SqL.of ?_, ?_⟩
      · rw [upd_same, List.map_replicate]
      · rw [show (List.replicate z.cps.size true).all id = true by simp]
        exact q _ fun b o e => by rw [upd_ne (ne_of_none e hD)]; exact e
end
end K41
set_option Elab.async false
set_option maxRecDepth 100000
set_option maxHeartbeats 4000000
/-! is_ask. -/
namespace K41
open PySem PySem.Spec PyProof.Rows L2
theorem iteFd {A B : Prop} {c : Bool} (h : c = false) (hb : B) : if c = true then A else B := by
  subst h
  exact iteF hb
theorem iteTd {A B : Prop} {c : Bool} (h : c = true) (ha : A) : if c = true then A else B := by
  subst h
  exact iteT ha
def Ask.word : Ask → Str
  | .put _ _ => "put"
  | .add _ _ => "add"
  | .drop _ => "drop"
  | .swap _ _ _ => "swap"
  | .read _ => "read"
  | .many => "many"
def Ask.rest : Ask → List V
  | .put k v => [.str k, .int v]
  | .add k v => [.str k, .int v]
  | .drop k => [.str k]
  | .swap k o v => [.str k, oV o, .int v]
  | .read k => [.str k]
  | .many => []
theorem ask_vs (a : Ask) : a.vs = .str a.word :: a.rest := by cases a <;> rfl
theorem ask_no_unit (a : Ask) : PyData.eqv (.tuple a.ds) (.tuple []) = false := by
  cases a <;> simp [Ask.ds, PyData.eqv, PyData.eqvAll]
section
variable {P : Program} {w : World} {K : PySem.W.Frag} {mg : Str → Option Value} {base : Heap} {CT CB : Addr}
theorem sizes_of {aS : Addr} (h : (∃ t, PySem.W.nsIn K aS "put" = some (some (.int 3 t))) ∧ (∃ t, PySem.W.nsIn K aS "add" = some (some (.int 3 t))) ∧ (∃ t, PySem.W.nsIn K aS "drop" = some (some (.int 2 t))) ∧
    (∃ t, PySem.W.nsIn K aS "swap" = some (some (.int 4 t))) ∧ (∃ t, PySem.W.nsIn K aS "read" = some (some (.int 2 t))) ∧ ∃ t, PySem.W.nsIn K aS "many" = some (some (.int 1 t))) (a : Ask) :
    ∃ t, PySem.W.nsIn K aS a.word = some (some (.int (a.vs.length : Nat) t)) := by
  obtain ⟨h1, h2, h3, h4, h5, h6⟩ := h
  cases a with
  | put k v => exact h1
  | add k v => exact h2
  | drop k => exact h3
  | swap k o v => exact h4
  | read k => exact h5
  | many => exact h6
def spAsk : Sp := fun vs H Q _ => ∃ (p : Addr) (a : Ask), vs = [.ref p] ∧ H p = some (.tup a.vs) ∧ a.ok ∧ ∀ H', Same H H' → Q (.bl true) H'
theorem sc_ask : FnScope ["thing"] ["thing"] (defScope (top 18)) := ⟨rfl, rfl, rfl, by decide +kernel, rfl, by decide +kernel, by decide +kernel⟩
theorem fn_ask (D : Def K mg "is_ask" (top 18) ["thing"]) (T : Txt w K mg CT CB) (GK : Fn P w K mg base "is_key" 1 ["thing"] spKey) (GV : Fn P w K mg base "is_value" 2 ["thing"] spValue) : Fn P w K mg base "is_ask" 3 ["thing"] spAsk := by
  obtain ⟨f, fd, F, b, m⟩ := D
  refine ⟨f, fd, F.ok sc_ask (fun vs H Q E h => ?_) (fun cdv A outer s H vs Q E hr h => ?_), m, F.kp, b⟩
  · obtain ⟨p, a, rfl, _⟩ := h
    rfl
  · obtain ⟨p, a, rfl, hp, ok, q⟩ := h
    obtain ⟨aS, es, n, mS, KD, szs⟩ := T.sizes
    have hr1 : Room 1 _ := hr.mono (by decide)
    refine ⟨_, pss_cons (ps_if (PW.pt (pw_or (pt_not (pt_val (pe_callB call_isi (by rfl) T.isi (by decide +kernel) (pa_cons (pv 0) (pa_cons (pe_gty (T := "tuple") T.tuple (by rfl) (by decide +kernel)) pa_nil))))) (pw_or (pt_cmpR (op_eqD hr.units) (pv 0) (pe_tup pa_nil) (nomark _)) (pw_or1 (pt_not (pt_val (pe_callB call_isi (by rfl) T.isi (by decide +kernel) (pa_cons (pe_ix ix_tup (pv 0) pe_int (fun _ _ => rfl)) (pa_cons (pe_gty (T := "str") T.str (by rfl) (by decide +kernel)) pa_nil))))))))) pss_never pss_nil)
      (pss_cons (ps_if (pt_cmpR op_ne (pe_kget KD (pe_glob (v := .ref aS) (by rfl) mS rfl) (pe_ix ix_tup (pv 0) pe_int (fun _ _ => rfl)) ⟨rfl, rfl, rfl, rfl⟩) (pe_callB call_len_seq (by rfl) T.len PySem.boot_len (pa_cons (pv 0) pa_nil)) (nomark _)) pss_never pss_nil)
      (pss_cons (ps_if (PW.pt (pw_and (pt_cmpR op_gt (pe_callB call_len_seq (by rfl) T.len PySem.boot_len (pa_cons (pv 0) pa_nil)) pe_int (nomark _)) (pw_and1 (pt_not (pt_val (pe_fn GK hr1 (by rfl) (pa_cons (pe_ix ix_tup (pv 0) pe_int (fun _ _ => rfl)) pa_nil))))))) pss_never pss_nil)
      (pss_cons (ps_if (PW.pt (pw_and (pt_cmpR op_eq (pe_ix ix_tup (pv 0) pe_int (fun _ _ => rfl)) pe_str (nomark _)) (pw_and (pt_cmp (pc_notN (pe_ix ix_tup (pv 0) pe_int (fun _ _ => rfl)))) (pw_and1 (pt_not (pt_val (pe_fn GV hr (by rfl) (pa_cons (pe_ix ix_tup (pv 0) pe_int (fun _ _ => rfl)) pa_nil)))))))) pss_never pss_nil)
      (pss_one (ps_ret (pe_or (pe_cmpR op_lt (pe_callB call_len_seq (by rfl) T.len PySem.boot_len (pa_cons (pv 0) pa_nil)) pe_int (nomark _)) (pe_one (pe_fn GV hr (by rfl) (pa_cons (pe_ix ix_tup (pv 0) (pe_un un_neg pe_int) (fun _ _ => rfl)) pa_nil))))))))), ?_⟩
    -- the first test
    refine ⟨_, rfl, _, _, _, _, true, rfl, .ty _, .base (.tup hp), kit_ty (by decide +kernel), true, rfl, iteF ?_⟩
    refine ⟨_, rfl, by show 0 ≤ sizeLine; decide, fun u hu => ?_⟩
    have npu : p ≠ u := ne_of_none hp hu
    have s1 : Same H (upd H u (.tup [])) := fun c o e => by rw [upd_ne (ne_of_none e hu)]; exact e
    have hp1 := s1 _ _ hp
    generalize hH1 : upd H u (.tup []) = H1 at s1 hp1
    have hu1 : H1 u = some (.tup []) := by rw [← hH1]; exact upd_same
    refine ⟨.tuple a.ds, .tuple [], .tup (SqT.of hp1) (dp_ask a), .tup (SqT.of hu1) .nil, ask_shaped ok, unit_shaped, _, rfl, ?_⟩
    rw [ask_no_unit]
    refine iteF ?_
    have at0 : atI a.vs 0 = some (.str a.word) := by rw [ask_vs]; exact at_of (j := 0) rfl rfl
    refine ⟨_, rfl, _, _, _, _, rfl, rfl, SqT.of hp1, at0, _, _, _, _, true, rfl, .ty _, .base (.str _), kit_ty (by decide +kernel), true, rfl, iteF ?_⟩
    -- the second
    obtain ⟨tz, hz⟩ := sizes_of szs a
    refine ⟨rfl, _, rfl, _, _, _, _, rfl, rfl, SqT.of hp1, at0, a.word, _, .int (a.vs.length : Nat), rfl, hz, ⟨tz, rfl⟩, ?_⟩
    refine ⟨_, rfl, p, _, rfl, .inr (SqT.of hp1), rfl, _, rfl, ?_⟩
    refine iteNS rfl ?_
    have ns : ∀ x : Str, decide (x = "swap") = false → decide (V.str x = V.str "swap") = false := fun x h => by
      have h := of_decide_eq_false h
      exact decide_eq_false fun z => h (V.str.inj z)
    cases a with
    | put k v =>
      have at1 : atI (Ask.put k v).vs 1 = some (.str k) := at_of (j := 1) rfl rfl
      have atL : atI (Ask.put k v).vs (-1) = some (.int v) := rfl
      refine ⟨_, rfl, p, _, rfl, .inr (SqT.of hp1), _, _, rfl, rfl, _, rfl, iteT ?_⟩
      refine ⟨_, rfl, p, _, _, _, rfl, rfl, SqT.of hp1, at1, k, rfl, ok.1, fun H2 s2 => ⟨_, rfl, iteF ?_⟩⟩
      have hp2 := s2 _ _ hp1
      refine ⟨_, rfl, p, _, _, _, rfl, rfl, SqT.of hp2, at0, rfl, _, rfl, ?_⟩
      refine iteFd (ns "put" (by decide +kernel)) (iteF ?_)
      refine ⟨_, rfl, p, _, rfl, .inr (SqT.of hp2), _, _, rfl, rfl, _, rfl, iteF ?_⟩
      exact ⟨_, rfl, _, rfl, p, _, _, _, rfl, rfl, SqT.of hp2, atL, v, rfl, ok.2, q _ (s1.trans s2)⟩
    | add k v =>
      have at1 : atI (Ask.add k v).vs 1 = some (.str k) := at_of (j := 1) rfl rfl
      have atL : atI (Ask.add k v).vs (-1) = some (.int v) := rfl
      refine ⟨_, rfl, p, _, rfl, .inr (SqT.of hp1), _, _, rfl, rfl, _, rfl, iteT ?_⟩
      refine ⟨_, rfl, p, _, _, _, rfl, rfl, SqT.of hp1, at1, k, rfl, ok.1, fun H2 s2 => ⟨_, rfl, iteF ?_⟩⟩
      have hp2 := s2 _ _ hp1
      refine ⟨_, rfl, p, _, _, _, rfl, rfl, SqT.of hp2, at0, rfl, _, rfl, ?_⟩
      refine iteFd (ns "add" (by decide +kernel)) (iteF ?_)
      refine ⟨_, rfl, p, _, rfl, .inr (SqT.of hp2), _, _, rfl, rfl, _, rfl, iteF ?_⟩
      exact ⟨_, rfl, _, rfl, p, _, _, _, rfl, rfl, SqT.of hp2, atL, v, rfl, ok.2, q _ (s1.trans s2)⟩
    | drop k =>
      have at1 : atI (Ask.drop k).vs 1 = some (.str k) := at_of (j := 1) rfl rfl
      refine ⟨_, rfl, p, _, rfl, .inr (SqT.of hp1), _, _, rfl, rfl, _, rfl, iteT ?_⟩
      refine ⟨_, rfl, p, _, _, _, rfl, rfl, SqT.of hp1, at1, k, rfl, ok, fun H2 s2 => ⟨_, rfl, iteF ?_⟩⟩
      have hp2 := s2 _ _ hp1
      refine ⟨_, rfl, p, _, _, _, rfl, rfl, SqT.of hp2, at0, rfl, _, rfl, ?_⟩
      refine iteFd (ns "drop" (by decide +kernel)) (iteF ?_)
      exact ⟨_, rfl, p, _, rfl, .inr (SqT.of hp2), _, _, rfl, rfl, _, rfl, iteT (q _ (s1.trans s2))⟩
    | read k =>
      have at1 : atI (Ask.read k).vs 1 = some (.str k) := at_of (j := 1) rfl rfl
      refine ⟨_, rfl, p, _, rfl, .inr (SqT.of hp1), _, _, rfl, rfl, _, rfl, iteT ?_⟩
      refine ⟨_, rfl, p, _, _, _, rfl, rfl, SqT.of hp1, at1, k, rfl, ok, fun H2 s2 => ⟨_, rfl, iteF ?_⟩⟩
      have hp2 := s2 _ _ hp1
      refine ⟨_, rfl, p, _, _, _, rfl, rfl, SqT.of hp2, at0, rfl, _, rfl, ?_⟩
      refine iteFd (ns "read" (by decide +kernel)) (iteF ?_)
      exact ⟨_, rfl, p, _, rfl, .inr (SqT.of hp2), _, _, rfl, rfl, _, rfl, iteT (q _ (s1.trans s2))⟩
    | many =>
      refine ⟨_, rfl, p, _, rfl, .inr (SqT.of hp1), _, _, rfl, rfl, _, rfl, iteF (iteF ?_)⟩
      refine ⟨_, rfl, p, _, _, _, rfl, rfl, SqT.of hp1, at0, rfl, _, rfl, ?_⟩
      refine iteFd (ns "many" (by decide +kernel)) (iteF ?_)
      exact ⟨_, rfl, p, _, rfl, .inr (SqT.of hp1), _, _, rfl, rfl, _, rfl, iteT (q _ s1)⟩
    | swap k o v =>
      have at1 : atI (Ask.swap k o v).vs 1 = some (.str k) := at_of (j := 1) rfl rfl
      have at2 : atI (Ask.swap k o v).vs 2 = some (oV o) := at_of (j := 2) rfl rfl
      have atL : atI (Ask.swap k o v).vs (-1) = some (.int v) := rfl
      refine ⟨_, rfl, p, _, rfl, .inr (SqT.of hp1), _, _, rfl, rfl, _, rfl, iteT ?_⟩
      refine ⟨_, rfl, p, _, _, _, rfl, rfl, SqT.of hp1, at1, k, rfl, ok.1, fun H2 s2 => ⟨_, rfl, iteF ?_⟩⟩
      have hp2 := s2 _ _ hp1
      refine ⟨_, rfl, p, _, _, _, rfl, rfl, SqT.of hp2, at0, rfl, _, rfl, ?_⟩
      refine iteTd (decide_eq_true rfl) ?_
      refine ⟨_, rfl, p, _, _, _, rfl, rfl, SqT.of hp2, at2, _, rfl, ?_⟩
      cases o with
      | none =>
        refine iteF (iteF ?_)
        refine ⟨_, rfl, p, _, rfl, .inr (SqT.of hp2), _, _, rfl, rfl, _, rfl, iteF ?_⟩
        exact ⟨_, rfl, _, rfl, p, _, _, _, rfl, rfl, SqT.of hp2, atL, v, rfl, ok.2.2, q _ (s1.trans s2)⟩
      | some i =>
        refine iteT ?_
        refine ⟨_, rfl, p, _, _, _, rfl, rfl, SqT.of hp2, at2, i, rfl, ok.2.1, _, rfl, ?_⟩
        refine iteF ?_
        refine ⟨_, rfl, p, _, rfl, .inr (SqT.of hp2), _, _, rfl, rfl, _, rfl, iteF ?_⟩
        exact ⟨_, rfl, _, rfl, p, _, _, _, rfl, rfl, SqT.of hp2, atL, v, rfl, ok.2.2, q _ (s1.trans s2)⟩
end
end K41
set_option Elab.async false
set_option maxRecDepth 100000
set_option maxHeartbeats 4000000
set_option linter.all false
/-! Sorted tables: there is just one. -/
namespace K41
open PySem PySem.Spec PyProof.Rows L2
theorem uniq {α : Type} {R : α → α → Prop} : ∀ {l m : List α}, l.Perm m → l.Pairwise R → m.Pairwise R → (∀ x ∈ l, ∀ y ∈ l, R x y → R y x → x = y) → l = m
  | [], m, p, _, _, _ => (List.Perm.eq_nil p.symm).symm
  | x :: l, [], p, _, _, _ => absurd p.length_eq (by simp)
  | x :: l, y :: m, p, hl, hm, an => by
    have e : x = y := by
      rcases List.mem_cons.mp (p.mem_iff.mp (List.mem_cons_self (a := x) (l := l))) with e | hx
      · exact e
      · rcases List.mem_cons.mp (p.mem_iff.mpr (List.mem_cons_self (a := y) (l := m))) with e | hy
        · exact e.symm
        · exact an x List.mem_cons_self y (List.mem_cons_of_mem _ hy) ((List.pairwise_cons.mp hl).1 y hy) ((List.pairwise_cons.mp hm).1 x hx)
    subst e
    rw [uniq p.cons_inv (List.pairwise_cons.mp hl).2 (List.pairwise_cons.mp hm).2 fun a ha b hb => an a (List.mem_cons_of_mem _ ha) b (List.mem_cons_of_mem _ hb)]

/-- x is not above y -/
def txLe (x y : Str) : Prop := txB y x = false
theorem txLe_trans {x y z : Str} (a : txLe x y) (b : txLe y z) : txLe x z := (swo_tx (fun s : Str => s)).tr x y z a b
theorem txLe_anti {x y : Str} (a : txLe x y) (b : txLe y x) : x = y := by
  have a' : ¬ y.cps.toList < x.cps.toList := of_decide_eq_false a
  have b' : ¬ x.cps.toList < y.cps.toList := of_decide_eq_false b
  have e : x.cps.toList = y.cps.toList := List.le_antisymm (show x.cps.toList ≤ y.cps.toList from a') (show y.cps.toList ≤ x.cps.toList from b')
  have e2 : x.cps = y.cps := Array.toList_inj.mp e
  cases x; cases y
  exact congrArg _ e2
theorem txLe_total (x y : Str) : txLe x y ∨ txLe y x := by
  unfold txLe
  cases h : txB y x with
  | false => exact .inl rfl
  | true => exact .inr ((swo_tx (fun s : Str => s)).asym y x h)
theorem rising_pair : ∀ (l : List Str) (p : Str), risingS p l = true → (p :: l).Pairwise txLe
  | [], p, _ => List.pairwise_singleton _ _
  | x :: l, p, h => by
    have h' : (!ltCps x.cps.toList p.cps.toList && risingS x l) = true := h
    rw [Bool.and_eq_true] at h'
    have q := rising_pair l x h'.2
    have px : txLe p x := by
      have h1 := h'.1
      rw [ltCps_eq] at h1
      show decide (x.cps.toList < p.cps.toList) = false
      simpa using h1
    refine List.pairwise_cons.mpr ⟨fun y hy => ?_, q⟩
    rcases List.mem_cons.mp hy with e | hy
    · rw [e]; exact px
    · exact txLe_trans px ((List.pairwise_cons.mp q).1 y hy)
theorem sorted_pair {l : List Str} (h : sortedS l = true) : l.Pairwise txLe := by
  cases l with
  | nil => exact List.Pairwise.nil
  | cons x l => exact rising_pair l x h

def insT (p : Str × Int) : Tab → Tab
  | [] => [p]
  | q :: r => if txB q.1 p.1 = true then q :: insT p r else p :: q :: r
def sortT : Tab → Tab
  | [] => []
  | p :: r => insT p (sortT r)
theorem insT_perm (p : Str × Int) : ∀ r : Tab, (insT p r).Perm (p :: r)
  | [] => List.Perm.refl _
  | q :: r => by
    unfold insT
    split
    · exact ((insT_perm p r).cons q).trans (List.Perm.swap p q r)
    · exact List.Perm.refl _
theorem sortT_perm : ∀ t : Tab, (sortT t).Perm t
  | [] => List.Perm.refl _
  | p :: r => (insT_perm p (sortT r)).trans ((sortT_perm r).cons p)
theorem insT_pair (p : Str × Int) : ∀ r : Tab, r.Pairwise (fun a b => txLe a.1 b.1) → (insT p r).Pairwise (fun a b => txLe a.1 b.1)
  | [], _ => List.pairwise_singleton _ _
  | q :: r, h => by
    obtain ⟨h1, h2⟩ := List.pairwise_cons.mp h
    unfold insT
    split
    · rename_i c
      have qp : txLe q.1 p.1 := (swo_tx (fun s : Str => s)).asym q.1 p.1 c
      refine List.pairwise_cons.mpr ⟨fun b hb => ?_, insT_pair p r h2⟩
      rcases List.mem_cons.mp ((insT_perm p r).mem_iff.mp hb) with e | hb
      · rw [e]; exact qp
      · exact h1 b hb
    · rename_i c
      have pq : txLe p.1 q.1 := Bool.eq_false_iff.mpr c
      refine List.pairwise_cons.mpr ⟨fun b hb => ?_, h⟩
      rcases List.mem_cons.mp hb with e | hb
      · rw [e]; exact pq
      · exact txLe_trans pq (h1 b hb)
theorem sortT_pair : ∀ t : Tab, (sortT t).Pairwise (fun a b => txLe a.1 b.1)
  | [] => List.Pairwise.nil
  | p :: r => insT_pair p _ (sortT_pair r)
theorem sortT_keys {t : Tab} {ys : List Str} (p : ys.Perm (t.map (·.1))) (s : sortedS ys = true) : ys = (sortT t).map (·.1) := by
  refine uniq (R := txLe) (p.trans ((sortT_perm t).map (·.1)).symm) (sorted_pair s) (List.pairwise_map.mpr (sortT_pair t)) fun x _ y _ a b => txLe_anti a b
theorem nodup_same {t : Tab} (n : (t.map (·.1)).Nodup) {p q : Str × Int} (hp : p ∈ t) (hq : q ∈ t) (e : p.1 = q.1) : p = q := by
  have a := aget_of_mem n (k := p.1) (v := p.2) hp
  have b := aget_of_mem n (k := q.1) (v := q.2) hq
  rw [e, b] at a
  exact Prod.ext e (Option.some.inj a).symm
theorem sortT_uniq {t l : Tab} (n : (t.map (·.1)).Nodup) (p : l.Perm t) (s : l.Pairwise (fun a b => txLe a.1 b.1)) : l = sortT t := by
  refine uniq (R := fun a b => txLe a.1 b.1) (p.trans (sortT_perm t).symm) s (sortT_pair t) fun x hx y hy a b => ?_
  exact nodup_same n (p.mem_iff.mp hx) (p.mem_iff.mp hy) (txLe_anti a b)
theorem sortT_nodup {t : Tab} (n : (t.map (·.1)).Nodup) : ((sortT t).map (·.1)).Nodup := ((sortT_perm t).map (·.1)).nodup_iff.mpr n
theorem sortT_len (t : Tab) : (sortT t).length = t.length := (sortT_perm t).length_eq
theorem sortT_get {t : Tab} (n : (t.map (·.1)).Nodup) {p : Str × Int} (h : p ∈ sortT t) : aget t p.1 = some p.2 := aget_of_mem n ((sortT_perm t).mem_iff.mp h)
/-- a dict of unlike keys, merged into none -/
theorem merge_go : ∀ (more kvs : List (Key × V)), ((kvs ++ more).map (·.1)).Nodup → mergeK kvs more = kvs ++ more
  | [], kvs, _ => by rw [List.append_nil]; rfl
  | p :: more, kvs, n => by
    have h : valV kvs p.1 = none := by
      cases e : valV kvs p.1 with
      | none => rfl
      | some v =>
        have m : p.1 ∈ kvs.map (·.1) := valV_in e
        rw [List.map_append, List.nodup_append] at n
        exact absurd rfl (n.2.2 p.1 m p.1 (by simp))
    show mergeK (putK kvs p.1 p.2) more = _
    rw [putK_new p.2 h, merge_go more (kvs ++ [(p.1, p.2)]) (by rw [List.append_assoc]; exact n), List.append_assoc]
    rfl
theorem merge_nodup {kvs : List (Key × V)} (n : (kvs.map (·.1)).Nodup) : mergeK [] kvs = kvs := merge_go kvs [] n
theorem tabV_nodup {t : Tab} (n : (t.map (·.1)).Nodup) : ((tabV t).map (·.1)).Nodup := by
  rw [tabV_keys]
  exact List.pairwise_map.mpr (List.Pairwise.imp (fun h e => h (Sum.inr.inj e)) n)
end K41
set_option Elab.async false
set_option maxRecDepth 100000
set_option maxHeartbeats 4000000
set_option linter.all false
/-! Tables. -/
namespace K41
open PySem PySem.Spec PyProof.Rows L2
/-- the attributes of a table -/
def fT (d : Addr) : List (Str × V) := putF "held" (.ref d) []
theorem fT_held (d : Addr) : (fT d).lookup ("held" : Str) = some (.ref d) := by
  unfold fT
  rw [lookup_putF, if_pos rfl]
theorem fT_no (d : Addr) {m : Str} (h : ¬ m = "held") : (fT d).lookup m = none := by
  unfold fT
  rw [lookup_putF, if_neg h]
  rfl
/-- a table stands at p, its dict at d -/
structure TabAt (CT : Addr) (H : Hp) (p d : Addr) (t : Tab) : Prop where
  ob : ∃ dx, H p = some (.ins CT dx (fT d))
  dc : H d = some (.dK (tabV t))
theorem opt_getD (o : Option Int) : (o.map V.int).getD .non = oV o := by cases o <;> rfl
theorem opt_getD0 (o : Option Int) : (o.map V.int).getD (.int 0) = .int (o.getD 0) := by cases o <;> rfl
theorem scal_o (a b : Option Int) : scal (oV a) (oV b) = true := by cases a <;> cases b <;> rfl
theorem dec_o (a b : Option Int) : decide (oV a = oV b) = decide (a = b) := by
  by_cases e : a = b
  · subst e
    rw [decide_eq_true rfl, decide_eq_true rfl]
  · have : ¬ oV a = oV b := fun z => e (by
      cases a with
      | none => cases b with
        | none => rfl
        | some j => cases z
      | some i => cases b with
        | none => cases z
        | some j => exact congrArg some (V.int.inj z))
    rw [decide_eq_false e, decide_eq_false this]
theorem word_ns {x y : Str} (h : decide (x = y) = false) : decide (V.str x = V.str y) = false := decide_eq_false fun z => of_decide_eq_false h (V.str.inj z)
section
variable {P : Program} {w : World} {K : PySem.W.Frag} {mg : Str → Option Value} {base : Heap} {CT CB : Addr}
def spTInit (CT : Addr) : Sp := fun vs H Q _ => ∃ (p dx : Addr), vs = [.ref p] ∧ H p = some (.ins CT dx []) ∧ ∀ (d : Addr) (H' : Hp), H d = none → TabAt CT H' p d [] → Keep [p] H H' → Q .non H'
theorem sc_tinit : FnScope ["self"] ["self"] (defScope (sTable 0)) := ⟨rfl, rfl, rfl, by decide +kernel, rfl, by decide +kernel, by decide +kernel⟩
theorem im_table (D : Ini K CT "Table.__init__" (sTable 0) ["self"]) (T : Txt w K mg CT CB) : Im P w K mg base CT 1 ["self"] (spTInit CT) := by
  obtain ⟨f, fd, F, b, m⟩ := D
  refine ⟨f, fd, F.ok sc_tinit (fun vs H Q E h => ?_) (fun cdv A outer s H vs Q E hr h => ?_), m, b⟩
  · obtain ⟨p, dx, rfl, _⟩ := h
    rfl
  · obtain ⟨p, dx, rfl, hp, k⟩ := h
    refine ⟨_, pss_one (ps_fld (pv 0) pe_dnewK rfl), ?_⟩
    intro d hd
    have npd : p ≠ d := ne_of_none hp hd
    refine ⟨_, rfl, p, CT, dx, [], rfl, (by rw [upd_ne npd]; exact hp), T.clT, T.nHeld, (by show 0 < 1000; decide), ?_⟩
    exact k d _ hd ⟨⟨dx, upd_same⟩, by rw [upd_ne npd.symm, upd_same]; rfl⟩ ((Keep.refl.new hd).put (by simp))

def spSwapped (CT : Addr) : Sp := fun vs H Q _ => ∃ (p d pa : Addr) (t : Tab) (k : Str) (o : Option Int) (v : Int), vs = [.ref p, .ref pa, oV (aget t k)] ∧ TabAt CT H p d t ∧ H pa = some (.tup (Ask.swap k o v).vs) ∧ t.length ≤ 1000 ∧
  ∀ H', Keep [d] H H' → H' d = some (.dK (tabV (doAsk t (.swap k o v)).1)) → Q (doAsk t (.swap k o v)).2.v H'
theorem sc_swapped : FnScope ["self", "ask", "there"] ["self", "ask", "there"] (defScope (sTable 2)) := ⟨rfl, rfl, rfl, by decide +kernel, rfl, by decide +kernel, by decide +kernel⟩
theorem me_swapped (D : Mth K CT "swapped" "Table.swapped" (sTable 2) ["self", "ask", "there"]) (T : Txt w K mg CT CB) : Me P w K mg base CT "swapped" 1 ["self", "ask", "there"] (spSwapped CT) := by
  obtain ⟨f, fd, F, b, m⟩ := D
  refine ⟨f, fd, F.ok sc_swapped (fun vs H Q E h => ?_) (fun cdv A outer s H vs Q E hr h => ?_), m, b⟩
  · obtain ⟨p, d, pa, t, k, o, v, rfl, _⟩ := h
    rfl
  · obtain ⟨p, d, pa, t, k, o, v, rfl, ⟨⟨dx, hp⟩, hd⟩, ha, hl, q⟩ := h
    have hu := hu_of hr
    have at1 : atI (Ask.swap k o v).vs 1 = some (.str k) := at_of (j := 1) rfl rfl
    have at2 : atI (Ask.swap k o v).vs 2 = some (oV o) := at_of (j := 2) rfl rfl
    have at3 : atI (Ask.swap k o v).vs 3 = some (.int v) := at_of (j := 3) rfl rfl
    refine ⟨_, pss_cons (ps_if (pt_cmpR op_ne (pv 2) (pe_ix ix_tup (pv 1) pe_int (fun _ _ => rfl)) (nomark _)) (pss_one (ps_ret pe_bl)) pss_nil)
      (pss_cons (ps_dput hu (pe_fld (pv 0) (by rfl)) (pe_ix ix_tup (pv 1) pe_int (fun _ _ => rfl)) (pe_ix ix_tup (pv 1) pe_int (fun _ _ => rfl)) rfl)
      (pss_one (ps_ret pe_bl))), ?_⟩
    refine ⟨_, rfl, _, rfl, pa, _, _, _, rfl, rfl, SqT.of ha, at2, scal_o _ _, _, rfl, ?_⟩
    rw [dec_o]
    by_cases e : aget t k = o
    · rw [decide_eq_true e]
      refine iteF ?_
      refine ⟨_, rfl, pa, _, _, _, rfl, rfl, SqT.of ha, at3, _, rfl, p, CT, dx, _, _, rfl, hp, T.clT, T.nHeld, fT_held d, _, rfl, pa, _, _, _, rfl, rfl, SqT.of ha, at1, d, _, rfl, DPut.k (k := Sum.inr k) hd (small1000 (by rw [tabV_len]; exact hl)), ?_⟩
      rw [doAsk, if_pos e] at q
      exact q _ (Keep.refl.put (by simp)) (by rw [upd_same, putK_tab])
    · rw [decide_eq_false e]
      refine iteT ?_
      rw [doAsk, if_neg e] at q
      exact q H Keep.refl hd

def spTDo (CT : Addr) : Sp := fun vs H Q _ => ∃ (p d pa : Addr) (t : Tab) (a : Ask), vs = [.ref p, .ref pa] ∧ TabAt CT H p d t ∧ H pa = some (.tup a.vs) ∧ a.ok ∧ t.length ≤ 1000 ∧
  ∀ H', Keep [d] H H' → H' d = some (.dK (tabV (doAsk t a).1)) → Q (doAsk t a).2.v H'
theorem sc_tdo : FnScope ["self", "ask", "there"] ["self", "ask"] (defScope (sTable 1)) := ⟨rfl, rfl, rfl, by decide +kernel, rfl, by decide +kernel, by decide +kernel⟩
theorem me_tdo (D : Mth K CT "do" "Table.do" (sTable 1) ["self", "ask"]) (T : Txt w K mg CT CB) (GA : Fn P w K mg base "is_ask" 3 ["thing"] spAsk) (GS : Me P w K mg base CT "swapped" 1 ["self", "ask", "there"] (spSwapped CT)) :
    Me P w K mg base CT "do" 4 ["self", "ask"] (spTDo CT) := by
  obtain ⟨f, fd, F, b, m⟩ := D
  refine ⟨f, fd, F.ok sc_tdo (fun vs H Q E h => ?_) (fun cdv A outer s H vs Q E hr h => ?_), m, b⟩
  · obtain ⟨p, d, pa, t, a, rfl, _⟩ := h
    rfl
  · obtain ⟨p, d, pa, t, a, rfl, ⟨⟨dx, hp0⟩, hd0⟩, ha0, ok, hl, q⟩ := h
    have hu := hu_of hr
    have hr1 : Room 1 _ := hr.mono (by decide)
    refine ⟨_, pss_cons (ps_if (pt_not (pt_val (pe_fn GA hr (by rfl) (pa_cons (pv 1) pa_nil)))) pss_never pss_nil)
      (pss_cons (ps_if (pt_cmpR op_eq (pe_ix ix_tup (pv 1) pe_int (fun _ _ => rfl)) pe_str (nomark _)) (pss_one (ps_ret (pe_callB call_lenD (by rfl) T.len PySem.boot_len (pa_cons (pe_fld (pv 0) (by rfl)) pa_nil)))) pss_nil)
      (pss_cons (ps_set (i := 2) sc_tdo.nd rfl (Or.inl rfl) (pe_dget1 hu (pe_fld (pv 0) (by rfl)) (pe_ix ix_tup (pv 1) pe_int (fun _ _ => rfl)) ⟨rfl, rfl, rfl, rfl⟩))
      (pss_cons (ps_if (pt_cmpR op_eq (pe_ix ix_tup (pv 1) pe_int (fun _ _ => rfl)) pe_str (nomark _)) (pss_one (ps_ret (pe_me GS T.clT hr1 (pv 0) (pa_cons (pv 1) (pa_cons (pv 2) pa_nil))))) pss_nil)
      (pss_cons (ps_if (pt_cmpR op_eq (pe_ix ix_tup (pv 1) pe_int (fun _ _ => rfl)) pe_str (nomark _)) (pss_cons (ps_set (i := 2) sc_tdo.nd rfl (Or.inl rfl) (pe_op op_add (pe_ix ix_tup (pv 1) pe_int (fun _ _ => rfl)) (pe_dget2 hu (pe_fld (pv 0) (by rfl)) (pe_ix ix_tup (pv 1) pe_int (fun _ _ => rfl)) pe_int ⟨rfl, rfl, rfl, rfl⟩)))
      (pss_one (ps_dput hu (pe_fld (pv 0) (by rfl)) (pe_ix ix_tup (pv 1) pe_int (fun _ _ => rfl)) (pv 2) rfl))) (pss_one (ps_if (pt_cmpR op_eq (pe_ix ix_tup (pv 1) pe_int (fun _ _ => rfl)) pe_str (nomark _)) (pss_one (ps_dput hu (pe_fld (pv 0) (by rfl)) (pe_ix ix_tup (pv 1) pe_int (fun _ _ => rfl)) (pe_ix ix_tup (pv 1) pe_int (fun _ _ => rfl)) rfl)) (pss_one (ps_if (pt_cmpR op_eq (pe_ix ix_tup (pv 1) pe_int (fun _ _ => rfl)) pe_str (nomark _)) (pss_one (ps_expr (pe_dpop2 (pe_fld (pv 0) (by rfl)) (pe_ix ix_tup (pv 1) pe_int (fun _ _ => rfl)) pe_non ⟨rfl, rfl, rfl, rfl⟩))) pss_nil)))))
      (pss_one (ps_ret (pv 2))))))), ?_⟩
    refine ⟨_, rfl, pa, a, rfl, ha0, ok, fun H1 s1 => ⟨true, rfl, iteF ?_⟩⟩
    have hp := s1 _ _ hp0
    have hd := s1 _ _ hd0
    have ha := s1 _ _ ha0
    have k1 : Keep [d] H H1 := Keep.of s1
    have hl' : (tabV t).length < sizeLine := small1000 (by rw [tabV_len]; exact hl)
    have at0 : atI a.vs 0 = some (.str a.word) := by rw [ask_vs]; exact at_of (j := 0) rfl rfl
    refine ⟨_, rfl, pa, _, _, _, rfl, rfl, SqT.of ha, at0, rfl, _, rfl, ?_⟩
    have isd : IsD H1 d := .inl ⟨_, .inl hd⟩
    cases a with
    | many =>
      refine iteTd (decide_eq_true rfl) ?_
      refine ⟨_, rfl, p, CT, dx, _, _, rfl, hp, T.clT, T.nHeld, fT_held d, d, _, rfl, hd, ?_⟩
      rw [tabV_len]
      exact q H1 k1 hd
    | put k v =>
      have at1 : atI (Ask.put k v).vs 1 = some (.str k) := at_of (j := 1) rfl rfl
      have at2 : atI (Ask.put k v).vs 2 = some (.int v) := at_of (j := 2) rfl rfl
      refine iteFd (word_ns (x := "put") (by decide +kernel)) ?_
      refine ⟨_, rfl, p, CT, dx, _, _, rfl, hp, T.clT, T.nHeld, fT_held d, d, rfl, isd, _, rfl, pa, _, _, _, rfl, rfl, SqT.of ha, at1, _, DGet.k (k := Sum.inr k) hd, ?_⟩
      rw [valV_tab, opt_getD]
      refine ⟨_, rfl, pa, _, _, _, rfl, rfl, SqT.of ha, at0, rfl, _, rfl, iteFd (word_ns (x := "put") (by decide +kernel)) ?_⟩
      refine ⟨_, rfl, pa, _, _, _, rfl, rfl, SqT.of ha, at0, rfl, _, rfl, iteFd (word_ns (x := "put") (by decide +kernel)) ?_⟩
      refine ⟨_, rfl, pa, _, _, _, rfl, rfl, SqT.of ha, at0, rfl, _, rfl, iteTd (decide_eq_true rfl) ?_⟩
      refine ⟨_, rfl, pa, _, _, _, rfl, rfl, SqT.of ha, at2, _, rfl, p, CT, dx, _, _, rfl, hp, T.clT, T.nHeld, fT_held d, _, rfl, pa, _, _, _, rfl, rfl, SqT.of ha, at1, d, _, rfl, DPut.k (k := Sum.inr k) hd hl', ?_⟩
      refine ⟨_, rfl, ?_⟩
      have z := q _ (k1.put (p := d) (o := .dK (putK (tabV t) (Sum.inr k) (.int v))) (by simp)) (by rw [upd_same, putK_tab]; rfl)
      rw [doAsk, oA_v] at z
      exact z
    | add k v =>
      have at1 : atI (Ask.add k v).vs 1 = some (.str k) := at_of (j := 1) rfl rfl
      have at2 : atI (Ask.add k v).vs 2 = some (.int v) := at_of (j := 2) rfl rfl
      refine iteFd (word_ns (x := "add") (by decide +kernel)) ?_
      refine ⟨_, rfl, p, CT, dx, _, _, rfl, hp, T.clT, T.nHeld, fT_held d, d, rfl, isd, _, rfl, pa, _, _, _, rfl, rfl, SqT.of ha, at1, _, DGet.k (k := Sum.inr k) hd, ?_⟩
      rw [valV_tab, opt_getD]
      refine ⟨_, rfl, pa, _, _, _, rfl, rfl, SqT.of ha, at0, rfl, _, rfl, iteFd (word_ns (x := "add") (by decide +kernel)) ?_⟩
      refine ⟨_, rfl, pa, _, _, _, rfl, rfl, SqT.of ha, at0, rfl, _, rfl, iteTd (decide_eq_true rfl) ?_⟩
      refine ⟨_, rfl, pa, _, _, _, rfl, rfl, SqT.of ha, at2, _, rfl, p, CT, dx, _, _, rfl, hp, T.clT, T.nHeld, fT_held d, d, rfl, isd, _, rfl, pa, _, _, _, rfl, rfl, SqT.of ha, at1, _, DGet.k (k := Sum.inr k) hd, ?_⟩
      rw [valV_tab, opt_getD0]
      refine ⟨_, _, rfl, rfl, ?_⟩
      refine ⟨_, rfl, _, rfl, p, CT, dx, _, _, rfl, hp, T.clT, T.nHeld, fT_held d, _, rfl, pa, _, _, _, rfl, rfl, SqT.of ha, at1, d, _, rfl, DPut.k (k := Sum.inr k) hd hl', ?_⟩
      refine ⟨_, rfl, ?_⟩
      exact q _ (k1.put (p := d) (by simp)) (by rw [upd_same, putK_tab]; rfl)
    | drop k =>
      have at1 : atI (Ask.drop k).vs 1 = some (.str k) := at_of (j := 1) rfl rfl
      refine iteFd (word_ns (x := "drop") (by decide +kernel)) ?_
      refine ⟨_, rfl, p, CT, dx, _, _, rfl, hp, T.clT, T.nHeld, fT_held d, d, rfl, isd, _, rfl, pa, _, _, _, rfl, rfl, SqT.of ha, at1, _, DGet.k (k := Sum.inr k) hd, ?_⟩
      rw [valV_tab, opt_getD]
      refine ⟨_, rfl, pa, _, _, _, rfl, rfl, SqT.of ha, at0, rfl, _, rfl, iteFd (word_ns (x := "drop") (by decide +kernel)) ?_⟩
      refine ⟨_, rfl, pa, _, _, _, rfl, rfl, SqT.of ha, at0, rfl, _, rfl, iteFd (word_ns (x := "drop") (by decide +kernel)) ?_⟩
      refine ⟨_, rfl, pa, _, _, _, rfl, rfl, SqT.of ha, at0, rfl, _, rfl, iteFd (word_ns (x := "drop") (by decide +kernel)) ?_⟩
      refine ⟨_, rfl, pa, _, _, _, rfl, rfl, SqT.of ha, at0, rfl, _, rfl, iteTd (decide_eq_true rfl) ?_⟩
      rw [doAsk, oA_v] at q
      refine ⟨_, rfl, p, CT, dx, _, _, rfl, hp, T.clT, T.nHeld, fT_held d, d, rfl, isd, _, rfl, pa, _, _, _, rfl, rfl, SqT.of ha, at1, _, Sum.inr k, hd, rfl, fun v _ => ?_, fun hn => ?_⟩
      · exact ⟨_, rfl, q _ (k1.put (p := d) (by simp)) (by rw [upd_same, dropK_tab])⟩
      · refine ⟨_, rfl, q _ k1 ?_⟩
        rw [valV_tab] at hn
        have e : aget t k = none := by cases e : aget t k with | none => rfl | some _ => rw [e] at hn; cases hn
        rw [hd]
        show _ = some (HO.dK (tabV (adrop t k)))
        rw [drop_none t k e]
    | read k =>
      have at1 : atI (Ask.read k).vs 1 = some (.str k) := at_of (j := 1) rfl rfl
      refine iteFd (word_ns (x := "read") (by decide +kernel)) ?_
      refine ⟨_, rfl, p, CT, dx, _, _, rfl, hp, T.clT, T.nHeld, fT_held d, d, rfl, isd, _, rfl, pa, _, _, _, rfl, rfl, SqT.of ha, at1, _, DGet.k (k := Sum.inr k) hd, ?_⟩
      rw [valV_tab, opt_getD]
      refine ⟨_, rfl, pa, _, _, _, rfl, rfl, SqT.of ha, at0, rfl, _, rfl, iteFd (word_ns (x := "read") (by decide +kernel)) ?_⟩
      refine ⟨_, rfl, pa, _, _, _, rfl, rfl, SqT.of ha, at0, rfl, _, rfl, iteFd (word_ns (x := "read") (by decide +kernel)) ?_⟩
      refine ⟨_, rfl, pa, _, _, _, rfl, rfl, SqT.of ha, at0, rfl, _, rfl, iteFd (word_ns (x := "read") (by decide +kernel)) ?_⟩
      refine ⟨_, rfl, pa, _, _, _, rfl, rfl, SqT.of ha, at0, rfl, _, rfl, iteFd (word_ns (x := "read") (by decide +kernel)) ?_⟩
      rw [doAsk, oA_v] at q
      exact ⟨_, rfl, q _ k1 hd⟩
    | swap k o v =>
      have at1 : atI (Ask.swap k o v).vs 1 = some (.str k) := at_of (j := 1) rfl rfl
      refine iteFd (word_ns (x := "swap") (by decide +kernel)) ?_
      refine ⟨_, rfl, p, CT, dx, _, _, rfl, hp, T.clT, T.nHeld, fT_held d, d, rfl, isd, _, rfl, pa, _, _, _, rfl, rfl, SqT.of ha, at1, _, DGet.k (k := Sum.inr k) hd, ?_⟩
      rw [valV_tab, opt_getD]
      refine ⟨_, rfl, pa, _, _, _, rfl, rfl, SqT.of ha, at0, rfl, _, rfl, iteTd (decide_eq_true rfl) ?_⟩
      refine ⟨_, rfl, p, dx, _, rfl, hp, fT_no d (by decide +kernel), _, rfl, _, rfl, p, d, pa, t, k, o, v, rfl, ⟨⟨dx, hp⟩, hd⟩, ha, hl, fun H2 k2 h2 => ?_⟩
      exact q _ (k1.trans k2) h2

def spTTold (CT : Addr) : Sp := fun vs H Q _ => ∃ (p d : Addr) (t : Tab), vs = [.ref p] ∧ TabAt CT H p d t ∧ (t.map (·.1)).Nodup ∧ t.length < 64 ∧
  ∀ (q : Addr) (H' : Hp), Same H H' → H q = none → H' q = some (.dK (tabV (sortT t))) → Q (.ref q) H'
theorem sc_ttold : FnScope ["self", "key"] ["self"] (defScope (sTable 4)) := ⟨rfl, rfl, rfl, by decide +kernel, rfl, by decide +kernel, by decide +kernel⟩
theorem me_ttold (D : Mth K CT "told" "Table.told" (sTable 4) ["self"]) (T : Txt w K mg CT CB) : Me P w K mg base CT "told" 1 ["self"] (spTTold CT) := by
  obtain ⟨f, fd, F, b, m⟩ := D
  refine ⟨f, fd, F.ok sc_ttold (fun vs H Q E h => ?_) (fun cdv A outer s H vs Q E hr h => ?_), m, b⟩
  · obtain ⟨p, d, t, rfl, _⟩ := h
    rfl
  · obtain ⟨p, d, t, rfl, ⟨⟨dx, hp⟩, hd⟩, nd, hl, q⟩ := h
    have hu := hu_of hr
    refine ⟨_, pss_one (ps_ret (pe_callTy (call_dictP rfl) (by rfl) T.dict (by decide +kernel) (pa_cons (pe_lc (own := [("key", 1)]) (g := gName 1) (tt := tYes) (te := tTup (tCons (tVar 1) (tCons (tDGet (tFld K (tVar 0) "held") (tVar 1)) tNil))) rfl sc_ttold.nd (pi_list (pe_callB (call_sortedD rfl) (by rfl) T.sorted (by decide +kernel) (pa_cons (pe_fld (pv 0) (by rfl)) pa_nil))) (blkOk_by (own := [("key", 1)]) (N := ["self", "key"]) (sc := defScope (sTable 4)) (by decide +kernel)) (fun _ _ _ _ _ => pg_name (i := 1) sc_ttold.nd rfl (Or.inl rfl)) (fun _ _ _ _ _ => pts_nil) (fun _ _ _ _ _ => (pe_tup (pa_cons (pv 1) (pa_cons (pe_dget (by exact hu) (pe_fld (pv 0) (by rfl)) (pv 1) (fun _ _ => rfl)) pa_nil))))) pa_nil))), ?_⟩
    refine ⟨_, rfl, p, CT, dx, _, _, rfl, hp, T.clT, T.nHeld, fT_held d, d, tabV t, t.map (·.1), rfl, .inl hd, tabV_keys t, by rw [List.length_map]; exact hl, fun ys l py sy hln => ?_⟩
    have ey := sortT_keys py sy
    subst ey
    have npl : p ≠ l := ne_of_none hp hln
    have ndl : d ≠ l := ne_of_none hd hln
    refine ⟨l, rfl, ⟨_, SqL.of upd_same⟩, fun D hD => ?_⟩
    have nDl : l ≠ D := by
      intro e
      subst e
      rw [upd_same] at hD
      cases hD
    have hDn : H D = none := by rw [upd_ne nDl.symm] at hD; exact hD
    refine lc_list (K := K) (a := l) (xs := ((sortT t).map (·.1)).map V.str) (fun i H' => ∃ ps : List Addr, H' D = some (.lst (ps.map V.ref)) ∧ Paired (fun (a : Addr) (kv : Str × Int) => H' a = some (.tup [.str kv.1, .int kv.2])) ps ((sortT t).take i) ∧ Same (upd H l (.lst (((sortT t).map (·.1)).map V.str))) H')
      ⟨[], by rw [upd_same]; rfl, .nil, fun b o e => ?_⟩ (fun i H' _ ⟨ps, _, _, s2⟩ => SqL.of (s2 l _ upd_same)) (fun i x H' hx ⟨ps, h1, h2, s2⟩ => ?_) (fun H' ⟨ps, h1, h2, s2⟩ => ?_)
    · rw [upd_ne (ne_of_none e hD)]
      exact e
    · have sp := s2 p _ (by rw [upd_ne npl]; exact hp)
      have sd := s2 d _ (by rw [upd_ne ndl]; exact hd)
      obtain ⟨kv, hkv, rfl⟩ : ∃ kv, (sortT t)[i]? = some kv ∧ x = V.str kv.1 := by
        rw [List.getElem?_map, List.getElem?_map] at hx
        cases e : (sortT t)[i]? with
        | none => rw [e] at hx; cases hx
        | some kv => rw [e] at hx; exact ⟨kv, rfl, (Option.some.inj hx).symm⟩
      refine ⟨rfl, ?_⟩
      refine yesT ?_
      have hg : valV (tabV t) (Sum.inr kv.1 : Key) = some (.int kv.2) := by
        rw [valV_tab, sortT_get nd (List.mem_of_getElem? hkv)]
        rfl
      refine ⟨_, rfl, _, rfl, p, CT, dx, _, _, rfl, sp, T.clT, T.nHeld, fT_held d, _, rfl, d, .int kv.2, rfl, hg ▸ DGet.k (k := Sum.inr kv.1) sd, by show 2 ≤ sizeLine; decide, fun a ha => ?_⟩
      have naD : D ≠ a := ne_of_none h1 ha
      have lp : ps.length = ((sortT t).take i).length := Paired.length h2
      have hlen := sortT_len t
      refine ⟨ps.map V.ref, by rw [upd_ne naD]; exact h1, ?_, ps ++ [a], by rw [upd_same, List.map_append]; rfl, ?_, fun b o e => ?_⟩
      · rw [List.length_map, lp, List.length_take, sizeLine_eq]
        omega
      · have ti : (sortT t).take (i + 1) = (sortT t).take i ++ [kv] := by rw [List.take_add_one, hkv]; rfl
        rw [ti]
        refine paired_snoc (Paired.mapP h2 fun c z hc => ?_) ?_
        · have n1 : c ≠ D := ne_of hc h1 (by intro z; cases z)
          rw [upd_ne n1, upd_ne (ne_of_none hc ha)]
          exact hc
        · rw [upd_ne naD.symm, upd_same]
      · have e2 := s2 b o e
        rw [upd_ne (ne_of_none e hD), upd_ne (ne_of_none e2 ha)]
        exact e2
    · have hlen : (((sortT t).map (·.1)).map V.str).length = (sortT t).length := by rw [List.length_map, List.length_map]
      rw [hlen, List.take_length] at h2
      refine ⟨D, ps, tabV (sortT t), rfl, SqL.of h1, ?_, fun r hr0 => ?_⟩
      · have go : ∀ {as : List Addr} {bs : List (Str × Int)}, Paired (fun (a : Addr) (kv : Str × Int) => H' a = some (.tup [.str kv.1, .int kv.2])) as bs → Paired (fun (a : Addr) (kv : Key × V) => SqT K H' a [kV kv.1, kv.2]) as (tabV bs) := by
          intro as bs hh
          induction hh with
          | nil => exact .nil
          | cons r t ih => exact .cons (SqT.of r) ih
        exact go h2
      · rw [merge_nodup (tabV_nodup (sortT_nodup nd))]
        have same : Same H H' := fun b o e => s2 b o (by rw [upd_ne (ne_of_none e hln)]; exact e)
        exact q r _ (fun b o e => by rw [upd_ne (ne_of_none (same b o e) hr0)]; exact same b o e) (same.free hr0) upd_same
end
end K41
set_option Elab.async false
set_option maxRecDepth 100000
set_option maxHeartbeats 4000000
set_option linter.all false
/-! Books: made, done to. -/
namespace K41
open PySem PySem.Spec PyProof.Rows L2
def fB (tb dl : Addr) : List (Str × V) := putF "lasts" (.ref dl) (putF "own_table" (.ref tb) [])
theorem own_lasts : ¬ ("own_table" : Str) = "lasts" := by decide +kernel
theorem fB_lasts (tb dl : Addr) : (fB tb dl).lookup ("lasts" : Str) = some (.ref dl) := by
  unfold fB
  rw [lookup_putF, if_pos rfl]
theorem fB_own (tb dl : Addr) : (fB tb dl).lookup ("own_table" : Str) = some (.ref tb) := by
  unfold fB
  rw [lookup_putF, if_neg own_lasts, lookup_putF, if_pos rfl]
theorem fB_no (tb dl : Addr) {m : Str} (h1 : ¬ m = "lasts") (h2 : ¬ m = "own_table") : (fB tb dl).lookup m = none := by
  unfold fB
  rw [lookup_putF, if_neg h1, lookup_putF, if_neg h2]
  rfl
def LastV (H : Hp) (kv : Key × V) (p : Int × Int × Ans) : Prop := kv.1 = Sum.inl p.1 ∧ ∃ q, kv.2 = .ref q ∧ H q = some (.tup [.int p.2.1, p.2.2.v])
abbrev LastsV (H : Hp) : List (Key × V) → Lst → Prop := Paired (LastV H)
theorem LastsV.keeps {H H' : Hp} {kvs : List (Key × V)} {l : Lst} (t : Tups H H') (h : LastsV H kvs l) : LastsV H' kvs l := Paired.mapP h fun _ _ ⟨e, q, e2, h2⟩ => ⟨e, q, e2, t _ _ h2⟩
theorem lasts_get {H : Hp} (c : Int) : ∀ {kvs : List (Key × V)} {l : Lst}, LastsV H kvs l → (valV kvs (Sum.inl c : Key) = none ∧ aget l c = none) ∨ ∃ q n a, valV kvs (Sum.inl c : Key) = some (.ref q) ∧ aget l c = some (n, a) ∧ H q = some (.tup [.int n, a.v])
  | _, _, .nil => .inl ⟨rfl, rfl⟩
  | _, _, .cons (a := kv) (b := p) (l₁ := kvs) (l₂ := l) ⟨e, q, e2, h2⟩ t => by
    by_cases z : p.1 = c
    · refine .inr ⟨q, p.2.1, p.2.2, ?_, ?_, h2⟩
      · rw [valV_pos (p := kv) (e.trans (congrArg Sum.inl z)), e2]
      · rw [aget_pos z]
    · have z2 : ¬ kv.1 = Sum.inl c := fun y => z (Sum.inl.inj (e.symm.trans y))
      rw [valV_neg z2, aget_neg z]
      exact lasts_get c t
theorem lasts_any {H : Hp} (c : Int) : ∀ {kvs : List (Key × V)} {l : Lst}, LastsV H kvs l → (kvs.any fun kv => decide (kv.1 = (Sum.inl c : Key))) = l.any fun p => decide (p.1 = c) := fun {kvs l} h => by
  rw [valV_any, any_aget]
  rcases lasts_get c h with ⟨e1, e2⟩ | ⟨q, n, a, e1, e2, _⟩
  · rw [e1, e2]; rfl
  · rw [e1, e2]; rfl
theorem lasts_map {H : Hp} {c n : Int} {a : Ans} {q : Addr} (hq : H q = some (.tup [.int n, a.v])) : ∀ {kvs : List (Key × V)} {l : Lst}, LastsV H kvs l →
    LastsV H (kvs.map fun kv => if kv.1 = (Sum.inl c : Key) then (kv.1, .ref q) else kv) (l.map fun p => if p.1 = c then (p.1, (n, a)) else p)
  | _, _, .nil => .nil
  | _, _, .cons (a := kv) (b := p) (l₁ := kvs) (l₂ := l) ⟨e, q', e2, h2⟩ t => by
    rw [List.map_cons, List.map_cons]
    refine .cons ?_ (lasts_map hq t)
    by_cases z : p.1 = c
    · rw [if_pos z, if_pos (e.trans (congrArg Sum.inl z))]
      exact ⟨e, q, rfl, hq⟩
    · rw [if_neg z, if_neg (fun y => z (Sum.inl.inj (e.symm.trans y)))]
      exact ⟨e, q', e2, h2⟩
theorem lasts_put {H : Hp} {c n : Int} {a : Ans} {q : Addr} {kvs : List (Key × V)} {l : Lst} (h : LastsV H kvs l) (hq : H q = some (.tup [.int n, a.v])) : LastsV H (putK kvs (Sum.inl c : Key) (.ref q)) (aput l c (n, a)) := by
  unfold putK aput
  rw [lasts_any c h]
  split
  · exact lasts_map hq h
  · exact paired_snoc h ⟨rfl, q, rfl, hq⟩
theorem lasts_keys {H : Hp} : ∀ {kvs : List (Key × V)} {l : Lst}, LastsV H kvs l → kvs.map (·.1) = (l.map (·.1)).map Sum.inl
  | _, _, .nil => rfl
  | _, _, .cons (a := kv) (b := p) ⟨e, _⟩ t => by
    rw [List.map_cons, List.map_cons, List.map_cons, lasts_keys t, e]

/-- a book stands at p: its table at tb with the dict at dh, the last ones' dict at dl -/
structure BookAt (CT CB : Addr) (H : Hp) (p tb dh dl : Addr) (b : Bk) : Prop where
  ob : ∃ dx, H p = some (.ins CB dx (fB tb dl))
  ta : TabAt CT H tb dh b.1
  ld : ∃ kvs, H dl = some (.dK kvs) ∧ LastsV H kvs b.2
  ap : dh ≠ dl
theorem TabAt.keep {CT : Addr} {H H' : Hp} {p d : Addr} {t : Tab} {S : List Addr} (h : TabAt CT H p d t) (k : Keep S H H') (n1 : p ∉ S) (n2 : d ∉ S) : TabAt CT H' p d t :=
  ⟨let ⟨dx, e⟩ := h.ob; ⟨dx, k _ _ e n1⟩, k _ _ h.dc n2⟩
theorem BookAt.keep {CT CB : Addr} {H H' : Hp} {p tb dh dl : Addr} {b : Bk} {S : List Addr} (h : BookAt CT CB H p tb dh dl b) (k : Keep S H H') (t : Tups H H') (n1 : p ∉ S) (n2 : tb ∉ S) (n3 : dh ∉ S) (n4 : dl ∉ S) : BookAt CT CB H' p tb dh dl b :=
  ⟨let ⟨dx, e⟩ := h.ob; ⟨dx, k _ _ e n1⟩, h.ta.keep k n2 n3, let ⟨kvs, e, l⟩ := h.ld; ⟨kvs, k _ _ e n4, l.keeps t⟩, h.ap⟩
theorem BookAt.same {CT CB : Addr} {H H' : Hp} {p tb dh dl : Addr} {b : Bk} (h : BookAt CT CB H p tb dh dl b) (s : Same H H') : BookAt CT CB H' p tb dh dl b :=
  h.keep (Keep.of (S := []) s) (Same.tups s) (by simp) (by simp) (by simp) (by simp)
/-- the book's dicts are no tuples -/
theorem BookAt.notup {CT CB : Addr} {H : Hp} {p tb dh dl : Addr} {b : Bk} (h : BookAt CT CB H p tb dh dl b) : ∀ x ∈ [dh, dl], ∀ xs, H x ≠ some (.tup xs) := fun x hx xs e => by
  rcases List.mem_cons.mp hx with z | hx
  · subst z; rw [h.ta.dc] at e; cases e
  · have z := List.mem_singleton.mp hx
    subst z
    obtain ⟨kvs, q, _⟩ := h.ld
    rw [q] at e; cases e
def saidV : Said → List V
  | .late => [.str "late"]
  | .again x => [.str "again", x.v]
  | .done x => [.str "done", x.v]
section
variable {P : Program} {w : World} {K : PySem.W.Frag} {mg : Str → Option Value} {base : Heap} {CT CB : Addr}
def spBInit (CT CB : Addr) : Sp := fun vs H Q _ => ∃ (p dx : Addr), vs = [.ref p] ∧ H p = some (.ins CB dx []) ∧ ∀ (tb dh dl : Addr) (H' : Hp), H tb = none → H dh = none → H dl = none → BookAt CT CB H' p tb dh dl ([], []) → Keep [p] H H' → Q .non H'
theorem sc_binit : FnScope ["self"] ["self"] (defScope (sBook 0)) := ⟨rfl, rfl, rfl, by decide +kernel, rfl, by decide +kernel, by decide +kernel⟩
theorem im_book (D : Ini K CB "Book.__init__" (sBook 0) ["self"]) (T : Txt w K mg CT CB) (GI : Im P w K mg base CT 1 ["self"] (spTInit CT)) : Im P w K mg base CB 3 ["self"] (spBInit CT CB) := by
  obtain ⟨f, fd, F, b, m⟩ := D
  refine ⟨f, fd, F.ok sc_binit (fun vs H Q E h => ?_) (fun cdv A outer s H vs Q E hr h => ?_), m, b⟩
  · obtain ⟨p, dx, rfl, _⟩ := h
    rfl
  · obtain ⟨p, dx, rfl, hp, k⟩ := h
    have hr2 : Room (1 + 1) _ := hr
    refine ⟨_, pss_cons (ps_fld (pv 0) (pe_im GI hr2 (by rfl) T.mgT) rfl)
      (pss_one (ps_fld (pv 0) pe_dnewK rfl)), ?_⟩
    intro x xd nx nxd nex
    refine ⟨x, xd, rfl, upd_same, fun d H1 hd ta k1 => ⟨rfl, ?_⟩⟩
    have s0 : Same H (upd (upd H xd (.own x)) x (.ins CT xd [])) := fun b o e => by rw [upd_ne (ne_of_none e nx), upd_ne (ne_of_none e nxd)]; exact e
    have s1 : Same H H1 := fun b o e => k1 b o (s0 b o e) (by simp; exact ne_of_none e nx)
    have hp1 := s1 _ _ hp
    have hdn : H d = none := s0.free hd
    have npx : p ≠ x := ne_of_none hp nx
    have npd : p ≠ d := ne_of_none hp hdn
    refine ⟨_, rfl, p, CB, dx, [], rfl, hp1, T.clB, T.nOwn, (by show 0 < 1000; decide), ?_⟩
    intro l hl
    have hl1 : H1 l = none := by
      by_cases z : l = p
      · subst z; rw [upd_same] at hl; cases hl
      · rw [upd_ne z] at hl; exact hl
    have nlp : p ≠ l := ne_of_none hp1 hl1
    obtain ⟨xd2, hx1⟩ := ta.ob
    have nlx : x ≠ l := ne_of_none hx1 hl1
    have nld : d ≠ l := ne_of_none ta.dc hl1
    refine ⟨_, rfl, p, CB, dx, _, rfl, (by rw [upd_ne nlp, upd_same]), T.clB, T.nLasts, (by show 1 < 1000; decide), ?_⟩
    refine k x d l _ nx hdn (s1.free hl1) ⟨⟨dx, upd_same⟩, ⟨⟨xd2, ?_⟩, ?_⟩, ⟨[], ?_, .nil⟩, nld⟩ (((Keep.of s1).put (by simp)).new (s1.free hl1) |>.put (by simp))
    · rw [upd_ne npx.symm, upd_ne nlx, upd_ne npx.symm]; exact hx1
    · rw [upd_ne npd.symm, upd_ne nld, upd_ne npd.symm]; exact ta.dc
    · rw [upd_ne nlp.symm, upd_same]

def spBDo (CT CB : Addr) : Sp := fun vs H Q _ => ∃ (p tb dh dl pa : Addr) (b : Bk) (c n : Int) (a : Ask), vs = [.ref p, .int c, .int n, .ref pa] ∧ BookAt CT CB H p tb dh dl b ∧ H pa = some (.tup a.vs) ∧ ((0 ≤ c ∧ c ≤ 9) ∧ (1 ≤ n ∧ n ≤ 1000000) ∧ a.ok) ∧ b.1.length ≤ 1000 ∧ b.2.length < 1000 ∧
  ∀ (r : Addr) (H' : Hp), Keep [dh, dl] H H' → BookAt CT CB H' p tb dh dl (callB b c n a).1 → H' r = some (.tup (saidV (callB b c n a).2)) → Q (.ref r) H'
theorem sc_bdo : FnScope ["self", "caller", "number", "ask", "before", "answer"] ["self", "caller", "number", "ask"] (defScope (sBook 1)) := ⟨rfl, rfl, rfl, by decide +kernel, rfl, by decide +kernel, by decide +kernel⟩
theorem dec_int {i j : Int} {b : Bool} (h : decide (i = j) = b) : decide (V.int i = V.int j) = b := by
  rw [← h]
  by_cases e : i = j
  · subst e; rw [decide_eq_true rfl, decide_eq_true rfl]
  · rw [decide_eq_false e, decide_eq_false (fun z => e (V.int.inj z))]
theorem me_bdo (D : Mth K CB "do" "Book.do" (sBook 1) ["self", "caller", "number", "ask"]) (T : Txt w K mg CT CB) (GN : Fn P w K mg base "need_number" 3 ["thing", "least", "most"] spNeed) (GA : Fn P w K mg base "is_ask" 3 ["thing"] spAsk)
    (GD : Me P w K mg base CT "do" 4 ["self", "ask"] (spTDo CT)) : Me P w K mg base CB "do" 5 ["self", "caller", "number", "ask"] (spBDo CT CB) := by
  obtain ⟨f, fd, F, b, m⟩ := D
  refine ⟨f, fd, F.ok sc_bdo (fun vs H Q E h => ?_) (fun cdv A outer s H vs Q E hr h => ?_), m, b⟩
  · obtain ⟨p, tb, dh, dl, pa, b, c, n, a, rfl, _⟩ := h
    rfl
  · obtain ⟨p, tb, dh, dl, pa, b, c, n, a, rfl, B0, ha0, ⟨⟨c1, c2⟩, ⟨n1, n2⟩, ok⟩, hl1, hl2, q⟩ := h
    have hu := hu_of hr
    have hr3 : Room 3 _ := hr.mono (by decide)
    refine ⟨_, pss_cons (ps_expr (pe_fn GN hr3 (by rfl) (pa_cons (pv 1) (pa_cons pe_int (pa_cons (pe_gint T.lastc (by rfl)) pa_nil)))))
      (pss_cons (ps_expr (pe_fn GN hr3 (by rfl) (pa_cons (pv 2) (pa_cons pe_int (pa_cons (pe_gint T.most (by rfl)) pa_nil)))))
      (pss_cons (ps_if (pt_not (pt_val (pe_fn GA hr3 (by rfl) (pa_cons (pv 3) pa_nil)))) pss_never pss_nil)
      (pss_cons (ps_asg (pe_dget2 hu (pe_fld (pv 0) (by rfl)) (pv 1) (pe_tup (pa_cons pe_int (pa_cons pe_non pa_nil))) ⟨rfl, rfl, rfl, rfl⟩) (pg_tup (by rfl) (pgs_cons (pg_name (i := 4) sc_bdo.nd rfl (Or.inl rfl)) (pgs_cons (pg_name (i := 5) sc_bdo.nd rfl (Or.inl rfl)) pgs_nil))))
      (pss_cons (ps_if (pt_cmpR op_lt (pv 2) (pv 4) (nomark _)) (pss_one (ps_ret (pe_tup (pa_cons pe_str pa_nil)))) pss_nil)
      (pss_cons (ps_if (pt_cmpR op_eq (pv 2) (pv 4) (nomark _)) (pss_one (ps_ret (pe_tup (pa_cons pe_str (pa_cons (pv 5) pa_nil))))) pss_nil)
      (pss_cons (ps_set (i := 5) sc_bdo.nd rfl (Or.inl rfl) (pe_me GD T.clT hr (pe_fld (pv 0) (by rfl)) (pa_cons (pv 3) pa_nil)))
      (pss_cons (ps_dput hu (pe_fld (pv 0) (by rfl)) (pv 1) (pe_tup (pa_cons (pv 2) (pa_cons (pv 5) pa_nil))) rfl)
      (pss_one (ps_ret (pe_tup (pa_cons pe_str (pa_cons (pv 5) pa_nil)))))))))))), ?_⟩
    refine ⟨_, rfl, c, 0, 9, rfl, c1, c2, ?_⟩
    refine ⟨_, rfl, n, 1, 1000000, rfl, n1, n2, ?_⟩
    refine ⟨_, rfl, pa, a, rfl, ha0, ok, fun H1 s1 => ⟨true, rfl, iteF ?_⟩⟩
    have B := B0.same s1
    have ha := s1 _ _ ha0
    obtain ⟨dx, hp⟩ := B.ob
    obtain ⟨kvs, hd, ls⟩ := B.ld
    refine ⟨_, rfl, p, CB, dx, _, _, rfl, hp, T.clB, T.nLasts, fB_lasts tb dl, dl, rfl, .inl ⟨_, .inl hd⟩, _, rfl, by show 2 ≤ sizeLine; decide, fun z hz => ?_⟩
    have s2 : Same H1 (upd H1 z (.tup [.int 0, .non])) := fun b o e => by rw [upd_ne (ne_of_none e hz)]; exact e
    have hz2 : (upd H1 z (.tup [.int 0, .non])) z = some (.tup [.int 0, .non]) := upd_same
    generalize upd H1 z (.tup [.int 0, .non]) = H2 at s2 hz2
    have B2 := B.same s2
    have hd2 := s2 _ _ hd
    have ls2 : LastsV H2 kvs b.2 := ls.keeps (Same.tups s2)
    have hp2 := s2 _ _ hp
    have s02 : Same H H2 := s1.trans s2
    refine ⟨_, DGet.k (k := Sum.inl c) hd2, ?_⟩
    obtain ⟨r, hr0, hr1⟩ : ∃ r, (valV kvs (Sum.inl c : Key)).getD (.ref z) = .ref r ∧ H2 r = some (.tup [.int (was b.2 c).1, (was b.2 c).2.v]) := by
      unfold was
      rcases lasts_get c ls2 with ⟨e1, e2⟩ | ⟨r, m, x, e1, e2, h⟩
      · rw [e1, e2]; exact ⟨z, rfl, hz2⟩
      · rw [e1, e2]; exact ⟨r, rfl, h⟩
    rw [hr0]
    refine ⟨r, _, rfl, SqT.of hr1, rfl, _, _, rfl, _, _, rfl, rfl, ?_⟩
    generalize hw : was b.2 c = W at hr1
    -- number < before
    refine ⟨_, rfl, _, rfl, _, _, rfl, rfl, _, rfl, ?_⟩
    unfold callB at q
    rw [hw] at q
    by_cases h1 : n < W.1
    · rw [decide_eq_true h1]
      rw [if_pos h1] at q
      refine iteT ⟨by show 1 ≤ sizeLine; decide, fun t ht => ?_⟩
      exact q t _ (Keep.of (fun b o e => by rw [upd_ne (ne_of_none (s02 b o e) ht)]; exact s02 b o e)) (B2.same fun b o e => by rw [upd_ne (ne_of_none e ht)]; exact e) upd_same
    · rw [decide_eq_false h1]
      rw [if_neg h1] at q
      refine iteF ?_
      refine ⟨_, rfl, _, rfl, rfl, _, rfl, ?_⟩
      by_cases h2 : n = W.1
      · refine iteTd (dec_int (decide_eq_true h2)) ?_
        rw [if_pos h2] at q
        refine ⟨_, rfl, by show 2 ≤ sizeLine; decide, fun t ht => ?_⟩
        exact q t _ (Keep.of (fun b o e => by rw [upd_ne (ne_of_none (s02 b o e) ht)]; exact s02 b o e)) (B2.same fun b o e => by rw [upd_ne (ne_of_none e ht)]; exact e) upd_same
      · refine iteFd (dec_int (decide_eq_false h2)) ?_
        rw [if_neg h2] at q
        obtain ⟨tdx, htb⟩ := B2.ta.ob
        refine ⟨_, rfl, p, CB, dx, _, _, rfl, hp2, T.clB, T.nOwn, fB_own tb dl, tb, tdx, _, rfl, htb, fT_no dh (by decide +kernel), _, rfl, tb, dh, pa, b.1, a, rfl, B2.ta, s2 _ _ ha, ok, hl1, fun H3 k3 h3 => ?_⟩
        -- self.lasts[caller] = (number, answer)
        -- self.lasts[caller] = (number, answer)
        have t3 : Tups H2 H3 := k3.tups fun x hx xs e => by
          have z := List.mem_singleton.mp hx
          subst z
          rw [B2.ta.dc] at e
          cases e
        have ndd : dl ∉ [dh] := fun z => B2.ap (List.mem_singleton.mp z).symm
        have npd : p ∉ [dh] := fun z => by
          have z := List.mem_singleton.mp z
          subst z
          have e := B2.ta.dc
          rw [hp2] at e
          cases e
        have ntd : tb ∉ [dh] := fun z => by
          have z := List.mem_singleton.mp z
          subst z
          have e := B2.ta.dc
          rw [htb] at e
          cases e
        have hd3 := k3 _ _ hd2 ndd
        have hp3 := k3 _ _ hp2 npd
        have htb3 := k3 _ _ htb ntd
        have ls3 := ls2.keeps t3
        refine ⟨_, rfl, _, rfl, by show 2 ≤ sizeLine; decide, fun t ht => ?_⟩
        have s4 : Same H3 (upd H3 t (.tup [.int n, (doAsk b.1 a).2.v])) := fun b o e => by rw [upd_ne (ne_of_none e ht)]; exact e
        have ht4 : (upd H3 t (.tup [.int n, (doAsk b.1 a).2.v])) t = some (.tup [.int n, (doAsk b.1 a).2.v]) := upd_same
        generalize upd H3 t (.tup [.int n, (doAsk b.1 a).2.v]) = H4 at s4 ht4
        have hd4 := s4 _ _ hd3
        have hp4 := s4 _ _ hp3
        have ls4 := ls3.keeps (Same.tups s4)
        refine ⟨_, rfl, p, CB, dx, _, _, rfl, hp4, T.clB, T.nLasts, fB_lasts tb dl, _, rfl, dl, _, rfl, DPut.k (k := Sum.inl c) hd4 (small1000 (by rw [← List.length_map (f := (·.1)), lasts_keys ls4, List.length_map, List.length_map]; omega)), ?_⟩
        have npl : p ≠ dl := ne_of hp4 hd4 (by intro z; cases z)
        have ntl : tb ≠ dl := ne_of (s4 _ _ htb3) hd4 (by intro z; cases z)
        have ntt : t ≠ dl := ne_of ht4 hd4 (by intro z; cases z)
        have t5 : Tups H4 (upd H4 dl (.dK (putK kvs (Sum.inl c) (.ref t)))) := fun b xs e => by rw [upd_ne (ne_of e hd4 (by intro z; cases z))]; exact e
        refine ⟨_, rfl, by show 2 ≤ sizeLine; decide, fun u hu5 => ?_⟩
        have k5 : Keep [dh, dl] H (upd H4 dl (.dK (putK kvs (Sum.inl c) (.ref t)))) :=
          (((Keep.of s02).trans (k3.mono (by intro x hx; simp at hx; simp [hx]))).trans (Keep.of s4)).put (by simp)
        have B5 : BookAt CT CB (upd H4 dl (.dK (putK kvs (Sum.inl c) (.ref t)))) p tb dh dl ((doAsk b.1 a).1, aput b.2 c (n, (doAsk b.1 a).2)) := by
          refine ⟨⟨dx, by rw [upd_ne npl]; exact hp4⟩, ⟨⟨tdx, by rw [upd_ne ntl]; exact s4 _ _ htb3⟩, by rw [upd_ne B2.ap]; exact s4 _ _ h3⟩, ⟨_, upd_same, ?_⟩, B2.ap⟩
          exact lasts_put (ls4.keeps t5) (t5 _ _ ht4)
        generalize upd H4 dl (.dK (putK kvs (Sum.inl c) (.ref t))) = H5 at k5 B5 hu5
        have s6 : Same H5 (upd H5 u (.tup [.str "done", (doAsk b.1 a).2.v])) := fun b o e => by rw [upd_ne (ne_of_none e hu5)]; exact e
        exact q u _ (k5.trans (Keep.of s6)) (B5.same s6) upd_same

def spBTable (CT CB : Addr) : Sp := fun vs H Q _ => ∃ (p tb dh dl : Addr) (b : Bk), vs = [.ref p] ∧ BookAt CT CB H p tb dh dl b ∧ (b.1.map (·.1)).Nodup ∧ b.1.length < 64 ∧
  ∀ (q : Addr) (H' : Hp), Same H H' → H q = none → H' q = some (.dK (tabV (sortT b.1))) → Q (.ref q) H'
theorem sc_btable : FnScope ["self"] ["self"] (defScope (sBook 3)) := ⟨rfl, rfl, rfl, by decide +kernel, rfl, by decide +kernel, by decide +kernel⟩
theorem me_btable (D : Mth K CB "table" "Book.table" (sBook 3) ["self"]) (T : Txt w K mg CT CB) (GT : Me P w K mg base CT "told" 1 ["self"] (spTTold CT)) : Me P w K mg base CB "table" 2 ["self"] (spBTable CT CB) := by
  obtain ⟨f, fd, F, b, m⟩ := D
  refine ⟨f, fd, F.ok sc_btable (fun vs H Q E h => ?_) (fun cdv A outer s H vs Q E hr h => ?_), m, b⟩
  · obtain ⟨p, tb, dh, dl, b, rfl, _⟩ := h
    rfl
  · obtain ⟨p, tb, dh, dl, b, rfl, B, nd, hl, q⟩ := h
    obtain ⟨dx, hp⟩ := B.ob
    obtain ⟨tdx, htb⟩ := B.ta.ob
    refine ⟨_, pss_one (ps_ret (pe_me0 GT T.clT hr (pe_fld (pv 0) (by rfl)))), ?_⟩
    exact ⟨_, rfl, p, CB, dx, _, _, rfl, hp, T.clB, T.nOwn, fB_own tb dl, tb, tdx, _, rfl, htb, fT_no dh (by decide +kernel), tb, dh, b.1, rfl, B.ta, nd, hl, q⟩
end
end K41
set_option Elab.async false
set_option maxRecDepth 100000
set_option maxHeartbeats 4000000
set_option linter.all false
/-! A book's text. -/
namespace K41
open PySem PySem.Spec PyProof.Rows L2
def numText (i : Int) : Str := Str.ofString (toString i)
def ansText : Ans → Str
  | .non => "none"
  | .bl b => if b = true then "true" else "false"
  | .int i => numText i
abbrev wBook : List Str := ["book"]
abbrev wAt (p : Str × Int) : List Str := ["at", p.1, numText p.2]
abbrev wBy (l : Lst) (c : Int) : List Str := ["by", numText c, numText (was l c).1, ansText (was l c).2]
def tabWords (t : Tab) : List Str := t.flatMap wAt
def lstWords (l : Lst) (cs : List Int) : List Str := cs.flatMap (wBy l)
def sortC (l : Lst) : List Int := (l.map (·.1)).mergeSort fun a b => decide (a ≤ b)
def bookWords (b : Bk) : List Str := wBook ++ tabWords (sortT b.1) ++ lstWords b.2 (sortC b.2)
def bookText (b : Bk) : Str := Txt.join " " (bookWords b)
theorem sortC_uniq {l : Lst} {ys : List Int} (p : ys.Perm (l.map (·.1))) (s : ys.Pairwise (· ≤ ·)) : ys = sortC l := by
  have p2 : (sortC l).Perm (l.map (·.1)) := List.mergeSort_perm _ _
  have s2 : (sortC l).Pairwise (fun a b : Int => a ≤ b) := by
    have q := List.pairwise_mergeSort (le := fun a b : Int => decide (a ≤ b)) (fun a b c h1 h2 => by have h1 := of_decide_eq_true h1; have h2 := of_decide_eq_true h2; exact decide_eq_true (Int.le_trans h1 h2))
      (fun a b => by simp; omega) (l.map (·.1))
    exact q.imp fun h => of_decide_eq_true h
  exact uniq (p.trans p2.symm) s s2 fun x _ y _ a b => Int.le_antisymm a b
theorem sortC_mem {l : Lst} {c : Int} (h : c ∈ sortC l) : c ∈ l.map (·.1) := (List.mergeSort_perm _ _).mem_iff.mp h
theorem sortC_len (l : Lst) : (sortC l).length = l.length := by
  unfold sortC
  rw [(List.mergeSort_perm _ _).length_eq, List.length_map]
theorem tabWords_len : ∀ t : Tab, (tabWords t).length = 3 * t.length
  | [] => rfl
  | p :: t => by
    show (wAt p ++ tabWords t).length = 3 * (t.length + 1)
    rw [List.length_append, tabWords_len t]
    have e : (wAt p).length = 3 := rfl
    omega
theorem lstWords_len (l : Lst) : ∀ cs : List Int, (lstWords l cs).length = 4 * cs.length
  | [] => rfl
  | c :: cs => by
    show (wBy l c ++ lstWords l cs).length = 4 * (cs.length + 1)
    rw [List.length_append, lstWords_len l cs]
    have e : (wBy l c).length = 4 := rfl
    omega
theorem tabWords_snoc (t : Tab) (p : Str × Int) : tabWords (t ++ [p]) = tabWords t ++ wAt p := by
  unfold tabWords
  rw [List.flatMap_append]
  rfl
theorem lstWords_snoc (l : Lst) (cs : List Int) (c : Int) : lstWords l (cs ++ [c]) = lstWords l cs ++ wBy l c := by
  unfold lstWords
  rw [List.flatMap_append]
  rfl
theorem num_len {i : Int} (h : i.natAbs < 1000000000000000000) : (numText i).length ≤ 20 := by
  have e := int_text_length_le10 (a := i) (k := 18) (by decide) (Nat.lt_of_lt_of_le h (by decide))
  unfold numText
  rw [PySem.ofString_length]
  omega
theorem num_log {i : Int} (h : i.natAbs < 1000000000000000000) : i.natAbs.log2 < 1920 := by
  have := log_small (n := i.natAbs) (Nat.lt_of_lt_of_le h (by decide))
  omega
theorem words_sum : ∀ {ws : List Str}, (∀ x ∈ ws, x.length ≤ 24) → (ws.map (·.length)).sum ≤ 24 * ws.length
  | [], _ => Nat.le_refl _
  | x :: ws, h => by
    have h1 := h x List.mem_cons_self
    have h2 := words_sum (ws := ws) fun y hy => h y (List.mem_cons_of_mem _ hy)
    rw [List.map_cons, List.sum_cons, List.length_cons]
    omega
/-- bounds of what a book holds -/
structure Small (b : Bk) : Prop where
  tn : (b.1.map (·.1)).Nodup
  tl : b.1.length < 64
  tk : ∀ p ∈ b.1, KeyOk p.1 ∧ p.2.natAbs < 1000000000000000000
  ll : b.2.length < 64
  ln : (b.2.map (·.1)).Nodup
  lb : ∀ p ∈ b.2, (0 ≤ p.1 ∧ p.1 ≤ 9) ∧ (1 ≤ p.2.1 ∧ p.2.1 ≤ 1000000) ∧ ∀ i, p.2.2 = .int i → i.natAbs < 1000000000000000000
theorem Good.small {m : Nat} {b : Bk} (g : Good m b) (h : m ≤ 63) : Small b :=
  ⟨g.tn, Nat.lt_of_le_of_lt g.tl (by omega), fun p hp => ⟨(g.tk p hp).1, by have := (g.tk p hp).2; omega⟩, Nat.lt_of_le_of_lt g.ll (by omega), g.ln,
    fun p hp => ⟨(g.lb p hp).1, (g.lb p hp).2.1, fun i e => by have := (g.lb p hp).2.2 i e; omega⟩⟩
theorem ans_len {x : Ans} (h : ∀ i, x = .int i → i.natAbs < 1000000000000000000) : (ansText x).length ≤ 24 := by
  cases x with
  | non => decide +kernel
  | bl b => cases b <;> decide +kernel
  | int i => have := num_len (h i rfl); show (numText i).length ≤ 24; omega
theorem was_mem {l : Lst} {c : Int} (h : c ∈ l.map (·.1)) : ∃ p, aget l c = some p ∧ was l c = p := by
  cases e : aget l c with
  | none => exact absurd h (aget_none e)
  | some p => exact ⟨p, rfl, by unfold was; rw [e]; rfl⟩
theorem words_short {b : Bk} (g : Small b) : ∀ x ∈ bookWords b, x.length ≤ 24 := by
  have e1 : ("book" : Str).length ≤ 24 := by decide +kernel
  have e2 : ("at" : Str).length ≤ 24 := by decide +kernel
  have e3 : ("by" : Str).length ≤ 24 := by decide +kernel
  intro x hx
  unfold bookWords at hx
  rcases List.mem_append.mp hx with hx | hx
  · rcases List.mem_append.mp hx with hx | hx
    · rw [List.mem_singleton.mp hx]; exact e1
    · obtain ⟨p, hp, hx⟩ := List.mem_flatMap.mp hx
      have hb := g.tk p ((sortT_perm b.1).mem_iff.mp hp)
      have hk := hb.1.2.1
      have hn := num_len hb.2
      rcases List.mem_cons.mp hx with e | hx
      · rw [e]; exact e2
      · rcases List.mem_cons.mp hx with e | hx
        · rw [e]; omega
        · rw [List.mem_singleton.mp hx]; omega
  · obtain ⟨c, hc, hx⟩ := List.mem_flatMap.mp hx
    obtain ⟨p, ep, wp⟩ := was_mem (sortC_mem hc)
    have hb := g.lb (c, p) (aget_mem ep)
    have n1 := num_len (i := c) (by have := hb.1; omega)
    have n2 := num_len (i := p.1) (by have := hb.2.1; simp only at this; omega)
    have n3 := ans_len hb.2.2
    have hx : x ∈ (["by", numText c, numText (was b.2 c).1, ansText (was b.2 c).2] : List Str) := hx
    rw [wp] at hx
    rcases List.mem_cons.mp hx with e | hx
    · rw [e]; exact e3
    · rcases List.mem_cons.mp hx with e | hx
      · rw [e]; omega
      · rcases List.mem_cons.mp hx with e | hx
        · rw [e]; omega
        · rw [List.mem_singleton.mp hx]; exact n3
section
variable {P : Program} {w : World} {K : PySem.W.Frag} {mg : Str → Option Value} {base : Heap} {CT CB : Addr}
def spAText : Sp := fun vs H Q _ => ∃ x : Ans, vs = [x.v] ∧ (∀ i, x = .int i → i.natAbs < 1000000000000000000) ∧ Q (.str (ansText x)) H
theorem sc_atext : FnScope ["answer"] ["answer"] (defScope (top 22)) := ⟨rfl, rfl, rfl, by decide +kernel, rfl, by decide +kernel, by decide +kernel⟩
theorem fn_atext (D : Def K mg "answer_text" (top 22) ["answer"]) (T : Txt w K mg CT CB) : Fn P w K mg base "answer_text" 1 ["answer"] spAText := by
  obtain ⟨f, fd, F, b, m⟩ := D
  refine ⟨f, fd, F.ok sc_atext (fun vs H Q E h => ?_) (fun cdv A outer s H vs Q E hr h => ?_), m, F.kp, b⟩
  · obtain ⟨x, rfl, _⟩ := h
    rfl
  · obtain ⟨x, rfl, hb, q⟩ := h
    refine ⟨_, pss_cons (ps_if (pt_cmp (pc_isN (pv 0))) (pss_one (ps_ret pe_str)) pss_nil)
      (pss_cons (ps_if (pt_val (pe_callB call_isi (by rfl) T.isi (by decide +kernel) (pa_cons (pv 0) (pa_cons (pe_gty (T := "bool") T.bool (by rfl) (by decide +kernel)) pa_nil)))) (pss_one (ps_ret (pe_ifExp (pt_val (pv 0)) pe_str pe_str))) pss_nil)
      (pss_one (ps_ret (pe_callTy call_str_int (by rfl) T.str (by decide +kernel) (pa_cons (pv 0) pa_nil))))), ?_⟩
    cases x with
    | non =>
      refine ⟨_, rfl, _, rfl, ?_⟩
      exact iteTd (decide_eq_true rfl) q
    | bl v =>
      refine ⟨_, rfl, _, rfl, ?_⟩
      refine iteFd (decide_eq_false (fun z => nomatch z)) ?_
      refine ⟨_, rfl, _, _, _, _, true, rfl, .ty _, .base (.bl _), kit_ty (by decide +kernel), true, rfl, iteT ?_⟩
      refine ⟨_, rfl, v, rfl, ?_⟩
      cases v with
      | true => exact iteT q
      | false => exact iteF q
    | int i =>
      refine ⟨_, rfl, _, rfl, ?_⟩
      refine iteFd (decide_eq_false (fun z => nomatch z)) ?_
      refine ⟨_, rfl, _, _, _, _, false, rfl, .ty _, .base (.int _), kit_ty (by decide +kernel), false, rfl, iteF ?_⟩
      exact ⟨_, rfl, i, rfl, num_log (hb i rfl), q⟩

def spBTold (CT CB : Addr) : Sp := fun vs H Q _ => ∃ (p tb dh dl : Addr) (b : Bk), vs = [.ref p] ∧ BookAt CT CB H p tb dh dl b ∧ Small b ∧ ∀ H', Same H H' → Q (.str (bookText b)) H'
theorem sc_btold : FnScope ["self", "words", "key", "number", "caller", "answer"] ["self"] (defScope (sBook 4)) := ⟨rfl, rfl, rfl, by decide +kernel, rfl, by decide +kernel, by decide +kernel⟩
theorem me_btold (D : Mth K CB "told" "Book.told" (sBook 4) ["self"]) (T : Txt w K mg CT CB) (GT : Me P w K mg base CT "told" 1 ["self"] (spTTold CT)) (GX : Fn P w K mg base "answer_text" 1 ["answer"] spAText) :
    Me P w K mg base CB "told" 2 ["self"] (spBTold CT CB) := by
  obtain ⟨f, fd, F, b, m⟩ := D
  refine ⟨f, fd, F.ok sc_btold (fun vs H Q E h => ?_) (fun cdv A outer s H vs Q E hr h => ?_), m, b⟩
  · obtain ⟨p, tb, dh, dl, b, rfl, _⟩ := h
    rfl
  · obtain ⟨p, tb, dh, dl, b, rfl, B, sm, q⟩ := h
    have hu := hu_of hr
    obtain ⟨dx, hp⟩ := B.ob
    obtain ⟨tdx, htb⟩ := B.ta.ob
    obtain ⟨kvs, hd, ls⟩ := B.ld
    have hlt := sortT_len b.1
    have hlc := sortC_len b.2
    have htl := sm.tl
    have hll := sm.ll
    refine ⟨_, pss_cons (ps_set (i := 1) sc_btold.nd rfl (Or.inl rfl) (pe_lst (pa_cons pe_str pa_nil)))
      (pss_cons (ps_for PassesOwn.never rfl (pi_items (pe_frz (pe_me0 GT T.clT hr (pe_fld (pv 0) (by rfl))))) (pg_tup (by rfl) (pgs_cons (pg_name (i := 2) sc_btold.nd rfl (Or.inl rfl)) (pgs_cons (pg_name (i := 3) sc_btold.nd rfl (Or.inl rfl)) pgs_nil)))
      (pss_one (ps_expr (pe_bm PySem.F.plainAttrs_list PySem.F.slot_list_extend PySem.F.type_list_extend mt_extend (pv 1) (pa_cons (pe_lst (pa_cons pe_str (pa_cons (pv 2) (pa_cons (pe_callTy call_str_int (by rfl) T.str (by decide +kernel) (pa_cons (pv 3) pa_nil)) pa_nil)))) pa_nil)))))
      (pss_cons (ps_for PassesOwn.never rfl (pi_list (pe_callB (call_sortedDI rfl) (by rfl) T.sorted (by decide +kernel) (pa_cons (pe_fld (pv 0) (by rfl)) pa_nil))) (pg_name (i := 4) sc_btold.nd rfl (Or.inl rfl))
      (pss_cons (ps_asg (pe_dget (by exact hu) (pe_fld (pv 0) (by rfl)) (pv 4) (fun _ _ => rfl)) (pg_tup (by rfl) (pgs_cons (pg_name (i := 3) sc_btold.nd rfl (Or.inl rfl)) (pgs_cons (pg_name (i := 5) sc_btold.nd rfl (Or.inl rfl)) pgs_nil))))
      (pss_one (ps_expr (pe_bm PySem.F.plainAttrs_list PySem.F.slot_list_extend PySem.F.type_list_extend mt_extend (pv 1) (pa_cons (pe_lst (pa_cons pe_str (pa_cons (pe_callTy call_str_int (by rfl) T.str (by decide +kernel) (pa_cons (pv 4) pa_nil)) (pa_cons (pe_callTy call_str_int (by rfl) T.str (by decide +kernel) (pa_cons (pv 3) pa_nil)) (pa_cons (pe_fn GX hr (by rfl) (pa_cons (pv 5) pa_nil)) pa_nil))))) pa_nil))))))
      (pss_one (ps_ret (pe_join pe_str (pv 1)))))), ?_⟩
    -- words = ["book"]
    refine ⟨by show 1 ≤ sizeLine; decide, fun wl hwl => ?_⟩
    have s1 : Same H (upd H wl (.lst [.str "book"])) := fun c o e => by rw [upd_ne (ne_of_none e hwl)]; exact e
    have hw1 : (upd H wl (.lst [.str "book"])) wl = some (.lst [.str "book"]) := upd_same
    generalize upd H wl (.lst [.str "book"]) = H1 at s1 hw1
    have B1 := B.same s1
    -- the first loop
    refine ⟨_, rfl, p, CB, dx, _, _, rfl, s1 _ _ hp, T.clB, T.nOwn, fB_own tb dl, tb, tdx, _, rfl, s1 _ _ htb, fT_no dh (by decide +kernel), tb, dh, b.1, rfl, B1.ta, sm.tn, sm.tl, fun t H2 s2 ht1 ht2 => ⟨t, _, rfl, ht2, trivial, fun od => ?_⟩⟩
    have nwt : wl ≠ t := ne_of_none hw1 ht1
    have s3 : Same H1 (upd H2 t (.frz od (.dK (tabV (sortT b.1))))) := fun c o e => by rw [upd_ne (ne_of_none e ht1)]; exact s2 c o e
    have ht3 : (upd H2 t (.frz od (.dK (tabV (sortT b.1))))) t = some (.frz od (.dK (tabV (sortT b.1)))) := upd_same
    generalize upd H2 t (.frz od (.dK (tabV (sortT b.1)))) = H3 at s3 ht3
    refine ⟨t, od, tabV (sortT b.1), rfl, ht3, for_it walk_items (fun i σ H' => (∃ o2 o3, σ = [some (.ref p), some (.ref wl), o2, o3, none, none]) ∧ H' wl = some (.lst ((wBook ++ tabWords ((sortT b.1).take i)).map V.str)) ∧ Keep [wl] H3 H')
      ⟨⟨none, none, rfl⟩, s3 _ _ hw1, Keep.refl⟩ (fun i σ H' _ ⟨_, _, k⟩ => k t _ ht3 (by simp; exact nwt.symm)) ?_ ?_⟩
    · rintro i x σ H' H'' hi ⟨⟨o2, o3, rfl⟩, hw, k⟩ ⟨Tp, kk, vv, rfl, hT, rfl, hk, hv⟩
      obtain ⟨kv, hkv⟩ : ∃ kv, (sortT b.1)[i]? = some kv := by
        rw [tabV_len] at hi
        exact ⟨_, List.getElem?_eq_getElem hi⟩
      have hki : (tabV (sortT b.1))[i]? = some (Sum.inr kv.1, V.int kv.2) := by
        unfold tabV
        rw [List.getElem?_map, hkv]
        rfl
      dsimp only at hk hv
      rw [hki] at hk hv
      have ek : kk = .str kv.1 := (Option.some.inj hk).symm
      have ev : vv = .int kv.2 := (Option.some.inj hv).symm
      subst ek ev
      have hb := sm.tk kv ((sortT_perm b.1).mem_iff.mp (List.mem_of_getElem? hkv))
      have nwT : wl ≠ Tp := ne_of_none hw hT
      have hw2 : (upd H' Tp (.tup [.str kv.1, .int kv.2])) wl = some (.lst ((wBook ++ tabWords ((sortT b.1).take i)).map V.str)) := by rw [upd_ne nwT]; exact hw
      refine ⟨Tp, _, rfl, SqT.of upd_same, rfl, _, _, rfl, _, _, rfl, rfl, ?_⟩
      refine ⟨_, rfl, .inl ⟨rfl, _, SqL.of hw2⟩, _, rfl, _, rfl, kv.2, rfl, num_log hb.2, by show 3 ≤ sizeLine; decide, fun l hln => ?_⟩
      have nwl : wl ≠ l := ne_of_none hw2 hln
      refine ⟨wl, l, _, _, rfl, rfl, by rw [upd_ne nwl]; exact hw2, upd_same, ?_, ?_⟩
      · rw [List.length_map, List.length_append, tabWords_len, List.length_take, sizeLine_eq]
        show 1 + _ + 3 ≤ _
        omega
      · refine ⟨⟨_, _, rfl⟩, ?_, ?_⟩
        · rw [upd_same]
          have ti : (sortT b.1).take (i + 1) = (sortT b.1).take i ++ [kv] := by rw [List.take_add_one, hkv]; rfl
          rw [ti, tabWords_snoc, ← List.append_assoc, List.map_append (l₁ := wBook ++ _)]
          rfl
        · intro c o e nc
          have e2 := k c o e nc
          have nc' : c ≠ wl := by simpa using nc
          have e3 : (upd H' Tp (.tup [.str kv.1, .int kv.2])) c = some o := by rw [upd_ne (ne_of_none e2 hT)]; exact e2
          rw [upd_ne nc', upd_ne (ne_of_none e3 hln)]
          exact e3
    · rintro σ H' ⟨⟨o2, o3, rfl⟩, hw, k⟩
      rw [tabV_len, List.take_length] at hw
      have k0 : Keep [wl] H H' := ((Keep.of s1).trans (Keep.of s3)).trans k
      have nn : ∀ c o, H c = some o → c ∉ [wl] := fun c o e => by simp; exact ne_of_none e hwl
      have S' : Same H H' := fun c o e => k0 c o e (nn c o e)
      have hd' := S' _ _ hd
      have hp' := S' _ _ hp
      have ls' := ls.keeps (Same.tups S')
      -- the second loop
      refine ⟨_, rfl, p, CB, dx, _, _, rfl, hp', T.clB, T.nLasts, fB_lasts tb dl, dl, kvs, b.2.map (·.1), rfl, .inl hd', lasts_keys ls', by rw [List.length_map]; exact sm.ll, fun ys l py sy hln => ?_⟩
      have ey := sortC_uniq py sy
      subst ey
      have nwl : wl ≠ l := ne_of_none hw hln
      have s4 : Same H' (upd H' l (.lst ((sortC b.2).map V.int))) := fun c o e => by rw [upd_ne (ne_of_none e hln)]; exact e
      have hl4 : (upd H' l (.lst ((sortC b.2).map V.int))) l = some (.lst ((sortC b.2).map V.int)) := upd_same
      generalize upd H' l (.lst ((sortC b.2).map V.int)) = H4 at s4 hl4
      refine ⟨l, rfl, ⟨_, SqL.of hl4⟩, for_list (K := K) (a := l) (xs := (sortC b.2).map V.int) (fun i σ H' => (∃ o2 o3 o4 o5, σ = [some (.ref p), some (.ref wl), o2, o3, o4, o5]) ∧ H' wl = some (.lst ((wBook ++ tabWords (sortT b.1) ++ lstWords b.2 ((sortC b.2).take i)).map V.str)) ∧ Keep [wl] H4 H')
        ⟨⟨_, _, _, _, rfl⟩, by rw [s4 _ _ hw]; simp [lstWords], Keep.refl⟩ (fun i σ H' _ ⟨_, _, k⟩ => SqL.of (k l _ hl4 (by simp; exact nwl.symm))) ?_ ?_⟩
      · rintro i x σ H5 hi ⟨⟨o2, o3, o4, o5, rfl⟩, hw5, k5⟩
        obtain ⟨c, hc, rfl⟩ : ∃ c, (sortC b.2)[i]? = some c ∧ x = V.int c := by
          rw [List.getElem?_map] at hi
          cases e : (sortC b.2)[i]? with
          | none => rw [e] at hi; cases hi
          | some c => rw [e] at hi; exact ⟨c, rfl, (Option.some.inj hi).symm⟩
        have hil : i < (sortC b.2).length := (List.getElem?_eq_some_iff.mp hc).1
        have s5 : Same H H5 := fun c o e => k5 c o (s4 c o (S' c o e)) (nn c o e)
        have ls5 := ls.keeps (Same.tups s5)
        obtain ⟨pp, ep, wp⟩ := was_mem (sortC_mem (List.mem_of_getElem? hc))
        have hb := sm.lb (c, pp) (aget_mem ep)
        rcases lasts_get c ls5 with ⟨_, e2⟩ | ⟨qq, n, a, e1, e2, e3⟩
        · rw [e2] at ep; cases ep
        rw [e2] at ep
        have epp := Option.some.inj ep
        subst epp
        have bn : n.natAbs < 1000000000000000000 := by have := hb.2.1; simp only at this; omega
        refine ⟨_, rfl, p, CB, dx, _, _, rfl, s5 _ _ hp, T.clB, T.nLasts, fB_lasts tb dl, _, rfl, dl, .ref qq, rfl, e1 ▸ DGet.k (k := Sum.inl c) (s5 _ _ hd), ?_⟩
        refine ⟨qq, _, rfl, SqT.of e3, rfl, _, _, rfl, _, _, rfl, rfl, ?_⟩
        refine ⟨_, rfl, .inl ⟨rfl, _, SqL.of hw5⟩, _, rfl, c, rfl, num_log (by have := hb.1; simp only at this; omega), _, rfl, n, rfl, num_log bn, _, rfl, a, rfl, hb.2.2, by show 4 ≤ sizeLine; decide, fun z hz => ?_⟩
        have nwz : wl ≠ z := ne_of_none hw5 hz
        refine ⟨wl, z, _, _, rfl, rfl, by rw [upd_ne nwz]; exact hw5, upd_same, ?_, ?_⟩
        · rw [List.length_map, List.length_append, List.length_append, tabWords_len, lstWords_len, List.length_take, sizeLine_eq]
          show 1 + _ + _ + 4 ≤ _
          omega
        · refine ⟨⟨_, _, _, _, rfl⟩, ?_, ?_⟩
          · rw [upd_same]
            have ti : (sortC b.2).take (i + 1) = (sortC b.2).take i ++ [c] := by rw [List.take_add_one, hc]; rfl
            have ew : wBy b.2 c = (["by", numText c, numText n, ansText a] : List Str) := by
              unfold wBy
              rw [wp]
            rw [ti, lstWords_snoc, ew, ← List.append_assoc, List.map_append (l₁ := wBook ++ tabWords (sortT b.1) ++ lstWords b.2 ((sortC b.2).take i))]
            rfl
          · intro d o e nc
            have e2 := k5 d o e nc
            have nc' : d ≠ wl := by simpa using nc
            rw [upd_ne nc', upd_ne (ne_of_none e2 hz)]
            exact e2
      · rintro σ H5 ⟨⟨o2, o3, o4, o5, rfl⟩, hw5, k5⟩
        rw [List.length_map, List.take_length] at hw5
        refine ⟨⟨_, rfl⟩, _, rfl, " ", wl, bookWords b, rfl, rfl, .inl (SqL.of hw5), ?_, q _ fun c o e => k5 c o (s4 c o (S' c o e)) (nn c o e)⟩
        have e1 := words_sum (words_short sm)
        have e2 : (bookWords b).length = 1 + 3 * b.1.length + 4 * b.2.length := by
          unfold bookWords
          rw [List.length_append, List.length_append, tabWords_len, lstWords_len, hlt, hlc]
          rfl
        have e3 : (" " : Str).length = 1 := by decide +kernel
        rw [e3]
        omega
end
end K41
set_option Elab.async false
set_option maxRecDepth 100000
set_option maxHeartbeats 4000000
set_option linter.all false
/-! answers_of, over a list and over a tuple of rows. -/
namespace K41
open PySem PySem.Spec PyProof.Rows L2
theorem run_sizes : ∀ (rs : List Row) (b : Bk), (runB b rs).1.1.length ≤ b.1.length + rs.length ∧ (runB b rs).1.2.length ≤ b.2.length + rs.length
  | [], b => ⟨Nat.le_refl _, Nat.le_refl _⟩
  | r :: rs, b => by
    have h := run_sizes rs (stepB b r).1
    have a1 : ∀ a : Ask, (doAsk b.1 a).1.length ≤ b.1.length + 1 := fun a => by
      cases a with
      | put k v => exact len_put _ _ _
      | add k v => exact len_put _ _ _
      | drop k => have := len_drop b.1 k; show (adrop b.1 k).length ≤ _; omega
      | swap k o v =>
        by_cases e : aget b.1 k = o
        · rw [doAsk, if_pos e]; exact len_put _ _ _
        · rw [doAsk, if_neg e]; exact Nat.le_succ _
      | read k => exact Nat.le_succ _
      | many => exact Nat.le_succ _
    have s : (stepB b r).1.1.length ≤ b.1.length + 1 ∧ (stepB b r).1.2.length ≤ b.2.length + 1 := by
      unfold stepB
      split
      · rename_i c n a _
        have e : (callB b c n a).1.1.length ≤ b.1.length + 1 ∧ (callB b c n a).1.2.length ≤ b.2.length + 1 := by
          unfold callB
          split
          · exact ⟨Nat.le_succ _, Nat.le_succ _⟩
          · split
            · exact ⟨Nat.le_succ _, Nat.le_succ _⟩
            · exact ⟨a1 a, len_put _ _ _⟩
        generalize callB b c n a = z at e
        obtain ⟨z1, z2⟩ := z
        cases z2 <;> exact e
      · exact ⟨Nat.le_succ _, Nat.le_succ _⟩
    show (runB (stepB b r).1 rs).1.1.length ≤ b.1.length + (rs.length + 1) ∧ (runB (stepB b r).1 rs).1.2.length ≤ b.2.length + (rs.length + 1)
    omega
theorem sc_aof : FnScope ["book", "rows", "found", "reign", "deed", "said"] ["book", "rows"] (defScope (top 24)) := ⟨rfl, rfl, rfl, by decide +kernel, rfl, by decide +kernel, by decide +kernel⟩
/-- one more answer at the end of the list at f -/
theorem aof_add {CT CB : Addr} {H1 H3 : Hp} {p tb dh dl f t rw : Addr} {b z1 : Bk} {rows : List Row} {c n : Int} {x : Ans} {fvs : List V} {cur : Bk × List Tri × List Row} {dn : List Row} {V3 V4 V5 : Option V}
    (eN : runB b rows = (z1, cur.2.1 ++ [(c, n, x)], dn)) (hf3 : H3 f = some (.lst fvs)) (ht : H3 t = none) (tv : TrisV H3 fvs cur.2.1) (B3 : BookAt CT CB H3 p tb dh dl z1) (k3 : Keep [dh, dl, f] H1 H3) (nf : f ∉ [dh, dl])
    (nt : ∀ x ∈ [dh, dl, f], ∀ xs, H1 x ≠ some (.tup xs)) :
    ∃ o3 o4 o5 fvs', [some (.ref p), some (.ref rw), some (.ref f), V3, V4, V5] = [some (V.ref p), some (.ref rw), some (.ref f), o3, o4, o5] ∧ (upd (upd H3 t (.tup [.int c, .int n, x.v])) f (.lst (fvs ++ [.ref t]))) f = some (.lst fvs') ∧
      TrisV (upd (upd H3 t (.tup [.int c, .int n, x.v])) f (.lst (fvs ++ [.ref t]))) fvs' (runB b rows).2.1 ∧ BookAt CT CB (upd (upd H3 t (.tup [.int c, .int n, x.v])) f (.lst (fvs ++ [.ref t]))) p tb dh dl (runB b rows).1 ∧
      Keep [dh, dl, f] H1 (upd (upd H3 t (.tup [.int c, .int n, x.v])) f (.lst (fvs ++ [.ref t]))) := by
  have s4 : Same H3 (upd H3 t (.tup [.int c, .int n, x.v])) := fun b o e => by rw [upd_ne (ne_of_none e ht)]; exact e
  have ht4 : (upd H3 t (.tup [.int c, .int n, x.v])) t = some (.tup [.int c, .int n, x.v]) := upd_same
  generalize upd H3 t (.tup [.int c, .int n, x.v]) = H4 at s4 ht4
  have hf4 := s4 _ _ hf3
  have t5 : Tups H4 (upd H4 f (.lst (fvs ++ [.ref t]))) := fun b xs e => by rw [upd_ne (ne_of e hf4 (by intro z; cases z))]; exact e
  have k5 : Keep [f] H4 (upd H4 f (.lst (fvs ++ [.ref t]))) := Keep.refl.put (by simp)
  refine ⟨_, _, _, _, rfl, upd_same, ?_, ?_, ?_⟩
  · rw [eN]
    exact paired_snoc ((TrisV.keeps (Same.tups s4) tv).keeps t5) ⟨t, rfl, t5 _ _ ht4⟩
  · rw [eN]
    obtain ⟨dx, hp⟩ := B3.ob
    obtain ⟨tdx, htb⟩ := B3.ta.ob
    refine (B3.same s4).keep k5 t5 ?_ ?_ ?_ ?_
    · exact fun z => by rw [List.mem_singleton.mp z, hf3] at hp; cases hp
    · exact fun z => by rw [List.mem_singleton.mp z, hf3] at htb; cases htb
    · exact fun z => nf (by simp [(List.mem_singleton.mp z).symm])
    · exact fun z => nf (by simp [(List.mem_singleton.mp z).symm])
  · exact (k3.trans (Keep.of s4)).trans (k5.mono fun x hx => by simp [List.mem_singleton.mp hx])
section
variable {P : Program} {w : World} {K : PySem.W.Frag} {mg : Str → Option Value} {base : Heap} {CT CB : Addr}

def spAOfL (CT CB : Addr) : Sp := fun vs H Q _ => ∃ (p tb dh dl rw : Addr) (b : Bk) (rvs : List V) (rows : List Row), vs = [.ref p, .ref rw] ∧ BookAt CT CB H p tb dh dl b ∧ H rw = some (.lst rvs) ∧ RowsV H rvs rows ∧ RowsOk rows ∧ b.1.length + rows.length ≤ 900 ∧ b.2.length + rows.length ≤ 900 ∧
  ∀ (f : Addr) (fvs : List V) (H' : Hp), Keep [dh, dl] H H' → BookAt CT CB H' p tb dh dl (runB b rows).1 → H f = none → H' f = some (.lst fvs) → TrisV H' fvs (runB b rows).2.1 → Q (.ref f) H'
theorem fn_aofL (D : Def K mg "answers_of" (top 24) ["book", "rows"]) (T : Txt w K mg CT CB) (GB : Me P w K mg base CB "do" 5 ["self", "caller", "number", "ask"] (spBDo CT CB)) : Fn P w K mg base "answers_of" 6 ["book", "rows"] (spAOfL CT CB) := by
  obtain ⟨f, fd, F, b, m⟩ := D
  refine ⟨f, fd, F.ok sc_aof (fun vs H Q E h => ?_) (fun cdv A outer s H vs Q E hr h => ?_), m, F.kp, b⟩
  · obtain ⟨p, tb, dh, dl, rw, b, rvs, rows, rfl, _⟩ := h
    rfl
  · obtain ⟨p, tb, dh, dl, rw, b, rvs, rows, rfl, B, hrw, rv, rok, sz1, sz2, q⟩ := h
    refine ⟨_, pss_cons (ps_set (i := 2) sc_aof.nd rfl (Or.inl rfl) (pe_lst pa_nil))
      (pss_cons (ps_for PassesOwn.never rfl (pi_list (pv 1)) (pg_tup (by rfl) (pgs_cons (pg_name (i := 3) sc_aof.nd rfl (Or.inl rfl)) (pgs_cons (pg_name (i := 4) sc_aof.nd rfl (Or.inl rfl)) pgs_nil)))
      (pss_one (ps_if (pt_cmpR op_eq (pe_ix ix_tup (pv 4) pe_int (fun _ _ => rfl)) pe_str (nomark _)) (pss_cons (ps_set (i := 5) sc_aof.nd rfl (Or.inl rfl) (pe_me GB T.clB hr (pv 0) (pa_cons (pe_ix ix_tup (pv 4) pe_int (fun _ _ => rfl)) (pa_cons (pe_ix ix_tup (pv 4) pe_int (fun _ _ => rfl)) (pa_cons (pe_ix ix_tup (pv 4) pe_int (fun _ _ => rfl)) pa_nil)))))
      (pss_one (ps_if (pt_cmpR op_ne (pe_ix ix_tup (pv 5) pe_int (fun _ _ => rfl)) pe_str (nomark _)) (pss_one (ps_expr (pe_bm PySem.F.plainAttrs_list PySem.F.slot_list_append PySem.F.type_list_append mt_append (pv 2) (pa_cons (pe_tup (pa_cons (pe_ix ix_tup (pv 4) pe_int (fun _ _ => rfl)) (pa_cons (pe_ix ix_tup (pv 4) pe_int (fun _ _ => rfl)) (pa_cons (pe_ix ix_tup (pv 5) pe_int (fun _ _ => rfl)) pa_nil)))) pa_nil)))) pss_nil))) pss_nil)))
      (pss_one (ps_ret (pv 2)))), ?_⟩
    refine ⟨by show 0 ≤ sizeLine; decide, fun f hf => ?_⟩
    have s1 : Same H (upd H f (.lst [])) := fun c o e => by rw [upd_ne (ne_of_none e hf)]; exact e
    have hf1 : (upd H f (.lst [])) f = some (.lst []) := upd_same
    generalize upd H f (.lst []) = H1 at s1 hf1
    have B1 := B.same s1
    have hrw1 := s1 _ _ hrw
    have nd1 := B1.notup
    have nf : f ∉ [dh, dl] := fun z => by
      rcases List.mem_cons.mp z with z | z
      · rw [z, B1.ta.dc] at hf1; cases hf1
      · rw [List.mem_singleton.mp z] at hf1
        obtain ⟨kvs, hk, _⟩ := B1.ld
        rw [hk] at hf1; cases hf1
    have nrw : rw ∉ [dh, dl, f] := fun z => by
      rcases List.mem_cons.mp z with z | z
      · rw [z, B1.ta.dc] at hrw1; cases hrw1
      · rcases List.mem_cons.mp z with z | z
        · obtain ⟨kvs, hk, _⟩ := B1.ld
          rw [z, hk] at hrw1; cases hrw1
        · rw [List.mem_singleton.mp z] at hrw
          rw [hf] at hrw; cases hrw
    have nt : ∀ x ∈ [dh, dl, f], ∀ xs, H1 x ≠ some (.tup xs) := fun x hx xs e => by
      rcases List.mem_cons.mp hx with z | hx
      · exact nd1 x (by simp [z]) xs e
      · rcases List.mem_cons.mp hx with z | hx
        · exact nd1 x (by simp [z]) xs e
        · rw [List.mem_singleton.mp hx, hf1] at e; cases e
    have lrv : rvs.length = rows.length := Paired.length rv
    refine ⟨_, rfl, rw, rfl, ⟨_, SqL.of hrw1⟩, for_list (K := K) (a := rw) (xs := rvs) (fun i σ H' => ∃ o3 o4 o5 fvs, σ = [some (.ref p), some (.ref rw), some (.ref f), o3, o4, o5] ∧ H' f = some (.lst fvs) ∧ TrisV H' fvs (runB b (rows.take i)).2.1 ∧ BookAt CT CB H' p tb dh dl (runB b (rows.take i)).1 ∧ Keep [dh, dl, f] H1 H')
      ⟨none, none, none, [], rfl, hf1, .nil, B1, Keep.refl⟩ (fun i σ H' _ ⟨_, _, _, _, _, _, _, _, k⟩ => SqL.of (k rw _ hrw1 nrw)) ?_ ?_⟩
    · rintro i x σ H2 hi ⟨o3, o4, o5, fvs, rfl, hf2, tv, B2, k2⟩
      have t2 : Tups H H2 := (Same.tups s1).trans (k2.tups nt)
      obtain ⟨r, hri, q0, d, rfl, hq0, hd0⟩ := paired_at rv hi
      have hrok : r.2.ok := rok r (List.mem_of_getElem? hri)
      have hil : i < rows.length := (List.getElem?_eq_some_iff.mp hri).1
      have hq2 := t2 _ _ hq0
      have hd2 := hd0.keeps t2
      have ti : rows.take (i + 1) = rows.take i ++ [r] := by rw [List.take_add_one, hri]; rfl
      have eN := runB_snoc r (rows.take i) b
      rw [← ti] at eN
      have lt : (rows.take i).length = i := by rw [List.length_take]; omega
      have bd := run_sizes (rows.take i) b
      rw [lt] at bd
      have tl := tri_len (rows.take i) b
      rw [lt] at tl
      have lfv : fvs.length ≤ i := by rw [Paired.length tv]; exact tl
      generalize runB b (rows.take i) = cur at tv B2 eN bd
      refine ⟨q0, _, rfl, SqT.of hq2, rfl, _, _, rfl, _, _, rfl, rfl, ?_⟩
      obtain ⟨i0, dd⟩ := r
      cases dd with
      | blank =>
        have at0 : atI [V.str "blank"] 0 = some (.str "blank") := at_of (j := 0) rfl rfl
        refine ⟨_, rfl, d, _, _, _, rfl, rfl, SqT.of hd2, at0, rfl, _, rfl, iteFd (word_ns (x := "blank") (by decide +kernel)) ?_⟩
        refine ⟨_, _, _, fvs, rfl, hf2, ?_, ?_, k2⟩
        · rw [eN]; show TrisV _ _ (cur.2.1 ++ []); rw [List.append_nil]; exact tv
        · rw [eN]; exact B2
      | members ns =>
        obtain ⟨q1, hd3, _⟩ := hd2
        have at0 : atI [V.str "members", V.ref q1] 0 = some (.str "members") := at_of (j := 0) rfl rfl
        refine ⟨_, rfl, d, _, _, _, rfl, rfl, SqT.of hd3, at0, rfl, _, rfl, iteFd (word_ns (x := "members") (by decide +kernel)) ?_⟩
        refine ⟨_, _, _, fvs, rfl, hf2, ?_, ?_, k2⟩
        · rw [eN]; show TrisV _ _ (cur.2.1 ++ []); rw [List.append_nil]; exact tv
        · rw [eN]; exact B2
      | call c n a =>
        obtain ⟨pa, hd3, hpa⟩ := hd2
        have at0 : atI [V.str "call", V.int c, V.int n, V.ref pa] 0 = some (.str "call") := at_of (j := 0) rfl rfl
        have at1 : atI [V.str "call", V.int c, V.int n, V.ref pa] 1 = some (.int c) := at_of (j := 1) rfl rfl
        have at2 : atI [V.str "call", V.int c, V.int n, V.ref pa] 2 = some (.int n) := at_of (j := 2) rfl rfl
        have at3 : atI [V.str "call", V.int c, V.int n, V.ref pa] 3 = some (.ref pa) := at_of (j := 3) rfl rfl
        refine ⟨_, rfl, d, _, _, _, rfl, rfl, SqT.of hd3, at0, rfl, _, rfl, iteTd (decide_eq_true rfl) ?_⟩
        obtain ⟨dx, hp2⟩ := B2.ob
        refine ⟨_, rfl, p, dx, _, rfl, hp2, fB_no tb dl (by decide +kernel) (by decide +kernel), _, rfl, d, _, _, _, rfl, rfl, SqT.of hd3, at1, _, rfl, d, _, _, _, rfl, rfl, SqT.of hd3, at2, _, rfl, d, _, _, _, rfl, rfl, SqT.of hd3, at3,
          p, tb, dh, dl, pa, cur.1, c, n, a, rfl, B2, hpa, hrok, by omega, by omega, fun r H3 k3 B3 hr3 => ?_⟩
        have nfd : f ∉ [dh, dl] := nf
        have hf3 := k3 _ _ hf2 nfd
        have t3 := k3.tups B2.notup
        have hd4 := t3 _ _ hd3
        have tv3 := TrisV.keeps t3 tv
        have k3' : Keep [dh, dl, f] H1 H3 := k2.trans (k3.mono fun x hx => by
          rcases List.mem_cons.mp hx with z | hx
          · simp [z]
          · simp [List.mem_singleton.mp hx])
        have eN2 : runB b (rows.take (i + 1)) = ((callB cur.1 c n a).1, cur.2.1 ++ (stepB cur.1 (i0, .call c n a)).2.1, cur.2.2 ++ (stepB cur.1 (i0, .call c n a)).2.2) := by
          rw [eN]
          have e : (stepB cur.1 (i0, .call c n a)).1 = (callB cur.1 c n a).1 := by
            unfold stepB
            dsimp only
            generalize callB cur.1 c n a = z
            obtain ⟨z1, z2⟩ := z
            cases z2 <;> rfl
          rw [e]
        have eS : (stepB cur.1 (i0, .call c n a)).2.1 = (match (callB cur.1 c n a).2 with | .late => [] | .again x => [(c, n, x)] | .done x => [(c, n, x)]) := by
          unfold stepB
          dsimp only
          generalize callB cur.1 c n a = z
          obtain ⟨z1, z2⟩ := z
          cases z2 <;> rfl
        rw [eS] at eN2
        clear eN eS
        generalize callB cur.1 c n a = z at B3 hr3 eN2
        obtain ⟨z1, z2⟩ := z
        cases z2 with
        | late =>
          have as0 : atI (saidV .late) 0 = some (.str "late") := at_of (j := 0) rfl rfl
          refine ⟨_, rfl, r, _, _, _, rfl, rfl, SqT.of hr3, as0, rfl, _, rfl, iteNS rfl ?_⟩
          refine ⟨_, _, _, fvs, rfl, hf3, ?_, ?_, k3'⟩
          · rw [eN2]; show TrisV _ _ (cur.2.1 ++ []); rw [List.append_nil]; exact tv3
          · rw [eN2]; exact B3
        | again x =>
          have as0 : atI (saidV (.again x)) 0 = some (.str "again") := at_of (j := 0) rfl rfl
          have as1 : atI (saidV (.again x)) 1 = some x.v := at_of (j := 1) rfl rfl
          refine ⟨_, rfl, r, _, _, _, rfl, rfl, SqT.of hr3, as0, rfl, _, rfl, ?_⟩
          refine iteTd (by rw [word_ns (x := "again") (y := "late") (by decide +kernel)]; rfl) ?_
          refine ⟨_, rfl, .inl ⟨rfl, _, SqL.of hf3⟩, _, rfl, d, _, _, _, rfl, rfl, SqT.of hd4, at1, _, rfl, d, _, _, _, rfl, rfl, SqT.of hd4, at2, _, rfl, r, _, _, _, rfl, rfl, SqT.of hr3, as1, by show 3 ≤ sizeLine; decide, fun t ht => ?_⟩
          have nft : f ≠ t := ne_of_none hf3 ht
          refine ⟨f, fvs, .ref t, rfl, rfl, by rw [upd_ne nft]; exact hf3, small1000 (by omega), ?_⟩
          exact aof_add eN2 hf3 ht tv3 B3 k3' nf (fun x hx xs e => nt x hx xs e)
        | done x =>
          have as0 : atI (saidV (.done x)) 0 = some (.str "done") := at_of (j := 0) rfl rfl
          have as1 : atI (saidV (.done x)) 1 = some x.v := at_of (j := 1) rfl rfl
          refine ⟨_, rfl, r, _, _, _, rfl, rfl, SqT.of hr3, as0, rfl, _, rfl, ?_⟩
          refine iteTd (by rw [word_ns (x := "done") (y := "late") (by decide +kernel)]; rfl) ?_
          refine ⟨_, rfl, .inl ⟨rfl, _, SqL.of hf3⟩, _, rfl, d, _, _, _, rfl, rfl, SqT.of hd4, at1, _, rfl, d, _, _, _, rfl, rfl, SqT.of hd4, at2, _, rfl, r, _, _, _, rfl, rfl, SqT.of hr3, as1, by show 3 ≤ sizeLine; decide, fun t ht => ?_⟩
          have nft : f ≠ t := ne_of_none hf3 ht
          refine ⟨f, fvs, .ref t, rfl, rfl, by rw [upd_ne nft]; exact hf3, small1000 (by omega), ?_⟩
          exact aof_add eN2 hf3 ht tv3 B3 k3' nf (fun x hx xs e => nt x hx xs e)
    · rintro σ H2 ⟨o3, o4, o5, fvs, rfl, hf2, tv, B2, k2⟩
      rw [lrv, List.take_length] at tv B2
      refine ⟨_, rfl, q f fvs H2 (fun c o e nc => ?_) B2 hf hf2 tv⟩
      refine k2 c o (s1 c o e) fun z => ?_
      rcases List.mem_cons.mp z with z | z
      · exact nc (by simp [z])
      · rcases List.mem_cons.mp z with z | z
        · exact nc (by simp [z])
        · rw [List.mem_singleton.mp z, hf] at e; cases e

def spAOfT (CT CB : Addr) : Sp := fun vs H Q _ => ∃ (p tb dh dl rw : Addr) (b : Bk) (rvs : List V) (rows : List Row), vs = [.ref p, .ref rw] ∧ BookAt CT CB H p tb dh dl b ∧ H rw = some (.tup rvs) ∧ RowsV H rvs rows ∧ RowsOk rows ∧ b.1.length + rows.length ≤ 900 ∧ b.2.length + rows.length ≤ 900 ∧
  ∀ (f : Addr) (fvs : List V) (H' : Hp), Keep [dh, dl] H H' → BookAt CT CB H' p tb dh dl (runB b rows).1 → H f = none → H' f = some (.lst fvs) → TrisV H' fvs (runB b rows).2.1 → Q (.ref f) H'
theorem fn_aofT (D : Def K mg "answers_of" (top 24) ["book", "rows"]) (T : Txt w K mg CT CB) (GB : Me P w K mg base CB "do" 5 ["self", "caller", "number", "ask"] (spBDo CT CB)) : Fn P w K mg base "answers_of" 6 ["book", "rows"] (spAOfT CT CB) := by
  obtain ⟨f, fd, F, b, m⟩ := D
  refine ⟨f, fd, F.ok sc_aof (fun vs H Q E h => ?_) (fun cdv A outer s H vs Q E hr h => ?_), m, F.kp, b⟩
  · obtain ⟨p, tb, dh, dl, rw, b, rvs, rows, rfl, _⟩ := h
    rfl
  · obtain ⟨p, tb, dh, dl, rw, b, rvs, rows, rfl, B, hrw, rv, rok, sz1, sz2, q⟩ := h
    refine ⟨_, pss_cons (ps_set (i := 2) sc_aof.nd rfl (Or.inl rfl) (pe_lst pa_nil))
      (pss_cons (ps_for PassesOwn.never rfl (pi_tup (pv 1)) (pg_tup (by rfl) (pgs_cons (pg_name (i := 3) sc_aof.nd rfl (Or.inl rfl)) (pgs_cons (pg_name (i := 4) sc_aof.nd rfl (Or.inl rfl)) pgs_nil)))
      (pss_one (ps_if (pt_cmpR op_eq (pe_ix ix_tup (pv 4) pe_int (fun _ _ => rfl)) pe_str (nomark _)) (pss_cons (ps_set (i := 5) sc_aof.nd rfl (Or.inl rfl) (pe_me GB T.clB hr (pv 0) (pa_cons (pe_ix ix_tup (pv 4) pe_int (fun _ _ => rfl)) (pa_cons (pe_ix ix_tup (pv 4) pe_int (fun _ _ => rfl)) (pa_cons (pe_ix ix_tup (pv 4) pe_int (fun _ _ => rfl)) pa_nil)))))
      (pss_one (ps_if (pt_cmpR op_ne (pe_ix ix_tup (pv 5) pe_int (fun _ _ => rfl)) pe_str (nomark _)) (pss_one (ps_expr (pe_bm PySem.F.plainAttrs_list PySem.F.slot_list_append PySem.F.type_list_append mt_append (pv 2) (pa_cons (pe_tup (pa_cons (pe_ix ix_tup (pv 4) pe_int (fun _ _ => rfl)) (pa_cons (pe_ix ix_tup (pv 4) pe_int (fun _ _ => rfl)) (pa_cons (pe_ix ix_tup (pv 5) pe_int (fun _ _ => rfl)) pa_nil)))) pa_nil)))) pss_nil))) pss_nil)))
      (pss_one (ps_ret (pv 2)))), ?_⟩
    refine ⟨by show 0 ≤ sizeLine; decide, fun f hf => ?_⟩
    have s1 : Same H (upd H f (.lst [])) := fun c o e => by rw [upd_ne (ne_of_none e hf)]; exact e
    have hf1 : (upd H f (.lst [])) f = some (.lst []) := upd_same
    generalize upd H f (.lst []) = H1 at s1 hf1
    have B1 := B.same s1
    have hrw1 := s1 _ _ hrw
    have nd1 := B1.notup
    have nf : f ∉ [dh, dl] := fun z => by
      rcases List.mem_cons.mp z with z | z
      · rw [z, B1.ta.dc] at hf1; cases hf1
      · rw [List.mem_singleton.mp z] at hf1
        obtain ⟨kvs, hk, _⟩ := B1.ld
        rw [hk] at hf1; cases hf1
    have nrw : rw ∉ [dh, dl, f] := fun z => by
      rcases List.mem_cons.mp z with z | z
      · rw [z, B1.ta.dc] at hrw1; cases hrw1
      · rcases List.mem_cons.mp z with z | z
        · obtain ⟨kvs, hk, _⟩ := B1.ld
          rw [z, hk] at hrw1; cases hrw1
        · rw [List.mem_singleton.mp z] at hrw
          rw [hf] at hrw; cases hrw
    have nt : ∀ x ∈ [dh, dl, f], ∀ xs, H1 x ≠ some (.tup xs) := fun x hx xs e => by
      rcases List.mem_cons.mp hx with z | hx
      · exact nd1 x (by simp [z]) xs e
      · rcases List.mem_cons.mp hx with z | hx
        · exact nd1 x (by simp [z]) xs e
        · rw [List.mem_singleton.mp hx, hf1] at e; cases e
    have lrv : rvs.length = rows.length := Paired.length rv
    refine ⟨_, rfl, rw, rfl, ⟨_, SqT.of hrw1⟩, for_tup (K := K) (a := rw) (xs := rvs) (fun i σ H' => ∃ o3 o4 o5 fvs, σ = [some (.ref p), some (.ref rw), some (.ref f), o3, o4, o5] ∧ H' f = some (.lst fvs) ∧ TrisV H' fvs (runB b (rows.take i)).2.1 ∧ BookAt CT CB H' p tb dh dl (runB b (rows.take i)).1 ∧ Keep [dh, dl, f] H1 H')
      ⟨none, none, none, [], rfl, hf1, .nil, B1, Keep.refl⟩ (fun i σ H' _ ⟨_, _, _, _, _, _, _, _, k⟩ => SqT.of (k rw _ hrw1 nrw)) ?_ ?_⟩
    · rintro i x σ H2 hi ⟨o3, o4, o5, fvs, rfl, hf2, tv, B2, k2⟩
      have t2 : Tups H H2 := (Same.tups s1).trans (k2.tups nt)
      obtain ⟨r, hri, q0, d, rfl, hq0, hd0⟩ := paired_at rv hi
      have hrok : r.2.ok := rok r (List.mem_of_getElem? hri)
      have hil : i < rows.length := (List.getElem?_eq_some_iff.mp hri).1
      have hq2 := t2 _ _ hq0
      have hd2 := hd0.keeps t2
      have ti : rows.take (i + 1) = rows.take i ++ [r] := by rw [List.take_add_one, hri]; rfl
      have eN := runB_snoc r (rows.take i) b
      rw [← ti] at eN
      have lt : (rows.take i).length = i := by rw [List.length_take]; omega
      have bd := run_sizes (rows.take i) b
      rw [lt] at bd
      have tl := tri_len (rows.take i) b
      rw [lt] at tl
      have lfv : fvs.length ≤ i := by rw [Paired.length tv]; exact tl
      generalize runB b (rows.take i) = cur at tv B2 eN bd
      refine ⟨q0, _, rfl, SqT.of hq2, rfl, _, _, rfl, _, _, rfl, rfl, ?_⟩
      obtain ⟨i0, dd⟩ := r
      cases dd with
      | blank =>
        have at0 : atI [V.str "blank"] 0 = some (.str "blank") := at_of (j := 0) rfl rfl
        refine ⟨_, rfl, d, _, _, _, rfl, rfl, SqT.of hd2, at0, rfl, _, rfl, iteFd (word_ns (x := "blank") (by decide +kernel)) ?_⟩
        refine ⟨_, _, _, fvs, rfl, hf2, ?_, ?_, k2⟩
        · rw [eN]; show TrisV _ _ (cur.2.1 ++ []); rw [List.append_nil]; exact tv
        · rw [eN]; exact B2
      | members ns =>
        obtain ⟨q1, hd3, _⟩ := hd2
        have at0 : atI [V.str "members", V.ref q1] 0 = some (.str "members") := at_of (j := 0) rfl rfl
        refine ⟨_, rfl, d, _, _, _, rfl, rfl, SqT.of hd3, at0, rfl, _, rfl, iteFd (word_ns (x := "members") (by decide +kernel)) ?_⟩
        refine ⟨_, _, _, fvs, rfl, hf2, ?_, ?_, k2⟩
        · rw [eN]; show TrisV _ _ (cur.2.1 ++ []); rw [List.append_nil]; exact tv
        · rw [eN]; exact B2
      | call c n a =>
        obtain ⟨pa, hd3, hpa⟩ := hd2
        have at0 : atI [V.str "call", V.int c, V.int n, V.ref pa] 0 = some (.str "call") := at_of (j := 0) rfl rfl
        have at1 : atI [V.str "call", V.int c, V.int n, V.ref pa] 1 = some (.int c) := at_of (j := 1) rfl rfl
        have at2 : atI [V.str "call", V.int c, V.int n, V.ref pa] 2 = some (.int n) := at_of (j := 2) rfl rfl
        have at3 : atI [V.str "call", V.int c, V.int n, V.ref pa] 3 = some (.ref pa) := at_of (j := 3) rfl rfl
        refine ⟨_, rfl, d, _, _, _, rfl, rfl, SqT.of hd3, at0, rfl, _, rfl, iteTd (decide_eq_true rfl) ?_⟩
        obtain ⟨dx, hp2⟩ := B2.ob
        refine ⟨_, rfl, p, dx, _, rfl, hp2, fB_no tb dl (by decide +kernel) (by decide +kernel), _, rfl, d, _, _, _, rfl, rfl, SqT.of hd3, at1, _, rfl, d, _, _, _, rfl, rfl, SqT.of hd3, at2, _, rfl, d, _, _, _, rfl, rfl, SqT.of hd3, at3,
          p, tb, dh, dl, pa, cur.1, c, n, a, rfl, B2, hpa, hrok, by omega, by omega, fun r H3 k3 B3 hr3 => ?_⟩
        have nfd : f ∉ [dh, dl] := nf
        have hf3 := k3 _ _ hf2 nfd
        have t3 := k3.tups B2.notup
        have hd4 := t3 _ _ hd3
        have tv3 := TrisV.keeps t3 tv
        have k3' : Keep [dh, dl, f] H1 H3 := k2.trans (k3.mono fun x hx => by
          rcases List.mem_cons.mp hx with z | hx
          · simp [z]
          · simp [List.mem_singleton.mp hx])
        have eN2 : runB b (rows.take (i + 1)) = ((callB cur.1 c n a).1, cur.2.1 ++ (stepB cur.1 (i0, .call c n a)).2.1, cur.2.2 ++ (stepB cur.1 (i0, .call c n a)).2.2) := by
          rw [eN]
          have e : (stepB cur.1 (i0, .call c n a)).1 = (callB cur.1 c n a).1 := by
            unfold stepB
            dsimp only
            generalize callB cur.1 c n a = z
            obtain ⟨z1, z2⟩ := z
            cases z2 <;> rfl
          rw [e]
        have eS : (stepB cur.1 (i0, .call c n a)).2.1 = (match (callB cur.1 c n a).2 with | .late => [] | .again x => [(c, n, x)] | .done x => [(c, n, x)]) := by
          unfold stepB
          dsimp only
          generalize callB cur.1 c n a = z
          obtain ⟨z1, z2⟩ := z
          cases z2 <;> rfl
        rw [eS] at eN2
        clear eN eS
        generalize callB cur.1 c n a = z at B3 hr3 eN2
        obtain ⟨z1, z2⟩ := z
        cases z2 with
        | late =>
          have as0 : atI (saidV .late) 0 = some (.str "late") := at_of (j := 0) rfl rfl
          refine ⟨_, rfl, r, _, _, _, rfl, rfl, SqT.of hr3, as0, rfl, _, rfl, iteNS rfl ?_⟩
          refine ⟨_, _, _, fvs, rfl, hf3, ?_, ?_, k3'⟩
          · rw [eN2]; show TrisV _ _ (cur.2.1 ++ []); rw [List.append_nil]; exact tv3
          · rw [eN2]; exact B3
        | again x =>
          have as0 : atI (saidV (.again x)) 0 = some (.str "again") := at_of (j := 0) rfl rfl
          have as1 : atI (saidV (.again x)) 1 = some x.v := at_of (j := 1) rfl rfl
          refine ⟨_, rfl, r, _, _, _, rfl, rfl, SqT.of hr3, as0, rfl, _, rfl, ?_⟩
          refine iteTd (by rw [word_ns (x := "again") (y := "late") (by decide +kernel)]; rfl) ?_
          refine ⟨_, rfl, .inl ⟨rfl, _, SqL.of hf3⟩, _, rfl, d, _, _, _, rfl, rfl, SqT.of hd4, at1, _, rfl, d, _, _, _, rfl, rfl, SqT.of hd4, at2, _, rfl, r, _, _, _, rfl, rfl, SqT.of hr3, as1, by show 3 ≤ sizeLine; decide, fun t ht => ?_⟩
          have nft : f ≠ t := ne_of_none hf3 ht
          refine ⟨f, fvs, .ref t, rfl, rfl, by rw [upd_ne nft]; exact hf3, small1000 (by omega), ?_⟩
          exact aof_add eN2 hf3 ht tv3 B3 k3' nf (fun x hx xs e => nt x hx xs e)
        | done x =>
          have as0 : atI (saidV (.done x)) 0 = some (.str "done") := at_of (j := 0) rfl rfl
          have as1 : atI (saidV (.done x)) 1 = some x.v := at_of (j := 1) rfl rfl
          refine ⟨_, rfl, r, _, _, _, rfl, rfl, SqT.of hr3, as0, rfl, _, rfl, ?_⟩
          refine iteTd (by rw [word_ns (x := "done") (y := "late") (by decide +kernel)]; rfl) ?_
          refine ⟨_, rfl, .inl ⟨rfl, _, SqL.of hf3⟩, _, rfl, d, _, _, _, rfl, rfl, SqT.of hd4, at1, _, rfl, d, _, _, _, rfl, rfl, SqT.of hd4, at2, _, rfl, r, _, _, _, rfl, rfl, SqT.of hr3, as1, by show 3 ≤ sizeLine; decide, fun t ht => ?_⟩
          have nft : f ≠ t := ne_of_none hf3 ht
          refine ⟨f, fvs, .ref t, rfl, rfl, by rw [upd_ne nft]; exact hf3, small1000 (by omega), ?_⟩
          exact aof_add eN2 hf3 ht tv3 B3 k3' nf (fun x hx xs e => nt x hx xs e)
    · rintro σ H2 ⟨o3, o4, o5, fvs, rfl, hf2, tv, B2, k2⟩
      rw [lrv, List.take_length] at tv B2
      refine ⟨_, rfl, q f fvs H2 (fun c o e nc => ?_) B2 hf hf2 tv⟩
      refine k2 c o (s1 c o e) fun z => ?_
      rcases List.mem_cons.mp z with z | z
      · exact nc (by simp [z])
      · rcases List.mem_cons.mp z with z | z
        · exact nc (by simp [z])
        · rw [List.mem_singleton.mp z, hf] at e; cases e
end
end K41
set_option Elab.async false
set_option maxRecDepth 100000
set_option maxHeartbeats 4000000
set_option linter.all false
/-! The law's draws. -/
namespace K41
open PySem PySem.Spec PyProof.Rows L2
abbrev kL : Key := Sum.inr ("left" : Str)
abbrev kC : Key := Sum.inr ("cell" : Str)
abbrev kA : Key := Sum.inr ("at" : Str)
def drawV (l c a : Int) : List (Key × V) := [(kL, V.int l), (kC, V.int c), (kA, V.int a)]
theorem dr1 : ¬ kL = kC := by decide +kernel
theorem dr2 : ¬ kL = kA := by decide +kernel
theorem dr3 : ¬ kC = kA := by decide +kernel
theorem dr1' : ¬ kC = kL := fun z => dr1 z.symm
theorem dr2' : ¬ kA = kL := fun z => dr2 z.symm
theorem dr3' : ¬ kA = kC := fun z => dr3 z.symm
theorem draw_left (l c a : Int) : valV (drawV l c a) kL = some (.int l) := valV_pos rfl
theorem draw_cell (l c a : Int) : valV (drawV l c a) kC = some (.int c) := (valV_neg dr1).trans (valV_pos rfl)
theorem draw_at (l c a : Int) : valV (drawV l c a) kA = some (.int a) := (valV_neg dr2).trans ((valV_neg dr3).trans (valV_pos rfl))
theorem put_left (l c a l' : Int) : putK (drawV l c a) kL (.int l') = drawV l' c a := by
  unfold putK
  rw [valV_any, draw_left]
  refine (if_pos rfl).trans ?_
  unfold drawV
  rw [List.map_cons, List.map_cons, List.map_cons, List.map_nil]
  rw [if_pos rfl, if_neg dr1', if_neg dr2']
theorem put_at (l c a a' : Int) : putK (drawV l c a) kA (.int a') = drawV l c a' := by
  unfold putK
  rw [valV_any, draw_at]
  refine (if_pos rfl).trans ?_
  unfold drawV
  rw [List.map_cons, List.map_cons, List.map_cons, List.map_nil]
  rw [if_neg dr2, if_neg dr3, if_pos rfl]
theorem draw_nodup (l c a : Int) : ((drawV l c a).map (·.1)).Nodup := by
  show ([kL, kC, kA] : List Key).Nodup
  decide +kernel
section
variable {P : Program} {w : World} {K : PySem.W.Frag} {mg : Str → Option Value} {base : Heap} {CT CB : Addr}
def spBegun (K : PySem.W.Frag) : Sp := fun vs H Q _ => ∃ (a : Addr) (ns : List Int) (k : Int), vs = [.ref a, .int k] ∧ SqL K H a (ns.map V.int) ∧ ns.length ≤ 63 ∧ 0 ≤ k ∧ k ≤ 1000 ∧
  ∀ (d : Addr) (l c : Int), 0 ≤ l → H d = none → Q (.ref d) (upd H d (.dK (drawV l c (60 * k))))
theorem sc_begun : FnScope ["_law_script", "_law_k", "_law_cell"] ["_law_script", "_law_k"] (defScope (top 26)) := ⟨rfl, rfl, rfl, by decide +kernel, rfl, by decide +kernel, by decide +kernel⟩
theorem fn_begun (D : Def K mg "_law_begun" (top 26) ["_law_script", "_law_k"]) (T : Txt w K mg CT CB) : Fn P w K mg base "_law_begun" 1 ["_law_script", "_law_k"] (spBegun K) := by
  obtain ⟨f, fd, F, b, m⟩ := D
  refine ⟨f, fd, F.ok sc_begun (fun vs H Q E h => ?_) (fun cdv A outer s H vs Q E hr h => ?_), m, F.kp, b⟩
  · obtain ⟨a, ns, k, rfl, _⟩ := h
    rfl
  · obtain ⟨a, ns, k, rfl, ha, hl, k0, k1, q⟩ := h
    refine ⟨_, pss_cons (ps_set (i := 2) sc_begun.nd rfl (Or.inl rfl) (pe_ifExp (pt_cmpR op_lt (pv 1) (pe_callB call_len_seq (by rfl) T.len PySem.boot_len (pa_cons (pv 0) pa_nil)) (nomark _)) (pe_ix ix_list (pv 0) (pv 1) (fun _ _ => rfl)) pe_int))
      (pss_one (ps_ret (pe_disp (pps_cons pe_str (pe_ifExp (pt_cmpR op_ge (pv 2) (pe_op op_pow pe_int pe_int) (nomark _)) (pv 2) pe_int) (pps_cons pe_str (pe_op op_mod (pv 2) pe_int) (pps_cons pe_str (pe_op op_mul pe_int (pv 1)) pps_nil))) (by rfl) (by rfl) (fun z => by cases z) (by decide)))), ?_⟩
    refine ⟨_, rfl, _, rfl, a, _, rfl, .inl ha, _, _, rfl, rfl, _, rfl, ?_⟩
    -- the dict, of any cell
    have fin : ∀ cell : Int, tRet (tDisp [(tC (.str "left"), tIf (tTest (tOp (rI0 fun i j => .bl (decide (j ≤ i))) (tVar 2) (tOp (rI CPow fun i j => .int (i ^ j.toNat)) (tC (.int 10)) (tC (.int 18))))) (tVar 2) (tC (.int 0))),
        (tC (.str "cell"), tOp (rI (fun _ j => 0 < j) fun i j => .int (i % j)) (tVar 2) (tC (.int 1000000007))), (tC (.str "at"), tOp (rI CMul fun i j => .int (i * j)) (tC (.int 60)) (tVar 1))])
        { nx := fun _ H' => Q .non H', rt := Q } [some (.ref a), some (.int k), some (.int cell)] H := by
      intro cell d hd
      have end_ : ∀ l : Int, 0 ≤ l → ∀ X : V → Prop, True := fun _ _ _ => trivial
      refine ⟨_, rfl, _, _, rfl, rfl, ⟨by decide, by decide, by decide⟩, _, _, rfl, rfl, _, rfl, ?_⟩
      refine ite2 (fun h => ?_) (fun h => ?_)
      · have h' : (10 : Int) ^ (18 : Int).toNat ≤ cell := of_decide_eq_true h
        have z : (0 : Int) ≤ (10 : Int) ^ (18 : Int).toNat := by decide
        refine ⟨_, rfl, _, rfl, _, _, rfl, rfl, (by show (0 : Int) < 1000000007; decide), _, rfl, _, _, rfl, rfl, .inl (by decide), upd_same, drawV cell (cell % 1000000007) (60 * k), rfl, by show 3 ≤ 15; decide, ?_⟩
        rw [merge_nodup (draw_nodup _ _ _), upd_upd]
        exact q d cell _ (by omega) hd
      · refine ⟨_, rfl, _, _, rfl, rfl, (by show (0 : Int) < 1000000007; decide), _, rfl, _, _, rfl, rfl, .inl (by decide), upd_same, drawV 0 (cell % 1000000007) (60 * k), rfl, by show 3 ≤ 15; decide, ?_⟩
        rw [merge_nodup (draw_nodup _ _ _), upd_upd]
        exact q d 0 _ (by omega) hd
    refine ite2 (fun h => ?_) (fun _ => fin 0)
    have h : k < ((ns.map V.int).length : Int) := of_decide_eq_true h
    rw [List.length_map] at h
    obtain ⟨i, hi⟩ : ∃ i : Nat, k = (i : Int) := ⟨k.toNat, by omega⟩
    have hil : i < ns.length := by omega
    refine ⟨_, rfl, _, rfl, a, _, _, _, rfl, rfl, ha, at_of (j := i) hi (v := .int ns[i]) ?_, fin _⟩
    rw [List.getElem?_map, List.getElem?_eq_getElem hil]
    rfl

@[irreducible] def spTake : Sp := fun vs H Q _ => ∃ (d : Addr) (l c a m : Int), vs = [.ref d, .int m] ∧ H d = some (.dK (drawV l c a)) ∧ 0 ≤ l ∧ 0 ≤ a ∧ a ≤ 1000000 ∧ 1 ≤ m ∧ m ≤ 1000000 ∧
  ∀ (n l' a' : Int), 0 ≤ n → n < m → 0 ≤ l' → a ≤ a' → a' ≤ a + 1 → Q (.int n) (upd H d (.dK (drawV l' c a')))
theorem sc_take : FnScope ["_law_draw", "_law_many_things", "_law_found", "_law_at", "_law_mixed"] ["_law_draw", "_law_many_things"] (defScope (top 27)) := ⟨rfl, rfl, rfl, by decide +kernel, rfl, by decide +kernel, by decide +kernel⟩
theorem fn_take (D : Def K mg "_law_take" (top 27) ["_law_draw", "_law_many_things"]) : Fn P w K mg base "_law_take" 1 ["_law_draw", "_law_many_things"] spTake := by
  obtain ⟨f, fd, F, b, m⟩ := D
  refine ⟨f, fd, F.ok sc_take (fun vs H Q E h => ?_) (fun cdv A outer s H vs Q E hr h => ?_), m, F.kp, b⟩
  · unfold spTake at h
    obtain ⟨d, l, c, a, m, rfl, _⟩ := h
    rfl
  · unfold spTake at h
    obtain ⟨d, l, c, a, m, rfl, hd, l0, a0, a1, m0, m1, q⟩ := h
    have hu := hu_of hr
    refine ⟨_, pss_cons (ps_if (pt_cmpR op_gt (pe_dget (by exact hu) (pv 0) pe_str (fun _ _ => rfl)) pe_int (nomark _)) (pss_cons (ps_set (i := 2) sc_take.nd rfl (Or.inl rfl) (pe_op op_mod (pe_dget (by exact hu) (pv 0) pe_str (fun _ _ => rfl)) (pv 1)))
      (pss_cons (ps_dput hu (pv 0) pe_str (pe_op op_fdiv (pe_dget (by exact hu) (pv 0) pe_str (fun _ _ => rfl)) (pv 1)) rfl)
      (pss_one (ps_ret (pv 2))))) pss_nil)
      (pss_cons (ps_set (i := 3) sc_take.nd rfl (Or.inl rfl) (pe_op op_add (pe_dget (by exact hu) (pv 0) pe_str (fun _ _ => rfl)) pe_int))
      (pss_cons (ps_dput hu (pv 0) pe_str (pv 3) rfl)
      (pss_cons (ps_set (i := 4) sc_take.nd rfl (Or.inl rfl) (pe_op op_mod (pe_op op_mul (pe_op op_add (pe_op op_add (pe_op op_add (pe_dget (by exact hu) (pv 0) pe_str (fun _ _ => rfl)) (pe_op op_mul (pe_op op_mul pe_int (pv 3)) (pv 3))) (pe_op op_mul pe_int (pv 3))) pe_int) pe_int) pe_int))
      (pss_one (ps_ret (pe_op op_mod (pe_op op_mod (pe_op op_mul (pv 4) (pe_op op_add (pe_op op_mod (pv 4) pe_int) pe_int)) pe_int) (pv 1))))))), ?_⟩
    have gl : DGet H d (.str "left") (some (.int l)) := draw_left l c a ▸ DGet.k (k := kL) hd
    have ga : DGet H d (.str "at") (some (.int a)) := draw_at l c a ▸ DGet.k (k := kA) hd
    have sz : (drawV l c a).length < sizeLine := small1000 (by show 3 ≤ 1000; decide)
    refine ⟨_, rfl, d, _, rfl, gl, _, _, rfl, rfl, _, rfl, ?_⟩
    refine ite2 (fun h => ?_) (fun h => ?_)
    · refine ⟨_, rfl, d, _, rfl, gl, _, rfl, _, _, rfl, rfl, (by show 0 < m; omega), ?_⟩
      refine ⟨_, rfl, d, _, rfl, gl, _, rfl, _, _, rfl, rfl, (by show 0 < m ∧ m < 1073741824; omega), _, rfl, d, _, rfl, DPut.k (k := kL) hd sz, _, rfl, ?_⟩
      rw [put_left]
      exact q _ _ _ (Int.emod_nonneg _ (by omega)) (Int.emod_lt_of_pos _ (by omega)) (Int.ediv_nonneg l0 (by omega)) (Int.le_refl _) (by omega)
    · refine ⟨_, rfl, d, _, rfl, ga, _, _, rfl, rfl, ?_⟩
      refine ⟨_, rfl, _, rfl, d, _, rfl, DPut.k (k := kA) hd sz, ?_⟩
      rw [put_at]
      have hd2 : (upd H d (.dK (drawV l c (a + 1)))) d = some (.dK (drawV l c (a + 1))) := upd_same
      have gc : DGet (upd H d (.dK (drawV l c (a + 1)))) d (.str "cell") (some (.int c)) := draw_cell l c (a + 1) ▸ DGet.k (k := kC) hd2
      have b1 : ∀ x y : Int, 0 ≤ y → y ≤ 2000000 → CMul x y := fun x y h1 h2 => .inr (by omega)
      refine ⟨_, rfl, d, _, rfl, gc, _, rfl, _, _, rfl, rfl, b1 _ _ (by omega) (by omega), _, rfl, _, _, rfl, rfl, b1 _ _ (by omega) (by omega), _, _, rfl, rfl, _, rfl, _, _, rfl, rfl, b1 _ _ (by omega) (by omega), _, _, rfl, rfl, _, _, rfl, rfl, _, _, rfl, rfl, b1 _ _ (by decide) (by decide), _, _, rfl, rfl, (by show (0 : Int) < 2147483647; decide), ?_⟩
      generalize (c + 7919 * (a + 1) * (a + 1) + 31 * (a + 1) + 17) * 48271 % 2147483647 = mx
      have r1 := Int.emod_nonneg mx (show (65521 : Int) ≠ 0 by decide)
      have r2 := Int.emod_lt_of_pos mx (show (0 : Int) < 65521 by decide)
      refine ⟨_, rfl, _, rfl, _, _, rfl, rfl, (by show (0 : Int) < 65521; decide), _, _, rfl, rfl, _, _, rfl, rfl, b1 _ _ (by omega) (by omega), _, _, rfl, rfl, (by show (0 : Int) < 2147483629; decide), _, rfl, _, _, rfl, rfl, (by show 0 < m; omega), ?_⟩
      exact q _ _ _ (Int.emod_nonneg _ (by omega)) (Int.emod_lt_of_pos _ (by omega)) l0 (by omega) (Int.le_refl _)
end
end K41
set_option Elab.async false
set_option maxRecDepth 100000
set_option maxHeartbeats 4000000
set_option linter.all false
/-! The law's keys and values. -/
namespace K41
open PySem PySem.Spec PyProof.Rows L2
/-- a draw stands at d, its place at most n; all else that stood in H0 stands -/
structure Dr (H0 H : Hp) (d : Addr) (n : Int) : Prop where
  ex : ∃ l c a, H d = some (.dK (drawV l c a)) ∧ 0 ≤ l ∧ 0 ≤ a ∧ a ≤ n
  kp : Keep [d] H0 H
theorem Dr.trans {H0 H H' : Hp} {d : Addr} {n n' : Int} (a : Dr H0 H d n) (b : Dr H H' d n') : Dr H0 H' d n' := ⟨b.ex, a.kp.trans b.kp⟩
theorem Dr.new {H0 H : Hp} {d p : Addr} {n : Int} {o : HO} (a : Dr H0 H d n) (h : H p = none) : Dr H0 (upd H p o) d n := by
  obtain ⟨l, c, x, e, r⟩ := a.ex
  have s : Same H (upd H p o) := fun b u e => by rw [upd_ne (ne_of_none e h)]; exact e
  exact ⟨⟨l, c, x, s _ _ e, r⟩, a.kp.trans (Keep.of s)⟩
theorem Dr.le {H0 H : Hp} {d : Addr} {n n' : Int} (a : Dr H0 H d n) (h : n ≤ n') : Dr H0 H d n' := by
  obtain ⟨l, c, x, e, r1, r2, r3⟩ := a.ex
  exact ⟨⟨l, c, x, e, r1, r2, by omega⟩, a.kp⟩
theorem Dr.ne {H0 H : Hp} {d p : Addr} {n : Int} (a : Dr H0 H d n) (h : H p = none) : p ∉ [d] := fun z => by
  obtain ⟨l, c, x, e, _⟩ := a.ex
  rw [List.mem_singleton.mp z, e] at h
  cases h
theorem Dr.self {H0 H : Hp} {d : Addr} {n : Int} (a : Dr H0 H d n) : Dr H H d n := ⟨a.ex, Keep.refl⟩
theorem take_use {H0 H : Hp} {d : Addr} {n m : Int} {Q : VK} (D : Dr H0 H d n) (hn : n ≤ 1000000) (h1 : 1 ≤ m) (h2 : m ≤ 1000000) (h : ∀ (k : Int) (H' : Hp), 0 ≤ k → k < m → Dr H0 H' d (n + 1) → Keep [d] H H' → Q (.int k) H') : spTake [.ref d, .int m] H Q E0 := by
  obtain ⟨l, c, a, e, r1, r2, r3⟩ := D.ex
  unfold spTake
  refine ⟨d, l, c, a, m, rfl, e, r1, r2, by omega, h1, h2, fun k l' a' k0 k1 l0 x1 x2 => ?_⟩
  have kp : Keep [d] H (upd H d (.dK (drawV l' c a'))) := Keep.refl.put (by simp)
  exact h k _ k0 k1 ⟨⟨l', c, a', upd_same, l0, by omega, by omega⟩, D.kp.trans kp⟩ kp
abbrev sgn (c : Nat) : Str := ⟨#[c]⟩
theorem join_sgn (cs : List Nat) : Txt.join "" (cs.map sgn) = ⟨cs.toArray⟩ := by
  rw [TL.join_eq]
  have e : cs.map sgn = signs ⟨cs.toArray⟩ := rfl
  rw [e]
  exact join_nil_signs _
theorem letter_at {n : Int} (h0 : 0 ≤ n) (h1 : n < 26) : ∃ c : Nat, (97 ≤ c ∧ c ≤ 122) ∧ atI ("abcdefghijklmnopqrstuvwxyz" : Str).cps.toList n = some c := by
  obtain ⟨i, hi⟩ : ∃ i : Nat, n = (i : Int) := ⟨n.toNat, by omega⟩
  refine ⟨97 + i, by omega, ?_⟩
  rw [hi]
  refine atI_nat ?_
  rw [letters_are, List.getElem?_range' (by omega)]
  simp
section
variable {P : Program} {w : World} {K : PySem.W.Frag} {mg : Str → Option Value} {base : Heap} {CT CB : Addr}
def spLKey : Sp := fun vs H Q _ => ∃ (d : Addr) (n : Int), vs = [.ref d] ∧ Dr H H d n ∧ n ≤ 900000 ∧ ∀ (k : Str) (H' : Hp), KeyOk k → Dr H H' d (n + 10) → Q (.str k) H'
theorem sc_lkey : FnScope ["_law_draw", "_law_size", "_law_k"] ["_law_draw"] (defScope (top 28)) := ⟨rfl, rfl, rfl, by decide +kernel, rfl, by decide +kernel, by decide +kernel⟩
theorem fn_lkey (D : Def K mg "_law_key" (top 28) ["_law_draw"]) (T : Txt w K mg CT CB) (GT : Fn P w K mg base "_law_take" 1 ["_law_draw", "_law_many_things"] spTake) : Fn P w K mg base "_law_key" 2 ["_law_draw"] spLKey := by
  obtain ⟨f, fd, F, b, m⟩ := D
  refine ⟨f, fd, F.ok sc_lkey (fun vs H Q E h => ?_) (fun cdv A outer s H vs Q E hr h => ?_), m, F.kp, b⟩
  · obtain ⟨d, n, rfl, _⟩ := h
    rfl
  · obtain ⟨d, n, rfl, D0, hn, q⟩ := h
    have hr1 : Room 1 _ := hr
    refine ⟨_, pss_cons (ps_if (pt_cmpR op_gt (pe_fn GT hr1 (by rfl) (pa_cons (pv 0) (pa_cons pe_int pa_nil))) pe_int (nomark _)) (pss_one (ps_ret (pe_ix ix_list (pe_lst (pa_cons pe_str (pa_cons pe_str (pa_cons pe_str (pa_cons pe_str pa_nil))))) (pe_fn GT hr1 (by rfl) (pa_cons (pv 0) (pa_cons pe_int pa_nil))) (fun _ _ => rfl)))) pss_nil)
      (pss_cons (ps_set (i := 1) sc_lkey.nd rfl (Or.inl rfl) (pe_op op_add pe_int (pe_fn GT hr1 (by rfl) (pa_cons (pv 0) (pa_cons pe_int pa_nil)))))
      (pss_one (ps_ret (pe_join pe_str (pe_lc (own := [("_law_k", 2)]) (g := gName 2) (tt := tYes) rfl sc_lkey.nd (pi_range1 rfl T.range (pa_cons (pv 1) pa_nil)) (blkOk_by (own := [("_law_k", 2)]) (N := ["_law_draw", "_law_size", "_law_k"]) (sc := defScope (top 28)) (by decide +kernel)) (fun _ _ _ _ _ => pg_name (i := 2) sc_lkey.nd rfl (Or.inl rfl)) (fun _ _ _ _ _ => pts_nil) (fun _ _ _ _ _ => (pe_ix ix_str pe_str (pe_fn GT hr1 (by rfl) (pa_cons (pv 0) (pa_cons pe_int pa_nil))) (fun _ _ => rfl)))))))), ?_⟩
    refine ⟨_, rfl, take_use D0 (by omega) (by decide) (by decide) fun k0 H1 a1 a2 D1 _ => ?_⟩
    refine ⟨_, _, rfl, rfl, _, rfl, ?_⟩
    refine ite2 (fun h => ?_) (fun h => ?_)
    · -- one of a few
      refine ⟨by show 4 ≤ sizeLine; decide, fun p hp => ?_⟩
      have D2 := D1.new (o := .lst [.str "a", .str "b", .str "ab", .str "zz"]) hp
      have hp2 : (upd H1 p (.lst [.str "a", .str "b", .str "ab", .str "zz"])) p = some (.lst [.str "a", .str "b", .str "ab", .str "zz"]) := upd_same
      generalize upd H1 p (.lst [.str "a", .str "b", .str "ab", .str "zz"]) = H2 at D2 hp2
      refine ⟨_, rfl, take_use D2 (by omega) (by decide) (by decide) fun k1 H3 b1 b2 D3 kp => ?_⟩
      obtain ⟨l, c, a, e, _⟩ := D2.ex
      have npd : p ∉ [d] := fun z => by rw [List.mem_singleton.mp z, e] at hp2; cases hp2
      have hp3 := kp _ _ hp2 npd
      have k4 : k1 = 0 ∨ k1 = 1 ∨ k1 = 2 ∨ k1 = 3 := by omega
      have ok1 : KeyOk "a" ∧ KeyOk "b" ∧ KeyOk "ab" ∧ KeyOk "zz" := by unfold KeyOk; decide +kernel
      have Dz : Dr H H3 d (n + 10) := D3.le (by omega)
      rcases k4 with z | z | z | z
      · subst z; exact ⟨p, _, _, _, rfl, rfl, SqL.of hp3, at_of (j := 0) rfl rfl, q _ H3 ok1.1 Dz⟩
      · subst z; exact ⟨p, _, _, _, rfl, rfl, SqL.of hp3, at_of (j := 1) rfl rfl, q _ H3 ok1.2.1 Dz⟩
      · subst z; exact ⟨p, _, _, _, rfl, rfl, SqL.of hp3, at_of (j := 2) rfl rfl, q _ H3 ok1.2.2.1 Dz⟩
      · subst z; exact ⟨p, _, _, _, rfl, rfl, SqL.of hp3, at_of (j := 3) rfl rfl, q _ H3 ok1.2.2.2 Dz⟩
    · -- any
      refine ⟨_, rfl, take_use D1 (by omega) (by decide) (by decide) fun k1 H2 b1 b2 D2 _ => ?_⟩
      refine ⟨_, _, rfl, rfl, ?_⟩
      refine ⟨⟨_, rfl⟩, _, rfl, ?_⟩
      refine ⟨1 + k1, rfl, by omega, by omega, ?_⟩
      intro L hL
      have hL2 : H2 L = none := hL
      obtain ⟨z, hz⟩ : ∃ z : Nat, z = (1 + k1).toNat := ⟨_, rfl⟩
      refine lc_range (lo := 0) (n := (1 + k1).toNat) (fun i H' => ∃ cs : List Nat, cs.length = i ∧ (∀ c ∈ cs, 97 ≤ c ∧ c ≤ 122) ∧ H' L = some (.lst ((cs.map sgn).map V.str)) ∧ Dr H H' d (n + 2 + (i : Int)))
        ⟨[], rfl, fun _ h => (by cases h), upd_same, (D2.new hL).le (by omega)⟩ (fun i H' hi ⟨cs, hl, hc, hLs, D3⟩ => ?_) (fun H' ⟨cs, hl, hc, hLs, D3⟩ => ?_)
      · have hi8 : i < 8 := by omega
        refine ⟨rfl, ?_⟩
        refine yesT ?_
        refine ⟨_, rfl, take_use D3 (by omega) (by decide) (by decide) fun k2 H4 c1 c2 D4 kp => ?_⟩
        obtain ⟨c, hc1, hc2⟩ := letter_at c1 c2
        obtain ⟨l, c', a, e, _⟩ := D3.ex
        have nLd : L ∉ [d] := fun z => by rw [List.mem_singleton.mp z, e] at hLs; cases hLs
        refine ⟨_, _, c, rfl, rfl, by decide +kernel, hc2, _, kp _ _ hLs nLd, ?_, cs ++ [c], by rw [List.length_append, hl]; rfl, fun x hx => ?_, ?_, ?_⟩
        · rw [List.length_map, List.length_map, hl, sizeLine_eq]; omega
        · rcases List.mem_append.mp hx with hx | hx
          · exact hc x hx
          · rw [List.mem_singleton.mp hx]; exact hc1
        · rw [upd_same, List.map_append, List.map_append]; rfl
        · obtain ⟨l, c', a, e4, r⟩ := D4.ex
          have ndL : d ≠ L := fun z => nLd (by simp [z])
          have nkL : H L = none := D2.kp.free hL2 nLd
          refine ⟨⟨l, c', a, by rw [upd_ne ndL]; exact e4, r.1, r.2.1, by omega⟩, fun b u e nb => ?_⟩
          rw [upd_ne (ne_of_none e nkL)]
          exact D4.kp b u e nb
      · refine ⟨"", L, cs.map sgn, rfl, rfl, .inl (SqL.of hLs), ?_, ?_⟩
        · have e1 : ∀ cs : List Nat, ((cs.map sgn).map (·.length)).sum = cs.length := fun cs => by
            induction cs with
            | nil => rfl
            | cons c cs ih => rw [List.map_cons, List.map_cons, List.sum_cons, ih, List.length_cons]; show 1 + _ = _; omega
          have e2 : ("" : Str).length = 0 := by decide +kernel
          rw [e1, e2, hl]
          omega
        · rw [join_sgn]
          refine q _ H' ⟨?_, ?_, fun c h => hc c (by simpa using h)⟩ (D3.le (by omega))
          · show 1 ≤ cs.toArray.size
            rw [List.size_toArray, hl]; omega
          · show cs.toArray.size ≤ 8
            rw [List.size_toArray, hl]; omega

@[irreducible] def spLValue : Sp := fun vs H Q _ => ∃ (d : Addr) (n : Int), vs = [.ref d] ∧ Dr H H d n ∧ n ≤ 900000 ∧ ∀ (v : Int) (H' : Hp), ValOk v → Dr H H' d (n + 10) → Q (.int v) H'
theorem sc_lvalue : FnScope ["_law_draw", "_law_way"] ["_law_draw"] (defScope (top 29)) := ⟨rfl, rfl, rfl, by decide +kernel, rfl, by decide +kernel, by decide +kernel⟩
theorem fn_lvalue (D : Def K mg "_law_value" (top 29) ["_law_draw"]) (GT : Fn P w K mg base "_law_take" 1 ["_law_draw", "_law_many_things"] spTake) : Fn P w K mg base "_law_value" 2 ["_law_draw"] spLValue := by
  obtain ⟨f, fd, F, b, m⟩ := D
  refine ⟨f, fd, F.ok sc_lvalue (fun vs H Q E h => ?_) (fun cdv A outer s H vs Q E hr h => ?_), m, F.kp, b⟩
  · unfold spLValue at h
    obtain ⟨d, n, rfl, _⟩ := h
    rfl
  · unfold spLValue at h
    obtain ⟨d, n, rfl, D0, hn, q⟩ := h
    have hr1 : Room 1 _ := hr
    have pw : CPow 10 12 := ⟨by decide, by decide, by decide⟩
    have pw6 : CPow 10 6 := ⟨by decide, by decide, by decide⟩
    have e12 : (10 : Int) ^ (12 : Int).toNat = 1000000000000 := by decide
    have e6 : (10 : Int) ^ (6 : Int).toNat = 1000000 := by decide
    refine ⟨_, pss_cons (ps_set (i := 1) sc_lvalue.nd rfl (Or.inl rfl) (pe_fn GT hr1 (by rfl) (pa_cons (pv 0) (pa_cons pe_int pa_nil))))
      (pss_cons (ps_if (pt_cmpR op_lt (pv 1) pe_int (nomark _)) (pss_one (ps_ret (pe_op op_sub (pe_fn GT hr1 (by rfl) (pa_cons (pv 0) (pa_cons pe_int pa_nil))) pe_int))) pss_nil)
      (pss_cons (ps_if (pt_cmpR op_eq (pv 1) pe_int (nomark _)) (pss_one (ps_ret (pe_ix ix_list (pe_lst (pa_cons (pe_op op_pow pe_int pe_int) (pa_cons (pe_un un_neg (pe_op op_pow pe_int pe_int)) (pa_cons (pe_op op_sub (pe_op op_pow pe_int pe_int) pe_int) pa_nil)))) (pe_fn GT hr1 (by rfl) (pa_cons (pv 0) (pa_cons pe_int pa_nil))) (fun _ _ => rfl)))) pss_nil)
      (pss_one (ps_ret (pe_op op_sub (pe_op op_add (pe_op op_mul (pe_fn GT hr1 (by rfl) (pa_cons (pv 0) (pa_cons (pe_op op_pow pe_int pe_int) pa_nil))) (pe_op op_pow pe_int pe_int)) (pe_fn GT hr1 (by rfl) (pa_cons (pv 0) (pa_cons (pe_op op_pow pe_int pe_int) pa_nil)))) (pe_ix ix_list (pe_lst (pa_cons pe_int (pa_cons (pe_op op_pow pe_int pe_int) pa_nil))) (pe_fn GT hr1 (by rfl) (pa_cons (pv 0) (pa_cons pe_int pa_nil))) (fun _ _ => rfl))))))), ?_⟩
    refine ⟨_, rfl, take_use D0 (by omega) (by decide) (by decide) fun k0 H1 a1 a2 D1 _ => ?_⟩
    refine ⟨_, rfl, _, _, rfl, rfl, _, rfl, ?_⟩
    refine ite2 (fun h => ?_) (fun h => ?_)
    · refine ⟨_, rfl, take_use D1 (by omega) (by decide) (by decide) fun k1 H2 b1 b2 D2 _ => ?_⟩
      refine ⟨_, _, rfl, rfl, ?_⟩
      exact q _ H2 (by unfold ValOk; omega) (D2.le (by omega))
    refine ⟨_, rfl, rfl, _, rfl, ?_⟩
    refine ite2 (fun h => ?_) (fun h => ?_)
    · refine ⟨_, _, rfl, rfl, pw, _, _, rfl, rfl, pw, _, rfl, _, _, rfl, rfl, pw, _, _, rfl, rfl, by show 3 ≤ sizeLine; decide, fun p hp => ?_⟩
      have D2 := D1.new (o := .lst [V.int ((10 : Int) ^ (12 : Int).toNat), V.int (-(10 : Int) ^ (12 : Int).toNat), V.int ((10 : Int) ^ (12 : Int).toNat - 1)]) hp
      have hp2 : (upd H1 p (.lst [V.int ((10 : Int) ^ (12 : Int).toNat), V.int (-(10 : Int) ^ (12 : Int).toNat), V.int ((10 : Int) ^ (12 : Int).toNat - 1)])) p = _ := upd_same
      refine ⟨_, rfl, take_use D2 (by omega) (by decide) (by decide) fun k1 H3 b1 b2 D3 kp => ?_⟩
      have hp3 := kp _ _ hp2 (D1.ne hp)
      rw [e12] at hp3
      have k4 : k1 = 0 ∨ k1 = 1 ∨ k1 = 2 := by omega
      have Dz : Dr H H3 d (n + 10) := D3.le (by omega)
      rcases k4 with z | z | z
      · subst z; exact ⟨p, _, _, _, rfl, rfl, SqL.of hp3, at_of (j := 0) rfl rfl, q _ H3 (by unfold ValOk; decide) Dz⟩
      · subst z; exact ⟨p, _, _, _, rfl, rfl, SqL.of hp3, at_of (j := 1) rfl rfl, q _ H3 (by unfold ValOk; decide) Dz⟩
      · subst z; exact ⟨p, _, _, _, rfl, rfl, SqL.of hp3, at_of (j := 2) rfl rfl, q _ H3 (by unfold ValOk; decide) Dz⟩
    · refine ⟨_, rfl, _, _, rfl, rfl, pw6, take_use (m := (10 : Int) ^ (6 : Int).toNat) D1 (by omega) (by decide) (by decide) fun k1 H2 b1 b2 D2 _ => ?_⟩
      rw [e6] at b2
      refine ⟨_, _, rfl, rfl, pw6, _, _, rfl, rfl, .inr (by show -(2 ^ 64) < (10 : Int) ^ (6 : Int).toNat ∧ (10 : Int) ^ (6 : Int).toNat < 2 ^ 64; decide), ?_⟩
      refine ⟨_, rfl, _, _, rfl, rfl, pw6, take_use (m := (10 : Int) ^ (6 : Int).toNat) D2 (by omega) (by decide) (by decide) fun k2 H3 c1 c2 D3 _ => ?_⟩
      rw [e6] at c2
      refine ⟨_, _, rfl, rfl, ?_⟩
      refine ⟨_, _, rfl, rfl, pw, by show 2 ≤ sizeLine; decide, fun p hp => ?_⟩
      have D4 := D3.new (o := .lst [V.int 0, V.int ((10 : Int) ^ (12 : Int).toNat)]) hp
      have hp2 : (upd H3 p (.lst [V.int 0, V.int ((10 : Int) ^ (12 : Int).toNat)])) p = _ := upd_same
      refine ⟨_, rfl, take_use D4 (by omega) (by decide) (by decide) fun k3 H5 f1 f2 D5 kp => ?_⟩
      have hp3 := kp _ _ hp2 (D3.ne hp)
      rw [e12] at hp3
      have k4 : k3 = 0 ∨ k3 = 1 := by omega
      have Dz : Dr H H5 d (n + 10) := D5.le (by omega)
      rcases k4 with z | z
      · subst z
        refine ⟨p, _, _, _, rfl, rfl, SqL.of hp3, at_of (j := 0) rfl rfl, _, _, rfl, rfl, ?_⟩
        rw [e6]
        exact q _ H5 (by unfold ValOk; omega) Dz
      · subst z
        refine ⟨p, _, _, _, rfl, rfl, SqL.of hp3, at_of (j := 1) rfl rfl, _, _, rfl, rfl, ?_⟩
        rw [e6]
        exact q _ H5 (by unfold ValOk; omega) Dz
end
end K41
set_option Elab.async false
set_option maxRecDepth 100000
set_option maxHeartbeats 4000000
set_option linter.all false
/-! The law's asks. -/
namespace K41
open PySem PySem.Spec PyProof.Rows L2
abbrev wordsV : List V := [.str "put", .str "add", .str "drop", .str "swap", .str "swap", .str "read", .str "many", .str "add"]
theorem word_at {n : Int} (h0 : 0 ≤ n) (h1 : n < 8) : ∃ x : Str, atI wordsV n = some (.str x) ∧ (x = "put" ∨ x = "add" ∨ x = "drop" ∨ x = "swap" ∨ x = "read" ∨ x = "many") := by
  have k : n = 0 ∨ n = 1 ∨ n = 2 ∨ n = 3 ∨ n = 4 ∨ n = 5 ∨ n = 6 ∨ n = 7 := by omega
  rcases k with z | z | z | z | z | z | z | z
  · subst z; exact ⟨"put", at_of (j := 0) rfl rfl, .inl rfl⟩
  · subst z; exact ⟨"add", at_of (j := 1) rfl rfl, .inr (.inl rfl)⟩
  · subst z; exact ⟨"drop", at_of (j := 2) rfl rfl, .inr (.inr (.inl rfl))⟩
  · subst z; exact ⟨"swap", at_of (j := 3) rfl rfl, .inr (.inr (.inr (.inl rfl)))⟩
  · subst z; exact ⟨"swap", at_of (j := 4) rfl rfl, .inr (.inr (.inr (.inl rfl)))⟩
  · subst z; exact ⟨"read", at_of (j := 5) rfl rfl, .inr (.inr (.inr (.inr (.inl rfl))))⟩
  · subst z; exact ⟨"many", at_of (j := 6) rfl rfl, .inr (.inr (.inr (.inr (.inr rfl))))⟩
  · subst z; exact ⟨"add", at_of (j := 7) rfl rfl, .inr (.inl rfl)⟩
theorem old_at {v n : Int} (h0 : 0 ≤ n) (h1 : n < 4) (ok : ValOk v) : ∃ o : Option Int, atI [V.non, V.non, V.int v, V.non] n = some (oV o) ∧ OldOk o := by
  have k : n = 0 ∨ n = 1 ∨ n = 2 ∨ n = 3 := by omega
  rcases k with z | z | z | z
  · subst z; exact ⟨none, at_of (j := 0) rfl rfl, trivial⟩
  · subst z; exact ⟨none, at_of (j := 1) rfl rfl, trivial⟩
  · subst z; exact ⟨some v, at_of (j := 2) rfl rfl, ok⟩
  · subst z; exact ⟨none, at_of (j := 3) rfl rfl, trivial⟩
section
variable {P : Program} {w : World} {K : PySem.W.Frag} {mg : Str → Option Value} {base : Heap} {CT CB : Addr}
def spLAsk : Sp := fun vs H Q _ => ∃ (d kn : Addr) (n : Int), vs = [.ref d, .ref kn] ∧ Dr H H d n ∧ H kn = some (.dK []) ∧ n ≤ 800000 ∧ ∀ (p : Addr) (a : Ask) (H' : Hp), a.ok → H' p = some (.tup a.vs) → Dr H H' d (n + 60) → Q (.ref p) H'
theorem sc_lask : FnScope ["_law_draw", "_law_known", "_law_word", "_law_key_here", "_law_there", "_law_old"] ["_law_draw", "_law_known"] (defScope (top 30)) := ⟨rfl, rfl, rfl, by decide +kernel, rfl, by decide +kernel, by decide +kernel⟩
theorem fn_lask (D : Def K mg "_law_ask" (top 30) ["_law_draw", "_law_known"]) (GT : Fn P w K mg base "_law_take" 1 ["_law_draw", "_law_many_things"] spTake) (GK : Fn P w K mg base "_law_key" 2 ["_law_draw"] spLKey) (GV : Fn P w K mg base "_law_value" 2 ["_law_draw"] spLValue) :
    Fn P w K mg base "_law_ask" 3 ["_law_draw", "_law_known"] spLAsk := by
  obtain ⟨f, fd, F, b, m⟩ := D
  refine ⟨f, fd, F.ok sc_lask (fun vs H Q E h => ?_) (fun cdv A outer s H vs Q E hr h => ?_), m, F.kp, b⟩
  · obtain ⟨d, kn, n, rfl, _⟩ := h
    rfl
  · obtain ⟨d, kn, n, rfl, D0, hkn, hn, q⟩ := h
    have hu := hu_of hr
    have hr1 : Room 1 _ := hr.mono (by decide)
    have pw : CPow 10 12 := ⟨by decide, by decide, by decide⟩
    have e12 : (10 : Int) ^ (12 : Int).toNat = 1000000000000 := by decide
    have nkd : kn ∉ [d] := fun z => by
      obtain ⟨l, c, x, e, _⟩ := D0.ex
      rw [List.mem_singleton.mp z, e] at hkn
      cases hkn
    refine ⟨_, pss_cons (ps_set (i := 2) sc_lask.nd rfl (Or.inl rfl) (pe_ix ix_list (pe_lst (pa_cons pe_str (pa_cons pe_str (pa_cons pe_str (pa_cons pe_str (pa_cons pe_str (pa_cons pe_str (pa_cons pe_str (pa_cons pe_str pa_nil))))))))) (pe_fn GT hr1 (by rfl) (pa_cons (pv 0) (pa_cons pe_int pa_nil))) (fun _ _ => rfl)))
      (pss_cons (ps_if (pt_cmpR op_eq (pv 2) pe_str (nomark _)) (pss_one (ps_ret (pe_tup (pa_cons (pv 2) pa_nil)))) pss_nil)
      (pss_cons (ps_set (i := 3) sc_lask.nd rfl (Or.inl rfl) (pe_fn GK hr (by rfl) (pa_cons (pv 0) pa_nil)))
      (pss_cons (ps_if (pt_cmpR op_in_seq (pv 2) (pe_tup (pa_cons pe_str (pa_cons pe_str pa_nil))) rfl) (pss_one (ps_ret (pe_tup (pa_cons (pv 2) (pa_cons (pv 3) pa_nil))))) pss_nil)
      (pss_cons (ps_if (pt_cmpR op_ne (pv 2) pe_str (nomark _)) (pss_one (ps_ret (pe_tup (pa_cons (pv 2) (pa_cons (pv 3) (pa_cons (pe_fn GV hr (by rfl) (pa_cons (pv 0) pa_nil)) pa_nil)))))) pss_nil)
      (pss_cons (ps_set (i := 4) sc_lask.nd rfl (Or.inl rfl) (pe_dget1 hu (pv 1) (pv 3) ⟨rfl, rfl, rfl, rfl⟩))
      (pss_cons (ps_set (i := 5) sc_lask.nd rfl (Or.inl rfl) (pe_ix ix_list (pe_lst (pa_cons (pv 4) (pa_cons pe_non (pa_cons (pe_fn GV hr (by rfl) (pa_cons (pv 0) pa_nil)) (pa_cons (pv 4) pa_nil))))) (pe_fn GT hr1 (by rfl) (pa_cons (pv 0) (pa_cons pe_int pa_nil))) (fun _ _ => rfl)))
      (pss_cons (ps_if (PW.pt (pw_and (pt_cmp (pc_notN (pv 5))) (pw_and1 (pt_not (pt_chain op_le op_le (pe_un un_neg (pe_op op_pow pe_int pe_int)) (pv 5) (pe_op op_pow pe_int pe_int)))))) pss_never pss_nil)
      (pss_one (ps_ret (pe_tup (pa_cons (pv 2) (pa_cons (pv 3) (pa_cons (pv 5) (pa_cons (pe_fn GV hr (by rfl) (pa_cons (pv 0) pa_nil)) pa_nil)))))))))))))), ?_⟩
    refine ⟨by show 8 ≤ sizeLine; decide, fun p hp => ?_⟩
    have D1 := D0.new (o := .lst wordsV) hp
    have hp1 : (upd H p (.lst wordsV)) p = some (.lst wordsV) := upd_same
    refine ⟨_, rfl, take_use D1 (by omega) (by decide) (by decide) fun k1 H2 a1 a2 D2 kp => ?_⟩
    have hp2 := kp _ _ hp1 (D0.ne hp)
    obtain ⟨x, hx, hw⟩ := word_at a1 a2
    refine ⟨p, wordsV, _, _, rfl, rfl, SqL.of hp2, hx, ?_⟩
    refine ⟨_, rfl, rfl, _, rfl, ?_⟩
    by_cases hm : x = "many"
    · subst hm
      refine iteTd (decide_eq_true rfl) ⟨_, rfl, by show 1 ≤ sizeLine; decide, fun t ht => ?_⟩
      exact q t .many _ trivial upd_same ((D2.new ht).le (by omega))
    refine iteFd (decide_eq_false fun z => hm (V.str.inj z)) ?_
    refine ⟨_, rfl, d, n + 1, rfl, D2.self, by omega, fun k H3 hk D3' => ?_⟩
    have D3 := D2.trans D3'
    -- if word in ("drop", "read")
    refine ⟨_, rfl, by show 2 ≤ sizeLine; decide, fun u hu3 => ?_⟩
    have D4 := D3.new (o := .tup [.str "drop", .str "read"]) hu3
    have hu4 : (upd H3 u (.tup [.str "drop", .str "read"])) u = some (.tup [.str "drop", .str "read"]) := upd_same
    generalize upd H3 u (.tup [.str "drop", .str "read"]) = H4 at D4 hu4
    refine ⟨u, _, rfl, .inr (SqT.of hu4), rfl, rfl, _, rfl, ?_⟩
    have value : ∀ {H5 : Hp} {n' : Int} {R : VK}, Dr H H5 d n' → n' ≤ 900000 → (∀ (v : Int) (H6 : Hp), ValOk v → Dr H H6 d (n' + 10) → R (.int v) H6) → spLValue [.ref d] H5 R E0 := fun {H5 n' R} D5 h5 r => by
      unfold spLValue
      exact ⟨d, n', rfl, D5.self, h5, fun v H6 ok D6 => r v H6 ok (D5.trans D6)⟩
    rcases hw with z | z | z | z | z | z
    · subst z
      refine iteFd (by decide +kernel) ?_
      refine ⟨_, rfl, rfl, _, rfl, ?_⟩
      refine iteTd (by rw [word_ns (x := "put") (y := "swap") (by decide +kernel)]; rfl) ?_
      refine ⟨_, rfl, _, rfl, _, rfl, value D4 (by omega) fun v H5 ok D5 => ⟨by show 3 ≤ sizeLine; decide, fun t ht => ?_⟩⟩
      exact q t (.put k v) _ ⟨hk, ok⟩ upd_same ((D5.new ht).le (by omega))
    · subst z
      refine iteFd (by decide +kernel) ?_
      refine ⟨_, rfl, rfl, _, rfl, ?_⟩
      refine iteTd (by rw [word_ns (x := "add") (y := "swap") (by decide +kernel)]; rfl) ?_
      refine ⟨_, rfl, _, rfl, _, rfl, value D4 (by omega) fun v H5 ok D5 => ⟨by show 3 ≤ sizeLine; decide, fun t ht => ?_⟩⟩
      exact q t (.add k v) _ ⟨hk, ok⟩ upd_same ((D5.new ht).le (by omega))
    · subst z
      refine iteTd (by decide +kernel) ?_
      refine ⟨_, rfl, _, rfl, by show 2 ≤ sizeLine; decide, fun t ht => ?_⟩
      exact q t (.drop k) _ hk upd_same ((D4.new ht).le (by omega))
    · subst z
      refine iteFd (by decide +kernel) ?_
      refine ⟨_, rfl, rfl, _, rfl, iteNS rfl ?_⟩
      have hkn4 := D4.kp _ _ hkn nkd
      refine ⟨_, rfl, kn, rfl, .inl ⟨_, .inl hkn4⟩, _, rfl, _, DGet.k (k := Sum.inr k) hkn4, ?_⟩
      refine ⟨_, rfl, _, rfl, value D4 (by omega) fun v H5 ok D5 => ⟨_, rfl, by show 4 ≤ sizeLine; decide, fun l hl => ?_⟩⟩
      have D6 := D5.new (o := .lst [V.non, V.non, V.int v, V.non]) hl
      have hl6 : (upd H5 l (.lst [V.non, V.non, V.int v, V.non])) l = some (.lst [V.non, V.non, V.int v, V.non]) := upd_same
      refine ⟨_, rfl, take_use D6 (by omega) (by decide) (by decide) fun k2 H7 b1 b2 D7 kp7 => ?_⟩
      have hl7 := kp7 _ _ hl6 (D5.ne hl)
      obtain ⟨o, ho, ook⟩ := old_at b1 b2 ok
      refine ⟨l, _, _, _, rfl, rfl, SqL.of hl7, ho, ?_⟩
      refine ⟨_, rfl, _, rfl, ?_⟩
      have fin : ∀ {H8 : Hp}, Dr H H8 d (n + 50) → ∀ t, H8 t = none → ∀ v2 : Int, ValOk v2 → Q (.ref t) (upd H8 t (.tup [.str "swap", .str k, oV o, .int v2])) := fun {H8} D8 t ht v2 ok2 => q t (.swap k o v2) _ ⟨hk, ook, ok2⟩ upd_same ((D8.new ht).le (by omega))
      cases o with
      | none =>
        refine iteFd (by decide) (iteF ?_)
        refine ⟨_, rfl, _, rfl, _, rfl, _, rfl, value D7 (by omega) fun v2 H8 ok2 D8 => ⟨by show 4 ≤ sizeLine; decide, fun t ht => ?_⟩⟩
        exact fin (D8.le (by omega)) t ht v2 ok2
      | some i =>
        refine iteTd (by rfl) ?_
        have ook : ValOk i := ook
        unfold ValOk at ook
        refine ⟨_, _, rfl, rfl, pw, _, rfl, _, rfl, _, _, rfl, rfl, _, rfl, ?_⟩
        refine iteTd (decide_eq_true (by show -(10 : Int) ^ (12 : Int).toNat ≤ i; rw [e12]; omega)) ?_
        refine ⟨_, _, rfl, rfl, pw, _, _, rfl, rfl, _, rfl, ?_⟩
        rw [show decide (i ≤ (10 : Int) ^ (12 : Int).toNat) = true from decide_eq_true (by rw [e12]; omega)]
        refine iteF ?_
        refine ⟨_, rfl, _, rfl, _, rfl, _, rfl, value D7 (by omega) fun v2 H8 ok2 D8 => ⟨by show 4 ≤ sizeLine; decide, fun t ht => ?_⟩⟩
        exact fin (D8.le (by omega)) t ht v2 ok2
    · subst z
      refine iteTd (by decide +kernel) ?_
      refine ⟨_, rfl, _, rfl, by show 2 ≤ sizeLine; decide, fun t ht => ?_⟩
      exact q t (.read k) _ hk upd_same ((D4.new ht).le (by omega))
    · exact absurd z hm

/-! ### _law_does: the table alone, as a dict -/
def spLDoes : Sp := fun vs H Q _ => ∃ (d pa : Addr) (t : Tab) (a : Ask), vs = [.ref d, .ref pa] ∧ H d = some (.dK (tabV t)) ∧ H pa = some (.tup a.vs) ∧ t.length ≤ 1000 ∧ ∀ H', Keep [d] H H' → H' d = some (.dK (tabV (doAsk t a).1)) → Q (doAsk t a).2.v H'
theorem sc_ldoes : FnScope ["_law_known", "_law_ask_here", "_law_there"] ["_law_known", "_law_ask_here"] (defScope (top 31)) := ⟨rfl, rfl, rfl, by decide +kernel, rfl, by decide +kernel, by decide +kernel⟩
theorem fn_ldoes (D : Def K mg "_law_does" (top 31) ["_law_known", "_law_ask_here"]) (T : Txt w K mg CT CB) : Fn P w K mg base "_law_does" 1 ["_law_known", "_law_ask_here"] spLDoes := by
  obtain ⟨f, fd, F, b, m⟩ := D
  refine ⟨f, fd, F.ok sc_ldoes (fun vs H Q E h => ?_) (fun cdv A outer s H vs Q E hr h => ?_), m, F.kp, b⟩
  · obtain ⟨d, pa, t, a, rfl, _⟩ := h
    rfl
  · obtain ⟨d, pa, t, a, rfl, hd, ha, hl, q⟩ := h
    have hu := hu_of hr
    refine ⟨_, pss_cons (ps_if (pt_cmpR op_eq (pe_ix ix_tup (pv 1) pe_int (fun _ _ => rfl)) pe_str (nomark _)) (pss_one (ps_ret (pe_callB call_lenD (by rfl) T.len PySem.boot_len (pa_cons (pv 0) pa_nil)))) pss_nil)
      (pss_cons (ps_set (i := 2) sc_ldoes.nd rfl (Or.inl rfl) (pe_dget1 hu (pv 0) (pe_ix ix_tup (pv 1) pe_int (fun _ _ => rfl)) ⟨rfl, rfl, rfl, rfl⟩))
      (pss_cons (ps_if (pt_cmpR op_eq (pe_ix ix_tup (pv 1) pe_int (fun _ _ => rfl)) pe_str (nomark _)) (pss_one (ps_dput hu (pv 0) (pe_ix ix_tup (pv 1) pe_int (fun _ _ => rfl)) (pe_ix ix_tup (pv 1) pe_int (fun _ _ => rfl)) rfl)) pss_nil)
      (pss_cons (ps_if (pt_cmpR op_eq (pe_ix ix_tup (pv 1) pe_int (fun _ _ => rfl)) pe_str (nomark _)) (pss_cons (ps_set (i := 2) sc_ldoes.nd rfl (Or.inl rfl) (pe_ifExp (pt_cmp (pc_isN (pv 2))) (pe_ix ix_tup (pv 1) pe_int (fun _ _ => rfl)) (pe_op op_add (pv 2) (pe_ix ix_tup (pv 1) pe_int (fun _ _ => rfl)))))
      (pss_one (ps_dput hu (pv 0) (pe_ix ix_tup (pv 1) pe_int (fun _ _ => rfl)) (pv 2) rfl))) pss_nil)
      (pss_cons (ps_if (PW.pt (pw_and (pt_cmpR op_eq (pe_ix ix_tup (pv 1) pe_int (fun _ _ => rfl)) pe_str (nomark _)) (pw_and1 (pt_cmp (pc_notN (pv 2)))))) (pss_one (ps_expr (pe_dpop1 (pv 0) (pe_ix ix_tup (pv 1) pe_int (fun _ _ => rfl)) ⟨rfl, rfl, rfl, rfl⟩))) pss_nil)
      (pss_cons (ps_if (pt_cmpR op_eq (pe_ix ix_tup (pv 1) pe_int (fun _ _ => rfl)) pe_str (nomark _)) (pss_cons (ps_if (pt_cmpR op_eq (pv 2) (pe_ix ix_tup (pv 1) pe_int (fun _ _ => rfl)) (nomark _)) (pss_one (ps_dput hu (pv 0) (pe_ix ix_tup (pv 1) pe_int (fun _ _ => rfl)) (pe_ix ix_tup (pv 1) pe_int (fun _ _ => rfl)) rfl)) pss_nil)
      (pss_one (ps_ret (pe_cmpR op_eq (pv 2) (pe_ix ix_tup (pv 1) pe_int (fun _ _ => rfl)) (nomark _))))) pss_nil)
      (pss_one (ps_ret (pv 2)))))))), ?_⟩
    have hl' : (tabV t).length < sizeLine := small1000 (by rw [tabV_len]; exact hl)
    have at0 : atI a.vs 0 = some (.str a.word) := by rw [ask_vs]; exact at_of (j := 0) rfl rfl
    have isd : IsD H d := .inl ⟨_, .inl hd⟩
    refine ⟨_, rfl, pa, _, _, _, rfl, rfl, SqT.of ha, at0, rfl, _, rfl, ?_⟩
    cases a with
    | many =>
      refine iteTd (decide_eq_true rfl) ?_
      refine ⟨_, rfl, d, _, rfl, hd, ?_⟩
      rw [tabV_len]
      exact q H Keep.refl hd
    | put k v =>
      have at1 : atI (Ask.put k v).vs 1 = some (.str k) := at_of (j := 1) rfl rfl
      have at2 : atI (Ask.put k v).vs 2 = some (.int v) := at_of (j := 2) rfl rfl
      refine iteFd (word_ns (x := "put") (by decide +kernel)) ?_
      refine ⟨_, rfl, d, rfl, isd, _, rfl, pa, _, _, _, rfl, rfl, SqT.of ha, at1, _, DGet.k (k := Sum.inr k) hd, ?_⟩
      rw [valV_tab, opt_getD]
      have npd : pa ≠ d := ne_of ha hd (by intro z; cases z)
      refine ⟨_, rfl, pa, _, _, _, rfl, rfl, SqT.of ha, at0, rfl, _, rfl, iteTd (decide_eq_true rfl) ?_⟩
      refine ⟨_, rfl, pa, _, _, _, rfl, rfl, SqT.of ha, at2, _, rfl, _, rfl, pa, _, _, _, rfl, rfl, SqT.of ha, at1, d, _, rfl, DPut.k (k := Sum.inr k) hd hl', ?_⟩
      have ha2 : (upd H d (.dK (putK (tabV t) (Sum.inr k) (.int v)))) pa = some (.tup (Ask.put k v).vs) := by rw [upd_ne npd]; exact ha
      refine ⟨_, rfl, pa, _, _, _, rfl, rfl, SqT.of ha2, at0, rfl, _, rfl, iteFd (word_ns (x := "put") (by decide +kernel)) ?_⟩
      refine ⟨_, rfl, pa, _, _, _, rfl, rfl, SqT.of ha2, at0, rfl, _, rfl, iteFd (word_ns (x := "put") (by decide +kernel)) (iteF ?_)⟩
      refine ⟨_, rfl, pa, _, _, _, rfl, rfl, SqT.of ha2, at0, rfl, _, rfl, iteFd (word_ns (x := "put") (by decide +kernel)) ?_⟩
      rw [doAsk, oA_v] at q
      exact ⟨_, rfl, q _ (Keep.refl.put (by simp)) (by rw [upd_same, putK_tab])⟩
    | add k v =>
      have at1 : atI (Ask.add k v).vs 1 = some (.str k) := at_of (j := 1) rfl rfl
      have at2 : atI (Ask.add k v).vs 2 = some (.int v) := at_of (j := 2) rfl rfl
      refine iteFd (word_ns (x := "add") (by decide +kernel)) ?_
      refine ⟨_, rfl, d, rfl, isd, _, rfl, pa, _, _, _, rfl, rfl, SqT.of ha, at1, _, DGet.k (k := Sum.inr k) hd, ?_⟩
      rw [valV_tab, opt_getD]
      have npd : pa ≠ d := ne_of ha hd (by intro z; cases z)
      refine ⟨_, rfl, pa, _, _, _, rfl, rfl, SqT.of ha, at0, rfl, _, rfl, iteFd (word_ns (x := "add") (by decide +kernel)) ?_⟩
      refine ⟨_, rfl, pa, _, _, _, rfl, rfl, SqT.of ha, at0, rfl, _, rfl, iteTd (decide_eq_true rfl) ?_⟩
      have fin : ∀ z : Int, z = v + (aget t k).getD 0 → ∀ {D : Ends}, (∀ H', Keep [d] H H' → H' d = some (.dK (tabV (doAsk t (.add k v)).1)) → H' pa = some (.tup (Ask.add k v).vs) → D.nx [some (.ref d), some (.ref pa), some (.int z)] H') →
          ∀ H', H' = upd H d (.dK (putK (tabV t) (Sum.inr k) (.int z))) → D.nx [some (.ref d), some (.ref pa), some (.int z)] H' := fun z hz D r H' e => by
        subst e
        refine r _ (Keep.refl.put (by simp)) ?_ (by rw [upd_ne npd]; exact ha)
        rw [upd_same, putK_tab, hz]
        rfl
      cases e : aget t k with
      | none =>
        refine ⟨_, rfl, _, rfl, iteTd (decide_eq_true rfl) ?_⟩
        refine ⟨_, rfl, pa, _, _, _, rfl, rfl, SqT.of ha, at2, ?_⟩
        refine ⟨_, rfl, _, rfl, _, rfl, pa, _, _, _, rfl, rfl, SqT.of ha, at1, d, _, rfl, DPut.k (k := Sum.inr k) hd hl', ?_⟩
        refine fin v (by rw [e]; show v = v + 0; omega) (fun H' k2 h2 ha2 => ?_) _ rfl
        refine ⟨_, rfl, pa, _, _, _, rfl, rfl, SqT.of ha2, at0, rfl, _, rfl, iteFd (word_ns (x := "add") (by decide +kernel)) (iteF ?_)⟩
        refine ⟨_, rfl, pa, _, _, _, rfl, rfl, SqT.of ha2, at0, rfl, _, rfl, iteFd (word_ns (x := "add") (by decide +kernel)) ?_⟩
        have z := q H' k2 h2
        have ez : (doAsk t (.add k v)).2.v = .int v := by rw [doAsk, e]; show V.int (v + 0) = _; rw [Int.add_zero]
        rw [ez] at z
        exact ⟨_, rfl, z⟩
      | some i =>
        refine ⟨_, rfl, _, rfl, iteFd (decide_eq_false (fun z => nomatch z)) ?_⟩
        refine ⟨_, rfl, _, rfl, pa, _, _, _, rfl, rfl, SqT.of ha, at2, _, _, rfl, rfl, ?_⟩
        refine ⟨_, rfl, _, rfl, _, rfl, pa, _, _, _, rfl, rfl, SqT.of ha, at1, d, _, rfl, DPut.k (k := Sum.inr k) hd hl', ?_⟩
        refine fin (i + v) (by rw [e]; show i + v = v + i; omega) (fun H' k2 h2 ha2 => ?_) _ rfl
        refine ⟨_, rfl, pa, _, _, _, rfl, rfl, SqT.of ha2, at0, rfl, _, rfl, iteFd (word_ns (x := "add") (by decide +kernel)) (iteF ?_)⟩
        refine ⟨_, rfl, pa, _, _, _, rfl, rfl, SqT.of ha2, at0, rfl, _, rfl, iteFd (word_ns (x := "add") (by decide +kernel)) ?_⟩
        have z := q H' k2 h2
        have ez : (doAsk t (.add k v)).2.v = .int (i + v) := by rw [doAsk, e]; show V.int (v + i) = _; rw [Int.add_comm]
        rw [ez] at z
        exact ⟨_, rfl, z⟩
    | drop k =>
      have at1 : atI (Ask.drop k).vs 1 = some (.str k) := at_of (j := 1) rfl rfl
      refine iteFd (word_ns (x := "drop") (by decide +kernel)) ?_
      refine ⟨_, rfl, d, rfl, isd, _, rfl, pa, _, _, _, rfl, rfl, SqT.of ha, at1, _, DGet.k (k := Sum.inr k) hd, ?_⟩
      rw [valV_tab, opt_getD]
      have npd : pa ≠ d := ne_of ha hd (by intro z; cases z)
      refine ⟨_, rfl, pa, _, _, _, rfl, rfl, SqT.of ha, at0, rfl, _, rfl, iteFd (word_ns (x := "drop") (by decide +kernel)) ?_⟩
      refine ⟨_, rfl, pa, _, _, _, rfl, rfl, SqT.of ha, at0, rfl, _, rfl, iteFd (word_ns (x := "drop") (by decide +kernel)) ?_⟩
      refine ⟨_, rfl, pa, _, _, _, rfl, rfl, SqT.of ha, at0, rfl, _, rfl, iteTd (decide_eq_true rfl) ?_⟩
      rw [doAsk, oA_v] at q
      cases e : aget t k with
      | none =>
        refine ⟨_, rfl, _, rfl, iteF ?_⟩
        refine ⟨_, rfl, pa, _, _, _, rfl, rfl, SqT.of ha, at0, rfl, _, rfl, iteFd (word_ns (x := "drop") (by decide +kernel)) ?_⟩
        rw [e] at q
        refine ⟨_, rfl, q H Keep.refl ?_⟩
        rw [hd]
        show _ = some (HO.dK (tabV (adrop t k)))
        rw [drop_none t k e]
      | some i =>
        refine ⟨_, rfl, _, rfl, iteT ?_⟩
        refine ⟨_, rfl, d, rfl, isd, _, rfl, pa, _, _, _, rfl, rfl, SqT.of ha, at1, _, Sum.inr k, .int i, hd, rfl, by rw [valV_tab, e]; rfl, ?_⟩
        have ha2 : (upd H d (.dK (dropK (tabV t) (Sum.inr k)))) pa = some (.tup (Ask.drop k).vs) := by rw [upd_ne npd]; exact ha
        refine ⟨_, rfl, pa, _, _, _, rfl, rfl, SqT.of ha2, at0, rfl, _, rfl, iteFd (word_ns (x := "drop") (by decide +kernel)) ?_⟩
        rw [e] at q
        exact ⟨_, rfl, q _ (Keep.refl.put (by simp)) (by rw [upd_same, dropK_tab])⟩
    | swap k o v =>
      have at1 : atI (Ask.swap k o v).vs 1 = some (.str k) := at_of (j := 1) rfl rfl
      have at2 : atI (Ask.swap k o v).vs 2 = some (oV o) := at_of (j := 2) rfl rfl
      have at3 : atI (Ask.swap k o v).vs 3 = some (.int v) := at_of (j := 3) rfl rfl
      refine iteFd (word_ns (x := "swap") (by decide +kernel)) ?_
      refine ⟨_, rfl, d, rfl, isd, _, rfl, pa, _, _, _, rfl, rfl, SqT.of ha, at1, _, DGet.k (k := Sum.inr k) hd, ?_⟩
      rw [valV_tab, opt_getD]
      have npd : pa ≠ d := ne_of ha hd (by intro z; cases z)
      refine ⟨_, rfl, pa, _, _, _, rfl, rfl, SqT.of ha, at0, rfl, _, rfl, iteFd (word_ns (x := "swap") (by decide +kernel)) ?_⟩
      refine ⟨_, rfl, pa, _, _, _, rfl, rfl, SqT.of ha, at0, rfl, _, rfl, iteFd (word_ns (x := "swap") (by decide +kernel)) ?_⟩
      refine ⟨_, rfl, pa, _, _, _, rfl, rfl, SqT.of ha, at0, rfl, _, rfl, iteFd (word_ns (x := "swap") (by decide +kernel)) (iteF ?_)⟩
      refine ⟨_, rfl, pa, _, _, _, rfl, rfl, SqT.of ha, at0, rfl, _, rfl, iteTd (decide_eq_true rfl) ?_⟩
      refine ⟨_, rfl, _, rfl, pa, _, _, _, rfl, rfl, SqT.of ha, at2, scal_o _ _, _, rfl, ?_⟩
      rw [dec_o]
      by_cases e : aget t k = o
      · rw [decide_eq_true e]
        refine iteT ?_
        refine ⟨_, rfl, pa, _, _, _, rfl, rfl, SqT.of ha, at3, _, rfl, _, rfl, pa, _, _, _, rfl, rfl, SqT.of ha, at1, d, _, rfl, DPut.k (k := Sum.inr k) hd hl', ?_⟩
        have ha2 : (upd H d (.dK (putK (tabV t) (Sum.inr k) (.int v)))) pa = some (.tup (Ask.swap k o v).vs) := by rw [upd_ne npd]; exact ha
        refine ⟨_, rfl, _, rfl, pa, _, _, _, rfl, rfl, SqT.of ha2, at2, scal_o _ _, ?_⟩
        rw [dec_o, decide_eq_true e]
        rw [doAsk, if_pos e] at q
        exact q _ (Keep.refl.put (by simp)) (by rw [upd_same, putK_tab])
      · rw [decide_eq_false e]
        refine iteF ?_
        refine ⟨_, rfl, _, rfl, pa, _, _, _, rfl, rfl, SqT.of ha, at2, scal_o _ _, ?_⟩
        rw [dec_o, decide_eq_false e]
        rw [doAsk, if_neg e] at q
        exact q H Keep.refl hd
    | read k =>
      have at1 : atI (Ask.read k).vs 1 = some (.str k) := at_of (j := 1) rfl rfl
      refine iteFd (word_ns (x := "read") (by decide +kernel)) ?_
      refine ⟨_, rfl, d, rfl, isd, _, rfl, pa, _, _, _, rfl, rfl, SqT.of ha, at1, _, DGet.k (k := Sum.inr k) hd, ?_⟩
      rw [valV_tab, opt_getD]
      refine ⟨_, rfl, pa, _, _, _, rfl, rfl, SqT.of ha, at0, rfl, _, rfl, iteFd (word_ns (x := "read") (by decide +kernel)) ?_⟩
      refine ⟨_, rfl, pa, _, _, _, rfl, rfl, SqT.of ha, at0, rfl, _, rfl, iteFd (word_ns (x := "read") (by decide +kernel)) ?_⟩
      refine ⟨_, rfl, pa, _, _, _, rfl, rfl, SqT.of ha, at0, rfl, _, rfl, iteFd (word_ns (x := "read") (by decide +kernel)) (iteF ?_)⟩
      refine ⟨_, rfl, pa, _, _, _, rfl, rfl, SqT.of ha, at0, rfl, _, rfl, iteFd (word_ns (x := "read") (by decide +kernel)) ?_⟩
      rw [doAsk, oA_v] at q
      exact ⟨_, rfl, q H Keep.refl hd⟩
end
end K41
set_option Elab.async false
set_option maxRecDepth 100000
set_option maxHeartbeats 4000000
set_option linter.all false
/-! The law's rows. -/
namespace K41
open PySem PySem.Spec PyProof.Rows L2
theorem seq_any {te : TE} {u : TS} {i : Nat} {D : Ends} {σ : L2.St} {H : Hp} {R : V → Hp → Prop} (hc : ∀ Q : VK, (∀ v H', R v H' → Q v H') → te σ H Q) (h : ∀ v H', R v H' → u D (σ.set i (some v)) H') : tSeq (tAsg te (gName i)) u D σ H := hc _ h
theorem if_any {c : TT} {t u : TS} {D : Ends} {σ : L2.St} {H : Hp} {R : Bool → Hp → Prop} (hc : ∀ Q : Bool → Hp → Prop, (∀ b H', R b H' → Q b H') → c σ H Q) (h1 : ∀ H', R true H' → t D σ H') (h2 : ∀ H', R false H' → u D σ H') : tIfS c t u D σ H := by
  refine hc _ fun b H' r => ?_
  cases b with
  | true => exact iteT (h1 H' r)
  | false => exact iteF (h2 H' r)
/-- the rows so far stand at f -/
structure RowsIn (H0 H : Hp) (f kn : Addr) (m : Nat) : Prop where
  ex : ∃ rvs rows, H f = some (.lst rvs) ∧ RowsV H rvs rows ∧ RowsOk rows ∧ rows.length = m
  kn : H kn = some (.dK [])
  sm : Same H0 H
theorem RowsIn.same {H0 H H' : Hp} {f kn : Addr} {m : Nat} (h : RowsIn H0 H f kn m) (s : Same H H') : RowsIn H0 H' f kn m := by
  obtain ⟨rvs, rows, h1, h2, h3, h4⟩ := h.ex
  exact ⟨⟨rvs, rows, s _ _ h1, h2.keeps (Same.tups s), h3, h4⟩, s _ _ h.kn, h.sm.trans s⟩
def RowsPv (H0 : Hp) (a f kn : Addr) (hi : Int) (i : Nat) (σ : L2.St) (H : Hp) : Prop :=
  (∃ o5 o6 o7 o8 o9 o10, σ = [some (.ref a), some (.int 0), some (.int hi), some (.ref f), some (.ref kn), o5, o6, o7, o8, o9, o10]) ∧ RowsIn H0 H f kn i
/-- the turn's end: the row is put -/
theorem rows_tail {K : PySem.W.Frag} {H0 H : Hp} {a f kn q : Addr} {hi k : Int} {i : Nat} {dd : Deed} {D : Ends} {o6 o7 o9 o10 : Option V} (nf : H0 f = none) (R : RowsIn H0 H f kn i) (hi1 : i < 900) (hq : DeedAt H q dd) (ok : dd.ok) (hD : ∀ σ H', RowsPv H0 a f kn hi (i + 1) σ H' → D.nx σ H') :
    tDrop (tBM K "list" rAppend (tVar 3) (tCons (tTup (tCons (tOp (rI0 fun i j => .int (i + j)) (tC (.int 1)) (tOp (rI CDiv fun i j => .int (i / j)) (tVar 5) (tC (.int 9)))) (tCons (tVar 8) tNil))) tNil)) D
      [some (.ref a), some (.int 0), some (.int hi), some (.ref f), some (.ref kn), some (.int k), o6, o7, some (.ref q), o9, o10] H := by
  obtain ⟨rvs, rows, h1, h2, h3, h4⟩ := R.ex
  refine ⟨_, rfl, .inl ⟨rfl, _, SqL.of h1⟩, _, rfl, _, _, rfl, rfl, ⟨by decide, by decide⟩, _, _, rfl, rfl, _, rfl, by show 2 ≤ sizeLine; decide, fun p hp => ?_⟩
  have s : Same H (upd H p (.tup [.int (1 + k / 9), .ref q])) := fun b o e => by rw [upd_ne (ne_of_none e hp)]; exact e
  have hp2 : (upd H p (.tup [.int (1 + k / 9), .ref q])) p = some (.tup [.int (1 + k / 9), .ref q]) := upd_same
  have nfp : f ≠ p := ne_of_none h1 hp
  have ll : rvs.length = rows.length := Paired.length h2
  refine ⟨f, rvs, .ref p, rfl, rfl, by rw [upd_ne nfp]; exact h1, small1000 (by omega), ?_⟩
  refine hD _ _ ⟨⟨_, _, _, _, _, _, rfl⟩, ⟨rvs ++ [.ref p], rows ++ [(1 + k / 9, dd)], upd_same, ?_, ?_, by rw [List.length_append, h4]; rfl⟩, ?_, ?_⟩
  · have t : Tups (upd H p (.tup [.int (1 + k / 9), .ref q])) (upd (upd H p (.tup [.int (1 + k / 9), .ref q])) f (.lst (rvs ++ [.ref p]))) := fun b xs e => by
      rw [upd_ne (ne_of e (s _ _ h1) (by intro z; cases z))]; exact e
    exact paired_snoc ((h2.keeps (Same.tups s)).keeps t) ⟨p, q, rfl, t _ _ hp2, (hq.keeps (Same.tups s)).keeps t⟩
  · intro r hr
    rcases List.mem_append.mp hr with hr | hr
    · exact h3 r hr
    · rw [List.mem_singleton.mp hr]; exact ok
  · have n : kn ≠ f := ne_of R.kn h1 (by intro z; cases z)
    rw [upd_ne n]
    exact s _ _ R.kn
  · intro b o e
    rw [upd_ne (ne_of_none e nf)]
    exact s _ _ (R.sm b o e)
theorem rows_nil {rs : List Row} : PyData.eqv (.list (rs.map rowD)) (.list []) = rs.isEmpty := by
  cases rs <;> simp [PyData.eqv, PyData.eqvAll]
section
variable {P : Program} {w : World} {K : PySem.W.Frag} {mg : Str → Option Value} {base : Heap} {CT CB : Addr}
def spLRows (K : PySem.W.Frag) : Sp := fun vs H Q _ => ∃ (a : Addr) (ns : List Int) (hi : Int), vs = [.ref a, .int 0, .int hi] ∧ SqL K H a (ns.map V.int) ∧ ns.length ≤ 63 ∧ 0 ≤ hi ∧ hi ≤ 63 ∧
  ∀ (p : Addr) (rvs : List V) (rows : List Row) (H' : Hp), Same H H' → H p = none → H' p = some (.lst rvs) → RowsV H' rvs rows → RowsOk rows → rows.length ≤ 63 → Q (.ref p) H'
theorem sc_lrows : FnScope ["_law_script", "_law_least", "_law_most", "_law_found", "_law_known", "_law_k", "_law_draw", "_law_way", "_law_deed", "_law_caller", "_law_number"] ["_law_script", "_law_least", "_law_most"] (defScope (top 32)) := ⟨rfl, rfl, rfl, by decide +kernel, rfl, by decide +kernel, by decide +kernel⟩
theorem fn_lrows (D : Def K mg "_law_rows" (top 32) ["_law_script", "_law_least", "_law_most"]) (T : Txt w K mg CT CB) (GB : Fn P w K mg base "_law_begun" 1 ["_law_script", "_law_k"] (spBegun K)) (GT : Fn P w K mg base "_law_take" 1 ["_law_draw", "_law_many_things"] spTake)
    (GA : Fn P w K mg base "_law_ask" 3 ["_law_draw", "_law_known"] spLAsk) : Fn P w K mg base "_law_rows" 4 ["_law_script", "_law_least", "_law_most"] (spLRows K) := by
  obtain ⟨fa, fd, F, b, m⟩ := D
  refine ⟨fa, fd, F.ok sc_lrows (fun vs H Q E h => ?_) (fun cdv A outer s H vs Q E hr h => ?_), m, F.kp, b⟩
  · obtain ⟨a, ns, hi, rfl, _⟩ := h
    rfl
  · obtain ⟨a, ns, hi, rfl, ha, hl, hi0, hi1, q⟩ := h
    have hr1 : Room 1 _ := hr.mono (by decide)
    have pw6 : CPow 10 6 := ⟨by decide, by decide, by decide⟩
    have e6 : (10 : Int) ^ (6 : Int).toNat = 1000000 := by decide
    refine ⟨_, pss_cons (ps_set (i := 3) sc_lrows.nd rfl (Or.inl rfl) (pe_lst pa_nil))
      (pss_cons (ps_set (i := 4) sc_lrows.nd rfl (Or.inl rfl) pe_dnewK)
      (pss_cons (ps_for PassesOwn.never rfl (pi_range2 rfl T.range (pa_cons (pv 1) (pa_cons (pv 2) pa_nil))) (pg_name (i := 5) sc_lrows.nd rfl (Or.inl rfl))
      (pss_cons (ps_set (i := 6) sc_lrows.nd rfl (Or.inl rfl) (pe_fn GB hr1 (by rfl) (pa_cons (pv 0) (pa_cons (pv 5) pa_nil))))
      (pss_cons (ps_set (i := 7) sc_lrows.nd rfl (Or.inl rfl) (pe_fn GT hr1 (by rfl) (pa_cons (pv 6) (pa_cons pe_int pa_nil))))
      (pss_cons (ps_if (pt_cmpR op_eq (pv 7) pe_int (nomark _)) (pss_one (ps_set (i := 8) sc_lrows.nd rfl (Or.inl rfl) (pe_tup (pa_cons pe_str pa_nil)))) (pss_one (ps_if (pt_cmpR op_eq (pv 7) pe_int (nomark _)) (pss_one (ps_set (i := 8) sc_lrows.nd rfl (Or.inl rfl) (pe_tup (pa_cons pe_str (pa_cons (pe_ix ix_list (pe_lst (pa_cons (pe_tup (pa_cons pe_int (pa_cons pe_int (pa_cons pe_int pa_nil)))) (pa_cons (pe_tup (pa_cons pe_int pa_nil)) (pa_cons (pe_tup (pa_cons pe_int (pa_cons pe_int pa_nil))) pa_nil)))) (pe_fn GT hr1 (by rfl) (pa_cons (pv 6) (pa_cons pe_int pa_nil))) (fun _ _ => rfl)) pa_nil))))) (pss_one (ps_if (PW.pt (pw_and (pt_cmpR op_eq (pv 7) pe_int (nomark _)) (pw_and1 (pt_cmpR (op_neD hr.units) (pv 3) (pe_lst pa_nil) (nomark _))))) (pss_one (ps_set (i := 8) sc_lrows.nd rfl (Or.inl rfl) (pe_ix ix_tup (pe_ix ix_list (pv 3) (pe_fn GT hr1 (by rfl) (pa_cons (pv 6) (pa_cons (pe_callB call_len_seq (by rfl) T.len PySem.boot_len (pa_cons (pv 3) pa_nil)) pa_nil))) (fun _ _ => rfl)) pe_int (fun _ _ => rfl)))) (pss_cons (ps_set (i := 9) sc_lrows.nd rfl (Or.inl rfl) (pe_ifExp (pt_cmpR op_gt (pe_fn GT hr1 (by rfl) (pa_cons (pv 6) (pa_cons pe_int pa_nil))) pe_int (nomark _)) (pe_fn GT hr1 (by rfl) (pa_cons (pv 6) (pa_cons pe_int pa_nil))) (pe_fn GT hr1 (by rfl) (pa_cons (pv 6) (pa_cons pe_int pa_nil)))))
      (pss_cons (ps_set (i := 10) sc_lrows.nd rfl (Or.inl rfl) (pe_ifExp (pt_cmpR op_gt (pe_fn GT hr1 (by rfl) (pa_cons (pv 6) (pa_cons pe_int pa_nil))) pe_int (nomark _)) (pe_op op_add pe_int (pe_fn GT hr1 (by rfl) (pa_cons (pv 6) (pa_cons pe_int pa_nil)))) (pe_op op_add pe_int (pe_fn GT hr1 (by rfl) (pa_cons (pv 6) (pa_cons (pe_op op_pow pe_int pe_int) pa_nil))))))
      (pss_one (ps_set (i := 8) sc_lrows.nd rfl (Or.inl rfl) (pe_tup (pa_cons pe_str (pa_cons (pv 9) (pa_cons (pv 10) (pa_cons (pe_fn GA hr (by rfl) (pa_cons (pv 6) (pa_cons (pv 4) pa_nil))) pa_nil))))))))))))))
      (pss_one (ps_expr (pe_bm PySem.F.plainAttrs_list PySem.F.slot_list_append PySem.F.type_list_append mt_append (pv 3) (pa_cons (pe_tup (pa_cons (pe_op op_add pe_int (pe_op op_fdiv (pv 5) pe_int)) (pa_cons (pv 8) pa_nil))) pa_nil))))))))
      (pss_one (ps_ret (pv 3))))), ?_⟩
    refine ⟨by show 0 ≤ sizeLine; decide, fun f hf => ?_⟩
    have sf : Same H (upd H f (.lst [])) := fun b o e => by rw [upd_ne (ne_of_none e hf)]; exact e
    have hf1 : (upd H f (.lst [])) f = some (.lst []) := upd_same
    generalize upd H f (.lst []) = H1 at sf hf1
    intro kn hkn
    have sk : Same H1 (upd H1 kn (.dK [])) := fun b o e => by rw [upd_ne (ne_of_none e hkn)]; exact e
    have hk2 : (upd H1 kn (.dK [])) kn = some (.dK []) := upd_same
    generalize upd H1 kn (.dK []) = H2 at sk hk2
    have s2 : Same H H2 := sf.trans sk
    refine ⟨_, rfl, _, rfl, 0, hi, rfl, ⟨by decide, by decide, by omega, by omega⟩, ?_⟩
    refine for_range (lo := 0) (n := (hi - 0).toNat) (RowsPv H a f kn hi) ⟨⟨_, _, _, _, _, _, rfl⟩, ⟨[], [], sk _ _ hf1, .nil, fun _ h => (by cases h), rfl⟩, hk2, s2⟩ ?_ ?_
    · rintro i σ H3 hin ⟨⟨o5, o6, o7, o8, o9, o10, rfl⟩, R3⟩
      have ki : (i : Int) ≤ 62 := by omega
      refine ⟨_, rfl, _, rfl, a, ns, 0 + (i : Int), rfl, R3.sm.seq ha, hl, by omega, by omega, fun d l c l0 hd => ?_⟩
      have D4 : Dr H3 (upd H3 d (.dK (drawV l c (60 * (0 + (i : Int)))))) d 4000 := ⟨⟨l, c, _, upd_same, l0, by omega, by omega⟩, (Keep.refl.new hd)⟩
      have S4 : Same H3 (upd H3 d (.dK (drawV l c (60 * (0 + (i : Int)))))) := fun b o e => by rw [upd_ne (ne_of_none e hd)]; exact e
      generalize upd H3 d (.dK (drawV l c (60 * (0 + (i : Int))))) = H4 at D4 S4
      -- what is kept by draws: all but d, which is new
      have same_of : ∀ {H' : Hp} {n : Int}, Dr H3 H' d n → Same H3 H' := fun {H' n} D b o e => D.kp b o e (by simp; exact ne_of_none e hd)
      refine ⟨_, rfl, take_use D4 (by decide) (by decide) (by decide) fun k1 H5 a1 a2 D5 _ => ?_⟩
      refine ⟨_, rfl, rfl, _, rfl, ?_⟩
      by_cases w0 : k1 = 0
      · refine iteTd (dec_int (decide_eq_true w0)) ⟨by show 1 ≤ sizeLine; decide, fun q0 hq0 => ?_⟩
        have s6 : Same H5 (upd H5 q0 (.tup [.str "blank"])) := fun b o e => by rw [upd_ne (ne_of_none e hq0)]; exact e
        exact rows_tail hf ((R3.same (same_of D5)).same s6) (by omega) (dd := .blank) upd_same trivial fun _ _ z => z
      refine iteFd (dec_int (decide_eq_false w0)) ?_
      refine ⟨_, rfl, rfl, _, rfl, ?_⟩
      by_cases w1 : k1 = 1
      · refine iteTd (dec_int (decide_eq_true w1)) ?_
        refine ⟨by show 3 ≤ sizeLine; decide, fun t1 ht1 => ⟨by show 1 ≤ sizeLine; decide, fun t2 ht2 => ⟨by show 2 ≤ sizeLine; decide, fun t3 ht3 => ⟨by show 3 ≤ sizeLine; decide, fun l hl3 => ?_⟩⟩⟩⟩
        have q1 : (upd H5 t1 (.tup [.int 0, .int 1, .int 2])) t1 = some (.tup [.int 0, .int 1, .int 2]) := upd_same
        have D6 := D5.new (o := .tup [.int 0, .int 1, .int 2]) ht1
        generalize upd H5 t1 (.tup [.int 0, .int 1, .int 2]) = H6 at ht2 ht3 hl3 q1 D6 ⊢
        have q2 : (upd H6 t2 (.tup [.int 3])) t2 = some (.tup [.int 3]) := upd_same
        have q1' : (upd H6 t2 (.tup [.int 3])) t1 = some (.tup [.int 0, .int 1, .int 2]) := by rw [upd_ne (ne_of_none q1 ht2)]; exact q1
        have D7 := D6.new (o := .tup [.int 3]) ht2
        generalize upd H6 t2 (.tup [.int 3]) = H7 at ht3 hl3 q1' q2 D7 ⊢
        have q3 : (upd H7 t3 (.tup [.int 0, .int 1])) t3 = some (.tup [.int 0, .int 1]) := upd_same
        have q1'' : (upd H7 t3 (.tup [.int 0, .int 1])) t1 = some (.tup [.int 0, .int 1, .int 2]) := by rw [upd_ne (ne_of_none q1' ht3)]; exact q1'
        have q2' : (upd H7 t3 (.tup [.int 0, .int 1])) t2 = some (.tup [.int 3]) := by rw [upd_ne (ne_of_none q2 ht3)]; exact q2
        have D8 := D7.new (o := .tup [.int 0, .int 1]) ht3
        generalize upd H7 t3 (.tup [.int 0, .int 1]) = H8 at hl3 q1'' q2' q3 D8 ⊢
        have hl9 : (upd H8 l (.lst [.ref t1, .ref t2, .ref t3])) l = some (.lst [.ref t1, .ref t2, .ref t3]) := upd_same
        have s9 : Same H8 (upd H8 l (.lst [.ref t1, .ref t2, .ref t3])) := fun b o e => by rw [upd_ne (ne_of_none e hl3)]; exact e
        have D9 := D8.new (o := .lst [.ref t1, .ref t2, .ref t3]) hl3
        refine ⟨_, rfl, take_use D9 (by decide) (by decide) (by decide) fun k2 HA b1 b2 DA kpA => ?_⟩
        have nl := D8.ne hl3
        have hlA := kpA _ _ hl9 nl
        have tA : Tups H8 HA := fun b xs e => kpA b _ (s9 b _ e) fun z => by
          obtain ⟨_, _, _, e2, _⟩ := D8.ex
          rw [List.mem_singleton.mp z, e2] at e; cases e
        obtain ⟨t, ms, ht, hms⟩ : ∃ t ms, atI [V.ref t1, V.ref t2, V.ref t3] k2 = some (.ref t) ∧ HA t = some (.tup (List.map V.int ms)) := by
          have k3 : k2 = 0 ∨ k2 = 1 ∨ k2 = 2 := by omega
          rcases k3 with z | z | z
          · subst z; exact ⟨t1, [0, 1, 2], at_of (j := 0) rfl rfl, tA _ _ q1''⟩
          · subst z; exact ⟨t2, [3], at_of (j := 1) rfl rfl, tA _ _ q2'⟩
          · subst z; exact ⟨t3, [0, 1], at_of (j := 2) rfl rfl, tA _ _ q3⟩
        refine ⟨l, _, _, _, rfl, rfl, SqL.of hlA, ht, by show 2 ≤ sizeLine; decide, fun qb hqb => ?_⟩
        have sB : Same HA (upd HA qb (.tup [.str "members", .ref t])) := fun b o e => by rw [upd_ne (ne_of_none e hqb)]; exact e
        exact rows_tail hf ((R3.same (same_of DA)).same sB) (by omega) (dd := .members ms) ⟨t, upd_same, sB _ _ hms⟩ trivial fun _ _ z => z
      refine iteFd (dec_int (decide_eq_false w1)) ?_
      have R5 := R3.same (same_of D5)
      obtain ⟨rvs, rows, hfl, rv, rok, rln⟩ := R5.ex
      refine if_any (R := fun b H' => Same H5 H' ∧ Dr H3 H' d 4001 ∧ (b = true → rows ≠ [])) (fun Qb r => ?_) (fun H6 z => ?_) (fun H6 z => ?_)
      · refine ⟨_, rfl, rfl, _, rfl, ?_⟩
        by_cases w2 : k1 = 2
        · refine iteTd (dec_int (decide_eq_true w2)) ?_
          refine ⟨_, rfl, by show 0 ≤ sizeLine; decide, fun u hu5 => ?_⟩
          have s6 : Same H5 (upd H5 u (.lst [])) := fun b o e => by rw [upd_ne (ne_of_none e hu5)]; exact e
          refine ⟨.list (rows.map rowD), .list [], dp_rows (SqL.of (s6 _ _ hfl)) (rv.keeps (Same.tups s6)), .lst (SqL.of upd_same) .nil, rows_shaped rok, nil_shaped, _, rfl, ?_⟩
          rw [rows_nil]
          refine r _ _ ⟨s6, D5.new hu5, fun h e => ?_⟩
          rw [e] at h
          cases h
        · refine iteFd (dec_int (decide_eq_false w2)) ?_
          exact r _ _ ⟨Same.refl _, D5, fun h => by cases h⟩
      · -- an earlier row's deed
        obtain ⟨s6, D6, ne⟩ := z
        have hne : rows ≠ [] := ne rfl
        have hfl6 := s6 _ _ hfl
        have rl : rvs.length = rows.length := Paired.length rv
        have rpos : 0 < rows.length := List.length_pos_iff.mpr hne
        refine ⟨_, rfl, _, rfl, _, rfl, f, _, rfl, .inl (SqL.of hfl6), take_use D6 (by decide) (by omega) (by omega) fun k2 H7 b1 b2 D7 kp7 => ?_⟩
        obtain ⟨j, hj⟩ : ∃ j : Nat, k2 = (j : Int) := ⟨k2.toNat, by omega⟩
        have hjl : j < rvs.length := by omega
        have hv : rvs[j]? = some rvs[j] := List.getElem?_eq_getElem hjl
        have s7 := same_of D7
        obtain ⟨rvs', rows', hf7, rv7, rok7, rln7⟩ := (R3.same s7).ex
        have ef : f ∉ [d] := fun z => by
          obtain ⟨_, _, _, e2, _⟩ := D6.ex
          rw [List.mem_singleton.mp z, e2] at hfl6; cases hfl6
        have eq7 := kp7 _ _ hfl6 ef
        rw [hf7] at eq7
        have er : rvs' = rvs := by injection eq7 with e; injection e
        subst er
        obtain ⟨r, hr7, p7, dq, ep, hp7, hd7⟩ := paired_at rv7 hv
        have at1 : atI [V.int r.1, V.ref dq] 1 = some (.ref dq) := at_of (j := 1) rfl rfl
        refine ⟨f, rvs', k2, .ref p7, rfl, rfl, SqL.of hf7, at_of hj (by rw [hv, ep]), p7, _, _, _, rfl, rfl, SqT.of hp7, at1, ?_⟩
        exact rows_tail hf (R3.same s7) (by omega) hd7 (rok7 r (List.mem_of_getElem? hr7)) fun _ _ z => z
      · -- a call
        obtain ⟨s6, D6, _⟩ := z
        refine seq_any (R := fun v H' => ∃ c, v = V.int c ∧ 0 ≤ c ∧ c ≤ 9 ∧ Dr H3 H' d 4010) (fun Qv r => ?_) (fun v H7 z => ?_)
        · refine ⟨_, rfl, take_use D6 (by decide) (by decide) (by decide) fun k2 H7 b1 b2 D7 _ => ?_⟩
          refine ⟨_, _, rfl, rfl, _, rfl, ?_⟩
          refine ite2 (fun h => ?_) (fun h => ?_)
          · exact ⟨_, rfl, take_use D7 (by decide) (by decide) (by decide) fun k3 H8 c1 c2 D8 _ => r _ _ ⟨k3, rfl, c1, by omega, D8.le (by decide)⟩⟩
          · exact ⟨_, rfl, take_use D7 (by decide) (by decide) (by decide) fun k3 H8 c1 c2 D8 _ => r _ _ ⟨k3, rfl, c1, by omega, D8.le (by decide)⟩⟩
        obtain ⟨cc, rfl, cc0, cc9, D7⟩ := z
        refine seq_any (R := fun v H' => ∃ c, v = V.int c ∧ 1 ≤ c ∧ c ≤ 1000000 ∧ Dr H3 H' d 4020) (fun Qv r => ?_) (fun v H8 z => ?_)
        · refine ⟨_, rfl, take_use D7 (by decide) (by decide) (by decide) fun k2 H8 b1 b2 D8 _ => ?_⟩
          refine ⟨_, _, rfl, rfl, _, rfl, ?_⟩
          refine ite2 (fun h => ?_) (fun h => ?_)
          · exact ⟨_, rfl, take_use D8 (by decide) (by decide) (by decide) fun k3 H9 c1 c2 D9 _ => ⟨_, _, rfl, rfl, r _ _ ⟨1 + k3, rfl, by omega, by omega, D9.le (by decide)⟩⟩⟩
          · refine ⟨_, rfl, _, _, rfl, rfl, pw6, take_use (m := (10 : Int) ^ (6 : Int).toNat) D8 (by decide) (by decide) (by decide) fun k3 H9 c1 c2 D9 _ => ⟨_, _, rfl, rfl, r _ _ ⟨1 + k3, rfl, by omega, ?_, D9.le (by decide)⟩⟩⟩
            rw [e6] at c2
            omega
        obtain ⟨nn, rfl, nn1, nn2, D8⟩ := z
        have R8 := R3.same (same_of D8)
        refine ⟨_, rfl, _, rfl, _, rfl, _, rfl, d, kn, 4020, rfl, D8.self, R8.kn, by decide, fun pa ak H9 aok hpa D9 => ?_⟩
        have D9' := D8.trans D9
        refine ⟨by show 4 ≤ sizeLine; decide, fun qc hqc => ?_⟩
        have sC : Same H9 (upd H9 qc (.tup [.str "call", .int cc, .int nn, .ref pa])) := fun b o e => by rw [upd_ne (ne_of_none e hqc)]; exact e
        exact rows_tail hf ((R3.same (same_of D9')).same sC) (by omega) (dd := .call cc nn ak) ⟨pa, upd_same, sC _ _ hpa⟩ ⟨⟨cc0, cc9⟩, ⟨nn1, nn2⟩, aok⟩ fun _ _ z => z
    · rintro σ H3 ⟨⟨o5, o6, o7, o8, o9, o10, rfl⟩, R3⟩
      obtain ⟨rvs, rows, hfl, rv, rok, rln⟩ := R3.ex
      exact ⟨_, rfl, q f rvs rows H3 R3.sm hf hfl rv rok (by omega)⟩
end
end K41
set_option Elab.async false
set_option maxRecDepth 100000
set_option maxHeartbeats 4000000
set_option linter.all false
/-! The law's own answers. -/
namespace K41
open PySem PySem.Spec PyProof.Rows L2
abbrev Out := Bk × List Tri × List Row
structure AnsIn (H0 H : Hp) (f dn kp kn : Addr) (c : Out) : Prop where
  fo : ∃ fvs, H f = some (.lst fvs) ∧ TrisV H fvs c.2.1
  dn : ∃ dvs, H dn = some (.lst dvs) ∧ RowsV H dvs c.2.2
  kp : ∃ kvs, H kp = some (.dK kvs) ∧ LastsV H kvs c.1.2
  kn : H kn = some (.dK (tabV c.1.1))
  sm : Same H0 H
/-- the four things are new, and apart -/
structure AnsNew (H0 : Hp) (f dn kp kn : Addr) : Prop where
  nf : H0 f = none
  nd : H0 dn = none
  np : H0 kp = none
  nn : H0 kn = none
  fd : f ≠ dn
  kk : kp ≠ kn
section
variable {H0 H : Hp} {f dn kp kn : Addr} {c : Out}
theorem AnsIn.same {H' : Hp} (A : AnsIn H0 H f dn kp kn c) (s : Same H H') : AnsIn H0 H' f dn kp kn c := by
  obtain ⟨fvs, h1, h2⟩ := A.fo
  obtain ⟨dvs, h3, h4⟩ := A.dn
  obtain ⟨kvs, h5, h6⟩ := A.kp
  exact ⟨⟨fvs, s _ _ h1, h2.keeps (Same.tups s)⟩, ⟨dvs, s _ _ h3, h4.keeps (Same.tups s)⟩, ⟨kvs, s _ _ h5, h6.keeps (Same.tups s)⟩, s _ _ A.kn, A.sm.trans s⟩
/-- one more answer -/
theorem AnsIn.add {fvs : List V} {t : Addr} {tr : Tri} (N : AnsNew H0 f dn kp kn) (A : AnsIn H0 H f dn kp kn c) (hf : H f = some (.lst fvs)) (ht : H t = some (.tup [.int tr.1, .int tr.2.1, tr.2.2.v])) :
    AnsIn H0 (upd H f (.lst (fvs ++ [.ref t]))) f dn kp kn (c.1, c.2.1 ++ [tr], c.2.2) := by
  obtain ⟨fvs', h1, h2⟩ := A.fo
  obtain ⟨dvs, h3, h4⟩ := A.dn
  obtain ⟨kvs, h5, h6⟩ := A.kp
  have e : fvs' = fvs := by rw [hf] at h1; injection h1 with e; injection e with e; exact e.symm
  subst e
  have t5 : Tups H (upd H f (.lst (fvs' ++ [.ref t]))) := fun b xs e => by rw [upd_ne (ne_of e hf (by intro z; cases z))]; exact e
  refine ⟨⟨_, upd_same, paired_snoc (h2.keeps t5) ⟨t, rfl, t5 _ _ ht⟩⟩, ⟨dvs, by rw [upd_ne N.fd.symm]; exact h3, h4.keeps t5⟩, ⟨kvs, by rw [upd_ne (ne_of h5 hf (by intro z; cases z))]; exact h5, h6.keeps t5⟩, by rw [upd_ne (ne_of A.kn hf (by intro z; cases z))]; exact A.kn, fun b o e => ?_⟩
  rw [upd_ne (ne_of_none e N.nf)]
  exact A.sm b o e
/-- one more row that is done -/
theorem AnsIn.did {dvs : List V} {v : V} {r : Row} (N : AnsNew H0 f dn kp kn) (A : AnsIn H0 H f dn kp kn c) (hd : H dn = some (.lst dvs)) (hv : RowV H v r) :
    AnsIn H0 (upd H dn (.lst (dvs ++ [v]))) f dn kp kn (c.1, c.2.1, c.2.2 ++ [r]) := by
  obtain ⟨fvs, h1, h2⟩ := A.fo
  obtain ⟨dvs', h3, h4⟩ := A.dn
  obtain ⟨kvs, h5, h6⟩ := A.kp
  have e : dvs' = dvs := by rw [hd] at h3; injection h3 with e; injection e with e; exact e.symm
  subst e
  have t5 : Tups H (upd H dn (.lst (dvs' ++ [v]))) := fun b xs e => by rw [upd_ne (ne_of e hd (by intro z; cases z))]; exact e
  refine ⟨⟨fvs, by rw [upd_ne N.fd]; exact h1, h2.keeps t5⟩, ⟨_, upd_same, paired_snoc (h4.keeps t5) (hv.keeps t5)⟩, ⟨kvs, by rw [upd_ne (ne_of h5 hd (by intro z; cases z))]; exact h5, h6.keeps t5⟩, by rw [upd_ne (ne_of A.kn hd (by intro z; cases z))]; exact A.kn, fun b o e => ?_⟩
  rw [upd_ne (ne_of_none e N.nd)]
  exact A.sm b o e
/-- the table is another one -/
theorem AnsIn.tab {H' : Hp} {t : Tab} (N : AnsNew H0 f dn kp kn) (A : AnsIn H0 H f dn kp kn c) (k : Keep [kn] H H') (hk : H' kn = some (.dK (tabV t))) : AnsIn H0 H' f dn kp kn ((t, c.1.2), c.2.1, c.2.2) := by
  obtain ⟨fvs, h1, h2⟩ := A.fo
  obtain ⟨dvs, h3, h4⟩ := A.dn
  obtain ⟨kvs, h5, h6⟩ := A.kp
  have t5 : Tups H H' := k.tups fun x hx xs e => by rw [List.mem_singleton.mp hx, A.kn] at e; cases e
  have nf : f ∉ [kn] := fun z => by rw [List.mem_singleton.mp z, A.kn] at h1; cases h1
  have nd : dn ∉ [kn] := fun z => by rw [List.mem_singleton.mp z, A.kn] at h3; cases h3
  have nk : kp ∉ [kn] := fun z => N.kk (List.mem_singleton.mp z)
  exact ⟨⟨fvs, k _ _ h1 nf, h2.keeps t5⟩, ⟨dvs, k _ _ h3 nd, h4.keeps t5⟩, ⟨kvs, k _ _ h5 nk, h6.keeps t5⟩, hk, fun b o e => k b o (A.sm b o e) fun z => by
    rw [List.mem_singleton.mp z, N.nn] at e
    cases e⟩
/-- a caller's last one is another one -/
theorem AnsIn.last {kvs : List (Key × V)} {t : Addr} {cl n : Int} {x : Ans} (N : AnsNew H0 f dn kp kn) (A : AnsIn H0 H f dn kp kn c) (hk : H kp = some (.dK kvs)) (ht : H t = some (.tup [.int n, x.v])) :
    AnsIn H0 (upd H kp (.dK (putK kvs (Sum.inl cl) (.ref t)))) f dn kp kn ((c.1.1, aput c.1.2 cl (n, x)), c.2.1, c.2.2) := by
  obtain ⟨fvs, h1, h2⟩ := A.fo
  obtain ⟨dvs, h3, h4⟩ := A.dn
  obtain ⟨kvs', h5, h6⟩ := A.kp
  have e : kvs' = kvs := by rw [hk] at h5; injection h5 with e; injection e with e; exact e.symm
  subst e
  have t5 : Tups H (upd H kp (.dK (putK kvs' (Sum.inl cl) (.ref t)))) := fun b xs e => by rw [upd_ne (ne_of e hk (by intro z; cases z))]; exact e
  refine ⟨⟨fvs, by rw [upd_ne (ne_of h1 hk (by intro z; cases z))]; exact h1, h2.keeps t5⟩, ⟨dvs, by rw [upd_ne (ne_of h3 hk (by intro z; cases z))]; exact h3, h4.keeps t5⟩, ⟨_, upd_same, lasts_put (h6.keeps t5) (t5 _ _ ht)⟩, by rw [upd_ne N.kk.symm]; exact A.kn, fun b o e => ?_⟩
  rw [upd_ne (ne_of_none e N.np)]
  exact A.sm b o e
end
theorem step_lt {b : Bk} {i c n : Int} {a : Ask} (h : n < (was b.2 c).1) : stepB b (i, .call c n a) = (b, [], []) := by
  unfold stepB callB
  simp only [if_pos h]
theorem step_eq {b : Bk} {i c n : Int} {a : Ask} (h : n = (was b.2 c).1) : stepB b (i, .call c n a) = (b, [(c, n, (was b.2 c).2)], []) := by
  unfold stepB callB
  simp only [if_neg (show ¬ n < (was b.2 c).1 by omega), if_pos h]
theorem step_gt {b : Bk} {i c n : Int} {a : Ask} (h : (was b.2 c).1 < n) : stepB b (i, .call c n a) = (((doAsk b.1 a).1, aput b.2 c (n, (doAsk b.1 a).2)), [(c, n, (doAsk b.1 a).2)], [(i, .call c n a)]) := by
  unfold stepB callB
  simp only [if_neg (show ¬ n < (was b.2 c).1 by omega), if_neg (show ¬ n = (was b.2 c).1 by omega)]
section
variable {P : Program} {w : World} {K : PySem.W.Frag} {mg : Str → Option Value} {base : Heap} {CT CB : Addr}
def spLAns : Sp := fun vs H Q _ => ∃ (a : Addr) (rvs : List V) (rows : List Row), vs = [.ref a] ∧ H a = some (.lst rvs) ∧ RowsV H rvs rows ∧ RowsOk rows ∧ rows.length ≤ 200 ∧
  ∀ (p f dn kp kn : Addr) (H' : Hp), AnsNew H f dn kp kn → AnsIn H H' f dn kp kn (runB ([], []) rows) → H p = none → H' p = some (.tup [.ref f, .ref dn, .ref kn]) → Q (.ref p) H'
theorem sc_lans : FnScope ["_law_rows_here", "_law_found", "_law_done", "_law_kept", "_law_known", "_law_row", "_law_deed", "_law_before", "_law_answer"] ["_law_rows_here"] (defScope (top 33)) := ⟨rfl, rfl, rfl, by decide +kernel, rfl, by decide +kernel, by decide +kernel⟩
theorem fn_lans (D : Def K mg "_law_answers" (top 33) ["_law_rows_here"]) (GD : Fn P w K mg base "_law_does" 1 ["_law_known", "_law_ask_here"] spLDoes) : Fn P w K mg base "_law_answers" 2 ["_law_rows_here"] spLAns := by
  obtain ⟨fa, fd, F, b, m⟩ := D
  refine ⟨fa, fd, F.ok sc_lans (fun vs H Q E h => ?_) (fun cdv A outer s H vs Q E hr h => ?_), m, F.kp, b⟩
  · obtain ⟨a, rvs, rows, rfl, _⟩ := h
    rfl
  · obtain ⟨a, rvs, rows, rfl, ha, rv, rok, rl, q⟩ := h
    have hu := hu_of hr
    refine ⟨_, pss_cons (ps_par (i := 1) (j := 2) rfl sc_lans.nd rfl rfl (by decide) rfl rfl (pa_cons (pe_lst pa_nil) (pa_cons (pe_lst pa_nil) pa_nil)) (by rfl))
      (pss_cons (ps_par (i := 3) (j := 4) rfl sc_lans.nd rfl rfl (by decide) rfl rfl (pa_cons pe_dnewK (pa_cons pe_dnewK pa_nil)) (by rfl))
      (pss_cons (ps_for PassesOwn.never rfl (pi_list (pv 0)) (pg_name (i := 5) sc_lans.nd rfl (Or.inl rfl))
      (pss_cons (ps_set (i := 6) sc_lans.nd rfl (Or.inl rfl) (pe_ix ix_tup (pv 5) pe_int (fun _ _ => rfl)))
      (pss_cons (ps_if (pt_cmpR op_ne (pe_ix ix_tup (pv 6) pe_int (fun _ _ => rfl)) pe_str (nomark _)) (pss_one ps_continue) pss_nil)
      (pss_cons (ps_asg (pe_dget2 hu (pv 3) (pe_ix ix_tup (pv 6) pe_int (fun _ _ => rfl)) (pe_tup (pa_cons pe_int (pa_cons pe_non pa_nil))) ⟨rfl, rfl, rfl, rfl⟩) (pg_tup (by rfl) (pgs_cons (pg_name (i := 7) sc_lans.nd rfl (Or.inl rfl)) (pgs_cons (pg_name (i := 8) sc_lans.nd rfl (Or.inl rfl)) pgs_nil))))
      (pss_cons (ps_if (pt_cmpR op_gt (pe_ix ix_tup (pv 6) pe_int (fun _ _ => rfl)) (pv 7) (nomark _)) (pss_cons (ps_set (i := 8) sc_lans.nd rfl (Or.inl rfl) (pe_fn GD hr (by rfl) (pa_cons (pv 4) (pa_cons (pe_ix ix_tup (pv 6) pe_int (fun _ _ => rfl)) pa_nil))))
      (pss_cons (ps_dput hu (pv 3) (pe_ix ix_tup (pv 6) pe_int (fun _ _ => rfl)) (pe_tup (pa_cons (pe_ix ix_tup (pv 6) pe_int (fun _ _ => rfl)) (pa_cons (pv 8) pa_nil))) rfl)
      (pss_one (ps_expr (pe_bm PySem.F.plainAttrs_list PySem.F.slot_list_append PySem.F.type_list_append mt_append (pv 2) (pa_cons (pv 5) pa_nil)))))) pss_nil)
      (pss_one (ps_if (pt_cmpR op_ge (pe_ix ix_tup (pv 6) pe_int (fun _ _ => rfl)) (pv 7) (nomark _)) (pss_one (ps_expr (pe_bm PySem.F.plainAttrs_list PySem.F.slot_list_append PySem.F.type_list_append mt_append (pv 1) (pa_cons (pe_tup (pa_cons (pe_ix ix_tup (pv 6) pe_int (fun _ _ => rfl)) (pa_cons (pe_ix ix_tup (pv 6) pe_int (fun _ _ => rfl)) (pa_cons (pv 8) pa_nil)))) pa_nil)))) pss_nil)))))))
      (pss_one (ps_ret (pe_tup (pa_cons (pv 1) (pa_cons (pv 2) (pa_cons (pv 4) pa_nil)))))))), ?_⟩
    refine ⟨by show 0 ≤ sizeLine; decide, fun f hf => ⟨by show 0 ≤ sizeLine; decide, fun dn hdn => ⟨_, _, rfl, ?_⟩⟩⟩
    intro kp hkp kn hkn
    refine ⟨_, _, rfl, ?_⟩
    have e1 : (upd H f (.lst [])) f = some (.lst []) := upd_same
    have nfd : f ≠ dn := ne_of_none e1 hdn
    have hdn0 : H dn = none := by rw [upd_ne nfd.symm] at hdn; exact hdn
    have s1 : Same H (upd (upd H f (.lst [])) dn (.lst [])) := fun b o e => by rw [upd_ne (ne_of_none e hdn0), upd_ne (ne_of_none e hf)]; exact e
    have e2 : (upd (upd H f (.lst [])) dn (.lst [])) f = some (.lst []) := by rw [upd_ne nfd]; exact e1
    have e3 : (upd (upd H f (.lst [])) dn (.lst [])) dn = some (.lst []) := upd_same
    generalize upd (upd H f (.lst [])) dn (.lst []) = H1 at hkp hkn s1 e2 e3 ⊢
    have e4 : (upd H1 kp (.dK [])) kp = some (.dK []) := upd_same
    have nkk : kp ≠ kn := ne_of_none e4 hkn
    have hkn1 : H1 kn = none := by rw [upd_ne nkk.symm] at hkn; exact hkn
    have s2 : Same H1 (upd (upd H1 kp (.dK [])) kn (.dK [])) := fun b o e => by rw [upd_ne (ne_of_none e hkn1), upd_ne (ne_of_none e hkp)]; exact e
    have N : AnsNew H f dn kp kn := ⟨hf, hdn0, s1.free hkp, s1.free hkn1, nfd, nkk⟩
    have A0 : AnsIn H (upd (upd H1 kp (.dK [])) kn (.dK [])) f dn kp kn (([], []), [], []) :=
      ⟨⟨[], s2 _ _ e2, .nil⟩, ⟨[], s2 _ _ e3, .nil⟩, ⟨[], by rw [upd_ne nkk]; exact e4, .nil⟩, upd_same, s1.trans s2⟩
    generalize upd (upd H1 kp (.dK [])) kn (.dK []) = H2 at A0
    have lrv : rvs.length = rows.length := Paired.length rv
    refine ⟨_, rfl, a, rfl, ⟨_, SqL.of (A0.sm _ _ ha)⟩, for_list (K := K) (a := a) (xs := rvs) (fun i σ H' => (∃ o5 o6 o7 o8, σ = [some (.ref a), some (.ref f), some (.ref dn), some (.ref kp), some (.ref kn), o5, o6, o7, o8]) ∧ AnsIn H H' f dn kp kn (runB ([], []) (rows.take i)))
      ⟨⟨_, _, _, _, rfl⟩, A0⟩ (fun i σ H' _ ⟨_, A⟩ => SqL.of (A.sm _ _ ha)) ?_ ?_⟩
    · rintro i x σ H3 hi ⟨⟨o5, o6, o7, o8, rfl⟩, A3⟩
      obtain ⟨r, hri, rv0⟩ := paired_at rv hi
      have rv3 := rv0.keeps (Same.tups A3.sm)
      obtain ⟨q0, d, rfl, hq0, hd0⟩ := id rv3
      have hrok : r.2.ok := rok r (List.mem_of_getElem? hri)
      have hil : i < rows.length := (List.getElem?_eq_some_iff.mp hri).1
      have ti : rows.take (i + 1) = rows.take i ++ [r] := by rw [List.take_add_one, hri]; rfl
      have eN := runB_snoc r (rows.take i) ([], [])
      rw [← ti] at eN
      have lt : (rows.take i).length = i := by rw [List.length_take]; omega
      have bd := run_sizes (rows.take i) ([], [])
      have tl := tri_len (rows.take i) ([], [])
      have dl := done_len (rows.take i) ([], [])
      rw [lt] at bd tl dl
      simp only [List.length_nil, Nat.zero_add] at bd
      generalize runB ([], []) (rows.take i) = cur at A3 eN bd tl dl
      obtain ⟨i0, dd⟩ := r
      have at1 : atI [V.int i0, V.ref d] 1 = some (.ref d) := at_of (j := 1) rfl rfl
      refine ⟨_, rfl, q0, _, _, _, rfl, rfl, SqT.of hq0, at1, ?_⟩
      cases dd with
      | blank =>
        have at0 : atI [V.str "blank"] 0 = some (.str "blank") := at_of (j := 0) rfl rfl
        refine ⟨_, rfl, d, _, _, _, rfl, rfl, SqT.of hd0, at0, rfl, _, rfl, iteTd (by rw [word_ns (x := "blank") (y := "call") (by decide +kernel)]; rfl) ?_⟩
        refine ⟨⟨_, _, _, _, rfl⟩, ?_⟩
        rw [eN]
        show AnsIn _ _ _ _ _ _ (cur.1, cur.2.1 ++ [], cur.2.2 ++ [])
        rw [List.append_nil, List.append_nil]
        exact A3
      | members ns =>
        obtain ⟨q1, hd3, _⟩ := hd0
        have at0 : atI [V.str "members", V.ref q1] 0 = some (.str "members") := at_of (j := 0) rfl rfl
        refine ⟨_, rfl, d, _, _, _, rfl, rfl, SqT.of hd3, at0, rfl, _, rfl, iteTd (by rw [word_ns (x := "members") (y := "call") (by decide +kernel)]; rfl) ?_⟩
        refine ⟨⟨_, _, _, _, rfl⟩, ?_⟩
        rw [eN]
        show AnsIn _ _ _ _ _ _ (cur.1, cur.2.1 ++ [], cur.2.2 ++ [])
        rw [List.append_nil, List.append_nil]
        exact A3
      | call c n ak =>
        obtain ⟨pa, hd3, hpa⟩ := hd0
        have at0 : atI [V.str "call", V.int c, V.int n, V.ref pa] 0 = some (.str "call") := at_of (j := 0) rfl rfl
        have at1 : atI [V.str "call", V.int c, V.int n, V.ref pa] 1 = some (.int c) := at_of (j := 1) rfl rfl
        have at2 : atI [V.str "call", V.int c, V.int n, V.ref pa] 2 = some (.int n) := at_of (j := 2) rfl rfl
        have at3 : atI [V.str "call", V.int c, V.int n, V.ref pa] 3 = some (.ref pa) := at_of (j := 3) rfl rfl
        refine ⟨_, rfl, d, _, _, _, rfl, rfl, SqT.of hd3, at0, rfl, _, rfl, iteNS rfl ?_⟩
        obtain ⟨kvs, hkp3, ls3⟩ := A3.kp
        refine ⟨_, rfl, kp, rfl, .inl ⟨_, .inl hkp3⟩, _, rfl, d, _, _, _, rfl, rfl, SqT.of hd3, at1, by show 2 ≤ sizeLine; decide, fun z hz => ?_⟩
        have s4 : Same H3 (upd H3 z (.tup [.int 0, .non])) := fun b o e => by rw [upd_ne (ne_of_none e hz)]; exact e
        have hz4 : (upd H3 z (.tup [.int 0, .non])) z = some (.tup [.int 0, .non]) := upd_same
        generalize upd H3 z (.tup [.int 0, .non]) = H4 at s4 hz4
        have A4 := A3.same s4
        have hkp4 := s4 _ _ hkp3
        have ls4 := ls3.keeps (Same.tups s4)
        have hd4 := s4 _ _ hd3
        have hpa4 := s4 _ _ hpa
        refine ⟨_, DGet.k (k := Sum.inl c) hkp4, ?_⟩
        obtain ⟨r, hr0, hr1⟩ : ∃ r, (valV kvs (Sum.inl c : Key)).getD (.ref z) = .ref r ∧ H4 r = some (.tup [.int (was cur.1.2 c).1, (was cur.1.2 c).2.v]) := by
          unfold was
          rcases lasts_get c ls4 with ⟨e1, e2⟩ | ⟨r, m, x, e1, e2, h⟩
          · rw [e1, e2]; exact ⟨z, rfl, hz4⟩
          · rw [e1, e2]; exact ⟨r, rfl, h⟩
        rw [hr0]
        refine ⟨r, _, rfl, SqT.of hr1, rfl, _, _, rfl, _, _, rfl, rfl, ?_⟩
        refine ⟨_, rfl, d, _, _, _, rfl, rfl, SqT.of hd4, at2, _, rfl, _, _, rfl, rfl, _, rfl, ?_⟩
        by_cases hgt : (was cur.1.2 c).1 < n
        · rw [decide_eq_true hgt]
          refine iteT ?_
          -- done
          refine ⟨_, rfl, _, rfl, d, _, _, _, rfl, rfl, SqT.of hd4, at3, kn, pa, cur.1.1, ak, rfl, A4.kn, hpa4, by omega, fun H5 k5 h5 => ?_⟩
          have A5 := A4.tab N k5 h5
          have t5 : Tups H4 H5 := k5.tups fun x hx xs e => by rw [List.mem_singleton.mp hx, A4.kn] at e; cases e
          have hd5 := t5 _ _ hd4
          obtain ⟨kvs5, hkp5, ls5⟩ := A5.kp
          refine ⟨_, rfl, d, _, _, _, rfl, rfl, SqT.of hd5, at2, _, rfl, by show 2 ≤ sizeLine; decide, fun t ht => ?_⟩
          have s6 : Same H5 (upd H5 t (.tup [.int n, (doAsk cur.1.1 ak).2.v])) := fun b o e => by rw [upd_ne (ne_of_none e ht)]; exact e
          have ht6 : (upd H5 t (.tup [.int n, (doAsk cur.1.1 ak).2.v])) t = some (.tup [.int n, (doAsk cur.1.1 ak).2.v]) := upd_same
          generalize upd H5 t (.tup [.int n, (doAsk cur.1.1 ak).2.v]) = H6 at s6 ht6
          have A6 := A5.same s6
          have hkp6 := s6 _ _ hkp5
          have hd6 := s6 _ _ hd5
          have ls6 := ls5.keeps (Same.tups s6)
          have kl : kvs5.length ≤ i := by
            have e := lasts_keys ls6
            have e2 := congrArg List.length e
            rw [List.length_map, List.length_map, List.length_map] at e2
            rw [e2]
            exact bd.2
          refine ⟨_, rfl, _, rfl, d, _, _, _, rfl, rfl, SqT.of hd6, at1, kp, _, rfl, DPut.k (k := Sum.inl c) hkp6 (small1000 (by omega)), ?_⟩
          have A7 := A6.last (cl := c) N hkp6 ht6
          have t7 : Tups H6 (upd H6 kp (.dK (putK kvs5 (Sum.inl c) (.ref t)))) := fun b xs e => by rw [upd_ne (ne_of e hkp6 (by intro z; cases z))]; exact e
          generalize upd H6 kp (.dK (putK kvs5 (Sum.inl c) (.ref t))) = H7 at A7 t7
          have tt : Tups H3 H7 := (((Same.tups s4).trans t5).trans (Same.tups s6)).trans t7
          obtain ⟨dvs, hdn7, dv7⟩ := A7.dn
          have dl7 : dvs.length ≤ i := by rw [Paired.length dv7]; exact dl
          refine ⟨_, rfl, .inl ⟨rfl, _, SqL.of hdn7⟩, _, rfl, dn, dvs, .ref q0, rfl, rfl, hdn7, small1000 (by omega), ?_⟩
          have A8 := A7.did N hdn7 (rv3.keeps tt)
          have t8 : Tups H7 (upd H7 dn (.lst (dvs ++ [.ref q0]))) := fun b xs e => by rw [upd_ne (ne_of e hdn7 (by intro z; cases z))]; exact e
          generalize upd H7 dn (.lst (dvs ++ [.ref q0])) = H8 at A8 t8
          have hd8 := t8 _ _ (tt _ _ hd3)
          refine ⟨_, rfl, d, _, _, _, rfl, rfl, SqT.of hd8, at2, _, rfl, _, _, rfl, rfl, _, rfl, ?_⟩
          refine iteTd (decide_eq_true (show (was cur.1.2 c).1 ≤ n by omega)) ?_
          obtain ⟨fvs, hf8, fv8⟩ := A8.fo
          have fl8 : fvs.length ≤ i := by rw [Paired.length fv8]; exact tl
          refine ⟨_, rfl, .inl ⟨rfl, _, SqL.of hf8⟩, _, rfl, d, _, _, _, rfl, rfl, SqT.of hd8, at1, _, rfl, d, _, _, _, rfl, rfl, SqT.of hd8, at2, _, rfl, by show 3 ≤ sizeLine; decide, fun u hu8 => ?_⟩
          have s9 : Same H8 (upd H8 u (.tup [.int c, .int n, (doAsk cur.1.1 ak).2.v])) := fun b o e => by rw [upd_ne (ne_of_none e hu8)]; exact e
          have hu9 : (upd H8 u (.tup [.int c, .int n, (doAsk cur.1.1 ak).2.v])) u = some (.tup [.int c, .int n, (doAsk cur.1.1 ak).2.v]) := upd_same
          refine ⟨f, fvs, .ref u, rfl, rfl, s9 _ _ hf8, small1000 (by omega), ⟨_, _, _, _, rfl⟩, ?_⟩
          rw [eN, step_gt hgt]
          exact (A8.same s9).add N (tr := (c, n, (doAsk cur.1.1 ak).2)) (s9 _ _ hf8) hu9
        · rw [decide_eq_false hgt]
          refine iteF ?_
          refine ⟨_, rfl, d, _, _, _, rfl, rfl, SqT.of hd4, at2, _, rfl, _, _, rfl, rfl, _, rfl, ?_⟩
          by_cases heq : n = (was cur.1.2 c).1
          · refine iteTd (decide_eq_true (show (was cur.1.2 c).1 ≤ n by omega)) ?_
            obtain ⟨fvs, hf8, fv8⟩ := A4.fo
            have fl8 : fvs.length ≤ i := by rw [Paired.length fv8]; exact tl
            refine ⟨_, rfl, .inl ⟨rfl, _, SqL.of hf8⟩, _, rfl, d, _, _, _, rfl, rfl, SqT.of hd4, at1, _, rfl, d, _, _, _, rfl, rfl, SqT.of hd4, at2, _, rfl, by show 3 ≤ sizeLine; decide, fun u hu8 => ?_⟩
            have s9 : Same H4 (upd H4 u (.tup [.int c, .int n, (was cur.1.2 c).2.v])) := fun b o e => by rw [upd_ne (ne_of_none e hu8)]; exact e
            have hu9 : (upd H4 u (.tup [.int c, .int n, (was cur.1.2 c).2.v])) u = some (.tup [.int c, .int n, (was cur.1.2 c).2.v]) := upd_same
            refine ⟨f, fvs, .ref u, rfl, rfl, s9 _ _ hf8, small1000 (by omega), ⟨_, _, _, _, rfl⟩, ?_⟩
            rw [eN, step_eq heq, List.append_nil]
            exact (A4.same s9).add N (tr := (c, n, (was cur.1.2 c).2)) (s9 _ _ hf8) hu9
          · refine iteFd (decide_eq_false (show ¬ (was cur.1.2 c).1 ≤ n by omega)) ?_
            refine ⟨⟨_, _, _, _, rfl⟩, ?_⟩
            rw [eN, step_lt (show n < (was cur.1.2 c).1 by omega), List.append_nil, List.append_nil]
            exact A4
    · rintro σ H3 ⟨⟨o5, o6, o7, o8, rfl⟩, A3⟩
      rw [lrv, List.take_length] at A3
      refine ⟨_, rfl, _, rfl, _, rfl, by show 3 ≤ sizeLine; decide, fun p hp => ?_⟩
      have s4 : Same H3 (upd H3 p (.tup [.ref f, .ref dn, .ref kn])) := fun b o e => by rw [upd_ne (ne_of_none e hp)]; exact e
      exact q p f dn kp kn _ N (A3.same s4) (A3.sm.free hp) upd_same
end
end K41
set_option Elab.async false
set_option maxRecDepth 100000
set_option maxHeartbeats 4000000
set_option linter.all false
/-! The law. -/
namespace K41
open PySem PySem.Spec PyProof.Rows L2
theorem guards_deeper {A : Around} {env : Env} (h : A.guards = some []) : (A.deeper env).guards = some [] := h
theorem nil_i {σ : L2.St} {H : Hp} {Q : List V → Hp → Prop} (h : Q [] H) : tNil σ H Q := h
/-- a call of Book keeps all that stood -/
theorem book_same {CB : Addr} {H H' : Hp} {x dx : Addr} (nx : H x = none) (ndx : H dx = none) (k : Keep [x] (upd (upd H dx (.own x)) x (.ins CB dx [])) H') : Same H H' := by
  have s0 : Same H (upd (upd H dx (.own x)) x (.ins CB dx [])) := fun b o e => by rw [upd_ne (ne_of_none e nx), upd_ne (ne_of_none e ndx)]; exact e
  exact fun b o e => k b o (s0 b o e) (by simp; exact ne_of_none e nx)
theorem book_free {CB : Addr} {H : Hp} {x dx a : Addr} (nx : H x = none) (ndx : H dx = none) (h : (upd (upd H dx (.own x)) x (.ins CB dx [])) a = none) : H a = none := by
  have s0 : Same H (upd (upd H dx (.own x)) x (.ins CB dx [])) := fun b o e => by rw [upd_ne (ne_of_none e nx), upd_ne (ne_of_none e ndx)]; exact e
  exact s0.free h
/-- list(d.items()) of a table -/
theorem items_use {H : Hp} {Q : VK} {d : Addr} {t : Tab} (hd : H d = some (.dK (tabV t))) (h : ∀ (p : Addr) (ts : List Addr) (H' : Hp), Same H H' → H p = none → H' p = some (.lst (ts.map V.ref)) → Paired (fun (a : Addr) (kv : Str × Int) => H' a = some (.tup [.str kv.1, .int kv.2])) ts t → Q (.ref p) H') :
    LiI.rItemsL (.ref d) H Q := by
  refine ⟨d, tabV t, rfl, hd, fun H' p ts s hp _ _ hl pr => h p ts H' s hp hl ?_⟩
  have go : ∀ {as : List Addr} {bs : List (Str × Int)}, Paired (fun (t : Addr) (q : Key × V) => H' t = some (.tup [kV q.1, q.2])) as (tabV bs) → Paired (fun (a : Addr) (kv : Str × Int) => H' a = some (.tup [.str kv.1, .int kv.2])) as bs := by
    intro as bs hh
    induction bs generalizing as with
    | nil => cases hh; exact .nil
    | cons b bs ih =>
      cases hh with
      | cons r t => exact .cons r (ih t)
  exact go pr
theorem pars_of {H : Hp} : ∀ {ts : List Addr} {t : Tab}, Paired (fun (a : Addr) (kv : Str × Int) => H a = some (.tup [.str kv.1, .int kv.2])) ts t → ParsV H (ts.map V.ref) t
  | _, _, .nil => .nil
  | _, _, .cons r t => .cons ⟨_, rfl, r⟩ (pars_of t)
def parOf (H : Hp) : V → Str × Int
  | .ref a => match H a with
    | some (.tup [.str x, .int i]) => (x, i)
    | _ => (⟨#[]⟩, 0)
  | _ => (⟨#[]⟩, 0)
theorem parOf_ref {H : Hp} {a : Addr} {p : Str × Int} (h : H a = some (.tup [.str p.1, .int p.2])) : parOf H (.ref a) = p := by
  show (match H a with
    | some (.tup [.str x, .int i]) => (x, i)
    | _ => (⟨#[]⟩, 0)) = p
  rw [h]
theorem parOf_all {H : Hp} : ∀ {ts : List Addr} {t : Tab}, Paired (fun (a : Addr) (kv : Str × Int) => H a = some (.tup [.str kv.1, .int kv.2])) ts t → (ts.map V.ref).map (parOf H) = t
  | _, _, .nil => rfl
  | _, _, .cons r t => by rw [List.map_cons, List.map_cons, parOf_ref r, parOf_all t]
theorem mem_par {H : Hp} : ∀ {ts : List Addr} {t : Tab}, Paired (fun (a : Addr) (kv : Str × Int) => H a = some (.tup [.str kv.1, .int kv.2])) ts t → ∀ x ∈ ts.map V.ref, ∃ a, x = V.ref a ∧ H a = some (.tup [.str (parOf H x).1, .int (parOf H x).2]) ∧ parOf H x ∈ t
  | _, _, .nil, x, h => by cases h
  | _, _, .cons r t, x, h => by
    rcases List.mem_cons.mp h with e | h
    · subst e
      have q := parOf_ref r
      exact ⟨_, rfl, by rw [q]; exact r, by rw [q]; exact List.mem_cons_self⟩
    · obtain ⟨a, e, h1, h2⟩ := mem_par t x h
      exact ⟨a, e, h1, List.mem_cons_of_mem _ h2⟩
theorem parsV_self {H : Hp} : ∀ {ys : List V}, (∀ y ∈ ys, ∃ a, y = V.ref a ∧ H a = some (.tup [.str (parOf H y).1, .int (parOf H y).2])) → ParsV H ys (ys.map (parOf H))
  | [], _ => .nil
  | y :: ys, h => .cons (h y List.mem_cons_self) (parsV_self fun z hz => h z (List.mem_cons_of_mem _ hz))
/-- sorted of such a list -/
theorem sorted_use {K : PySem.W.Frag} {H : Hp} {Q : VK} {p : Addr} {ts : List Addr} {t : Tab} (hp : H p = some (.lst (ts.map V.ref))) (pr : Paired (fun (a : Addr) (kv : Str × Int) => H a = some (.tup [.str kv.1, .int kv.2])) ts t) (nd : (t.map (·.1)).Nodup)
    (h : ∀ (q : Addr) (ys : List V) (H' : Hp), Same H H' → H' q = some (.lst ys) → ParsV H' ys (sortT t) → Q (.ref q) H') : rSortedTN K [.ref p] H Q := by
  have mp := mem_par pr
  refine ⟨p, ts.map V.ref, parOf H, rfl, SqL.of hp, fun x hx => ?_, fun x hx y hy e => ?_, fun ys q py sy hq => ?_⟩
  · obtain ⟨a, e, h1, _⟩ := mp x hx
    exact ⟨a, e, h1⟩
  · obtain ⟨_, _, _, m1⟩ := mp x hx
    obtain ⟨_, _, _, m2⟩ := mp y hy
    rw [nodup_same nd m1 m2 e]
  · have e : ys.map (parOf H) = sortT t := by
      refine sortT_uniq nd ?_ (List.pairwise_map.mpr sy)
      rw [← parOf_all pr]
      exact py.map _
    have s : Same H (upd H q (.lst ys)) := fun b o e => by rw [upd_ne (ne_of_none e hq)]; exact e
    refine h q ys _ s upd_same ?_
    rw [← e]
    refine ParsV.keeps (Same.tups s) (parsV_self fun y hy => ?_)
    obtain ⟨a, e, h1, _⟩ := mp y (py.mem_iff.mp hy)
    exact ⟨a, e, h1⟩
/-- what stands through the law's second half -/
structure Half (CT CB : Addr) (H : Hp) (R f dn kn F b1 t1 h1 l1 : Addr) (rows : List Row) : Prop where
  rw : ∃ vs, H R = some (.lst vs) ∧ RowsV H vs rows
  du : ∃ vs, H f = some (.lst vs) ∧ TrisV H vs (runB ([], []) rows).2.1
  dn : ∃ vs, H dn = some (.lst vs) ∧ RowsV H vs (runB ([], []) rows).2.2
  fo : ∃ vs, H F = some (.lst vs) ∧ TrisV H vs (runB ([], []) rows).2.1
  bk : BookAt CT CB H b1 t1 h1 l1 (runB ([], []) rows).1
theorem Half.same {CT CB : Addr} {H H' : Hp} {R f dn kn F b1 t1 h1 l1 : Addr} {rows : List Row} (h : Half CT CB H R f dn kn F b1 t1 h1 l1 rows) (s : Same H H') : Half CT CB H' R f dn kn F b1 t1 h1 l1 rows := by
  obtain ⟨⟨v1, a1, a2⟩, ⟨v2, b1, b2⟩, ⟨v3, c1, c2⟩, ⟨v4, d1, d2⟩, e⟩ := h
  exact ⟨⟨v1, s _ _ a1, a2.keeps (Same.tups s)⟩, ⟨v2, s _ _ b1, b2.keeps (Same.tups s)⟩, ⟨v3, s _ _ c1, c2.keeps (Same.tups s)⟩, ⟨v4, s _ _ d1, d2.keeps (Same.tups s)⟩, e.same s⟩
def dblV : List V → List V
  | [] => []
  | v :: vs => v :: v :: dblV vs
theorem dblV_snoc (r : V) : ∀ rs : List V, dblV (rs ++ [r]) = dblV rs ++ [r, r]
  | [] => rfl
  | x :: rs => by rw [List.cons_append, dblV, dblV_snoc r rs, dblV]; rfl
theorem dblV_len : ∀ rs : List V, (dblV rs).length = 2 * rs.length
  | [] => rfl
  | _ :: rs => by rw [dblV, List.length_cons, List.length_cons, List.length_cons, dblV_len rs]; omega
theorem dbl_rows {H : Hp} : ∀ {vs : List V} {rs : List Row}, RowsV H vs rs → RowsV H (dblV vs) (dbl rs)
  | _, _, .nil => .nil
  | _, _, .cons r t => .cons r (.cons r (dbl_rows t))
theorem tri_ok {rows : List Row} (ok : RowsOk rows) (h : rows.length ≤ 198) : ∀ t ∈ (runB ([], []) rows).2.1, TriOk 200 t := fun t ht =>
  ((run_good rows 0 ([], []) good0 ok).2 t ht).mono (by omega)
theorem str_eq {x : Str} : (!decide (V.str x = V.str x)) = false := by
  rw [decide_eq_true rfl]
  rfl
section
variable {P : Program} {w : World} {K : PySem.W.Frag} {mg : Str → Option Value} {base : Heap} {CT CB : Addr}
def spLaw (K : PySem.W.Frag) : Sp := fun vs H Q _ => ∃ (a : Addr) (ns : List Int), vs = [.ref a] ∧ SqL K H a (ns.map V.int) ∧ ns.length ≤ 63 ∧ ∀ H', Q (.bl true) H'
theorem sc_law : FnScope ["_law_script", "_law_rows_here", "_law_due", "_law_done", "_law_known", "_law_book", "_law_handed", "_law_found", "_law_few", "_law_twice", "_law_doubled", "_law_row"] ["_law_script"] (defScope (top 34)) := ⟨rfl, rfl, rfl, by decide +kernel, rfl, by decide +kernel, by decide +kernel⟩
theorem ok_law {fa : Addr} {fd : FuncData} (F : Fun K "law" "law" (top 34) fa fd) (T : Txt w K mg CT CB) (GR : Fn P w K mg base "_law_rows" 4 ["_law_script", "_law_least", "_law_most"] (spLRows K)) (GA : Fn P w K mg base "_law_answers" 2 ["_law_rows_here"] spLAns)
    (GI : Im P w K mg base CB 3 ["self"] (spBInit CT CB)) (GOL : Fn P w K mg base "answers_of" 6 ["book", "rows"] (spAOfL CT CB)) (GOT : Fn P w K mg base "answers_of" 6 ["book", "rows"] (spAOfT CT CB))
    (GBT : Me P w K mg base CB "table" 2 ["self"] (spBTable CT CB)) (GTo : Me P w K mg base CB "told" 2 ["self"] (spBTold CT CB)) : FnG P w K mg base 7 fa fd ["_law_script"] (spLaw K) := by
  refine fn_guarded F sc_law (fun vs H Q E h => ?_) (fun cdv A outer s H vs Q E hg hr h => ?_)
  · obtain ⟨a, ns, rfl, _⟩ := h
    rfl
  · obtain ⟨a, ns, rfl, hS, hl, q⟩ := h
    have hr2 : Room 2 _ := hr.mono (by decide)
    have hr4 : Room (3 + 1) _ := hr.mono (by decide)
    refine ⟨_, pss_cons (ps_set (i := 1) sc_law.nd rfl (Or.inl rfl) (pe_fn GR hr4 (by rfl) (pa_cons (pv 0) (pa_cons pe_int (pa_cons (pe_op op_add pe_int (pe_callB (call_min2 rfl) (by rfl) T.min (by decide +kernel) (pa_cons pe_int (pa_cons (pe_callB call_len_seq (by rfl) T.len PySem.boot_len (pa_cons (pv 0) pa_nil)) pa_nil)))) pa_nil)))))
      (pss_cons (ps_asg (pe_fn GA hr2 (by rfl) (pa_cons (pv 1) pa_nil)) (pg_tup (by rfl) (pgs_cons (pg_name (i := 2) sc_law.nd rfl (Or.inl rfl)) (pgs_cons (pg_name (i := 3) sc_law.nd rfl (Or.inl rfl)) (pgs_cons (pg_name (i := 4) sc_law.nd rfl (Or.inl rfl)) pgs_nil)))))
      (pss_cons (ps_set (i := 5) sc_law.nd rfl (Or.inl rfl) (pe_im GI hr4 (by rfl) T.mgB))
      (pss_cons (ps_set (i := 6) sc_law.nd rfl (Or.inl rfl) (pe_callTy call_list_of (by rfl) T.list (by decide +kernel) (pa_cons (pv 1) pa_nil)))
      (pss_cons (ps_set (i := 7) sc_law.nd rfl (Or.inl rfl) (pe_fn GOL hr (by rfl) (pa_cons (pv 5) (pa_cons (pv 6) pa_nil))))
      (pss_cons (ps_if (PW.pt (pw_or (pt_not (pt_val (pe_callB call_isi (by rfl) T.isi (by decide +kernel) (pa_cons (pv 7) (pa_cons (pe_gty (T := "list") T.list (by rfl) (by decide +kernel)) pa_nil))))) (pw_or (pt_cmpR op_ne (pe_callB (call_reprD (guards_deeper hg) hr.units) (by rfl) T.repr (by decide +kernel) (pa_cons (pv 7) pa_nil)) (pe_callB (call_reprD (guards_deeper hg) hr.units) (by rfl) T.repr (by decide +kernel) (pa_cons (pv 2) pa_nil)) (nomark _)) (pw_or1 (pt_cmpR (op_neD hr.units) (pv 6) (pv 1) (nomark _)))))) pss_never pss_nil)
      (pss_cons (ps_if (pt_cmpR op_ne (pe_callB (call_reprD (guards_deeper hg) hr.units) (by rfl) T.repr (by decide +kernel) (pa_cons (LiI.pe_listItems rfl (pe_me0 GBT T.clB hr2 (pv 5)) (by rfl) T.list (by decide +kernel)) pa_nil)) (pe_callB (call_reprD (guards_deeper hg) hr.units) (by rfl) T.repr (by decide +kernel) (pa_cons (pe_callB cr_sortedTN (by rfl) T.sorted (by decide +kernel) (pa_cons (LiI.pe_listItems rfl (pv 4) (by rfl) T.list (by decide +kernel)) pa_nil)) pa_nil)) (nomark _)) pss_never pss_nil)
      (pss_cons (ps_par (i := 8) (j := 9) rfl sc_law.nd rfl rfl (by decide) rfl rfl (pa_cons (pe_im GI hr4 (by rfl) T.mgB) (pa_cons (pe_im GI hr4 (by rfl) T.mgB) pa_nil)) (by rfl))
      (pss_cons (ps_if (pt_cmpR op_ne (pe_callB (call_reprD (guards_deeper hg) hr.units) (by rfl) T.repr (by decide +kernel) (pa_cons (pe_fn GOT hr (by rfl) (pa_cons (pv 8) (pa_cons (pe_callTy call_tuple_of (by rfl) T.tuple (by decide +kernel) (pa_cons (pv 3) pa_nil)) pa_nil))) pa_nil)) (pe_callB (call_reprD (guards_deeper hg) hr.units) (by rfl) T.repr (by decide +kernel) (pa_cons (pe_ix ix_tup (pe_fn GA hr2 (by rfl) (pa_cons (pv 3) pa_nil)) pe_int (fun _ _ => rfl)) pa_nil)) (nomark _)) pss_never pss_nil)
      (pss_cons (ps_set (i := 10) sc_law.nd rfl (Or.inl rfl) (pe_lst pa_nil))
      (pss_cons (ps_for PassesOwn.never rfl (pi_list (pv 1)) (pg_name (i := 11) sc_law.nd rfl (Or.inl rfl))
      (pss_one (ps_set (i := 10) sc_law.nd rfl (Or.inl rfl) (pe_op op_cat (pv 10) (pe_lst (pa_cons (pv 11) (pa_cons (pv 11) pa_nil)))))))
      (pss_cons (ps_if (pt_cmpR op_ne (pe_callB (call_reprD (guards_deeper hg) hr.units) (by rfl) T.repr (by decide +kernel) (pa_cons (pe_fn GOL hr (by rfl) (pa_cons (pv 9) (pa_cons (pv 10) pa_nil))) pa_nil)) (pe_callB (call_reprD (guards_deeper hg) hr.units) (by rfl) T.repr (by decide +kernel) (pa_cons (pe_ix ix_tup (pe_fn GA hr2 (by rfl) (pa_cons (pv 10) pa_nil)) pe_int (fun _ _ => rfl)) pa_nil)) (nomark _)) pss_never pss_nil)
      (pss_one (ps_ret (pe_and (pe_cmpR op_eq (pe_me0 GTo T.clB hr2 (pv 8)) (pe_me0 GTo T.clB hr2 (pv 5)) (nomark _)) (pe_and (pe_cmpR op_eq (pe_me0 GTo T.clB hr2 (pv 9)) (pe_me0 GTo T.clB hr2 (pv 5)) (nomark _)) (pe_one (pe_cmpR op_eq (pe_callB (call_reprD (guards_deeper hg) hr.units) (by rfl) T.repr (by decide +kernel) (pa_cons (pv 7) pa_nil)) (pe_callB (call_reprD (guards_deeper hg) hr.units) (by rfl) T.repr (by decide +kernel) (pa_cons (pv 2) pa_nil)) (nomark _)))))))))))))))))), ?_⟩
    -- the rows
    refine ⟨_, rfl, _, rfl, a, _, rfl, .inl hS, _, _, rfl, _, _, rfl, rfl, a, ns, _, rfl, hS, hl, ?_, ?_, fun R rvs rows H1 s1 hR0 hR rv rok rl => ?_⟩
    · rw [List.length_map]; split <;> omega
    · rw [List.length_map]; split <;> omega
    -- the law's answers
    refine ⟨_, rfl, R, rvs, rows, rfl, hR, rv, rok, by omega, fun p f dn kp kn H2 N A2 hp hp2 => ?_⟩
    refine ⟨p, _, rfl, SqT.of hp2, rfl, _, _, rfl, _, _, rfl, _, _, rfl, rfl, ?_⟩
    have good := run_good rows 0 ([], []) good0 rok
    rw [Nat.zero_add] at good
    have trok := tri_ok rok (by omega)
    have trln := tri_len rows ([], [])
    have dnln := done_len rows ([], [])
    have smal : Small (runB ([], []) rows).1 := good.1.small (by omega)
    obtain ⟨fv0, hf2, ft2⟩ := A2.fo
    obtain ⟨dv0, hd2, dt2⟩ := A2.dn
    have hk2 := A2.kn
    have hR2 := A2.sm _ _ hR
    have rv2 := rv.keeps (Same.tups A2.sm)
    -- the book
    intro b1 dx1 nx1 ndx1 nex1
    refine ⟨b1, dx1, rfl, upd_same, fun t1 h1 l1 H3 nt1' nh1' nl1' B3 k3 => ⟨rfl, ?_⟩⟩
    have s3 := book_same nx1 ndx1 k3
    have nh1 := book_free nx1 ndx1 nh1'
    have nl1 := book_free nx1 ndx1 nl1'
    -- handed
    refine ⟨_, rfl, R, _, rfl, .inl (SqL.of (s3 _ _ hR2)), fun l hl3 => ?_⟩
    have s4 : Same H3 (upd H3 l (.lst rvs)) := fun b o e => by rw [upd_ne (ne_of_none e hl3)]; exact e
    have hl4 : (upd H3 l (.lst rvs)) l = some (.lst rvs) := upd_same
    generalize upd H3 l (.lst rvs) = H4 at s4 hl4
    have s24 : Same H2 H4 := s3.trans s4
    -- found
    refine ⟨_, rfl, _, rfl, b1, t1, h1, l1, l, ([], []), rvs, rows, rfl, B3.same s4, hl4, rv2.keeps (Same.tups s24), rok, by show 0 + rows.length ≤ 900; omega, by show 0 + rows.length ≤ 900; omega, fun F fvs H5 k5 B5 hF4 hF5 ft5 => ?_⟩
    have s25 : Same H2 H5 := fun b o e => k5 b o (s24 b o e) (by
      intro z
      rcases List.mem_cons.mp z with z | z
      · rw [z, nh1] at e; cases e
      · rw [List.mem_singleton.mp z, nl1] at e; cases e)
    have hl5 : H5 l = some (.lst rvs) := k5 _ _ hl4 (by
      intro z
      rcases List.mem_cons.mp z with z | z
      · rw [z, (B3.same s4).ta.dc] at hl4; cases hl4
      · obtain ⟨kvs, e, _⟩ := (B3.same s4).ld
        rw [List.mem_singleton.mp z, e] at hl4; cases hl4)
    have X5 : Half CT CB H5 R f dn kn F b1 t1 h1 l1 rows := ⟨⟨rvs, s25 _ _ hR2, rv2.keeps (Same.tups s25)⟩, ⟨fv0, s25 _ _ hf2, ft2.keeps (Same.tups s25)⟩, ⟨dv0, s25 _ _ hd2, dt2.keeps (Same.tups s25)⟩, ⟨fvs, hF5, ft5⟩, B5⟩
    have hk5 := s25 _ _ hk2
    -- the first test
    obtain ⟨r1, r2, r3, r4⟩ := tris_repr trok (by omega)
    refine ⟨_, rfl, _, _, _, _, true, rfl, .ty _, .base (.lst hF5), kit_ty (by decide +kernel), true, rfl, iteF ?_⟩
    refine ⟨_, rfl, F, _, rfl, dp_tris (SqL.of hF5) ft5, r1, r2, r3, r4, _, rfl, f, _, rfl, dp_tris (SqL.of (s25 _ _ hf2)) (ft2.keeps (Same.tups s25)), r1, r2, r3, r4, rfl, _, rfl, iteFd str_eq ?_⟩
    have rs := rows_shaped rok
    refine ⟨_, rfl, _, rfl, _, _, dp_rows (SqL.of hl5) (rv2.keeps (Same.tups s25)), dp_rows (SqL.of (s25 _ _ hR2)) (rv2.keeps (Same.tups s25)), rs, rs, _, rfl, ?_⟩
    rw [SeqAt.eqv_refl _ (SeqAt.canLay_of_shaped rs)]
    refine iteF ?_
    -- the second test
    obtain ⟨bdx, hb5⟩ := B5.ob
    refine ⟨_, rfl, b1, bdx, _, rfl, hb5, fB_no t1 l1 (by decide +kernel) (by decide +kernel), b1, t1, h1, l1, _, rfl, B5, smal.tn, smal.tl, fun tq H6 s6 htq0 htq => ?_⟩
    refine items_use htq fun p7 ts7 H7 s7 hp70 hp7 pr7 => ?_
    have pk : ∀ p ∈ sortT (runB ([], []) rows).1.1, KeyOk p.1 ∧ p.2.natAbs < 1000000000000000000 := fun p hp => smal.tk p ((sortT_perm _).mem_iff.mp hp)
    obtain ⟨u1, u2, u3, u4⟩ := pars_repr pk (by rw [sortT_len]; have := smal.tl; omega)
    refine ⟨p7, _, rfl, dp_pars (SqL.of hp7) (pars_of pr7), u1, u2, u3, u4, ?_⟩
    have s57 : Same H5 H7 := s6.trans s7
    refine ⟨_, rfl, items_use (s57 _ _ hk5) fun p8 ts8 H8 s8 hp80 hp8 pr8 => ?_⟩
    refine nil_i ?_
    refine sorted_use hp8 pr8 smal.tn fun p9 ys9 H9 s9 hp9 pr9 => ?_
    refine ⟨p9, _, rfl, dp_pars (SqL.of hp9) pr9, u1, u2, u3, u4, rfl, _, rfl, iteFd str_eq ?_⟩
    have X9 := X5.same ((s57.trans s8).trans s9)
    -- two more books
    intro b2 dx2 n1 ndx2 nex2
    refine ⟨b2, dx2, rfl, upd_same, fun t2 h2 l2 HA n2' n3' n4' BA kA2 => ⟨rfl, ?_⟩⟩
    have sA := book_same n1 ndx2 kA2
    have n2 := book_free n1 ndx2 n2'
    have n3 := book_free n1 ndx2 n3'
    have n4 := book_free n1 ndx2 n4'
    intro b3 dx3 m1 ndx3 nex3
    refine ⟨b3, dx3, rfl, upd_same, fun t3 h3 l3 HB m2' m3' m4' BB kB3 => ⟨rfl, ?_⟩⟩
    have sB := book_same m1 ndx3 kB3
    have m2 := book_free m1 ndx3 m2'
    have m3 := book_free m1 ndx3 m3'
    have m4 := book_free m1 ndx3 m4'
    refine ⟨_, _, rfl, ?_⟩
    have BA' := BA.same sB
    have XB := X9.same (sA.trans sB)
    -- few
    obtain ⟨dv, hdB, dtB⟩ := XB.dn
    have dok : RowsOk (runB ([], []) rows).2.2 := fun r hr => rok r (done_mem hr)
    refine ⟨_, rfl, _, rfl, dn, _, rfl, .inl ⟨SqL.of hdB, fun tp htp => ?_⟩⟩
    have sC : Same HB (upd HB tp (.tup dv)) := fun b o e => by rw [upd_ne (ne_of_none e htp)]; exact e
    have htC : (upd HB tp (.tup dv)) tp = some (.tup dv) := upd_same
    generalize upd HB tp (.tup dv) = HC at sC htC
    refine ⟨b2, t2, h2, l2, tp, ([], []), dv, _, rfl, BA'.same sC, htC, dtB.keeps (Same.tups sC), dok, by show 0 + _ ≤ 900; omega, by show 0 + _ ≤ 900; omega, fun F2 f2v HD kD BD hFC hFD ftD => ?_⟩
    have z2 : ∀ b o, H9 b = some o → b ∉ [h2, l2] := fun b o e z => by
      rcases List.mem_cons.mp z with z | z
      · rw [z, n3] at e; cases e
      · rw [List.mem_singleton.mp z, n4] at e; cases e
    have s9D : Same H9 HD := fun b o e => kD b o (sC b o (sB b o (sA b o e))) (z2 b o e)
    have XD := X9.same s9D
    have tok2 := tri_ok dok (by omega)
    obtain ⟨v1, v2, v3, v4⟩ := tris_repr tok2 (by have := tri_len (runB ([], []) rows).2.2 ([], []); omega)
    refine ⟨F2, _, rfl, dp_tris (SqL.of hFD) ftD, v1, v2, v3, v4, ?_⟩
    obtain ⟨dvD, hdD, dtD⟩ := XD.dn
    refine ⟨_, rfl, dn, dvD, _, rfl, hdD, dtD, dok, by omega, fun p' f' dn' kp' kn' HE NE AE hpE hpE2 => ?_⟩
    obtain ⟨fvE, hfE, ftE⟩ := AE.fo
    refine ⟨p', _, _, _, rfl, rfl, SqT.of hpE2, at_of (j := 0) rfl rfl, f', _, rfl, dp_tris (SqL.of hfE) ftE, v1, v2, v3, v4, rfl, _, rfl, iteFd str_eq ?_⟩
    have XE := XD.same AE.sm
    have BE := BD.same AE.sm
    -- twice stands as it was made
    have BBC := BB.same sC
    have BBD : BookAt CT CB HD b3 t3 h3 l3 ([], []) := by
      have cC := BA'.same sC
      refine BBC.keep kD (kD.tups cC.notup) ?_ ?_ ?_ ?_
      · intro z
        obtain ⟨x3, e3⟩ := BBC.ob
        rcases List.mem_cons.mp z with z | z
        · rw [z, cC.ta.dc] at e3; cases e3
        · obtain ⟨kvs, e, _⟩ := cC.ld
          rw [List.mem_singleton.mp z, e] at e3; cases e3
      · intro z
        obtain ⟨x3, e3⟩ := BBC.ta.ob
        rcases List.mem_cons.mp z with z | z
        · rw [z, cC.ta.dc] at e3; cases e3
        · obtain ⟨kvs, e, _⟩ := cC.ld
          rw [List.mem_singleton.mp z, e] at e3; cases e3
      · intro z
        rcases List.mem_cons.mp z with z | z
        · rw [z, BA.ta.dc] at m3; cases m3
        · obtain ⟨kvs, e, _⟩ := BA.ld
          rw [List.mem_singleton.mp z, e] at m3; cases m3
      · intro z
        rcases List.mem_cons.mp z with z | z
        · rw [z, BA.ta.dc] at m4; cases m4
        · obtain ⟨kvs, e, _⟩ := BA.ld
          rw [List.mem_singleton.mp z, e] at m4; cases m4
    have BTE := BBD.same AE.sm
    -- doubled
    refine ⟨by show 0 ≤ sizeLine; decide, fun dd hdd => ?_⟩
    obtain ⟨rvE, hRE, rtE⟩ := XE.rw
    have lrE : rvE.length = rows.length := Paired.length rtE
    have sF : Same HE (upd HE dd (.lst [])) := fun b o e => by rw [upd_ne (ne_of_none e hdd)]; exact e
    have hdF : (upd HE dd (.lst [])) dd = some (.lst []) := upd_same
    generalize upd HE dd (.lst []) = HF at sF hdF
    refine ⟨_, rfl, R, rfl, ⟨_, SqL.of (sF _ _ hRE)⟩, for_list (K := K) (a := R) (xs := rvE) (fun i σ H' => ∃ (dd : Addr) (o11 : Option V), σ = [some (.ref a), some (.ref R), some (.ref f), some (.ref dn), some (.ref kn), some (.ref b1), some (.ref l), some (.ref F), some (.ref b2), some (.ref b3), some (.ref dd), o11] ∧ H' dd = some (.lst (dblV (rvE.take i))) ∧ Same HF H')
      ⟨dd, _, rfl, hdF, Same.refl _⟩ (fun i σ H' _ ⟨_, _, _, _, sm⟩ => SqL.of (sm _ _ (sF _ _ hRE))) ?_ ?_⟩
    · rintro i x σ HG hi ⟨dg, o11, rfl, hdg, sG⟩
      have ti : rvE.take (i + 1) = rvE.take i ++ [x] := by rw [List.take_add_one, hi]; rfl
      have hil : i < rvE.length := (List.getElem?_eq_some_iff.mp hi).1
      refine ⟨_, rfl, _, rfl, _, rfl, by show 2 ≤ sizeLine; decide, fun u hu => ?_⟩
      have sH : Same HG (upd HG u (.lst [x, x])) := fun b o e => by rw [upd_ne (ne_of_none e hu)]; exact e
      have huH : (upd HG u (.lst [x, x])) u = some (.lst [x, x]) := upd_same
      generalize upd HG u (.lst [x, x]) = HH at sH huH
      refine ⟨dg, u, _, _, rfl, rfl, sH _ _ hdg, huH, ?_, fun v hv => ?_⟩
      · rw [dblV_len, List.length_take, sizeLine_eq]
        show _ + 2 ≤ _
        omega
      · refine ⟨v, _, rfl, ?_, fun b o e => ?_⟩
        · rw [upd_same, ti, dblV_snoc]
        · have e2 := sH _ _ (sG b o e)
          rw [upd_ne (ne_of_none e2 hv)]
          exact e2
    · rintro σ HG ⟨dg, o11, rfl, hdg, sG⟩
      rw [List.take_length] at hdg
      have sEG : Same HE HG := sF.trans sG
      have XG := XE.same sEG
      have BG2 := BE.same sEG
      have BG3 := BTE.same sEG
      have rtG := rtE.keeps (Same.tups sEG)
      have bok : RowsOk (dbl rows) := fun r hr => rok r (dbl_mem hr)
      have dln := dbl_len rows
      -- twice
      refine ⟨_, rfl, _, rfl, b3, t3, h3, l3, dg, ([], []), _, _, rfl, BG3, hdg, dbl_rows rtG, bok, by show 0 + _ ≤ 900; omega, by show 0 + _ ≤ 900; omega, fun F3 f3v HI kI BI hFI0 hFI ftI => ?_⟩
      have z3 : ∀ b o, H9 b = some o → b ∉ [h3, l3] := fun b o e z => by
        have e2 := sA b o e
        rcases List.mem_cons.mp z with z | z
        · rw [z, m3] at e2; cases e2
        · rw [List.mem_singleton.mp z, m4] at e2; cases e2
      have s9I : Same H9 HI := fun b o e => kI b o (sEG b o (AE.sm b o (s9D b o e))) (z3 b o e)
      have XI := X9.same s9I
      have BI2 : BookAt CT CB HI b2 t2 h2 l2 (runB ([], []) (runB ([], []) rows).2.2).1 := by
        refine BG2.keep kI (kI.tups BG3.notup) ?_ ?_ ?_ ?_
        · intro z
          obtain ⟨x3, e3⟩ := BG2.ob
          rcases List.mem_cons.mp z with z | z
          · rw [z, BG3.ta.dc] at e3; cases e3
          · obtain ⟨kvs, e, _⟩ := BG3.ld
            rw [List.mem_singleton.mp z, e] at e3; cases e3
        · intro z
          obtain ⟨x3, e3⟩ := BG2.ta.ob
          rcases List.mem_cons.mp z with z | z
          · rw [z, BG3.ta.dc] at e3; cases e3
          · obtain ⟨kvs, e, _⟩ := BG3.ld
            rw [List.mem_singleton.mp z, e] at e3; cases e3
        · intro z
          rcases List.mem_cons.mp z with z | z
          · have e := BA.ta.dc
            rw [z, m3] at e; cases e
          · have e := BA.ta.dc
            rw [List.mem_singleton.mp z, m4] at e; cases e
        · intro z
          obtain ⟨kvs, e, _⟩ := BA.ld
          rcases List.mem_cons.mp z with z | z
          · rw [z, m3] at e; cases e
          · rw [List.mem_singleton.mp z, m4] at e; cases e
      have tok3 := tri_ok bok (by omega)
      obtain ⟨w1, w2, w3, w4⟩ := tris_repr tok3 (by have := tri_len (dbl rows) ([], []); omega)
      refine ⟨F3, _, rfl, dp_tris (SqL.of hFI) ftI, w1, w2, w3, w4, ?_⟩
      have hdI : HI dg = some (.lst (dblV rvE)) := kI _ _ hdg (by
        intro z
        rcases List.mem_cons.mp z with z | z
        · rw [z, BG3.ta.dc] at hdg; cases hdg
        · obtain ⟨kvs, e, _⟩ := BG3.ld
          rw [List.mem_singleton.mp z, e] at hdg; cases hdg)
      have rtI := rtG.keeps (kI.tups BG3.notup)
      refine ⟨_, rfl, dg, _, _, rfl, hdI, dbl_rows rtI, bok, by omega, fun p' f' dn' kp' kn' HJ NJ AJ hpJ hpJ2 => ?_⟩
      obtain ⟨fvJ, hfJ, ftJ⟩ := AJ.fo
      refine ⟨p', _, _, _, rfl, rfl, SqT.of hpJ2, at_of (j := 0) rfl rfl, f', _, rfl, dp_tris (SqL.of hfJ) ftJ, w1, w2, w3, w4, rfl, _, rfl, iteFd str_eq ?_⟩
      have XJ := XI.same AJ.sm
      have B2 := BI2.same AJ.sm
      have B3' := BI.same AJ.sm
      rw [run_done] at B2
      rw [run_dbl] at B3'
      -- the end
      obtain ⟨y2, e2⟩ := B2.ob
      refine ⟨_, rfl, b2, y2, _, rfl, e2, fB_no t2 l2 (by decide +kernel) (by decide +kernel), b2, t2, h2, l2, _, rfl, B2, smal, fun HK sK => ?_⟩
      have BK := XJ.bk.same sK
      obtain ⟨y1, e1⟩ := BK.ob
      refine ⟨_, rfl, b1, y1, _, rfl, e1, fB_no t1 l1 (by decide +kernel) (by decide +kernel), b1, t1, h1, l1, _, rfl, BK, smal, fun HL sL => ?_⟩
      refine ⟨rfl, _, rfl, iteTd (decide_eq_true rfl) ?_⟩
      have BL := B3'.same (sK.trans sL)
      obtain ⟨y3, e3⟩ := BL.ob
      refine ⟨_, rfl, b3, y3, _, rfl, e3, fB_no t3 l3 (by decide +kernel) (by decide +kernel), b3, t3, h3, l3, _, rfl, BL, smal, fun HM sM => ?_⟩
      have XM := XJ.same ((sK.trans sL).trans sM)
      obtain ⟨y4, e4⟩ := XM.bk.ob
      refine ⟨_, rfl, b1, y4, _, rfl, e4, fB_no t1 l1 (by decide +kernel) (by decide +kernel), b1, t1, h1, l1, _, rfl, XM.bk, smal, fun HN sN => ?_⟩
      refine ⟨rfl, _, rfl, iteTd (decide_eq_true rfl) ?_⟩
      have XN := XM.same sN
      obtain ⟨gv, hgv, gt⟩ := XN.fo
      obtain ⟨dv', hdv, dt⟩ := XN.du
      refine ⟨_, rfl, F, _, rfl, dp_tris (SqL.of hgv) gt, r1, r2, r3, r4, _, rfl, f, _, rfl, dp_tris (SqL.of hdv) dt, r1, r2, r3, r4, rfl, ?_⟩
      rw [decide_eq_true rfl]
      exact q _
end
end K41
set_option Elab.async false
set_option maxRecDepth 100000
set_option maxHeartbeats 4000000
set_option linter.all false
/-! What the top has written, and the law's end. Printed by fin.py. -/
namespace K41
open PySem PySem.Spec PyProof.Rows L2
section
variable {P : Program} {w : World} {K : PySem.W.Frag} {mg : Str → Option Value} {h : Heap} {base : Heap} {CT CB C f : Addr} {oc kV dc pm cd ct : Value} {od an : Option Addr} {sl : Array (Option Value)}
theorem d_iswhole (X : K.In h) (G : h.Ns mainGlobals mg) (a : PySem.W.nsIn K mainGlobals "is_whole" = some (some (.ref f))) (l : K.lookup f = some ⟨oc, od, .func (PySem.W.fnOf "is_whole" "is_whole" (defArgs (top 8)) (defBody (top 8)) (defScope (top 8)) .none kV dc pm an cd ct), sl⟩) (c : PySem.W.codeIn K cd "is_whole" = true) (k : PySem.W.keepIn K (.ref f) = true) : Def K mg "is_whole" (top 8) ["thing"] := by
  have F := fun_mk (st := top 8) l c k
  exact ⟨f, _, F, F.binds (ps := ["thing"]) fun _ _ _ _ _ _ us hl => match us, hl with | [_], _ => rfl, PySem.W.mg_of X G a⟩
theorem d_isamong (X : K.In h) (G : h.Ns mainGlobals mg) (a : PySem.W.nsIn K mainGlobals "is_among" = some (some (.ref f))) (l : K.lookup f = some ⟨oc, od, .func (PySem.W.fnOf "is_among" "is_among" (defArgs (top 9)) (defBody (top 9)) (defScope (top 9)) .none kV dc pm an cd ct), sl⟩) (c : PySem.W.codeIn K cd "is_among" = true) (k : PySem.W.keepIn K (.ref f) = true) : Def K mg "is_among" (top 9) ["thing", "least", "most"] := by
  have F := fun_mk (st := top 9) l c k
  exact ⟨f, _, F, F.binds (ps := ["thing", "least", "most"]) fun _ _ _ _ _ _ us hl => match us, hl with | [_, _, _], _ => rfl, PySem.W.mg_of X G a⟩
theorem d_neednumber (X : K.In h) (G : h.Ns mainGlobals mg) (a : PySem.W.nsIn K mainGlobals "need_number" = some (some (.ref f))) (l : K.lookup f = some ⟨oc, od, .func (PySem.W.fnOf "need_number" "need_number" (defArgs (top 10)) (defBody (top 10)) (defScope (top 10)) .none kV dc pm an cd ct), sl⟩) (c : PySem.W.codeIn K cd "need_number" = true) (k : PySem.W.keepIn K (.ref f) = true) : Def K mg "need_number" (top 10) ["thing", "least", "most"] := by
  have F := fun_mk (st := top 10) l c k
  exact ⟨f, _, F, F.binds (ps := ["thing", "least", "most"]) fun _ _ _ _ _ _ us hl => match us, hl with | [_, _, _], _ => rfl, PySem.W.mg_of X G a⟩
theorem d_iskey (X : K.In h) (G : h.Ns mainGlobals mg) (a : PySem.W.nsIn K mainGlobals "is_key" = some (some (.ref f))) (l : K.lookup f = some ⟨oc, od, .func (PySem.W.fnOf "is_key" "is_key" (defArgs (top 16)) (defBody (top 16)) (defScope (top 16)) .none kV dc pm an cd ct), sl⟩) (c : PySem.W.codeIn K cd "is_key" = true) (k : PySem.W.keepIn K (.ref f) = true) : Def K mg "is_key" (top 16) ["thing"] := by
  have F := fun_mk (st := top 16) l c k
  exact ⟨f, _, F, F.binds (ps := ["thing"]) fun _ _ _ _ _ _ us hl => match us, hl with | [_], _ => rfl, PySem.W.mg_of X G a⟩
theorem d_isvalue (X : K.In h) (G : h.Ns mainGlobals mg) (a : PySem.W.nsIn K mainGlobals "is_value" = some (some (.ref f))) (l : K.lookup f = some ⟨oc, od, .func (PySem.W.fnOf "is_value" "is_value" (defArgs (top 17)) (defBody (top 17)) (defScope (top 17)) .none kV dc pm an cd ct), sl⟩) (c : PySem.W.codeIn K cd "is_value" = true) (k : PySem.W.keepIn K (.ref f) = true) : Def K mg "is_value" (top 17) ["thing"] := by
  have F := fun_mk (st := top 17) l c k
  exact ⟨f, _, F, F.binds (ps := ["thing"]) fun _ _ _ _ _ _ us hl => match us, hl with | [_], _ => rfl, PySem.W.mg_of X G a⟩
theorem d_isask (X : K.In h) (G : h.Ns mainGlobals mg) (a : PySem.W.nsIn K mainGlobals "is_ask" = some (some (.ref f))) (l : K.lookup f = some ⟨oc, od, .func (PySem.W.fnOf "is_ask" "is_ask" (defArgs (top 18)) (defBody (top 18)) (defScope (top 18)) .none kV dc pm an cd ct), sl⟩) (c : PySem.W.codeIn K cd "is_ask" = true) (k : PySem.W.keepIn K (.ref f) = true) : Def K mg "is_ask" (top 18) ["thing"] := by
  have F := fun_mk (st := top 18) l c k
  exact ⟨f, _, F, F.binds (ps := ["thing"]) fun _ _ _ _ _ _ us hl => match us, hl with | [_], _ => rfl, PySem.W.mg_of X G a⟩
theorem d_answertext (X : K.In h) (G : h.Ns mainGlobals mg) (a : PySem.W.nsIn K mainGlobals "answer_text" = some (some (.ref f))) (l : K.lookup f = some ⟨oc, od, .func (PySem.W.fnOf "answer_text" "answer_text" (defArgs (top 22)) (defBody (top 22)) (defScope (top 22)) .none kV dc pm an cd ct), sl⟩) (c : PySem.W.codeIn K cd "answer_text" = true) (k : PySem.W.keepIn K (.ref f) = true) : Def K mg "answer_text" (top 22) ["answer"] := by
  have F := fun_mk (st := top 22) l c k
  exact ⟨f, _, F, F.binds (ps := ["answer"]) fun _ _ _ _ _ _ us hl => match us, hl with | [_], _ => rfl, PySem.W.mg_of X G a⟩
theorem d_answersof (X : K.In h) (G : h.Ns mainGlobals mg) (a : PySem.W.nsIn K mainGlobals "answers_of" = some (some (.ref f))) (l : K.lookup f = some ⟨oc, od, .func (PySem.W.fnOf "answers_of" "answers_of" (defArgs (top 24)) (defBody (top 24)) (defScope (top 24)) .none kV dc pm an cd ct), sl⟩) (c : PySem.W.codeIn K cd "answers_of" = true) (k : PySem.W.keepIn K (.ref f) = true) : Def K mg "answers_of" (top 24) ["book", "rows"] := by
  have F := fun_mk (st := top 24) l c k
  exact ⟨f, _, F, F.binds (ps := ["book", "rows"]) fun _ _ _ _ _ _ us hl => match us, hl with | [_, _], _ => rfl, PySem.W.mg_of X G a⟩
theorem d_lawbegun (X : K.In h) (G : h.Ns mainGlobals mg) (a : PySem.W.nsIn K mainGlobals "_law_begun" = some (some (.ref f))) (l : K.lookup f = some ⟨oc, od, .func (PySem.W.fnOf "_law_begun" "_law_begun" (defArgs (top 26)) (defBody (top 26)) (defScope (top 26)) .none kV dc pm an cd ct), sl⟩) (c : PySem.W.codeIn K cd "_law_begun" = true) (k : PySem.W.keepIn K (.ref f) = true) : Def K mg "_law_begun" (top 26) ["_law_script", "_law_k"] := by
  have F := fun_mk (st := top 26) l c k
  exact ⟨f, _, F, F.binds (ps := ["_law_script", "_law_k"]) fun _ _ _ _ _ _ us hl => match us, hl with | [_, _], _ => rfl, PySem.W.mg_of X G a⟩
theorem d_lawtake (X : K.In h) (G : h.Ns mainGlobals mg) (a : PySem.W.nsIn K mainGlobals "_law_take" = some (some (.ref f))) (l : K.lookup f = some ⟨oc, od, .func (PySem.W.fnOf "_law_take" "_law_take" (defArgs (top 27)) (defBody (top 27)) (defScope (top 27)) .none kV dc pm an cd ct), sl⟩) (c : PySem.W.codeIn K cd "_law_take" = true) (k : PySem.W.keepIn K (.ref f) = true) : Def K mg "_law_take" (top 27) ["_law_draw", "_law_many_things"] := by
  have F := fun_mk (st := top 27) l c k
  exact ⟨f, _, F, F.binds (ps := ["_law_draw", "_law_many_things"]) fun _ _ _ _ _ _ us hl => match us, hl with | [_, _], _ => rfl, PySem.W.mg_of X G a⟩
theorem d_lawkey (X : K.In h) (G : h.Ns mainGlobals mg) (a : PySem.W.nsIn K mainGlobals "_law_key" = some (some (.ref f))) (l : K.lookup f = some ⟨oc, od, .func (PySem.W.fnOf "_law_key" "_law_key" (defArgs (top 28)) (defBody (top 28)) (defScope (top 28)) .none kV dc pm an cd ct), sl⟩) (c : PySem.W.codeIn K cd "_law_key" = true) (k : PySem.W.keepIn K (.ref f) = true) : Def K mg "_law_key" (top 28) ["_law_draw"] := by
  have F := fun_mk (st := top 28) l c k
  exact ⟨f, _, F, F.binds (ps := ["_law_draw"]) fun _ _ _ _ _ _ us hl => match us, hl with | [_], _ => rfl, PySem.W.mg_of X G a⟩
theorem d_lawvalue (X : K.In h) (G : h.Ns mainGlobals mg) (a : PySem.W.nsIn K mainGlobals "_law_value" = some (some (.ref f))) (l : K.lookup f = some ⟨oc, od, .func (PySem.W.fnOf "_law_value" "_law_value" (defArgs (top 29)) (defBody (top 29)) (defScope (top 29)) .none kV dc pm an cd ct), sl⟩) (c : PySem.W.codeIn K cd "_law_value" = true) (k : PySem.W.keepIn K (.ref f) = true) : Def K mg "_law_value" (top 29) ["_law_draw"] := by
  have F := fun_mk (st := top 29) l c k
  exact ⟨f, _, F, F.binds (ps := ["_law_draw"]) fun _ _ _ _ _ _ us hl => match us, hl with | [_], _ => rfl, PySem.W.mg_of X G a⟩
theorem d_lawask (X : K.In h) (G : h.Ns mainGlobals mg) (a : PySem.W.nsIn K mainGlobals "_law_ask" = some (some (.ref f))) (l : K.lookup f = some ⟨oc, od, .func (PySem.W.fnOf "_law_ask" "_law_ask" (defArgs (top 30)) (defBody (top 30)) (defScope (top 30)) .none kV dc pm an cd ct), sl⟩) (c : PySem.W.codeIn K cd "_law_ask" = true) (k : PySem.W.keepIn K (.ref f) = true) : Def K mg "_law_ask" (top 30) ["_law_draw", "_law_known"] := by
  have F := fun_mk (st := top 30) l c k
  exact ⟨f, _, F, F.binds (ps := ["_law_draw", "_law_known"]) fun _ _ _ _ _ _ us hl => match us, hl with | [_, _], _ => rfl, PySem.W.mg_of X G a⟩
theorem d_lawdoes (X : K.In h) (G : h.Ns mainGlobals mg) (a : PySem.W.nsIn K mainGlobals "_law_does" = some (some (.ref f))) (l : K.lookup f = some ⟨oc, od, .func (PySem.W.fnOf "_law_does" "_law_does" (defArgs (top 31)) (defBody (top 31)) (defScope (top 31)) .none kV dc pm an cd ct), sl⟩) (c : PySem.W.codeIn K cd "_law_does" = true) (k : PySem.W.keepIn K (.ref f) = true) : Def K mg "_law_does" (top 31) ["_law_known", "_law_ask_here"] := by
  have F := fun_mk (st := top 31) l c k
  exact ⟨f, _, F, F.binds (ps := ["_law_known", "_law_ask_here"]) fun _ _ _ _ _ _ us hl => match us, hl with | [_, _], _ => rfl, PySem.W.mg_of X G a⟩
theorem d_lawrows (X : K.In h) (G : h.Ns mainGlobals mg) (a : PySem.W.nsIn K mainGlobals "_law_rows" = some (some (.ref f))) (l : K.lookup f = some ⟨oc, od, .func (PySem.W.fnOf "_law_rows" "_law_rows" (defArgs (top 32)) (defBody (top 32)) (defScope (top 32)) .none kV dc pm an cd ct), sl⟩) (c : PySem.W.codeIn K cd "_law_rows" = true) (k : PySem.W.keepIn K (.ref f) = true) : Def K mg "_law_rows" (top 32) ["_law_script", "_law_least", "_law_most"] := by
  have F := fun_mk (st := top 32) l c k
  exact ⟨f, _, F, F.binds (ps := ["_law_script", "_law_least", "_law_most"]) fun _ _ _ _ _ _ us hl => match us, hl with | [_, _, _], _ => rfl, PySem.W.mg_of X G a⟩
theorem d_lawanswers (X : K.In h) (G : h.Ns mainGlobals mg) (a : PySem.W.nsIn K mainGlobals "_law_answers" = some (some (.ref f))) (l : K.lookup f = some ⟨oc, od, .func (PySem.W.fnOf "_law_answers" "_law_answers" (defArgs (top 33)) (defBody (top 33)) (defScope (top 33)) .none kV dc pm an cd ct), sl⟩) (c : PySem.W.codeIn K cd "_law_answers" = true) (k : PySem.W.keepIn K (.ref f) = true) : Def K mg "_law_answers" (top 33) ["_law_rows_here"] := by
  have F := fun_mk (st := top 33) l c k
  exact ⟨f, _, F, F.binds (ps := ["_law_rows_here"]) fun _ _ _ _ _ _ us hl => match us, hl with | [_], _ => rfl, PySem.W.mg_of X G a⟩
theorem m_Table_do (a : PySem.W.findIn K (.ref C) "do" = some (some (.ref f))) (i : PySem.W.isFn K (.ref f) = true) (l : K.lookup f = some ⟨oc, od, .func (PySem.W.fnOf "do" "Table.do" (defArgs (sTable 1)) (defBody (sTable 1)) (defScope (sTable 1)) .none kV dc pm an cd ct), sl⟩) (c : PySem.W.codeIn K cd "Table.do" = true) (k : PySem.W.keepIn K (.ref f) = true) : Mth K C "do" "Table.do" (sTable 1) ["self", "ask"] := by
  have F := fun_mk (st := sTable 1) l c k
  exact ⟨f, _, F, F.binds (ps := ["self", "ask"]) fun _ _ _ _ _ _ us hl => match us, hl with | [_, _], _ => rfl, ⟨a, i, k⟩⟩
theorem m_Table_swapped (a : PySem.W.findIn K (.ref C) "swapped" = some (some (.ref f))) (i : PySem.W.isFn K (.ref f) = true) (l : K.lookup f = some ⟨oc, od, .func (PySem.W.fnOf "swapped" "Table.swapped" (defArgs (sTable 2)) (defBody (sTable 2)) (defScope (sTable 2)) .none kV dc pm an cd ct), sl⟩) (c : PySem.W.codeIn K cd "Table.swapped" = true) (k : PySem.W.keepIn K (.ref f) = true) : Mth K C "swapped" "Table.swapped" (sTable 2) ["self", "ask", "there"] := by
  have F := fun_mk (st := sTable 2) l c k
  exact ⟨f, _, F, F.binds (ps := ["self", "ask", "there"]) fun _ _ _ _ _ _ us hl => match us, hl with | [_, _, _], _ => rfl, ⟨a, i, k⟩⟩
theorem m_Table_told (a : PySem.W.findIn K (.ref C) "told" = some (some (.ref f))) (i : PySem.W.isFn K (.ref f) = true) (l : K.lookup f = some ⟨oc, od, .func (PySem.W.fnOf "told" "Table.told" (defArgs (sTable 4)) (defBody (sTable 4)) (defScope (sTable 4)) .none kV dc pm an cd ct), sl⟩) (c : PySem.W.codeIn K cd "Table.told" = true) (k : PySem.W.keepIn K (.ref f) = true) : Mth K C "told" "Table.told" (sTable 4) ["self"] := by
  have F := fun_mk (st := sTable 4) l c k
  exact ⟨f, _, F, F.binds (ps := ["self"]) fun _ _ _ _ _ _ us hl => match us, hl with | [_], _ => rfl, ⟨a, i, k⟩⟩
theorem m_Book_do (a : PySem.W.findIn K (.ref C) "do" = some (some (.ref f))) (i : PySem.W.isFn K (.ref f) = true) (l : K.lookup f = some ⟨oc, od, .func (PySem.W.fnOf "do" "Book.do" (defArgs (sBook 1)) (defBody (sBook 1)) (defScope (sBook 1)) .none kV dc pm an cd ct), sl⟩) (c : PySem.W.codeIn K cd "Book.do" = true) (k : PySem.W.keepIn K (.ref f) = true) : Mth K C "do" "Book.do" (sBook 1) ["self", "caller", "number", "ask"] := by
  have F := fun_mk (st := sBook 1) l c k
  exact ⟨f, _, F, F.binds (ps := ["self", "caller", "number", "ask"]) fun _ _ _ _ _ _ us hl => match us, hl with | [_, _, _, _], _ => rfl, ⟨a, i, k⟩⟩
theorem m_Book_table (a : PySem.W.findIn K (.ref C) "table" = some (some (.ref f))) (i : PySem.W.isFn K (.ref f) = true) (l : K.lookup f = some ⟨oc, od, .func (PySem.W.fnOf "table" "Book.table" (defArgs (sBook 3)) (defBody (sBook 3)) (defScope (sBook 3)) .none kV dc pm an cd ct), sl⟩) (c : PySem.W.codeIn K cd "Book.table" = true) (k : PySem.W.keepIn K (.ref f) = true) : Mth K C "table" "Book.table" (sBook 3) ["self"] := by
  have F := fun_mk (st := sBook 3) l c k
  exact ⟨f, _, F, F.binds (ps := ["self"]) fun _ _ _ _ _ _ us hl => match us, hl with | [_], _ => rfl, ⟨a, i, k⟩⟩
theorem m_Book_told (a : PySem.W.findIn K (.ref C) "told" = some (some (.ref f))) (i : PySem.W.isFn K (.ref f) = true) (l : K.lookup f = some ⟨oc, od, .func (PySem.W.fnOf "told" "Book.told" (defArgs (sBook 4)) (defBody (sBook 4)) (defScope (sBook 4)) .none kV dc pm an cd ct), sl⟩) (c : PySem.W.codeIn K cd "Book.told" = true) (k : PySem.W.keepIn K (.ref f) = true) : Mth K C "told" "Book.told" (sBook 4) ["self"] := by
  have F := fun_mk (st := sBook 4) l c k
  exact ⟨f, _, F, F.binds (ps := ["self"]) fun _ _ _ _ _ _ us hl => match us, hl with | [_], _ => rfl, ⟨a, i, k⟩⟩
theorem i_Table (mk : PySem.W.makesIn K C = true) (kc : PySem.W.keepIn K (.ref C) = true) (a : PySem.W.findIn K (.ref C) "__init__" = some (some (.ref f))) (i : PySem.W.isFn K (.ref f) = true) (l : K.lookup f = some ⟨oc, od, .func (PySem.W.fnOf "__init__" "Table.__init__" (defArgs (sTable 0)) (defBody (sTable 0)) (defScope (sTable 0)) .none kV dc pm an cd ct), sl⟩) (c : PySem.W.codeIn K cd "Table.__init__" = true) (k : PySem.W.keepIn K (.ref f) = true) : Ini K C "Table.__init__" (sTable 0) ["self"] := by
  have F := fun_mk (st := sTable 0) l c k
  exact ⟨f, _, F, F.binds (ps := ["self"]) fun _ _ _ _ _ _ us hl => match us, hl with | [_], _ => rfl, ⟨mk, a, i, kc⟩⟩
theorem i_Book (mk : PySem.W.makesIn K C = true) (kc : PySem.W.keepIn K (.ref C) = true) (a : PySem.W.findIn K (.ref C) "__init__" = some (some (.ref f))) (i : PySem.W.isFn K (.ref f) = true) (l : K.lookup f = some ⟨oc, od, .func (PySem.W.fnOf "__init__" "Book.__init__" (defArgs (sBook 0)) (defBody (sBook 0)) (defScope (sBook 0)) .none kV dc pm an cd ct), sl⟩) (c : PySem.W.codeIn K cd "Book.__init__" = true) (k : PySem.W.keepIn K (.ref f) = true) : Ini K C "Book.__init__" (sBook 0) ["self"] := by
  have F := fun_mk (st := sBook 0) l c k
  exact ⟨f, _, F, F.binds (ps := ["self"]) fun _ _ _ _ _ _ us hl => match us, hl with | [_], _ => rfl, ⟨mk, a, i, kc⟩⟩
theorem sz_mk {a : Addr} {es : Array DictEntry} {n : Nat} {t0 t1 t2 t3 t4 t5 : Addr} (X : K.In h) (G : h.Ns mainGlobals mg) (hm : mg "SIZES" = some (.ref a)) (at_ : K.lookup a = some ⟨.type "dict", none, .dict es n, #[]⟩) (lit : PySem.W.KeysLit w.params es.toList) (low : (a == sysModules) = false)
    (s0 : PySem.W.nsIn K a "put" = some (some (.int 3 t0))) (s1 : PySem.W.nsIn K a "add" = some (some (.int 3 t1))) (s2 : PySem.W.nsIn K a "drop" = some (some (.int 2 t2))) (s3 : PySem.W.nsIn K a "swap" = some (some (.int 4 t3))) (s4 : PySem.W.nsIn K a "read" = some (some (.int 2 t4))) (s5 : PySem.W.nsIn K a "many" = some (some (.int 1 t5))) :
    ∃ (a : Addr) (es : Array DictEntry) (n : Nat), mg "SIZES" = some (.ref a) ∧ KDict K w a es n ∧
    (∃ t, PySem.W.nsIn K a "put" = some (some (.int 3 t))) ∧ (∃ t, PySem.W.nsIn K a "add" = some (some (.int 3 t))) ∧ (∃ t, PySem.W.nsIn K a "drop" = some (some (.int 2 t))) ∧
    (∃ t, PySem.W.nsIn K a "swap" = some (some (.int 4 t))) ∧ (∃ t, PySem.W.nsIn K a "read" = some (some (.int 2 t))) ∧ ∃ t, PySem.W.nsIn K a "many" = some (some (.int 1 t)) :=
  ⟨a, es, n, hm, ⟨at_, lit, low⟩, ⟨_, s0⟩, ⟨_, s1⟩, ⟨_, s2⟩, ⟨_, s3⟩, ⟨_, s4⟩, ⟨_, s5⟩⟩
theorem cls_mk (pg : PySem.W.plainGet K C Str.empty = true) (hd : PySem.W.hasDictIn K C = true) (po : PySem.W.plainOver K C = true) (sa : PySem.W.findIn K (.ref C) "__setattr__" = some (some (.builtin "object.__setattr__"))) : Cls K C := ⟨pg, hd, po, sa⟩
theorem gi_mk {x : Str} {i : Int} {t : Addr} (X : K.In h) (G : h.Ns mainGlobals mg) (a : PySem.W.nsIn K mainGlobals x = some (some (.int i t))) : ∃ t, mg x = some (.int i t) := ⟨t, PySem.W.mg_of X G a⟩
theorem gs_mk {x z : Str} {t : Addr} (X : K.In h) (G : h.Ns mainGlobals mg) (a : PySem.W.nsIn K mainGlobals x = some (some (.str z t))) : ∃ t, mg x = some (.str z t) := ⟨t, PySem.W.mg_of X G a⟩
theorem law_mk {l : PySem.W.OpenLaw} {fa : Addr} (X : K.In h) (G : h.Ns mainGlobals mg) (hfa : mg "law" = some (.ref fa)) (T : Txt w K mg CT CB)
    (Diswhole : Def K mg "is_whole" (top 8) ["thing"])
    (Disamong : Def K mg "is_among" (top 9) ["thing", "least", "most"])
    (Dneednumber : Def K mg "need_number" (top 10) ["thing", "least", "most"])
    (Diskey : Def K mg "is_key" (top 16) ["thing"])
    (Disvalue : Def K mg "is_value" (top 17) ["thing"])
    (Disask : Def K mg "is_ask" (top 18) ["thing"])
    (Danswertext : Def K mg "answer_text" (top 22) ["answer"])
    (Danswersof : Def K mg "answers_of" (top 24) ["book", "rows"])
    (Dlawbegun : Def K mg "_law_begun" (top 26) ["_law_script", "_law_k"])
    (Dlawtake : Def K mg "_law_take" (top 27) ["_law_draw", "_law_many_things"])
    (Dlawkey : Def K mg "_law_key" (top 28) ["_law_draw"])
    (Dlawvalue : Def K mg "_law_value" (top 29) ["_law_draw"])
    (Dlawask : Def K mg "_law_ask" (top 30) ["_law_draw", "_law_known"])
    (Dlawdoes : Def K mg "_law_does" (top 31) ["_law_known", "_law_ask_here"])
    (Dlawrows : Def K mg "_law_rows" (top 32) ["_law_script", "_law_least", "_law_most"])
    (Dlawanswers : Def K mg "_law_answers" (top 33) ["_law_rows_here"])
    (MTabledo : Mth K CT "do" "Table.do" (sTable 1) ["self", "ask"])
    (MTableswapped : Mth K CT "swapped" "Table.swapped" (sTable 2) ["self", "ask", "there"])
    (MTabletold : Mth K CT "told" "Table.told" (sTable 4) ["self"])
    (MBookdo : Mth K CB "do" "Book.do" (sBook 1) ["self", "caller", "number", "ask"])
    (MBooktable : Mth K CB "table" "Book.table" (sBook 3) ["self"])
    (MBooktold : Mth K CB "told" "Book.told" (sBook 4) ["self"])
    (ITable : Ini K CT "Table.__init__" (sTable 0) ["self"])
    (IBook : Ini K CB "Book.__init__" (sBook 0) ["self"])
    (a : PySem.W.nsIn K mainGlobals "law" = some (some (.ref f))) (l_ : K.lookup f = some ⟨oc, od, .func (PySem.W.fnOf "law" "law" (defArgs (top 34)) (defBody (top 34)) (defScope (top 34)) .none kV dc pm an cd ct), sl⟩) (c : PySem.W.codeIn K cd "law" = true) (k : PySem.W.keepIn K (.ref f) = true) :
    ∃ fd : FuncData, (∀ (s : Shared) (v : Value), BindsTo s fd ⟨[v], []⟩ [("_law_script", v)]) ∧ ∀ base : Heap, K.In base → base.Ns mainGlobals mg → FnG l.prog w K mg base 7 fa fd ["_law_script"] (spLaw K) := by
  have e := hfa.symm.trans (PySem.W.mg_of X G a)
  cases e
  have F := fun_mk (st := top 34) l_ c k
  refine ⟨PySem.W.fnOf "law" "law" (defArgs (top 34)) (defBody (top 34)) (defScope (top 34)) .none kV dc pm an cd ct, fun s v => .of_eq rfl, fun base _ _ => ?_⟩
  · have Gwhole := fn_whole (P := l.prog) (w := w) (base := base) Diswhole T
    have Gamong := fn_among Disamong Gwhole
    have Gneed := fn_need Dneednumber Gamong
    have Gkey := fn_key (P := l.prog) (w := w) (base := base) Diskey T
    have Gvalue := fn_value Disvalue T Gwhole
    have Gask := fn_ask Disask T Gkey Gvalue
    have Gti := im_table (P := l.prog) (w := w) (base := base) ITable T
    have Gsw := me_swapped (P := l.prog) (w := w) (base := base) MTableswapped T
    have Gtdo := me_tdo MTabledo T Gask Gsw
    have Gtt := me_ttold (P := l.prog) (w := w) (base := base) MTabletold T
    have Gbi := im_book IBook T Gti
    have Gbdo := me_bdo MBookdo T Gneed Gask Gtdo
    have Gbt := me_btable MBooktable T Gtt
    have Gat := fn_atext (P := l.prog) (w := w) (base := base) Danswertext T
    have Gbto := me_btold MBooktold T Gtt Gat
    have GaL := fn_aofL Danswersof T Gbdo
    have GaT := fn_aofT Danswersof T Gbdo
    have Gbg := fn_begun (P := l.prog) (w := w) (base := base) Dlawbegun T
    have Gtk := fn_take (P := l.prog) (w := w) (K := K) (mg := mg) (base := base) Dlawtake
    have Glk := fn_lkey Dlawkey T Gtk
    have Glv := fn_lvalue Dlawvalue Gtk
    have Gla := fn_lask Dlawask Gtk Glk Glv
    have Gld := fn_ldoes (P := l.prog) (w := w) (base := base) Dlawdoes T
    have Glr := fn_lrows Dlawrows T Gbg Gtk Gla
    have Gln := fn_lans Dlawanswers Gld
    exact ok_law F T Glr Gln Gbi GaL GaT Gbt Gbto
theorem fin_mk {l : PySem.W.OpenLaw} {fa aS : Addr} {es : Array DictEntry} {n : Nat} {tm tl tv tL tx : Addr} {t0 t1 t2 t3 t4 t5 : Addr} (X : K.In h) (G : h.Ns mainGlobals mg) (hfa : mg "law" = some (.ref fa))
    (aT : PySem.W.nsIn K mainGlobals "Table" = some (some (.ref CT))) (aB : PySem.W.nsIn K mainGlobals "Book" = some (some (.ref CB)))
    (c0_pg : PySem.W.plainGet K CT Str.empty = true) (c0_hd : PySem.W.hasDictIn K CT = true) (c0_po : PySem.W.plainOver K CT = true) (c0_sa : PySem.W.findIn K (.ref CT) "__setattr__" = some (some (.builtin "object.__setattr__")))
    (c1_pg : PySem.W.plainGet K CB Str.empty = true) (c1_hd : PySem.W.hasDictIn K CB = true) (c1_po : PySem.W.plainOver K CB = true) (c1_sa : PySem.W.findIn K (.ref CB) "__setattr__" = some (some (.builtin "object.__setattr__")))
    (nHeld : PySem.W.findIn K (.ref CT) "held" = some none) (nOwn : PySem.W.findIn K (.ref CB) "own_table" = some none) (nLasts : PySem.W.findIn K (.ref CB) "lasts" = some none)
    (z_isinstance : PySem.W.nsIn K mainGlobals "isinstance" = some none) (z_int : PySem.W.nsIn K mainGlobals "int" = some none) (z_bool : PySem.W.nsIn K mainGlobals "bool" = some none) (z_str : PySem.W.nsIn K mainGlobals "str" = some none) (z_tuple : PySem.W.nsIn K mainGlobals "tuple" = some none) (z_list : PySem.W.nsIn K mainGlobals "list" = some none) (z_dict : PySem.W.nsIn K mainGlobals "dict" = some none) (z_len : PySem.W.nsIn K mainGlobals "len" = some none) (z_all : PySem.W.nsIn K mainGlobals "all" = some none) (z_sorted : PySem.W.nsIn K mainGlobals "sorted" = some none) (z_range : PySem.W.nsIn K mainGlobals "range" = some none) (z_repr : PySem.W.nsIn K mainGlobals "repr" = some none) (z_min : PySem.W.nsIn K mainGlobals "min" = some none)
    (g_MOST : PySem.W.nsIn K mainGlobals "MOST" = some (some (.int 1000000 tm))) (g_LAST_CALLER : PySem.W.nsIn K mainGlobals "LAST_CALLER" = some (some (.int 9 tl))) (g_MOST_LETTERS : PySem.W.nsIn K mainGlobals "MOST_LETTERS" = some (some (.int 8 tL))) (g_MOST_VALUE : PySem.W.nsIn K mainGlobals "MOST_VALUE" = some (some (.int 1000000000000 tv)))
    (g_LETTERS : PySem.W.nsIn K mainGlobals "LETTERS" = some (some (.str "abcdefghijklmnopqrstuvwxyz" tx)))
    (sz : PySem.W.nsIn K mainGlobals "SIZES" = some (some (.ref aS))) (sz_at : K.lookup aS = some ⟨.type "dict", none, .dict es n, #[]⟩) (sz_lit : PySem.W.KeysLit w.params es.toList) (sz_low : (aS == sysModules) = false)
    (sz_put : PySem.W.nsIn K aS "put" = some (some (.int 3 t0))) (sz_add : PySem.W.nsIn K aS "add" = some (some (.int 3 t1))) (sz_drop : PySem.W.nsIn K aS "drop" = some (some (.int 2 t2))) (sz_swap : PySem.W.nsIn K aS "swap" = some (some (.int 4 t3))) (sz_read : PySem.W.nsIn K aS "read" = some (some (.int 2 t4))) (sz_many : PySem.W.nsIn K aS "many" = some (some (.int 1 t5)))
    (Diswhole : Def K mg "is_whole" (top 8) ["thing"])
    (Disamong : Def K mg "is_among" (top 9) ["thing", "least", "most"])
    (Dneednumber : Def K mg "need_number" (top 10) ["thing", "least", "most"])
    (Diskey : Def K mg "is_key" (top 16) ["thing"])
    (Disvalue : Def K mg "is_value" (top 17) ["thing"])
    (Disask : Def K mg "is_ask" (top 18) ["thing"])
    (Danswertext : Def K mg "answer_text" (top 22) ["answer"])
    (Danswersof : Def K mg "answers_of" (top 24) ["book", "rows"])
    (Dlawbegun : Def K mg "_law_begun" (top 26) ["_law_script", "_law_k"])
    (Dlawtake : Def K mg "_law_take" (top 27) ["_law_draw", "_law_many_things"])
    (Dlawkey : Def K mg "_law_key" (top 28) ["_law_draw"])
    (Dlawvalue : Def K mg "_law_value" (top 29) ["_law_draw"])
    (Dlawask : Def K mg "_law_ask" (top 30) ["_law_draw", "_law_known"])
    (Dlawdoes : Def K mg "_law_does" (top 31) ["_law_known", "_law_ask_here"])
    (Dlawrows : Def K mg "_law_rows" (top 32) ["_law_script", "_law_least", "_law_most"])
    (Dlawanswers : Def K mg "_law_answers" (top 33) ["_law_rows_here"])
    (MTabledo : Mth K CT "do" "Table.do" (sTable 1) ["self", "ask"])
    (MTableswapped : Mth K CT "swapped" "Table.swapped" (sTable 2) ["self", "ask", "there"])
    (MTabletold : Mth K CT "told" "Table.told" (sTable 4) ["self"])
    (MBookdo : Mth K CB "do" "Book.do" (sBook 1) ["self", "caller", "number", "ask"])
    (MBooktable : Mth K CB "table" "Book.table" (sBook 3) ["self"])
    (MBooktold : Mth K CB "told" "Book.told" (sBook 4) ["self"])
    (ITable : Ini K CT "Table.__init__" (sTable 0) ["self"])
    (IBook : Ini K CB "Book.__init__" (sBook 0) ["self"])
    (a : PySem.W.nsIn K mainGlobals "law" = some (some (.ref f))) (l_ : K.lookup f = some ⟨oc, od, .func (PySem.W.fnOf "law" "law" (defArgs (top 34)) (defBody (top 34)) (defScope (top 34)) .none kV dc pm an cd ct), sl⟩) (c : PySem.W.codeIn K cd "law" = true) (k : PySem.W.keepIn K (.ref f) = true) :
    ∃ fd : FuncData, (∀ (s : Shared) (v : Value), BindsTo s fd ⟨[v], []⟩ [("_law_script", v)]) ∧ ∀ base : Heap, K.In base → base.Ns mainGlobals mg → FnG l.prog w K mg base 7 fa fd ["_law_script"] (spLaw K) := by
  have T : Txt w K mg CT CB := ⟨cls_mk c0_pg c0_hd c0_po c0_sa, cls_mk c1_pg c1_hd c1_po c1_sa, nHeld, nOwn, nLasts, PySem.W.mg_of X G aT, PySem.W.mg_of X G aB, PySem.W.mg_none_of X G z_isinstance, PySem.W.mg_none_of X G z_int, PySem.W.mg_none_of X G z_bool, PySem.W.mg_none_of X G z_str, PySem.W.mg_none_of X G z_tuple, PySem.W.mg_none_of X G z_list, PySem.W.mg_none_of X G z_dict, PySem.W.mg_none_of X G z_len, PySem.W.mg_none_of X G z_all, PySem.W.mg_none_of X G z_sorted, PySem.W.mg_none_of X G z_range, PySem.W.mg_none_of X G z_repr, PySem.W.mg_none_of X G z_min, gi_mk X G g_MOST, gi_mk X G g_LAST_CALLER, gs_mk X G g_LETTERS, gi_mk X G g_MOST_LETTERS, gi_mk X G g_MOST_VALUE, sz_mk X G (PySem.W.mg_of X G sz) sz_at sz_lit sz_low sz_put sz_add sz_drop sz_swap sz_read sz_many⟩
  exact law_mk X G hfa T Diswhole Disamong Dneednumber Diskey Disvalue Disask Danswertext Danswersof Dlawbegun Dlawtake Dlawkey Dlawvalue Dlawask Dlawdoes Dlawrows Dlawanswers MTabledo MTableswapped MTabletold MBookdo MBooktable MBooktold ITable IBook a l_ c k
theorem walk {l : PySem.W.OpenLaw} {q : Program} {loose : List Str} {XP : (Str → Option Value) → Heap → Prop} {YP : World → Heap → Prop} {d : DefRec} {K : Params → PySem.W.Frag} (hn : l.most = some 63) (hdf : d.params.defaults = [])
    (hY : ∀ (w : World) (h : Heap), YP w h → (K w.params).In h)
    (F : ∀ (w : World) (mg : Str → Option Value) (fa : Addr) (h : Heap), (K w.params).In h → h.Ns mainGlobals mg → mg d.name = some (.ref fa) →
      ∃ fd : FuncData, (∀ (s : Shared) (u : Value), BindsTo s fd ⟨[u], []⟩ [("_law_script", u)]) ∧ ∀ base : Heap, (K w.params).In base → base.Ns mainGlobals mg → FnG l.prog w (K w.params) mg base 7 fa fd ["_law_script"] (spLaw (K w.params))) :
    PySem.W.WalkO q loose XP YP l.row.toRowW d [] (fun f vs => PySem.call f vs) :=
  walk_guarded (n := 63) (k := 7) (x := "_law_script") (sp := spLaw) hn (by decide) hdf ⟨rfl, by decide, by decide⟩ hY F (fun _ _ a ns hl _ hS => ⟨a, ns, rfl, hS, hl, fun _ => rfl⟩)
end
end K41
open PySem PySem.W PyProof.Rows
set_option Elab.async false
set_option maxRecDepth 100000 in
set_option maxHeartbeats 0 in
theorem PySem.Challenge.cw_scribehall_k41_whole_each_ask_once_holds : PySem.Challenge.rw_scribehall_k41_whole_each_ask_once.Holds := by
  w_on; o_law; k_head; (case hw => w_witness2)
  k_fill
  refine K41.walk (l := PySem.Challenge.rw_scribehall_k41_whole_each_ask_once) rfl rfl (fun w h Y => PySem.W.kIn_of Y) ?F
  case F =>
    intro w mg fa h KX G hmg
    refine' K41.fin_mk KX G hmg ?aT ?aB ?c0_pg ?c0_hd ?c0_po ?c0_sa ?c1_pg ?c1_hd ?c1_po ?c1_sa ?nHeld ?nOwn ?nLasts ?z_isinstance ?z_int ?z_bool ?z_str ?z_tuple ?z_list ?z_dict ?z_len ?z_all ?z_sorted ?z_range ?z_repr ?z_min ?g_MOST ?g_LAST_CALLER ?g_MOST_LETTERS ?g_MOST_VALUE ?g_LETTERS ?sz ?sz_at ?sz_lit ?sz_low ?sz_put ?sz_add ?sz_drop ?sz_swap ?sz_read ?sz_many ?Diswhole ?Disamong ?Dneednumber ?Diskey ?Disvalue ?Disask ?Danswertext ?Danswersof ?Dlawbegun ?Dlawtake ?Dlawkey ?Dlawvalue ?Dlawask ?Dlawdoes ?Dlawrows ?Dlawanswers ?MTabledo ?MTableswapped ?MTabletold ?MBookdo ?MBooktable ?MBooktold ?ITable ?IBook ?law ?law_l ?law_c ?law_k
    (case aT => k_is); (case aB => k_is)
    (case c0_pg => k_is); (case c0_hd => k_is); (case c0_po => k_is); (case c0_sa => k_is); (case c1_pg => k_is); (case c1_hd => k_is); (case c1_po => k_is); (case c1_sa => k_is)
    (case nHeld => k_is); (case nOwn => k_is); (case nLasts => k_is)
    (case z_isinstance => k_is); (case z_int => k_is); (case z_bool => k_is); (case z_str => k_is); (case z_tuple => k_is); (case z_list => k_is); (case z_dict => k_is); (case z_len => k_is); (case z_all => k_is); (case z_sorted => k_is); (case z_range => k_is); (case z_repr => k_is); (case z_min => k_is)
    (case g_MOST => k_is); (case g_LAST_CALLER => k_is); (case g_MOST_LETTERS => k_is); (case g_MOST_VALUE => k_is); (case g_LETTERS => k_is)
    (case sz => k_is); (case sz_at => k_is); (case sz_lit => k_keys); (case sz_low => rfl); (case sz_put => k_is); (case sz_add => k_is); (case sz_drop => k_is); (case sz_swap => k_is); (case sz_read => k_is); (case sz_many => k_is)
    (case Diswhole => (refine' K41.d_iswhole KX G ?a ?l ?c ?k; (case a => k_is); (case l => k_is); (case c => k_is); (case k => k_is)))
    (case Disamong => (refine' K41.d_isamong KX G ?a ?l ?c ?k; (case a => k_is); (case l => k_is); (case c => k_is); (case k => k_is)))
    (case Dneednumber => (refine' K41.d_neednumber KX G ?a ?l ?c ?k; (case a => k_is); (case l => k_is); (case c => k_is); (case k => k_is)))
    (case Diskey => (refine' K41.d_iskey KX G ?a ?l ?c ?k; (case a => k_is); (case l => k_is); (case c => k_is); (case k => k_is)))
    (case Disvalue => (refine' K41.d_isvalue KX G ?a ?l ?c ?k; (case a => k_is); (case l => k_is); (case c => k_is); (case k => k_is)))
    (case Disask => (refine' K41.d_isask KX G ?a ?l ?c ?k; (case a => k_is); (case l => k_is); (case c => k_is); (case k => k_is)))
    (case Danswertext => (refine' K41.d_answertext KX G ?a ?l ?c ?k; (case a => k_is); (case l => k_is); (case c => k_is); (case k => k_is)))
    (case Danswersof => (refine' K41.d_answersof KX G ?a ?l ?c ?k; (case a => k_is); (case l => k_is); (case c => k_is); (case k => k_is)))
    (case Dlawbegun => (refine' K41.d_lawbegun KX G ?a ?l ?c ?k; (case a => k_is); (case l => k_is); (case c => k_is); (case k => k_is)))
    (case Dlawtake => (refine' K41.d_lawtake KX G ?a ?l ?c ?k; (case a => k_is); (case l => k_is); (case c => k_is); (case k => k_is)))
    (case Dlawkey => (refine' K41.d_lawkey KX G ?a ?l ?c ?k; (case a => k_is); (case l => k_is); (case c => k_is); (case k => k_is)))
    (case Dlawvalue => (refine' K41.d_lawvalue KX G ?a ?l ?c ?k; (case a => k_is); (case l => k_is); (case c => k_is); (case k => k_is)))
    (case Dlawask => (refine' K41.d_lawask KX G ?a ?l ?c ?k; (case a => k_is); (case l => k_is); (case c => k_is); (case k => k_is)))
    (case Dlawdoes => (refine' K41.d_lawdoes KX G ?a ?l ?c ?k; (case a => k_is); (case l => k_is); (case c => k_is); (case k => k_is)))
    (case Dlawrows => (refine' K41.d_lawrows KX G ?a ?l ?c ?k; (case a => k_is); (case l => k_is); (case c => k_is); (case k => k_is)))
    (case Dlawanswers => (refine' K41.d_lawanswers KX G ?a ?l ?c ?k; (case a => k_is); (case l => k_is); (case c => k_is); (case k => k_is)))
    (case MTabledo => (refine' K41.m_Table_do ?a ?i ?l ?c ?k; (case a => k_is); (case i => k_is); (case l => k_is); (case c => k_is); (case k => k_is)))
    (case MTableswapped => (refine' K41.m_Table_swapped ?a ?i ?l ?c ?k; (case a => k_is); (case i => k_is); (case l => k_is); (case c => k_is); (case k => k_is)))
    (case MTabletold => (refine' K41.m_Table_told ?a ?i ?l ?c ?k; (case a => k_is); (case i => k_is); (case l => k_is); (case c => k_is); (case k => k_is)))
    (case MBookdo => (refine' K41.m_Book_do ?a ?i ?l ?c ?k; (case a => k_is); (case i => k_is); (case l => k_is); (case c => k_is); (case k => k_is)))
    (case MBooktable => (refine' K41.m_Book_table ?a ?i ?l ?c ?k; (case a => k_is); (case i => k_is); (case l => k_is); (case c => k_is); (case k => k_is)))
    (case MBooktold => (refine' K41.m_Book_told ?a ?i ?l ?c ?k; (case a => k_is); (case i => k_is); (case l => k_is); (case c => k_is); (case k => k_is)))
    (case ITable => (refine' K41.i_Table ?mk ?kc ?a ?i ?l ?c ?k; (case mk => k_is); (case kc => k_is); (case a => k_is); (case i => k_is); (case l => k_is); (case c => k_is); (case k => k_is)))
    (case IBook => (refine' K41.i_Book ?mk ?kc ?a ?i ?l ?c ?k; (case mk => k_is); (case kc => k_is); (case a => k_is); (case i => k_is); (case l => k_is); (case c => k_is); (case k => k_is)))
    (case law => k_is); (case law_l => k_is); (case law_c => k_is); (case law_k => k_is)

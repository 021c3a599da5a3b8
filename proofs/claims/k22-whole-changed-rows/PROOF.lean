import PyProof.Rows.All
import Wide.All
import OpenK.AllK
import Wide.FinOn
import KE.LtData
import KE.KDictDisplayH
import PyProof.GenCompD
import HandS.ForMost
import HandS.Style
import HandS.IsInst
import HandS.Wide
import HandS.TupAny
import HandS.TupMul
import HandS.Deep
import HandS.Star
import HandS.Zip
import HandS.AnyAll
import PySem.Challenge.RW_chiefdeeds_k22_whole_changed_rows
import KE.GoesMore
import KE.KStateDown
import HandS.Ends
import HandS.More
import HandS.WordsExc
import HandS.Head0
import HandS.Head1
import HandS.Head2
import HandS.HeadEnd
import HandS.HeadHook1
import HandS.HeadHook2
import HandS.HeadHook3
import HandS.HeadHook4
import HandS.HeadWalk
import HandS.HeadNt
/-! the plain law: what the walk computes, and that it answers as asked -/
namespace G
abbrev Ch := List Int
abbrev Sx := Int × Int
abbrev Rw := List Sx
abbrev Part := Int × Rw
/-- the chart behind a step -/
def stepC (c : Ch) (s : Sx) : Ch := (c.map fun x => if x = s.1 then c.getD (s.1 - 1).toNat 0 else x).set (s.1 - 1).toNat s.2
def doneC (c : Ch) (r : Rw) : Ch := r.foldl stepC c
theorem stepC_len (c : Ch) (s : Sx) : (stepC c s).length = c.length := by simp [stepC]
theorem doneC_len (r : Rw) : ∀ c : Ch, (doneC c r).length = c.length := by
  induction r with
  | nil => intro c; rfl
  | cons s r ih => intro c; show (doneC (stepC c s) r).length = _; rw [ih, stepC_len]
theorem doneC_snoc (c : Ch) (r : Rw) (s : Sx) : doneC c (r ++ [s]) = stepC (doneC c r) s := by simp [doneC, List.foldl_append]
/-- a step of so many people -/
def stepOk (n : Nat) (s : Sx) : Bool := decide (1 ≤ s.1) && decide (s.1 ≤ (n : Int)) && (decide (0 ≤ s.2) && decide (s.2 ≤ (n : Int))) && !decide (s.1 = s.2)
/-- the steps of the person i + 1, the first k chiefs -/
def stepsP (i k : Nat) : List Sx := ((List.range k).filter fun j : Nat => !decide ((j : Int) = (i : Int) + 1)).map fun j : Nat => ((i : Int) + 1, (j : Int))
def stepsOf (n : Nat) : List Sx := (List.range n).flatMap fun i => stepsP i (n + 1)
theorem stepsP_succ (i k : Nat) : stepsP i (k + 1) = stepsP i k ++ (if (k : Int) = (i : Int) + 1 then [] else [((i : Int) + 1, (k : Int))]) := by
  unfold stepsP
  rw [List.range_succ, List.filter_append, List.map_append]
  congr 1
  by_cases h : (k : Int) = (i : Int) + 1
  · rw [if_pos h, List.filter_cons_of_neg (by simp [h])]; rfl
  · rw [if_neg h, List.filter_cons_of_pos (by simp [h])]; rfl
theorem mem_stepsOf {n : Nat} {s : Sx} : s ∈ stepsOf n ↔ stepOk n s = true := by
  obtain ⟨p, c⟩ := s
  unfold stepsOf stepsP stepOk
  simp only [List.mem_flatMap, List.mem_map, List.mem_filter, List.mem_range, Bool.and_eq_true, decide_eq_true_eq, Bool.not_eq_true', decide_eq_false_iff_not, Prod.mk.injEq]
  constructor
  · rintro ⟨i, hi, j, ⟨hj, hne⟩, rfl, rfl⟩
    refine ⟨⟨⟨by omega, by omega⟩, by omega, by omega⟩, by omega⟩
  · rintro ⟨⟨⟨h1, h2⟩, h3, h4⟩, h5⟩
    exact ⟨(p - 1).toNat, by omega, c.toNat, ⟨by omega, by omega⟩, by omega, by omega⟩
theorem stepsOf_len_le (n : Nat) : (stepsOf n).length ≤ n * (n + 1) := by
  unfold stepsOf
  have h : ∀ m, ((List.range m).flatMap fun i => stepsP i (n + 1)).length ≤ m * (n + 1) := by
    intro m
    induction m with
    | zero => simp
    | succ m ih =>
      rw [List.range_succ, List.flatMap_append, List.length_append]
      have h1 : ([m].flatMap fun i => stepsP i (n + 1)).length ≤ n + 1 := by
        simp only [List.flatMap_cons, List.flatMap_nil, List.append_nil, stepsP, List.length_map]
        exact Nat.le_trans (List.length_filter_le _ _) (by simp)
      rw [Nat.succ_mul]; omega
  exact h n
/-! ### rows -/
def rowsOf (S : List Sx) : Nat → List Rw
  | 0 => [[]]
  | n + 1 => (rowsOf S n).flatMap fun r => S.map fun s => r ++ [s]
theorem mem_rowsOf {S : List Sx} : ∀ {n : Nat} {r : Rw}, r ∈ rowsOf S n ↔ r.length = n ∧ ∀ s ∈ r, s ∈ S
  | 0, r => by
    simp only [rowsOf, List.mem_singleton]
    constructor
    · rintro rfl; exact ⟨rfl, fun s h => nomatch h⟩
    · rintro ⟨h, _⟩; exact List.eq_nil_of_length_eq_zero h
  | n + 1, r => by
    simp only [rowsOf, List.mem_flatMap, List.mem_map]
    constructor
    · rintro ⟨r0, h0, s, hs, rfl⟩
      obtain ⟨h1, h2⟩ := mem_rowsOf.mp h0
      refine ⟨by simp [h1], fun t ht => ?_⟩
      rcases List.mem_append.mp ht with h | h
      · exact h2 t h
      · rw [List.mem_singleton.mp h]; exact hs
    · rintro ⟨h1, h2⟩
      have hne : r ≠ [] := fun e => by rw [e] at h1; cases h1
      refine ⟨r.dropLast, mem_rowsOf.mpr ⟨by rw [List.length_dropLast, h1]; rfl, fun s hs => h2 s (List.dropLast_subset _ hs)⟩, r.getLast hne, h2 _ (List.getLast_mem hne), ?_⟩
      exact List.dropLast_concat_getLast hne
theorem rowsOf_len (S : List Sx) : ∀ n, (rowsOf S n).length = S.length ^ n
  | 0 => rfl
  | n + 1 => by
    have h : ∀ l : List Rw, (l.flatMap fun r => S.map fun s => r ++ [s]).length = l.length * S.length := by
      intro l
      induction l with
      | nil => simp
      | cons a l ih => rw [List.flatMap_cons, List.length_append, ih, List.length_map, List.length_cons, Nat.succ_mul]; omega
    rw [rowsOf, h, rowsOf_len S n, Nat.pow_succ]
/-! ### places that differ -/
def diff : Rw → Rw → Nat
  | a :: r, b :: q => (if a = b then 0 else 1) + diff r q
  | _, _ => 0
theorem diff_snoc : ∀ (r q : Rw) (a b : Sx), r.length = q.length → diff (r ++ [a]) (q ++ [b]) = diff r q + (if a = b then 0 else 1)
  | [], [], a, b, _ => by simp [diff]
  | x :: r, y :: q, a, b, h => by
    simp only [List.cons_append, diff]
    rw [diff_snoc r q a b (by simpa using h)]
    omega
  | [], _ :: _, _, _, h => by simp at h
  | _ :: _, [], _, _, h => by simp at h
theorem diff_comm : ∀ r q : Rw, diff r q = diff q r
  | [], [] => rfl
  | [], _ :: _ => rfl
  | _ :: _, [] => rfl
  | a :: r, b :: q => by
    simp only [diff]
    rw [diff_comm r q]
    by_cases h : a = b
    · rw [if_pos h, if_pos h.symm]
    · rw [if_neg h, if_neg (fun e => h e.symm)]
theorem diff_le : ∀ r q : Rw, diff r q ≤ r.length
  | [], _ => by simp [diff]
  | _ :: _, [] => by simp [diff]
  | a :: r, b :: q => by
    have := diff_le r q
    simp only [diff, List.length_cons]
    split <;> omega
/-! ### the table by charts -/
abbrev Tb := List (Ch × Part)
def lookM (t : Tb) (c : Ch) : Option Part := (t.find? fun kv => decide (kv.1 = c)).map (·.2)
def putM (t : Tb) (c : Ch) (p : Part) : Tb := if (t.any fun kv => decide (kv.1 = c)) = true then t.map fun kv => if kv.1 = c then (kv.1, p) else kv else t ++ [(c, p)]
theorem lookM_cons (kv : Ch × Part) (t : Tb) (c : Ch) : lookM (kv :: t) c = if kv.1 = c then some kv.2 else lookM t c := by
  unfold lookM
  by_cases h : kv.1 = c
  · rw [if_pos h, List.find?_cons_of_pos (by simp [h])]; rfl
  · rw [if_neg h, List.find?_cons_of_neg (by simp [h])]
theorem lookM_any (c : Ch) : ∀ t : Tb, (t.any fun kv => decide (kv.1 = c)) = (lookM t c).isSome
  | [] => rfl
  | kv :: t => by
    rw [List.any_cons, lookM_cons, lookM_any c t]
    by_cases h : kv.1 = c <;> simp [h]
theorem lookM_repl (c d : Ch) (p : Part) : ∀ t : Tb, lookM (t.map fun kv => if kv.1 = c then (kv.1, p) else kv) d = (lookM t d).map fun q => if d = c then p else q
  | [] => rfl
  | kv :: t => by
    rw [List.map_cons, lookM_cons, lookM_cons, lookM_repl c d p t]
    by_cases h : kv.1 = c
    · rw [if_pos h]
      by_cases h2 : kv.1 = d
      · have : d = c := h2.symm.trans h
        simp [h2, this]
      · simp [h2]
    · rw [if_neg h]
      by_cases h2 : kv.1 = d
      · have : ¬ d = c := fun e => h (h2.trans e)
        simp [h2, this]
      · simp [h2]
theorem lookM_snoc (c d : Ch) (p : Part) : ∀ t : Tb, lookM t c = none → lookM (t ++ [(c, p)]) d = if d = c then some p else lookM t d
  | [], _ => by
    rw [List.nil_append, lookM_cons]
    by_cases h : c = d
    · simp [h]
    · have h' : ¬ d = c := fun e => h e.symm
      rw [if_neg h, if_neg h']
  | kv :: t, hn => by
    rw [lookM_cons] at hn
    by_cases h : kv.1 = c
    · rw [if_pos h] at hn; cases hn
    · rw [if_neg h] at hn
      rw [List.cons_append, lookM_cons, lookM_cons, lookM_snoc c d p t hn]
      by_cases h2 : kv.1 = d
      · have : ¬ d = c := fun e => h (h2.trans e)
        simp [h2, this]
      · simp [h2]
theorem lookM_put (t : Tb) (c d : Ch) (p : Part) : lookM (putM t c p) d = if d = c then some p else lookM t d := by
  unfold putM
  rw [lookM_any]
  cases h : lookM t c with
  | none => rw [Option.isSome_none, if_neg (by decide), lookM_snoc c d p t h]
  | some q =>
    rw [Option.isSome_some, if_pos rfl, lookM_repl]
    by_cases e : d = c
    · rw [e, h]; simp
    · simp [e]
theorem lookM_mem {t : Tb} {c : Ch} {p : Part} (h : lookM t c = some p) : c ∈ t.map (·.1) := by
  unfold lookM at h
  cases e : t.find? fun kv => decide (kv.1 = c) with
  | none => rw [e] at h; cases h
  | some kv =>
    have h1 := List.mem_of_find?_eq_some e
    have h2 : kv.1 = c := by simpa using List.find?_some e
    exact List.mem_map.mpr ⟨kv, h1, h2⟩
theorem lookM_of_mem {t : Tb} {c : Ch} (h : c ∈ t.map (·.1)) : ∃ p, lookM t c = some p := by
  have : (lookM t c).isSome = true := by
    rw [← lookM_any, List.any_eq_true]
    obtain ⟨kv, h1, h2⟩ := List.mem_map.mp h
    exact ⟨kv, h1, by simp [h2]⟩
  exact Option.isSome_iff_exists.mp this
theorem putM_len (t : Tb) (c : Ch) (p : Part) : (putM t c p).length ≤ t.length + 1 := by
  unfold putM
  split <;> simp
section
variable (lt : Part → Part → Bool)
/-- one candidate -/
def upd1 (t : Tb) (x : Ch × Part) : Tb := match lookM t x.1 with
  | none => putM t x.1 x.2
  | some q => if lt x.2 q = true then putM t x.1 x.2 else t
variable {lt} (h1 : ∀ p q, lt p q = true → p.1 ≤ q.1) (h2 : ∀ p q, lt p q = false → q.1 ≤ p.1)
include h1 h2
theorem upd1_ok (t : Tb) (x : Ch × Part) (c : Ch) (L : List (Ch × Part))
    (hn : lookM t c = none → ∀ y ∈ L, y.1 ≠ c) (hs : ∀ q, lookM t c = some q → (c, q) ∈ L ∧ ∀ y ∈ L, y.1 = c → q.1 ≤ y.2.1) :
    (lookM (upd1 lt t x) c = none → ∀ y ∈ L ++ [x], y.1 ≠ c) ∧ (∀ q, lookM (upd1 lt t x) c = some q → (c, q) ∈ L ++ [x] ∧ ∀ y ∈ L ++ [x], y.1 = c → q.1 ≤ y.2.1) := by
  obtain ⟨d, p⟩ := x
  have keep : ¬ c = d → (lookM t c = none → ∀ y ∈ L ++ [(d, p)], y.1 ≠ c) ∧ (∀ q, lookM t c = some q → (c, q) ∈ L ++ [(d, p)] ∧ ∀ y ∈ L ++ [(d, p)], y.1 = c → q.1 ≤ y.2.1) := fun e => by
    refine ⟨fun z y hy => ?_, fun q z => ⟨List.mem_append_left _ (hs q z).1, fun y hy ey => ?_⟩⟩
    · rcases List.mem_append.mp hy with hy | hy
      · exact hn z y hy
      · rw [List.mem_singleton.mp hy]; exact fun e' => e e'.symm
    · rcases List.mem_append.mp hy with hy | hy
      · exact (hs q z).2 y hy ey
      · rw [List.mem_singleton.mp hy] at ey; exact absurd ey.symm e
  have put : (lookM t d = none ∨ ∃ q, lookM t d = some q ∧ lt p q = true) → (lookM (putM t d p) c = none → ∀ y ∈ L ++ [(d, p)], y.1 ≠ c) ∧ (∀ q, lookM (putM t d p) c = some q → (c, q) ∈ L ++ [(d, p)] ∧ ∀ y ∈ L ++ [(d, p)], y.1 = c → q.1 ≤ y.2.1) := fun z => by
    rw [lookM_put]
    by_cases e : c = d
    · subst e
      rw [if_pos rfl]
      refine ⟨fun z => (nomatch z), fun q hq => ?_⟩
      have eq : p = q := Option.some.inj hq
      subst eq
      refine ⟨List.mem_append_right _ (List.mem_singleton.mpr rfl), fun y hy ey => ?_⟩
      rcases List.mem_append.mp hy with hy | hy
      · rcases z with z | ⟨q, z, l⟩
        · exact absurd ey (hn z y hy)
        · exact Int.le_trans (h1 _ _ l) ((hs q z).2 y hy ey)
      · rw [List.mem_singleton.mp hy]; exact Int.le_refl _
    · rw [if_neg e]; exact keep e
  cases z : lookM t d with
  | none =>
    have e : upd1 lt t (d, p) = putM t d p := by simp only [upd1, z]
    rw [e]
    exact put (.inl z)
  | some q =>
    by_cases l : lt p q = true
    · have e : upd1 lt t (d, p) = putM t d p := by simp only [upd1, z, l, if_true]
      rw [e]
      exact put (.inr ⟨q, z, l⟩)
    · have e : upd1 lt t (d, p) = t := by simp only [upd1, z, if_neg l]
      rw [e]
      have l' : lt p q = false := by simpa using l
      by_cases e : c = d
      · subst e
        refine ⟨fun z' => absurd (z.symm.trans z') (by simp), fun q' hq => ?_⟩
        rw [z] at hq
        have eq : q = q' := Option.some.inj hq
        subst eq
        refine ⟨List.mem_append_left _ (hs q z).1, fun y hy ey => ?_⟩
        rcases List.mem_append.mp hy with hy | hy
        · exact (hs q z).2 y hy ey
        · rw [List.mem_singleton.mp hy]; exact h2 _ _ l'
      · exact keep e
theorem fold_ok (c : Ch) : ∀ (M L : List (Ch × Part)) (t : Tb), (lookM t c = none → ∀ y ∈ L, y.1 ≠ c) → (∀ q, lookM t c = some q → (c, q) ∈ L ∧ ∀ y ∈ L, y.1 = c → q.1 ≤ y.2.1) →
    (lookM (M.foldl (upd1 lt) t) c = none → ∀ y ∈ L ++ M, y.1 ≠ c) ∧ (∀ q, lookM (M.foldl (upd1 lt) t) c = some q → (c, q) ∈ L ++ M ∧ ∀ y ∈ L ++ M, y.1 = c → q.1 ≤ y.2.1)
  | [], L, t, hn, hs => by rw [List.append_nil]; exact ⟨hn, hs⟩
  | x :: M, L, t, hn, hs => by
    obtain ⟨a, b⟩ := upd1_ok h1 h2 t x c L hn hs
    have := fold_ok c M (L ++ [x]) (upd1 lt t x) a b
    rw [List.append_assoc] at this
    exact this
end
/-- the part behind a step -/
def partOf (p : Part) (old s : Sx) : Part := (p.1 + (if s = old then 0 else 1), p.2 ++ [s])
/-- what one chart of the table gives -/
def candS (S : List Sx) (old : Sx) (here : Ch) (p : Part) : List (Ch × Part) := S.map fun s => (stepC here s, partOf p old s)
def candK (S : List Sx) (old : Sx) (t : Tb) : List (Ch × Part) := (t.map (·.1)).flatMap fun here => candS S old here ((lookM t here).getD (0, []))
def turn (lt : Part → Part → Bool) (S : List Sx) (old : Sx) (t : Tb) : Tb := (candK S old t).foldl (upd1 lt) []
def cheap (lt : Part → Part → Bool) (S : List Sx) (start : Ch) (row : Rw) : Tb := row.foldl (fun t old => turn lt S old t) [(start, (0, []))]
/-- what the table says of a chart -/
def Says (S : List Sx) (start : Ch) (row : Rw) (t : Tb) : Prop :=
  ∀ c, (lookM t c = none → ∀ r ∈ rowsOf S row.length, doneC start r ≠ c) ∧
    ∀ p, lookM t c = some p → p.2 ∈ rowsOf S row.length ∧ doneC start p.2 = c ∧ (diff p.2 row : Int) = p.1 ∧ ∀ r ∈ rowsOf S row.length, doneC start r = c → p.1 ≤ (diff r row : Int)
theorem says_nil (S : List Sx) (start : Ch) : Says S start [] [(start, (0, []))] := by
  intro c
  rw [lookM_cons]
  by_cases e : start = c
  · rw [if_pos e]
    refine ⟨fun z => (nomatch z), fun p hp => ?_⟩
    have ep : ((0 : Int), ([] : Rw)) = p := Option.some.inj hp
    subst ep
    refine ⟨List.mem_singleton.mpr rfl, e, rfl, fun r hr _ => ?_⟩
    rw [List.mem_singleton.mp hr]
    exact Int.le_refl _
  · rw [if_neg e]
    refine ⟨fun _ r hr => ?_, fun p hp => nomatch hp⟩
    rw [List.mem_singleton.mp hr]
    exact e
theorem says_turn {lt : Part → Part → Bool} (h1 : ∀ p q, lt p q = true → p.1 ≤ q.1) (h2 : ∀ p q, lt p q = false → q.1 ≤ p.1) {S : List Sx} {start : Ch} {row : Rw} {t : Tb} (old : Sx) (h : Says S start row t) :
    Says S start (row ++ [old]) (turn lt S old t) := by
  intro c
  have hl : (row ++ [old]).length = row.length + 1 := by simp
  rw [hl]
  have key := fold_ok h1 h2 c (candK S old t) [] [] (fun _ y hy => nomatch hy) (fun q hq => nomatch hq)
  rw [List.nil_append] at key
  -- every row of one more step has a candidate at its chart that is no worse
  have cov : ∀ r ∈ rowsOf S (row.length + 1), doneC start r = c → ∃ y ∈ candK S old t, y.1 = c ∧ y.2.1 ≤ (diff r (row ++ [old]) : Int) := by
    intro r hr hc
    obtain ⟨r0, hr0, z⟩ := List.mem_flatMap.mp hr
    obtain ⟨s, hs, rfl⟩ := List.mem_map.mp z
    rw [doneC_snoc] at hc
    have hlen := (mem_rowsOf.mp hr0).1
    cases e : lookM t (doneC start r0) with
    | none => exact absurd rfl ((h (doneC start r0)).1 e r0 hr0)
    | some p =>
      obtain ⟨_, _, _, q4⟩ := (h (doneC start r0)).2 p e
      refine ⟨(stepC (doneC start r0) s, partOf p old s), List.mem_flatMap.mpr ⟨doneC start r0, lookM_mem e, List.mem_map.mpr ⟨s, hs, ?_⟩⟩, hc, ?_⟩
      · rw [e]; rfl
      · rw [diff_snoc r0 row s old hlen]
        have := q4 r0 hr0 rfl
        show p.1 + (if s = old then 0 else 1) ≤ _
        split <;> omega
  refine ⟨fun z r hr hc => ?_, fun p hp => ?_⟩
  · obtain ⟨y, hy, e, _⟩ := cov r hr hc
    exact key.1 z y hy e
  · obtain ⟨hm, hle⟩ := key.2 p hp
    obtain ⟨here, hh, z⟩ := List.mem_flatMap.mp hm
    obtain ⟨p0, e0⟩ := lookM_of_mem hh
    rw [e0] at z
    obtain ⟨s, hs, z⟩ := List.mem_map.mp z
    obtain ⟨q1, q2, q3, _⟩ := (h here).2 p0 e0
    have z' : (stepC here s, partOf p0 old s) = (c, p) := z
    have ez1 : stepC here s = c := congrArg Prod.fst z'
    have ez2 : partOf p0 old s = p := congrArg Prod.snd z'
    subst ez2
    have hlen := (mem_rowsOf.mp q1).1
    refine ⟨List.mem_flatMap.mpr ⟨p0.2, q1, List.mem_map.mpr ⟨s, hs, rfl⟩⟩, ?_, ?_, fun r hr hc => ?_⟩
    · show doneC start (p0.2 ++ [s]) = c
      rw [doneC_snoc, q2, ez1]
    · show (diff (p0.2 ++ [s]) (row ++ [old]) : Int) = p0.1 + (if s = old then 0 else 1)
      rw [diff_snoc p0.2 row s old hlen, ← q3]
      split <;> omega
    · obtain ⟨y, hy, ey, l⟩ := cov r hr hc
      exact Int.le_trans (hle y hy ey) l
theorem says_cheap {lt : Part → Part → Bool} (h1 : ∀ p q, lt p q = true → p.1 ≤ q.1) (h2 : ∀ p q, lt p q = false → q.1 ≤ p.1) (S : List Sx) (start : Ch) (row : Rw) : Says S start row (cheap lt S start row) := by
  have go : ∀ (row done : Rw) (t : Tb), Says S start done t → Says S start (done ++ row) (row.foldl (fun t old => turn lt S old t) t) := by
    intro row
    induction row with
    | nil => intro done t h; rw [List.append_nil]; exact h
    | cons x row ih =>
      intro done t h
      have := ih (done ++ [x]) (turn lt S x t) (says_turn h1 h2 x h)
      rw [List.append_assoc] at this
      exact this
  exact go row [] _ (says_nil S start)
/-! ### keys: every key is as long as the start -/
theorem mem_putM {t : Tb} {c : Ch} {p : Part} {d : Ch} (h : d ∈ (putM t c p).map (·.1)) : d = c ∨ d ∈ t.map (·.1) := by
  obtain ⟨q, hq⟩ := lookM_of_mem h
  rw [lookM_put] at hq
  by_cases e : d = c
  · exact .inl e
  · rw [if_neg e] at hq; exact .inr (lookM_mem hq)
end G
set_option Elab.async false
set_option linter.all false
set_option maxRecDepth 100000
namespace G
open PySem PySem.Spec PyProof.Rows L2
/-! ### the text -/
abbrev PW : Program := PySem.Challenge.pw_chiefdeeds_k22_whole_changed_rows
def topS (i : Nat) : Stmt := PW.main.body.getD i (.Pass ⟨0, 0, 0, 0⟩)
abbrev sIsIn : Stmt := topS 8
abbrev sComesUp : Stmt := topS 9
abbrev sIsChart : Stmt := topS 10
abbrev sNeedChart : Stmt := topS 11
abbrev sIsStep : Stmt := topS 12
abbrev sStepped : Stmt := topS 13
abbrev sNeedRow : Stmt := topS 14
abbrev sAreSteps : Stmt := topS 15
abbrev sIsRow : Stmt := topS 16
abbrev sTrace : Stmt := topS 17
abbrev sAllSteps : Stmt := topS 18
abbrev sNeedChanging : Stmt := topS 22
abbrev sCheapest : Stmt := topS 23
abbrev sChanged : Stmt := topS 24
abbrev sShows : Stmt := topS 25
abbrev sTaken : Stmt := topS 27
abbrev sPick : Stmt := topS 28
abbrev sAlike : Stmt := topS 29
abbrev sLStep : Stmt := topS 30
abbrev sLDone : Stmt := topS 31
abbrev sLSteps : Stmt := topS 32
abbrev sLIsChart : Stmt := topS 35
abbrev sLCharts : Stmt := topS 36
abbrev sLaw : Stmt := topS 38
theorem scIsIn : FnScope ["value", "least", "most"] ["value", "least", "most"] (defScope sIsIn) := ⟨rfl, rfl, rfl, by decide +kernel, rfl, by decide +kernel, by decide +kernel⟩
theorem scComesUp : FnScope ["chiefs", "person", "here", "many"] ["chiefs"] (defScope sComesUp) := ⟨rfl, rfl, rfl, by decide +kernel, rfl, by decide +kernel, by decide +kernel⟩
theorem scIsChart : FnScope ["value"] ["value"] (defScope sIsChart) := ⟨rfl, rfl, rfl, by decide +kernel, rfl, by decide +kernel, by decide +kernel⟩
theorem scNeedChart : FnScope ["chart"] ["chart"] (defScope sNeedChart) := ⟨rfl, rfl, rfl, by decide +kernel, rfl, by decide +kernel, by decide +kernel⟩
theorem scIsStep : FnScope ["size", "value"] ["size", "value"] (defScope sIsStep) := ⟨rfl, rfl, rfl, by decide +kernel, rfl, by decide +kernel, by decide +kernel⟩
theorem scStepped : FnScope ["chart", "step", "person", "chief", "old", "found", "one"] ["chart", "step"] (defScope sStepped) := ⟨rfl, rfl, rfl, by decide +kernel, rfl, by decide +kernel, by decide +kernel⟩
theorem scNeedRow : FnScope ["size", "row", "index", "step"] ["size", "row"] (defScope sNeedRow) := ⟨rfl, rfl, rfl, by decide +kernel, rfl, by decide +kernel, by decide +kernel⟩
theorem scAreSteps : FnScope ["size", "value", "most"] ["size", "value", "most"] (defScope sAreSteps) := ⟨rfl, rfl, rfl, by decide +kernel, rfl, by decide +kernel, by decide +kernel⟩
theorem scIsRow : FnScope ["size", "value"] ["size", "value"] (defScope sIsRow) := ⟨rfl, rfl, rfl, by decide +kernel, rfl, by decide +kernel, by decide +kernel⟩
theorem scTrace : FnScope ["chart", "row", "found", "step"] ["chart", "row"] (defScope sTrace) := ⟨rfl, rfl, rfl, by decide +kernel, rfl, by decide +kernel, by decide +kernel⟩
theorem scAllSteps : FnScope ["size", "found", "person", "chief"] ["size"] (defScope sAllSteps) := ⟨rfl, rfl, rfl, by decide +kernel, rfl, by decide +kernel, by decide +kernel⟩
theorem scNeedChanging : FnScope ["start", "row", "goal"] ["start", "row", "goal"] (defScope sNeedChanging) := ⟨rfl, rfl, rfl, by decide +kernel, rfl, by decide +kernel, by decide +kernel⟩
theorem scCheapest : FnScope ["start", "row", "found", "old", "more", "here", "changes", "done", "step", "there", "part"] ["start", "row"] (defScope sCheapest) := ⟨rfl, rfl, rfl, by decide +kernel, rfl, by decide +kernel, by decide +kernel⟩
theorem scChanged : FnScope ["start", "row", "goal"] ["start", "row", "goal"] (defScope sChanged) := ⟨rfl, rfl, rfl, by decide +kernel, rfl, by decide +kernel, by decide +kernel⟩
theorem scShows : FnScope ["start", "row", "goal", "value", "best", "one", "other"] ["start", "row", "goal", "value"] (defScope sShows) := ⟨rfl, rfl, rfl, by decide +kernel, rfl, by decide +kernel, by decide +kernel⟩
theorem scTaken : FnScope ["_law_row_here", "_law_many", "_law_found", "_law_cell"] ["_law_row_here", "_law_many"] (defScope sTaken) := ⟨rfl, rfl, rfl, by decide +kernel, rfl, by decide +kernel, by decide +kernel⟩
theorem scPick : FnScope ["_law_row_here", "_law_things"] ["_law_row_here", "_law_things"] (defScope sPick) := ⟨rfl, rfl, rfl, by decide +kernel, rfl, by decide +kernel, by decide +kernel⟩
theorem scAlike : FnScope ["_law_found", "_law_due"] ["_law_found", "_law_due"] (defScope sAlike) := ⟨rfl, rfl, rfl, by decide +kernel, rfl, by decide +kernel, by decide +kernel⟩
theorem scLStep : FnScope ["_law_chart_here", "_law_step_here", "_law_person", "_law_chief", "_law_found", "_law_k"] ["_law_chart_here", "_law_step_here"] (defScope sLStep) := ⟨rfl, rfl, rfl, by decide +kernel, rfl, by decide +kernel, by decide +kernel⟩
theorem scLDone : FnScope ["_law_chart_here", "_law_steps_here", "_law_step_here"] ["_law_chart_here", "_law_steps_here"] (defScope sLDone) := ⟨rfl, rfl, rfl, by decide +kernel, rfl, by decide +kernel, by decide +kernel⟩
theorem scLSteps : FnScope ["_law_size", "_law_found", "_law_person", "_law_chief"] ["_law_size"] (defScope sLSteps) := ⟨rfl, rfl, rfl, by decide +kernel, rfl, by decide +kernel, by decide +kernel⟩
theorem scLIsChart : FnScope ["_law_value", "_law_person", "_law_here", "_law_turn"] ["_law_value"] (defScope sLIsChart) := ⟨rfl, rfl, rfl, by decide +kernel, rfl, by decide +kernel, by decide +kernel⟩
theorem scLCharts : FnScope ["_law_size", "_law_found", "_law_person", "_law_more", "_law_one", "_law_chief"] ["_law_size"] (defScope sLCharts) := ⟨rfl, rfl, rfl, by decide +kernel, rfl, by decide +kernel, by decide +kernel⟩
/-! ### heaps: what was tracked stands, tables of code objects may have grown -/
structure Ex (H H' : Hp) : Prop where
  keep : ∀ b o, (∀ ps, o ≠ .tbl ps) → H b = some o → H' b = some o
  tab : ∀ P, GxR.TabG H P → GxR.TabG H' P
  free : ∀ b, H' b = none → H b = none
theorem Ex.refl (H : Hp) : Ex H H := ⟨fun _ _ _ h => h, fun _ h => h, fun _ h => h⟩
theorem Ex.trans {H H1 H2 : Hp} (a : Ex H H1) (b : Ex H1 H2) : Ex H H2 := ⟨fun c o n h => b.keep c o n (a.keep c o n h), fun P h => b.tab P (a.tab P h), fun c h => a.free c (b.free c h)⟩
/-- a new object, or a change of one that is new since H -/
theorem Ex.set {H H1 : Hp} {p : Addr} {o : HO} (a : Ex H H1) (h : H p = none) : Ex H (upd H1 p o) := by
  refine ⟨fun c u n e => ?_, fun P hP => ?_, fun c e => ?_⟩
  · rw [upd_ne (ne_of_none e h)]; exact a.keep c u n e
  · obtain ⟨ps, e, _⟩ := id hP
    have ne : P ≠ p := ne_of_none e h
    obtain ⟨qs, e2, t2⟩ := a.tab P hP
    exact ⟨qs, by rw [upd_ne ne]; exact e2, t2⟩
  · by_cases q : c = p
    · rw [q]; exact h
    · rw [upd_ne q] at e; exact a.free c e
theorem Ex.new {H : Hp} {p : Addr} {o : HO} (h : H p = none) : Ex H (upd H p o) := (Ex.refl H).set h
theorem Ex.tbd {H H' : Hp} {P : Addr} (hT : GxR.TabG H P) (t : GxR.Tabbed P H H') : Ex H H' := by
  obtain ⟨ps, e, _⟩ := hT
  refine ⟨fun c u n h => ?_, fun Q hQ => ?_, fun c h => ?_⟩
  · have ne : c ≠ P := fun z => by rw [z, e] at h; exact n ps (Option.some.inj h).symm
    rw [t.2 c ne]; exact h
  · by_cases q : Q = P
    · rw [q]; exact t.1
    · obtain ⟨qs, e2, t2⟩ := hQ
      exact ⟨qs, by rw [t.2 Q q]; exact e2, t2⟩
  · have ne : c ≠ P := fun z => by
      obtain ⟨ps', e', _⟩ := t.1
      rw [z, e'] at h; cases h
    rw [t.2 c ne] at h; exact h
theorem Ex.tup {H H' : Hp} (a : Ex H H') {b : Addr} {xs : List V} (h : H b = some (.tup xs)) : H' b = some (.tup xs) := a.keep b _ (fun _ z => nomatch z) h
theorem Ex.lst {H H' : Hp} (a : Ex H H') {b : Addr} {xs : List V} (h : H b = some (.lst xs)) : H' b = some (.lst xs) := a.keep b _ (fun _ z => nomatch z) h
theorem Ex.dT {H H' : Hp} (a : Ex H H') {b : Addr} {xs : List (List Key × V)} (h : H b = some (.dT xs)) : H' b = some (.dT xs) := a.keep b _ (fun _ z => nomatch z) h
theorem Ex.frz {H H' : Hp} (a : Ex H H') {b : Addr} {o : Obj} {u : HO} (h : H b = some (.frz o u)) : H' b = some (.frz o u) := a.keep b _ (fun _ z => nomatch z) h
theorem Ex.seqL {K : PySem.W.Frag} {H H' : Hp} {a : Addr} {xs : List V} (e : Ex H H') (h : SqL K H a xs) : SqL K H' a xs := by
  rcases h with (h | ⟨o, h⟩) | h
  · exact .inl (.inl (e.lst h))
  · exact .inl (.inr ⟨o, e.frz h⟩)
  · exact .inr h
/-- tuples stand -/
def TE_ (H H' : Hp) : Prop := ∀ b xs, H b = some (.tup xs) → H' b = some (.tup xs)
theorem Ex.te {H H' : Hp} (a : Ex H H') : TE_ H H' := fun _ _ h => a.tup h
theorem TE_.trans {H H1 H2 : Hp} (a : TE_ H H1) (b : TE_ H1 H2) : TE_ H H2 := fun c xs h => b c xs (a c xs h)
theorem TE_.set {H : Hp} {p : Addr} {o u : HO} (h : H p = some u) (n : ∀ xs, u ≠ .tup xs) : TE_ H (upd H p o) := fun c xs e => by
  have ne : c ≠ p := fun z => by rw [z, h] at e; exact n xs (Option.some.inj e)
  rw [upd_ne ne]; exact e
theorem TE_.lst {H : Hp} {p : Addr} {xs : List V} {o : HO} (h : H p = some (.lst xs)) : TE_ H (upd H p o) := .set h fun _ z => nomatch z
theorem TE_.new {H : Hp} {p : Addr} {o : HO} (h : H p = none) : TE_ H (L2.upd H p o) := (Ex.new h).te
/-! ### data -/
def ChV (H : Hp) (v : V) (c : Ch) : Prop := ∃ a, v = .ref a ∧ H a = some (.tup (c.map V.int))
def StV (H : Hp) (v : V) (s : Sx) : Prop := ∃ a, v = .ref a ∧ H a = some (.tup [.int s.1, .int s.2])
def RwV (H : Hp) (v : V) (r : Rw) : Prop := ∃ a vs, v = .ref a ∧ H a = some (.tup vs) ∧ Paired (StV H) vs r
def PtV (H : Hp) (v : V) (p : Part) : Prop := ∃ a u, v = .ref a ∧ H a = some (.tup [.int p.1, u]) ∧ RwV H u p.2
theorem ChV.te {H H' : Hp} (e : TE_ H H') {v : V} {c : Ch} (h : ChV H v c) : ChV H' v c := let ⟨a, ea, h⟩ := h; ⟨a, ea, e _ _ h⟩
theorem StV.te {H H' : Hp} (e : TE_ H H') {v : V} {c : Sx} (h : StV H v c) : StV H' v c := let ⟨a, ea, h⟩ := h; ⟨a, ea, e _ _ h⟩
theorem RwV.te {H H' : Hp} (e : TE_ H H') {v : V} {c : Rw} (h : RwV H v c) : RwV H' v c := let ⟨a, vs, ea, h, p⟩ := h; ⟨a, vs, ea, e _ _ h, Paired.mapP p fun _ _ q => q.te e⟩
theorem PtV.te {H H' : Hp} (e : TE_ H H') {v : V} {c : Part} (h : PtV H v c) : PtV H' v c := let ⟨a, u, ea, h, p⟩ := h; ⟨a, u, ea, e _ _ h, p.te e⟩
/-- a list at a, of things -/
def Ls {α : Type} (R : Hp → V → α → Prop) (H : Hp) (a : Addr) (xs : List α) : Prop := ∃ vs, H a = some (.lst vs) ∧ Paired (R H) vs xs
theorem Paired.get? {α β : Type} {R : α → β → Prop} : ∀ {xs : List α} {ys : List β} {i : Nat} {x : α}, Paired R xs ys → xs[i]? = some x → ∃ y, ys[i]? = some y ∧ R x y
  | _, _, _, _, .nil, e => by simp at e
  | _, _, 0, _, .cons r _, e => by simp at e; subst e; exact ⟨_, rfl, r⟩
  | _, _, i + 1, x, .cons _ t, e => by
    obtain ⟨u, h1, h2⟩ := Paired.get? (i := i) (x := x) t (by simpa using e)
    exact ⟨u, by simpa using h1, h2⟩
theorem Paired.get?' {α β : Type} {R : α → β → Prop} : ∀ {xs : List α} {ys : List β} {i : Nat} {y : β}, Paired R xs ys → ys[i]? = some y → ∃ x, xs[i]? = some x ∧ R x y
  | _, _, _, _, .nil, e => by simp at e
  | _, _, 0, _, .cons r _, e => by simp at e; subst e; exact ⟨_, rfl, r⟩
  | _, _, i + 1, x, .cons _ t, e => by
    obtain ⟨u, h1, h2⟩ := Paired.get?' (i := i) (y := x) t (by simpa using e)
    exact ⟨u, by simpa using h1, h2⟩
theorem Paired.app {α β : Type} {R : α → β → Prop} : ∀ {xs xs' : List α} {ys ys' : List β}, Paired R xs ys → Paired R xs' ys' → Paired R (xs ++ xs') (ys ++ ys')
  | _, _, _, _, .nil, s => s
  | _, _, _, _, .cons r t, s => .cons r (Paired.app t s)
theorem Ls.te {α : Type} {R : Hp → V → α → Prop} (hR : ∀ {H H' : Hp} {v : V} {x : α}, TE_ H H' → R H v x → R H' v x) {H H' : Hp} {a : Addr} {xs : List α} (h : Ls R H a xs) (e : TE_ H H') (e2 : ∀ vs, H a = some (.lst vs) → H' a = some (.lst vs)) : Ls R H' a xs := by
  obtain ⟨vs, h1, h2⟩ := h
  exact ⟨vs, e2 vs h1, Paired.mapP h2 fun _ _ q => hR e q⟩
/-! ### the same as data of the model, for ==, <, in, index -/
def chD (c : Ch) : PyData := .tuple (c.map .int)
def stD (s : Sx) : PyData := .tuple [.int s.1, .int s.2]
def rwD (r : Rw) : PyData := .tuple (r.map stD)
def ptD (p : Part) : PyData := .tuple [.int p.1, rwD p.2]
section
variable {K : PySem.W.Frag} {H : Hp}
theorem dpInts : ∀ c : List Int, DpAll K H (c.map V.int) (c.map PyData.int)
  | [] => .nil
  | x :: c => .cons (.int x) (dpInts c)
theorem ChV.dp {v : V} {c : Ch} (h : ChV H v c) : Dp K H v (chD c) := by
  obtain ⟨a, rfl, h⟩ := h
  exact .tup (SqT.of h) (dpInts c)
theorem StV.dp {v : V} {c : Sx} (h : StV H v c) : Dp K H v (stD c) := by
  obtain ⟨a, rfl, h⟩ := h
  exact .tup (SqT.of h) (.cons (.int _) (.cons (.int _) .nil))
theorem dpAll_of {α : Type} {R : V → α → Prop} {d : α → PyData} (f : ∀ v x, R v x → Dp K H v (d x)) : ∀ {vs : List V} {xs : List α}, Paired R vs xs → DpAll K H vs (xs.map d)
  | _, _, .nil => .nil
  | _, _, .cons r t => .cons (f _ _ r) (dpAll_of f t)
theorem RwV.dp {v : V} {c : Rw} (h : RwV H v c) : Dp K H v (rwD c) := by
  obtain ⟨a, vs, rfl, h, p⟩ := h
  exact .tup (SqT.of h) (dpAll_of (fun _ _ q => StV.dp q) p)
theorem PtV.dp {v : V} {c : Part} (h : PtV H v c) : Dp K H v (ptD c) := by
  obtain ⟨a, u, rfl, h, p⟩ := h
  exact .tup (SqT.of h) (.cons (.int _) (.cons p.dp .nil))
theorem Ls.dp {α : Type} {R : Hp → V → α → Prop} {d : α → PyData} {a : Addr} {xs : List α} (f : ∀ v x, R H v x → Dp K H v (d x)) (h : Ls R H a xs) : Dp K H (.ref a) (.list (xs.map d)) := by
  obtain ⟨vs, h, p⟩ := h
  exact .lst (SqL.of h) (dpAll_of f p)
end
theorem intsLay : ∀ c : List Int, PyData.canLayAll0 (c.map PyData.int) = true
  | [] => by simp [PyData.canLayAll0]
  | x :: c => by simp [PyData.canLayAll0, PyData.canLay0, intsLay c]
theorem intsDep : ∀ c : List Int, PyData.depthAll (c.map PyData.int) ≤ 0
  | [] => by simp [PyData.depthAll]
  | x :: c => by
    have := intsDep c
    simp only [List.map_cons, PyData.depthAll, PyData.depth]
    omega
theorem allLay {α : Type} {d : α → PyData} (h : ∀ x, (d x).canLay0 = true) : ∀ xs : List α, PyData.canLayAll0 (xs.map d) = true
  | [] => by simp [PyData.canLayAll0]
  | x :: c => by simp [PyData.canLayAll0, h x, allLay h c]
theorem allDep {α : Type} {d : α → PyData} {n : Nat} (h : ∀ x, (d x).depth ≤ n) : ∀ xs : List α, PyData.depthAll (xs.map d) ≤ n
  | [] => by simp [PyData.depthAll]
  | x :: c => by
    have h1 := allDep h c
    have h2 := h x
    simp only [List.map_cons, PyData.depthAll]
    omega
theorem shaped_of {d : PyData} {n : Nat} (h : d.canLay0 = true) (h2 : d.depth ≤ n) (hn : n ≤ 64) : SeqAt.shaped d = true := by
  show (d.canLay0 && decide (d.depth ≤ 64)) = true
  rw [Bool.and_eq_true]
  exact ⟨h, decide_eq_true (by omega)⟩
theorem chLay (c : Ch) : (chD c).canLay0 = true := by simp only [chD, PyData.canLay0]; exact intsLay c
theorem chDep (c : Ch) : (chD c).depth ≤ 1 := by have := intsDep c; simp only [chD, PyData.depth]; omega
theorem stLay (c : Sx) : (stD c).canLay0 = true := by simp [stD, PyData.canLay0, PyData.canLayAll0]
theorem stDep (c : Sx) : (stD c).depth ≤ 1 := by simp [stD, PyData.depth, PyData.depthAll]
theorem rwLay (c : Rw) : (rwD c).canLay0 = true := by simp only [rwD, PyData.canLay0]; exact allLay stLay c
theorem rwDep (c : Rw) : (rwD c).depth ≤ 2 := by have := allDep stDep c; simp only [rwD, PyData.depth]; omega
theorem ptDep (c : Part) : (ptD c).depth ≤ 3 := by have := rwDep c.2; simp only [ptD, PyData.depth, PyData.depthAll]; omega
theorem chSh (c : Ch) : SeqAt.shaped (chD c) = true := shaped_of (chLay c) (chDep c) (by decide)
theorem stSh (c : Sx) : SeqAt.shaped (stD c) = true := shaped_of (stLay c) (stDep c) (by decide)
theorem rwSh (c : Rw) : SeqAt.shaped (rwD c) = true := shaped_of (rwLay c) (rwDep c) (by decide)
theorem lsSh (xs : List Rw) : SeqAt.shaped (.list (xs.map rwD)) = true := by
  refine shaped_of (n := 3) (by simp only [PyData.canLay0]; exact allLay rwLay xs) ?_ (by decide)
  have := allDep rwDep xs
  simp only [PyData.depth]; omega
theorem eqvInts : ∀ c d : List Int, PyData.eqvAll (c.map PyData.int) (d.map PyData.int) = decide (c = d)
  | [], [] => by simp [PyData.eqvAll]
  | [], _ :: _ => by simp [PyData.eqvAll]
  | _ :: _, [] => by simp [PyData.eqvAll]
  | x :: c, y :: d => by
    simp only [List.map_cons, PyData.eqvAll, PyData.eqv, eqvInts c d]
    by_cases h : x = y <;> by_cases h2 : c = d <;> simp [h, h2]
theorem chEqv (c d : Ch) : PyData.eqv (chD c) (chD d) = decide (c = d) := by simp only [chD, PyData.eqv]; exact eqvInts c d
theorem stEqv (c d : Sx) : PyData.eqv (stD c) (stD d) = decide (c = d) := by
  obtain ⟨a, b⟩ := c
  obtain ⟨e, f⟩ := d
  simp only [stD, PyData.eqv, PyData.eqvAll]
  by_cases h : a = e <;> by_cases h2 : b = f <;> simp [h, h2]
theorem eqvAllD {α : Type} [DecidableEq α] {d : α → PyData} (h : ∀ x y, PyData.eqv (d x) (d y) = decide (x = y)) : ∀ xs ys : List α, PyData.eqvAll (xs.map d) (ys.map d) = decide (xs = ys)
  | [], [] => by simp [PyData.eqvAll]
  | [], _ :: _ => by simp [PyData.eqvAll]
  | _ :: _, [] => by simp [PyData.eqvAll]
  | x :: c, y :: e => by
    simp only [List.map_cons, PyData.eqvAll, h, eqvAllD h c e]
    by_cases h : x = y <;> by_cases h2 : c = e <;> simp [h, h2]
theorem rwEqv (c d : Rw) : PyData.eqv (rwD c) (rwD d) = decide (c = d) := by simp only [rwD, PyData.eqv]; exact eqvAllD stEqv c d
/-- < of two parts -/
def ltP (p q : Part) : Bool := PySem.W.dataLt (ptD p) (ptD q)
theorem stAlike (c d : Sx) : PySem.W.alike (stD c) (stD d) = true := by simp [stD, PySem.W.alike, PySem.W.alikeAll]
theorem rwAlikeAll : ∀ c d : Rw, PySem.W.alikeAll (c.map stD) (d.map stD) = true
  | [], _ => by simp [PySem.W.alikeAll]
  | _ :: _, [] => by simp [PySem.W.alikeAll]
  | x :: c, y :: d => by simp [PySem.W.alikeAll, stAlike, rwAlikeAll c d]
theorem ptAlike (c d : Part) : PySem.W.alike (ptD c) (ptD d) = true := by
  simp [ptD, rwD, PySem.W.alike, PySem.W.alikeAll, rwAlikeAll]
def rLtP : R2 := fun x y H Q => ∃ p q, PtV H x p ∧ PtV H y q ∧ Q (.bl (ltP p q)) H
theorem op_ltP {X : Cx} (hu : X.A.units + 64 < cLine) : OpR X (compareOp .Lt) rLtP := by
  intro pins s σ H x y v u Q I rx ry h
  obtain ⟨p, q, hp, hq, h⟩ := h
  obtain ⟨as, r1⟩ := Dp.reads I _ x v hp.dp rx
  obtain ⟨bs, r2⟩ := Dp.reads I _ y u hq.dp ry
  exact PySem.W.rcLt_alike (ptD p) (ptD q) X.A s v u as bs r1 r2 (ptAlike p q) (fun z => nomatch z) (by have := ptDep p; omega) _ _ _ _ ⟨.bl _, H, I, rfl, h⟩
end G
set_option Elab.async false
set_option linter.all false
set_option maxRecDepth 100000
set_option maxHeartbeats 1000000
namespace G
open PySem PySem.Spec PyProof.Rows L2 HT
/-! ### {k: v}, k a tuple -/
theorem pe_disp1T {X : Cx} {pos : Pos} {k v : Expr} {tk tv : TE} (hu : X.A.units < cLine) (hk : PE X k tk) (hv : PE X v tv) :
    PE X (.Dict [some k] [v] pos) (fun σ H Q => ∀ p, H p = none → tk σ (upd H p (.dT [])) fun x H1 => tv σ H1 fun y H2 => H2 p = some (.dT []) ∧ ∃ b ks, x = .ref b ∧ H2 b = some (.tup (ks.map kV)) ∧ Q (.ref p) (upd H2 p (.dT [(ks, y)]))) := by
  refine ⟨fun pins s σ H Q I q => ?_⟩
  have hn := I.hok.fresh (Nat.le_refl s.heap.objs.size)
  have I1 := I.laid (a := s.heap.objs.size) (o := .dT []) (h' := s.heap.push { cls := .type "dict", data := .dict #[] }) (t' := s.toks) (fun _ _ q => Heap.get?_push_of_some _ q) (Nat.le_refl _) (dt_empty s.heap I.big)
  rw [arm_eval_Dict, zip_pairTrees [some k] [v] X.env pos rfl rfl, dictDisplay_pairs (pairTrees [some k] [v] X.env pos) (by intro z; cases z) (by show 1 < 17; decide)]
  refine wpAny_bind (wpAny_standAt (wpAny_bind (wpAny_subDictH (knd := tupleKind (mixKind X.prog X.w)) (Q := fun d s' => wpAny (model X.prog X.w) X.A (pure (Value.ref d)) (EP X pins σ Q) X.xe s') hu (by show 1 ≤ 15; decide) ?_)))
  refine pairTrees_cons_walk (thn (hk.run pins _ σ _ _ I1 (q _ hn)) fun u s1 ⟨x, H1, J1, rx, q1⟩ => thn (hv.run pins s1 σ H1 _ J1 q1) fun w2 s2 ⟨y, H2, J2, ry, q2⟩ => pairTrees_nil_walk ?_)
  obtain ⟨e, b, ks, rfl, hb, q3⟩ := q2
  cases (show u = Value.ref b from rx)
  obtain ⟨z, hd, xs, rel, dd⟩ := dt_of J2.hok e
  cases rel
  refine ⟨[(ks, b, w2)], ⟨rfl, rfl, key_of J2.hok hb, trivial⟩, dd, fun h' tk dd' hs => wpAny_pure ?_⟩
  obtain ⟨qo, es, ep, hq, h2, h3, h4, _, h5⟩ := dd'
  refine ⟨.ref s.heap.objs.size, _, d_write J2 (ob := .dT [(ks, y)]) (t' := tk) (by rw [e]; exact True.intro) hs ⟨qo, hq⟩ ⟨(by show 1 ≤ sizeLine; decide), hd, [(ks, b, w2)], .cons ⟨rfl, ?_, ry⟩ .nil, qo, es, ep, hq, h2, h3, h4, h5⟩, rfl, q3⟩
  rw [upd_ne (ne_of hb e (fun z => nomatch z))]
  exact hb
/-! ### t[::-1] -/
theorem places_rev (n : Nat) : Builtin.Slice.slicePlaces ((n : Int) - 1) (-1) (-1) = n := by
  unfold Builtin.Slice.slicePlaces
  rw [if_neg (by decide)]
  by_cases h : (n : Int) - 1 > -1
  · rw [if_pos h, show (- -1 : Int) = 1 by decide, Int.ediv_one]; omega
  · rw [if_neg h]; omega
theorem pick_rev (xs : Array Value) : ((List.range xs.size).filterMap fun (m : Nat) => xs[(((xs.size : Int) - 1) + (m : Int) * (-1)).toNat]?).toArray = xs.toList.reverse.toArray := by
  have e : ((List.range xs.size).filterMap fun (m : Nat) => xs[(((xs.size : Int) - 1) + (m : Int) * (-1)).toNat]?) = ((List.range xs.size).map fun k => xs.size - 1 - k).filterMap (xs[·]?) := by
    rw [List.filterMap_map]
    congr 1
    funext m
    have : (((xs.size : Int) - 1) + (m : Int) * (-1)).toNat = xs.size - 1 - m := by omega
    rw [this]; rfl
  rw [e, PySem.W.krv_range, List.filterMap_reverse, PySem.W.krv_all]
theorem getItem_tuple_rev {prog : Program} {w : World} {A : Around} {E : Value → Shared → Prop} {s : Shared} {t sl : Addr} {items : Array Value} {vs : Value} {Q : Value → Shared → Prop} (ht : IsTup s.heap t items) (hs : s.heap.IsSliceOf sl .none .none vs) (ps : IsPart vs (some (-1)))
    (h : Q (.ref s.heap.objs.size) { s with heap := s.heap.push { cls := .type "tuple", data := .seq items.toList.reverse.toArray } })
    (hsz : items.size ≤ sizeLine) : wpAny (model prog w) A (getItem (.ref t) (.ref sl)) Q E s := by
  have htake : sizeOk (.seq items.toList.reverse.toArray) := by
    show items.toList.reverse.toArray.size ≤ sizeLine
    rw [List.size_toArray, List.length_reverse, Array.length_toList]
    exact hsz
  obtain ⟨os, hos, hcs, hds⟩ := id hs
  have hTs : s.TypeIs (.ref sl) "slice" := ⟨os, hos, hcs⟩
  unfold getItem
  try with_reducible refine wpAny_holding ?_
  first | refine wpAny_bind (wpAny_pure ?_) | skip
  refine wpAny_bind (wpAny_sequenceKey ht.typeIs (by decide) ?_)
  refine wpAny_bind (wpAny_callSpecial?_slot (name := Str.ofString "__getitem__") ht.typeIs PyProof.Rows.slot_tuple_getitem
    (wpAny_call_entry PyProof.Rows.slot_tuple_getitem ht.typeIs entry_tuple_getitem ?_ (args_tuple_getitem _ _)))
  show wpAny _ _ (Builtin.Tuple.tupleItemsOf (.ref t) >>= _) _ _ s
  refine wpAny_bind (tupleItemsOf_ ht ?_)
  refine wpAny_bind (wpAny_typeOf hTs ?_)
  rw [if_pos (by decide)]
  have ap : ∀ {A0 : Around} {Q : Int × Int × Nat → Shared → Prop}, Q ((items.size : Int) - 1, -1, items.size) s → wpAny (model prog w) A0 (Builtin.Slice.sliceApplied (.ref sl) (pure (items.size : Int))) Q E s := by
    intro A0 Q h
    unfold Builtin.Slice.sliceApplied Builtin.Slice.sliceFields
    refine wpAny_bind (wpAny_bind (wpAny_field hos hds (x := .none) rfl (wpAny_bind (wpAny_field hos hds (x := .none) rfl (wpAny_bind (wpAny_field hos hds (x := vs) rfl (wpAny_pure ?_)))))))
    refine wpAny_bind (slicePart_ ps ?_)
    show wpAny _ _ (if ((-1 : Int) == 0) = true then _ else _) _ _ s
    rw [if_neg (by decide)]
    refine wpAny_bind (slicePart_none (wpAny_bind (slicePart_none (wpAny_bind (wpAny_pure ?_)))))
    show wpAny _ _ (pure (((items.size : Int) - 1), (-1 : Int), Builtin.Slice.slicePlaces ((items.size : Int) - 1) (-1) (-1))) _ _ s
    rw [places_rev]
    exact wpAny_pure h
  refine wpAny_bind (ap ?_)
  have hno : ¬ (((items.size : Int) - 1 == 0 && (-1 : Int) == 1 && items.size == items.size) = true) := by
    intro q
    rw [Bool.and_eq_true, Bool.and_eq_true] at q
    exact absurd (eq_of_beq q.1.2) (by decide)
  show wpAny _ _ (if ((items.size : Int) - 1 == 0 && (-1 : Int) == 1 && items.size == items.size) = true then _ else _) _ _ s
  rw [if_neg hno, pick_rev]
  first
    | exact wpAny_bind (m := Builtin.Tuple.tupleExact _) (wpAny_newObj_type (wpAny_pure ⟨_, rfl, wpAny_pure h⟩) htake)
    | exact wpAny_bind (m := Builtin.Tuple.tupleExact _) (wpAny_newObj_type (wpAny_bind (wpAny_pure (wpAny_pure ⟨_, rfl, wpAny_pure h⟩))) htake)
    | exact wpAny_bind (wpAny_bind (m := Builtin.Tuple.tupleExact _) (wpAny_newObj_type (wpAny_pure (wpAny_pure ⟨_, rfl, wpAny_pure h⟩)) htake))
    | exact wpAny_bind (wpAny_bind (m := Builtin.Tuple.tupleExact _) (wpAny_newObj_type (wpAny_pure ⟨_, rfl, wpAny_pure h⟩) htake))
def tRevT (te : TE) : TE := fun σ H Q => te σ H fun x H1 => ∃ a xs, x = .ref a ∧ H1 a = some (.tup xs) ∧ ∀ p, H1 p = none → Q (.ref p) (upd H1 p (.tup xs.reverse))
theorem pe_revT {X : Cx} {e : Expr} {te : TE} {k : Nat} {p1 p2 p3 pos : Pos} (he : PE X e te) : PE X (.Subscript e (.Slice none none (some (.UnaryOp .USub (.Constant (.int 1) k p1) p2)) p3) pos) (tRevT te) := by
  refine ⟨fun pins s σ H Q I h => ?_⟩
  refine Subscript_ (thn (he.run pins s σ H _ I h) fun v s1 ⟨x, H1, I1, r1, q1⟩ => ?_)
  obtain ⟨a, xs, ex, hx, q⟩ := q1
  subst ex
  cases r1
  have hst : PO X (some (.UnaryOp .USub (.Constant (.int 1) k p1) p2)) (tPart (tUn (rU fun i => .int (-i)) (tC (.int 1)))) := po_some (pe_un un_neg pe_int)
  refine wpAny_Slice (thn (po_none.run pins s1 σ H1 (fun o H2 => o = none ∧ H2 = H1) I1 ⟨rfl, rfl⟩) fun vl s2 ⟨l, H2, I2, pl, el, e2⟩ => ?_)
  subst el e2
  refine thn (po_none.run pins s2 σ H2 (fun o H3 => o = none ∧ H3 = H2) I2 ⟨rfl, rfl⟩) fun vu s3 ⟨u, H3, I3, pu, eu, e3⟩ => ?_
  subst eu e3
  refine thn (hst.run pins s3 σ H3 (fun o H4 => o = some (-1) ∧ H4 = H3) I3 ⟨1, rfl, -1, rfl, rfl, rfl⟩) fun vs s4 ⟨o, H4, I4, ps, eo, e4⟩ => ?_
  subst eo e4
  have I5 : Inv X pins σ H4 { s4 with heap := s4.heap.push { cls := .type "slice", data := .fields #[vl, vu, vs] } } := I4.kept (t' := s4.toks) fun b ob q => Heap.get?_push_of_some _ q
  obtain ⟨its, r, ht, hz⟩ := I5.tuple (SqT.of hx)
  have hlen := r.length
  show wpAny (model X.prog X.w) X.A (subscriptTail e (.Slice none none (some (.UnaryOp .USub (.Constant (.int 1) k p1) p2)) p3) (.ref a) (.ref s4.heap.objs.size)) (EP X pins σ Q) X.xe { s4 with heap := s4.heap.push { cls := .type "slice", data := .fields #[vl, vu, vs] } }
  refine tail_any (ops := [.ref a, .ref s4.heap.objs.size]) ht.typeIs (PyProof.Rows.slot_tuple_getitem.lookup) ?_ (by with_unfolding_all rfl)
  cases pl
  cases pu
  refine getItem_tuple_rev ht (Heap.IsSliceOf.new _ .none .none vs) ps ?_ (by rw [List.size_toArray]; omega)
  refine ⟨.ref _, _, I5.laid (t' := s4.toks) (o := .tup xs.reverse) (fun b ob q => Heap.get?_push_of_some _ q) (Nat.le_refl _) ?_, rfl, q _ (I5.hok.fresh (Nat.le_refl _))⟩
  exact ⟨by rw [List.length_reverse]; exact hz, _, r.reverse, IsTup.new _ _⟩
/-! ### t * 0, t * 1 -/
theorem tuple_mul1 (l : Addr) (items : Array Value) (n : Nat) (dd : Option Addr) (sl : Array (Option Value)) (u : Tok) :
    Meets (Builtin.«tuple.__mul__» ⟨[.ref l, .int 1 u], []⟩) (fun _ R s => s.heap.get? l = some { cls := .type "tuple", dict := dd, data := .seq items n, slots := sl } ∧ R (.ok (.ret (Value.ref l))) s) :=
  .of_wp fun prog w A R s h => by
    obtain ⟨hp, g, d, tk, os⟩ := s
    obtain ⟨hl, h⟩ := h
    have f1 := AutoSeq1.idx_int
    have c1 : (items.isEmpty || (1 : Int) == 1) = true := by rw [Bool.or_eq_true]; exact .inr rfl
    wp_walk using wpAny_loadPart' hl
    exact ⟨_, rfl, h⟩
theorem tuple_mul0 (l : Addr) (items : Array Value) (n : Nat) (dd : Option Addr) (sl : Array (Option Value)) (u : Tok) (hne : items.isEmpty = false) :
    Meets (Builtin.«tuple.__mul__» ⟨[.ref l, .int 0 u], []⟩) (fun _ R s => s.heap.get? l = some { cls := .type "tuple", dict := dd, data := .seq items n, slots := sl } ∧
      R (.ok (.ret (Value.ref s.heap.objs.size))) { s with heap := s.heap.push { cls := Value.type "tuple", data := Data.seq #[] }, toks := s.toks }) :=
  .of_wp fun prog w A R s h => by
    obtain ⟨hp, g, d, tk, os⟩ := s
    obtain ⟨hl, h⟩ := h
    have f1 := AutoSeq1.idx_int
    have c1 : (items.isEmpty || (0 : Int) == 1) = false := by rw [hne]; rfl
    wp_walk using wpAny_loadPart' hl
    repeat (first
      | (refine wpAny_ite_false (decide_eq_false (by rw [c1]; exact Bool.false_ne_true)) ?_; wp_walk using wpAny_loadPart' hl)
      | (refine wpAny_ite_true (decide_eq_true (by rfl)) ?_; wp_walk using wpAny_loadPart' hl))
    exact ⟨_, rfl, h⟩
def rRepK : R2 := fun x y H Q => ∃ l k xs, x = .ref l ∧ y = .int k ∧ H l = some (.tup xs) ∧ xs ≠ [] ∧ 0 ≤ k ∧ k ≤ 1000 ∧ xs.length ≤ 1000 ∧ (k = 1 → Q (.ref l) H) ∧ (k ≠ 1 → ∀ p, H p = none → Q (.ref p) (upd H p (.tup (List.replicate k.toNat xs).flatten)))
theorem op_repK {X : Cx} : OpR X (binaryOp .Mult) rRepK := by
  intro pins s σ H x y v u Q I rx ry h
  obtain ⟨l, k, xs, rfl, rfl, hT, hne, h1, h2, hz, q1, q⟩ := h
  by_cases k2 : 2 ≤ k
  · exact op_repT pins s σ H _ _ v u Q I rx ry ⟨l, k, xs, rfl, rfl, SqT.of hT, hne, k2, h2, hz, q (by omega)⟩
  · cases rx
    obtain ⟨t, rfl⟩ := ry
    obtain ⟨its, r, ⟨⟨cls, dd, data, sl⟩, ho, hc, n, hd⟩, hs⟩ := I.tuple (SqT.of hT)
    simp only at hc hd
    subst hc hd
    have hle : its.length = xs.length := r.length.symm
    have hn : its ≠ [] := fun e => hne (by
      rw [e] at hle
      exact List.eq_nil_of_length_eq_zero hle.symm)
    have hi : its.toArray.isEmpty = false := by
      cases its with
      | nil => exact absurd rfl hn
      | cons a b => rfl
    by_cases k1 : k = 1
    · subst k1
      refine wpAny_binaryOp_repeat_ref (T := "tuple") (U := "int") (by decide) ⟨_, ho, rfl⟩ (fun s' => typeIs_int s' 1 t) noFill_tuple_mul F.fills_int_mul F.slot_int_rmul repeat_tuple F.slot_int_index.lookup
        (call_meets F.slot_int_rmul (typeIs_int s 1 t) F.entry_int_rmul (F.args_int_rmul_2 _ _) (int_rmul_tuple 1 t l its.toArray n dd sl)
          ⟨ho, rfl, ⟨_, ho, rfl⟩, call_meets F.slot_tuple_mul ⟨_, ho, rfl⟩ F.entry_tuple_mul (F.args_tuple_mul_2 _ _) (tuple_mul1 l its.toArray n dd sl t) ⟨ho, ?_⟩⟩)
      exact ⟨.ref l, _, I, rfl, q1 rfl⟩
    · have k0 : k = 0 := by omega
      subst k0
      refine wpAny_binaryOp_repeat_ref (T := "tuple") (U := "int") (by decide) ⟨_, ho, rfl⟩ (fun s' => typeIs_int s' 0 t) noFill_tuple_mul F.fills_int_mul F.slot_int_rmul repeat_tuple F.slot_int_index.lookup
        (call_meets F.slot_int_rmul (typeIs_int s 0 t) F.entry_int_rmul (F.args_int_rmul_2 _ _) (int_rmul_tuple 0 t l its.toArray n dd sl)
          ⟨ho, rfl, ⟨_, ho, rfl⟩, call_meets F.slot_tuple_mul ⟨_, ho, rfl⟩ F.entry_tuple_mul (F.args_tuple_mul_2 _ _) (tuple_mul0 l its.toArray n dd sl t hi) ⟨ho, ?_⟩⟩)
      refine ⟨.ref s.heap.objs.size, _, I.laid (t' := s.toks) (o := .tup (List.replicate (0 : Int).toNat xs).flatten) (fun b ob q => Heap.get?_push_of_some _ q) (Nat.le_refl _) ?_, rfl, q (by decide) _ (I.hok.fresh (Nat.le_refl _))⟩
      exact ⟨Nat.zero_le _, [], .nil, IsTup.new _ _⟩
end G
set_option Elab.async false
set_option linter.all false
set_option maxRecDepth 100000
set_option maxHeartbeats 1000000
namespace G
open PySem PySem.Spec PyProof.Rows L2
/-! ### quiet evaluation: e gives v in every state that keeps h0, all that stands is kept -/
theorem keeps_trans {s s1 s2 : Shared} (a : Keeps s s1) (b : Keeps s1 s2) : Keeps s s2 := by
  obtain ⟨h1, t1, rfl, k1⟩ := a
  obtain ⟨h2, t2, rfl, k2⟩ := b
  exact ⟨h2, t2, rfl, fun b o e => k2 b o (k1 b o e)⟩
theorem keeps_up {h0 : Heap} {s s1 : Shared} (k : ∀ b o, h0.get? b = some o → s.heap.get? b = some o) (a : Keeps s s1) : ∀ b o, h0.get? b = some o → s1.heap.get? b = some o := by
  obtain ⟨h1, t1, rfl, k1⟩ := a
  exact fun b o e => k1 b o (k b o e)
abbrev Kp (h0 : Heap) (s : Shared) : Prop := ∀ b o, h0.get? b = some o → s.heap.get? b = some o
section
variable (P : Program) (w : World) (K : PySem.W.Frag) (mg : Str → Option Value) (env : Env) (h0 : Heap) (D : Nat)
structure Gd : Prop where
  kin : K.In h0
  ns : h0.Ns mainGlobals mg
  bl : ∃ mb, h0.Ns builtinsNs mb ∧ ∀ x : Str, x ≠ "__name__" → mb x = bootBuiltins x
structure Ge : Prop where
  kind : env.scope.kind = .function
  glob : env.globals = mainGlobals
  blt : env.builtins = builtinsNs
def RE (e : Expr) (v : V) : Prop := ∀ (A : Around) (E : Value → Shared → Prop) (s : Shared) (Q : Value → Shared → Prop), A.depth ≤ D → Kp h0 s → (∀ u s', RelV v u → Keeps s s' → Q u s') → wpAny (model P w) A (eval e env) Q E s
def RT (e : Expr) (b : Bool) : Prop := ∀ (A : Around) (E : Value → Shared → Prop) (s : Shared) (Q : Bool → Shared → Prop), A.depth ≤ D → Kp h0 s → (∀ s', Keeps s s' → Q b s') → wpAny (model P w) A (isTrue e env (eval e env)) Q E s
def RTw (e : Expr) (b : Bool) : Prop := ∀ (wh : Sem Value) (A : Around) (E : Value → Shared → Prop) (s : Shared) (Q : Bool → Shared → Prop), A.depth ≤ D → Kp h0 s → (∀ s', Keeps s s' → Q b s') → wpAny (model P w) A (isTrue e env wh) Q E s
def RAs (es : List Expr) (vs : List V) : Prop := ∀ (pos : Pos) (A : Around) (E : Value → Shared → Prop) (s : Shared) (Q : List Value → Shared → Prop), A.depth ≤ D → Kp h0 s → (∀ us s', Vals vs us → Keeps s s' → Q us s') → wpAny (model P w) A (spliced (backTo pos (starEach es env))) Q E s
/-- a call of the value f -/
def RF (f : Value) (vs : List V) (v : V) : Prop := ∀ (A : Around) (E : Value → Shared → Prop) (s : Shared) (us : List Value) (Q : Value → Shared → Prop), A.depth ≤ D → Kp h0 s → Vals vs us → (∀ u s', RelV v u → Keeps s s' → Q u s') → wpAny (model P w) A (call f us) Q E s
/-- a block that returns -/
def RSs (st : List Stmt) (v : V) : Prop := ∀ (A : Around) (E : Value → Shared → Prop) (s : Shared) (Q : Flow → Shared → Prop), A.depth ≤ D → Kp h0 s → (∀ u s', RelV v u → Keeps s s' → Q (.ret u) s') → wpAny (model P w) A (execs st env) Q E s
end
section
variable {P : Program} {w : World} {K : PySem.W.Frag} {mg : Str → Option Value} {env : Env} {h0 : Heap} {D : Nat}
theorem re_local {x : Str} {pos : Pos} {m : Str → Option Value} {u : Value} {v : V} (g : Ge env) (hl : env.kindOf x = some .local) (hn : h0.Ns env.locals m) (hm : m x = some u) (r : RelV v u) (hd : (x == ("__debug__" : Str)) = false := by decide) : RE P w env h0 D (.Name x pos) v :=
  fun A E s Q _ k q => wpAny_Name (wpAny_loadName_local g.kind hl (hn.keeps k) hm (q u s r (GxR.keeps_refl s))) hd
theorem re_free {x : Str} {pos : Pos} {c : Addr} {u : Value} {v : V} (g : Ge env) (hl : env.kindOf x = some .free) (hc : env.cells.lookup x = some c) (hv : h0.IsCell c (some u)) (r : RelV v u) (hd : (x == ("__debug__" : Str)) = false := by decide) (hcd : (x == ("__classdict__" : Str)) = false := by decide) : RE P w env h0 D (.Name x pos) v :=
  fun A E s Q _ k q => wpAny_Name (wpAny_loadName_free g.kind hl hc (hv.keeps k) (q u s r (GxR.keeps_refl s)) hcd) hd
theorem re_int {i : Int} {j : Nat} {pos : Pos} : RE P w env h0 D (.Constant (.int i) j pos) (.int i) :=
  fun A E s Q _ k q => wpAny_Constant_int (q _ _ ⟨_, rfl⟩ (GxR.keeps_tok s _))
theorem re_bl {b : Bool} {j : Nat} {pos : Pos} : RE P w env h0 D (.Constant (.bool b) j pos) (.bl b) :=
  fun A E s Q _ k q => Constant_bool (q _ _ rfl (GxR.keeps_refl s))
theorem re_blt {x : Str} {pos : Pos} {v : V} {u : Value} (gd : Gd K mg h0) (g : Ge env) (hg : env.kindOf x = some .globalImplicit) (hm : mg x = none) (hv : bootBuiltins x = some u) (r : RelV v u) (hn : x ≠ "__name__" := by decide) (hd : (x == ("__debug__" : Str)) = false := by decide) : RE P w env h0 D (.Name x pos) v := by
  intro A E s Q _ k q
  obtain ⟨mb, h1, h2⟩ := gd.bl
  exact Calls.Name_function_global g.kind hg (Calls.loadGlobal_builtin (by rw [g.glob]; exact gd.ns.keeps k) hm (by rw [g.blt]; exact h1.keeps k) ((h2 x hn).trans hv) (q u s r (GxR.keeps_refl s))) hd
theorem ra_nil : RAs P w env h0 D [] [] := fun _ A E s Q _ k q => Calls.spliced_nil (q [] s .nil (GxR.keeps_refl s))
theorem ra_cons {e : Expr} {es : List Expr} {v : V} {vs : List V} (h : RE P w env h0 D e v) (hr : RAs P w env h0 D es vs) (hs : starEach (e :: es) env = (false, eval e env) :: starEach es env := by rfl) : RAs P w env h0 D (e :: es) (v :: vs) := by
  intro pos A E s Q hd k q
  rw [hs]
  show wpAny _ _ (spliced ((false, eval e env) :: backTo pos (starEach es env))) _ _ s
  refine Calls.spliced_cons (h A E s _ hd k fun u s1 r1 k1 => ?_)
  exact hr pos A E s1 _ hd (keeps_up k k1) fun us s2 r2 k2 => q _ _ (.cons r1 r2) (keeps_trans k1 k2)
theorem re_callB {x : Str} {p pos : Pos} {e : Expr} {es : List Expr} {vs : List V} {v : V} {id : String} (gd : Gd K mg h0) (g : Ge env) (hg : env.kindOf x = some .globalImplicit) (hm : mg x = none) (hv : bootBuiltins x = some (.builtin id)) (hf : RF P w h0 D (.builtin id) vs v) (ha : RAs P w env h0 D (e :: es) vs)
    (hn : x ≠ "__name__" := by decide) (hdb : (x == ("__debug__" : Str)) = false := by decide) (he : starEach (e :: es) env = (false, eval e env) :: starEach es env := by rfl) (hpl : (backTo pos (starEach es env)).any (·.1) = false := by rfl) :
    RE P w env h0 D (.Call (.Name x p) (e :: es) [] pos) v := by
  intro A E s Q hd k q
  obtain ⟨mb, h1, h2⟩ := gd.bl
  refine wpAny_Call_Name_kw (Calls.Name_function_global g.kind hg (Calls.loadGlobal_builtin (by rw [g.glob]; exact gd.ns.keeps k) hm (by rw [g.blt]; exact h1.keeps k) ((h2 x hn).trans hv) ?_) hdb)
  exact PyProof.Rows.callWith_builtin1 (ha pos A E s _ hd k fun us s1 r1 k1 => hf A E s1 us _ hd (keeps_up k k1) r1 fun u s2 r2 k2 => q u s2 r2 (keeps_trans k1 k2)) he hpl
theorem re_call {x : Str} {p pos : Pos} {e : Expr} {es : List Expr} {vs : List V} {v : V} {f : Addr} (gd : Gd K mg h0) (g : Ge env) (hg : env.kindOf x = some .globalImplicit) (hm : mg x = some (.ref f)) (hk : PySem.W.keepIn K (.ref f) = true) (hf : RF P w h0 D (.ref f) vs v) (ha : RAs P w env h0 D (e :: es) vs)
    (hdb : (x == ("__debug__" : Str)) = false := by decide) (he : starEach (e :: es) env = (false, eval e env) :: starEach es env := by rfl) (hpl : (backTo pos (starEach es env)).any (·.1) = false := by rfl) :
    RE P w env h0 D (.Call (.Name x p) (e :: es) [] pos) v := by
  intro A E s Q hd k q
  refine wpAny_Call_Name_kw (Calls.Name_function_global g.kind hg (Calls.loadGlobal_global (by rw [g.glob]; exact gd.ns.keeps k) hm ?_) hdb)
  refine PySem.W.callWith_K (h₀ := h0) gd.kin hk (ha pos A E s _ hd k fun us s1 r1 k1 => ⟨gd.kin.keeps (keeps_up k k1), ?_⟩) he hpl
  exact hf A E s1 us _ hd (keeps_up k k1) r1 fun u s2 r2 k2 => q u s2 r2 (keeps_trans k1 k2)
theorem re_one {op : BoolOp} {a : Expr} {pos : Pos} {v : V} (h : RE P w env h0 D a v) : RE P w env h0 D (.BoolOp op [a] pos) v := fun A E s Q hd k q => BoolOp_one (h A E s Q hd k q)
theorem re_andF {a b : Expr} {rest : List Expr} {pos : Pos} (h : RE P w env h0 D a (.bl false)) : RE P w env h0 D (.BoolOp .And (a :: b :: rest) pos) (.bl false) := fun A E s Q hd k q =>
  BoolOp_and (h A E s _ hd k fun u s1 r1 k1 => by
    cases r1
    exact wpAny_truthy_bool (q _ _ rfl k1))
theorem re_andT {a b : Expr} {rest : List Expr} {pos : Pos} {v : V} (h : RE P w env h0 D a (.bl true)) (hb : RE P w env h0 D (.BoolOp .And (b :: rest) pos) v) : RE P w env h0 D (.BoolOp .And (a :: b :: rest) pos) v := fun A E s Q hd k q =>
  BoolOp_and (h A E s _ hd k fun u s1 r1 k1 => by
    cases r1
    exact wpAny_truthy_bool (hb A E s1 Q hd (keeps_up k k1) fun u s2 r2 k2 => q u s2 r2 (keeps_trans k1 k2)))
theorem re_not {a : Expr} {pos : Pos} {b : Bool} (h : RE P w env h0 D a (.bl b)) : RE P w env h0 D (.UnaryOp .Not a pos) (.bl (!b)) := fun A E s Q hd k q =>
  UnaryOp_ (h A E s _ hd k fun u s1 r1 k1 => by
    cases r1
    exact not_of (wpAny_truthy_bool (q _ _ rfl k1)))
theorem re_chain {a b c : Expr} {pos : Pos} {i j l : Int} (ha : RE P w env h0 D a (.int i)) (hb : RE P w env h0 D b (.int j)) (hc : RE P w env h0 D c (.int l)) (hm : lastMarks [.LtE, .LtE] [b, c] = false := by with_unfolding_all rfl) :
    RE P w env h0 D (.Compare a [.LtE, .LtE] [b, c] pos) (.bl (decide (i ≤ j) && decide (j ≤ l))) := by
  intro A E s Q hd k q
  refine Compare_chain (ha A E s _ hd k fun u s1 r1 k1 => chain_link (hb A E s1 _ hd (keeps_up k k1) fun u2 s2 r2 k2 => ?_)) hm
  obtain ⟨t, rfl⟩ := r1
  obtain ⟨t2, rfl⟩ := r2
  refine le_int (wpAny_truthy_bool ?_)
  by_cases h : i ≤ j
  · have e1 : decide (i ≤ j) = true := decide_eq_true h
    rw [e1] at q ⊢
    refine ite_tt (chain_last (hc A E s2 _ hd (keeps_up k (keeps_trans k1 k2)) fun u3 s3 r3 k3 => ?_))
    obtain ⟨t3, rfl⟩ := r3
    exact le_int (q _ _ rfl (keeps_trans (keeps_trans k1 k2) k3))
  · have e1 : decide (i ≤ j) = false := decide_eq_false h
    rw [e1] at q ⊢
    exact ite_ff (q _ _ rfl (keeps_trans k1 k2))
theorem re_ne {a b : Expr} {pos : Pos} {i j : Int} (ha : RE P w env h0 D a (.int i)) (hb : RE P w env h0 D b (.int j)) (h1 : behindInMarks .NotEq b = false := by first | exact nobehind _ (by decide) (by decide) | rfl) : RE P w env h0 D (.Compare a [.NotEq] [b] pos) (.bl (!decide (i = j))) := by
  intro A E s Q hd k q
  refine wpAny_Compare1 (ha A E s _ hd k fun u s1 r1 k1 => hb A E s1 _ hd (keeps_up k k1) fun u2 s2 r2 k2 => ?_) h1
  obtain ⟨t, rfl⟩ := r1
  obtain ⟨t2, rfl⟩ := r2
  refine ne_int ?_
  have e : (i != j) = !decide (i = j) := by
    by_cases h : i = j <;> simp [h]
  rw [e]
  exact q _ _ rfl (keeps_trans k1 k2)
theorem rt_val {e : Expr} {b : Bool} (h : RE P w env h0 D e (.bl b)) (he : ∀ whole, isTrue e env whole = (do let v ← whole; standAt e.pos; holding [v] (truthy v)) := by intro _; rfl) : RT P w env h0 D e b := by
  intro A E s Q hd k q
  refine isTrue_plain (h A E s _ hd k fun u s1 r1 k1 => ?_) (he _)
  cases r1
  exact wpAny_truthy_bool (q _ k1)
theorem rt_not {e : Expr} {pos : Pos} {b : Bool} (h : RT P w env h0 D e b) : RT P w env h0 D (.UnaryOp .Not e pos) (!b) := fun A E s Q hd k q => isTrue_not (h A E s (fun c s' => Q (!c) s') hd k q)
theorem rt_ne {a b : Expr} {pos : Pos} {i j : Int} (ha : RE P w env h0 D a (.int i)) (hb : RE P w env h0 D b (.int j)) (h1 : behindInMarks .NotEq b = false := by first | exact nobehind _ (by decide) (by decide) | rfl) : RT P w env h0 D (.Compare a [.NotEq] [b] pos) (!decide (i = j)) := by
  intro A E s Q hd k q
  refine wpAny_isTrue_Compare1 (ha A E s _ hd k fun u s1 r1 k1 => hb A E s1 _ hd (keeps_up k k1) fun u2 s2 r2 k2 => ?_) h1
  obtain ⟨t, rfl⟩ := r1
  obtain ⟨t2, rfl⟩ := r2
  refine ne_int (wpAny_truthy_bool ?_)
  have e : (i != j) = !decide (i = j) := by
    by_cases h : i = j <;> simp [h]
  rw [e]
  exact q _ (keeps_trans k1 k2)
theorem rw_or1 {a : Expr} {pos : Pos} {b : Bool} (h : RT P w env h0 D a b) : RTw P w env h0 D (.BoolOp .Or [a] pos) b := by
  intro wh A E s Q hd k q
  refine isTrue_or (h A E s _ hd k fun s1 k1 => ?_)
  cases b with
  | false => exact isTrue_or_nil (q s1 k1)
  | true => exact q s1 k1
theorem rw_orT {a b : Expr} {rest : List Expr} {pos : Pos} (h : RT P w env h0 D a true) : RTw P w env h0 D (.BoolOp .Or (a :: b :: rest) pos) true := fun wh A E s Q hd k q => isTrue_or (h A E s _ hd k fun s1 k1 => q s1 k1)
theorem rw_orF {a b : Expr} {rest : List Expr} {pos : Pos} {c : Bool} (h : RT P w env h0 D a false) (hb : RTw P w env h0 D (.BoolOp .Or (b :: rest) pos) c) : RTw P w env h0 D (.BoolOp .Or (a :: b :: rest) pos) c := fun wh A E s Q hd k q =>
  isTrue_or (h A E s _ hd k fun s1 k1 => hb wh A E s1 Q hd (keeps_up k k1) fun s2 k2 => q s2 (keeps_trans k1 k2))
theorem RTw.rt {e : Expr} {b : Bool} (h : RTw P w env h0 D e b) : RT P w env h0 D e b := h _
theorem rs_ret {e : Expr} {pos : Pos} {v : V} {rest : List Stmt} (h : RE P w env h0 D e v) : RSs P w env h0 D (.Return (some e) pos :: rest) v := fun A E s Q hd k q =>
  wpAny_execs_cons (wpAny_Return_some (h A E s _ hd k fun u s1 r1 k1 => q u s1 r1 k1))
theorem rs_ifT {c : Expr} {a b rest : List Stmt} {pos : Pos} {v : V} (hc : RT P w env h0 D c true) (h : RSs P w env h0 D a v) : RSs P w env h0 D (.If c a b pos :: rest) v := fun A E s Q hd k q =>
  wpAny_execs_cons (wpAny_If (hc A E s _ hd k fun s1 k1 => h A E s1 _ hd (keeps_up k k1) fun u s2 r2 k2 => q u s2 r2 (keeps_trans k1 k2)))
theorem rs_ifF {c : Expr} {a rest : List Stmt} {pos : Pos} {v : V} (hc : RT P w env h0 D c false) (h : RSs P w env h0 D rest v) : RSs P w env h0 D (.If c a [] pos :: rest) v := fun A E s Q hd k q =>
  wpAny_execs_cons (wpAny_If (hc A E s _ hd k fun s1 k1 => wpAny_execs_nil (h A E s1 Q hd (keeps_up k k1) fun u s2 r2 k2 => q u s2 r2 (keeps_trans k1 k2))))
/-! built-ins -/
theorem rf_isi {x : V} {n : String} {t : Value} {b : Bool} {Pr : Value → Prop} (gd : Gd K mg h0) (hu : ∀ u, RelV x u → ∃ HP : Heap → Prop, PySem.W.KitX K u t HP ∧ (∀ s : Shared, Kp h0 s → HP s.heap) ∧ u ≠ .builtin "__main__.__loader__#opaque") (e : PySem.W.kitOne K t (.type n) = some b) :
    RF P w h0 D (.builtin "isinstance") [x, .ty n] (.bl b) := by
  intro A E s us Q hd k r q
  obtain ⟨u1, u2, rfl, r1, r2⟩ := vals2 r
  cases (show u2 = Value.type n from r2)
  obtain ⟨HP, Z, p, hx⟩ := hu u1 r1
  exact PySem.W.kia_one Z (gd.kin.keeps k) (p s k) e hx fun tk => q _ _ rfl (GxR.keeps_tok s tk)
theorem isi_int {i : Int} : ∀ u, RelV (.int i) u → ∃ HP : Heap → Prop, PySem.W.KitX K u (.type "int") HP ∧ (∀ s : Shared, Kp h0 s → HP s.heap) ∧ u ≠ .builtin "__main__.__loader__#opaque" := fun u r => by
  obtain ⟨t, rfl⟩ := r
  exact ⟨_, PySem.W.kitx_int, fun _ _ => trivial, fun z => nomatch z⟩
theorem isi_tup {a : Addr} {xs : List Value} (h : IsTup h0 a xs.toArray) : ∀ u, RelV (.ref a) u → ∃ HP : Heap → Prop, PySem.W.KitX K u (.type "tuple") HP ∧ (∀ s : Shared, Kp h0 s → HP s.heap) ∧ u ≠ .builtin "__main__.__loader__#opaque" := fun u r => by
  cases r
  obtain ⟨o, h1, h2, _⟩ := h
  exact ⟨_, PySem.W.kitx_tuple, fun s k => ⟨o, k _ _ h1, h2⟩, fun z => nomatch z⟩
theorem istup_keeps {a : Addr} {its : Array Value} (h : IsTup h0 a its) {s : Shared} (k : Kp h0 s) : IsTup s.heap a its := by
  obtain ⟨o, h1, h2, h3⟩ := h
  exact ⟨o, k _ _ h1, h2, h3⟩
theorem rf_len {a : Addr} {xs : List Value} (h : IsTup h0 a xs.toArray) (hz : xs.length ≤ sizeLine) : RF P w h0 D (.builtin "len") [.ref a] (.int xs.length) := by
  intro A E s us Q hd k r q
  obtain ⟨u, rfl, rx⟩ := vals1 r
  cases rx
  have hn := line63
  exact len_tuple (istup_keeps h k) (by simp only [List.size_toArray]; omega) (q _ _ ⟨s.toks + 1, by rw [List.size_toArray]⟩ (GxR.keeps_tok s _))
theorem re_ix {e : Expr} {i : Nat} {n : Nat} {p2 pos : Pos} {a : Addr} {xs : List Value} {v : V} {u : Value} (h : IsTup h0 a xs.toArray) (hz : xs.length ≤ sizeLine) (he : RE P w env h0 D e (.ref a)) (hi : xs[i]? = some u) (r : RelV v u) :
    RE P w env h0 D (.Subscript e (.Constant (.int i) n p2) pos) v := by
  intro A E s Q hd k q
  refine Subscript_ (he A E s _ hd k fun u1 s1 r1 k1 => ?_)
  cases r1
  refine wpAny_Constant_int ?_
  have pl := istup_keeps (s := s1) h (keeps_up k k1)
  have hn := line63
  have hlt : i < xs.length := (List.getElem?_eq_some_iff.mp hi).1
  have pl2 : IsTup ({ s1 with toks := s1.toks + 1 } : Shared).heap a xs.toArray := pl
  exact subscriptTail_builtinR (x := u) (s := { s1 with toks := s1.toks + 1 }) pl2.typeIs slot_tuple_getitem.lookup
    (getItem_tuple (j := i) (Q := fun r s' => r = u ∧ Q r s') pl2 (by omega) (by omega) (by rw [List.size_toArray]; unfold seqIndex?; simp; omega) (by simpa using hi) ⟨rfl, q _ _ r (keeps_trans k1 (GxR.keeps_tok s1 _))⟩) (by rfl)
end
end G
set_option Elab.async false
set_option linter.all false
set_option maxRecDepth 100000
set_option maxHeartbeats 1000000
namespace G
open PySem PySem.Spec PyProof.Rows L2
section
variable {P : Program} {w : World} {K : PySem.W.Frag} {mg : Str → Option Value} {h0 : Heap} {D : Nat}
theorem rf_def {x qual : Str} {st : Stmt} {f : Addr} {fd : FuncData} {N ps : List Str} {vs : List V} {v : V} (F : Fun K x qual st f fd) (S : FnScope N ps (defScope st)) (b : Binds K fd ps []) (gd : Gd K mg h0) (lim : h0.NoLimit)
    (hloc : ∀ x ∈ ps, (defScope st).names.lookup x = some .local) (hlen : vs.length = ps.length) (hD : D < recursionLimit)
    (body : ∀ (env : Env) (h1 : Heap) (m : Str → Option Value) (us : List Value), Ge env → env.scope = defScope st → (∀ b o, h0.get? b = some o → h1.get? b = some o) → h1.Ns env.locals m → Vals vs us →
      (∀ (i : Nat) (x : Str) (u : Value), ps[i]? = some x → us[i]? = some u → m x = some u ∧ env.kindOf x = some .local) → RSs P w env h1 (D + 1) (defBody st) v) : RF P w h0 D (.ref f) vs v := by
  obtain ⟨oc, od, kV, doc, pm, an, cdv, ct, osl, rfl, lk, hcd⟩ := F.ex
  intro A E s us Q hd k r q
  have KX : K.In s.heap := gd.kin.keeps k
  have hl : us.length = ps.length := by rw [← r.length]; exact hlen
  have hb := b s us KX (by rw [List.append_nil]; exact hl)
  rw [List.append_nil] at hb
  have hkind : ∀ y ∈ ps.zip us, (defScope st).names.lookup y.1 = some .local ∨ ((defScope st).names.lookup y.1 = some .cell ∧ ((cellsFrom (s.heap.objs.size + 1) (defScope st).names []).lookup y.1).isSome = true) := fun ⟨n, v⟩ hy => .inl (hloc n (List.of_mem_zip hy).1)
  have ndP : ps.Nodup := by rw [← S.pre]; exact S.nd.sublist (List.take_sublist _ _)
  refine wpAny_call (codeAny_call_function (by omega) (KX _ _ lk) rfl S.co S.gen rfl (PySem.W.codeRec_of KX hcd) (hb _ _ _ _ ?_))
  refine wpAny_newFunctionEnv_cells S.kind hkind fun env he s1 x => ?_
  obtain ⟨h1, tk, e1, k1⟩ := x.done
  have ks : Keeps s s1 := ⟨h1, tk, e1, k1⟩
  have kk : Kp h0 s1 := keeps_up k ks
  refine ⟨lim.keeps kk, codeAny_func ?_⟩
  have esc : env.scope = defScope st := by rw [he]; rfl
  refine body env s1.heap _ us ⟨by rw [esc]; exact S.kind, by rw [he]; rfl, by rw [he]; rfl⟩ esc kk x.toInCall.ns r (fun i y u hi hu => ?_) _ _ s1 _ (by show A.depth + 1 ≤ D + 1; omega) (fun _ _ z => z) fun u s2 r2 k2 => q u s2 r2 (keeps_trans ks k2)
  have hk : env.kindOf y = some .local := by
    show env.scope.names.lookup y = _
    rw [esc]
    exact hloc y (List.mem_of_getElem? hi)
  exact ⟨bindL_get ndP hi hu hk, hk⟩
/-- is_in of an int -/
theorem rf_isIn {f : Addr} {fd : FuncData} (F : Fun K "is_in" "is_in" sIsIn f fd) (b : Binds K fd ["value", "least", "most"] []) (gd : Gd K mg h0) (lim : h0.NoLimit) (hD : D < recursionLimit)
    (mi : mg "isinstance" = none) (mI : mg "int" = none) (mb : mg "bool" = none) (i lo hi : Int) :
    RF P w h0 D (.ref f) [.int i, .int lo, .int hi] (.bl (decide (lo ≤ i) && decide (i ≤ hi))) := by
  refine rf_def F scIsIn b gd lim (by decide +kernel) rfl hD fun env h1 m us ge esc k ns r nm => ?_
  have gd1 : Gd K mg h1 := ⟨gd.kin.keeps k, gd.ns.keeps k, let ⟨mb, q1, q2⟩ := gd.bl; ⟨mb, q1.keeps k, q2⟩⟩
  obtain ⟨u0, e0, r0⟩ := r.get (i := 0) rfl
  obtain ⟨u1, e1, r1⟩ := r.get (i := 1) rfl
  obtain ⟨u2, e2, r2⟩ := r.get (i := 2) rfl
  obtain ⟨m0, k0⟩ := nm 0 "value" u0 rfl e0
  obtain ⟨m1, k1⟩ := nm 1 "least" u1 rfl e1
  obtain ⟨m2, k2⟩ := nm 2 "most" u2 rfl e2
  have kg : ∀ x : Str, (defScope sIsIn).names.lookup x = some .globalImplicit → env.kindOf x = some .globalImplicit := fun x h => by
    show env.scope.names.lookup x = _
    rw [esc]; exact h
  have v0 : ∀ pos, RE P w env h1 (D + 1) (.Name "value" pos) (.int i) := fun pos => re_local ge k0 ns m0 r0
  refine rs_ret (re_andT (b := _) (re_callB (vs := [.int i, .ty "int"]) gd1 ge (kg _ (by decide +kernel)) mi (by decide +kernel) (rf_isi (t := .type "int") (Pr := fun _ => True) gd1 isi_int (kit_ty (by decide +kernel)))
    (ra_cons (v0 _) (ra_cons (re_blt gd1 ge (kg _ (by decide +kernel)) mI PyProof.Rows.boot_int rfl) ra_nil))) ?_)
  refine re_andT (re_not (b := false) (re_callB (vs := [.int i, .ty "bool"]) gd1 ge (kg _ (by decide +kernel)) mi (by decide +kernel) (rf_isi (t := .type "int") (Pr := fun _ => True) gd1 isi_int (kit_ty (by decide +kernel)))
    (ra_cons (v0 _) (ra_cons (re_blt gd1 ge (kg _ (by decide +kernel)) mb (by decide +kernel) rfl) ra_nil)))) ?_
  exact re_one (re_chain (re_local ge k1 ns m1 r1) (v0 _) (re_local ge k2 ns m2 r2))
/-- is_step of a pair of ints -/
theorem rf_isStep {f fI : Addr} {fd fdI : FuncData} (F : Fun K "is_step" "is_step" sIsStep f fd) (b : Binds K fd ["size", "value"] []) (FI : Fun K "is_in" "is_in" sIsIn fI fdI) (bI : Binds K fdI ["value", "least", "most"] []) (gd : Gd K mg h0) (lim : h0.NoLimit) (hD : D + 1 < recursionLimit)
    (gI : mg "is_in" = some (.ref fI)) (mi : mg "isinstance" = none) (mI : mg "int" = none) (mb : mg "bool" = none) (mt : mg "tuple" = none) (ml : mg "len" = none) (n : Nat) (s : Sx) {a : Addr} {xs : List Value} (ht : IsTup h0 a xs.toArray) (hv : Vals [.int s.1, .int s.2] xs) :
    RF P w h0 D (.ref f) [.int n, .ref a] (.bl (stepOk n s)) := by
  refine rf_def F scIsStep b gd lim (by decide +kernel) rfl (by omega) fun env h1 m us ge esc k ns r nm => ?_
  have gd1 : Gd K mg h1 := ⟨gd.kin.keeps k, gd.ns.keeps k, let ⟨mb, q1, q2⟩ := gd.bl; ⟨mb, q1.keeps k, q2⟩⟩
  have lim1 : h1.NoLimit := lim.keeps k
  obtain ⟨u0, e0, r0⟩ := r.get (i := 0) rfl
  obtain ⟨u1, e1, r1⟩ := r.get (i := 1) rfl
  obtain ⟨m0, k0⟩ := nm 0 "size" u0 rfl e0
  obtain ⟨m1, k1⟩ := nm 1 "value" u1 rfl e1
  have kg : ∀ x : Str, (defScope sIsStep).names.lookup x = some .globalImplicit → env.kindOf x = some .globalImplicit := fun x h => by
    show env.scope.names.lookup x = _
    rw [esc]; exact h
  have ht1 : IsTup h1 a xs.toArray := let ⟨o, q1, q2, q3⟩ := ht; ⟨o, k _ _ q1, q2, q3⟩
  have hl : xs.length = 2 := hv.length.symm
  have hz : xs.length ≤ sizeLine := by rw [hl]; decide
  obtain ⟨w0, i0, s0⟩ := hv.get (i := 0) rfl
  obtain ⟨w1, i1, s1⟩ := hv.get (i := 1) rfl
  have v0 : ∀ pos, RE P w env h1 (D + 1) (.Name "size" pos) (.int n) := fun pos => re_local ge k0 ns m0 r0
  have v1 : ∀ pos, RE P w env h1 (D + 1) (.Name "value" pos) (.ref a) := fun pos => re_local ge k1 ns m1 r1
  have x0 : ∀ p1 j p2 pos, RE P w env h1 (D + 1) (.Subscript (.Name "value" p1) (.Constant (.int 0) j p2) pos) (.int s.1) := fun p1 j p2 pos => re_ix (i := 0) ht1 hz (v1 _) i0 s0
  have x1 : ∀ p1 j p2 pos, RE P w env h1 (D + 1) (.Subscript (.Name "value" p1) (.Constant (.int 1) j p2) pos) (.int s.2) := fun p1 j p2 pos => re_ix (i := 1) ht1 hz (v1 _) i1 s1
  have isI : ∀ (i lo hi : Int), RF P w h1 (D + 1) (.ref fI) [.int i, .int lo, .int hi] (.bl (decide (lo ≤ i) && decide (i ≤ hi))) := fun i lo hi => rf_isIn FI bI gd1 lim1 hD mi mI mb i lo hi
  have xl : ∀ p q pos, RE P w env h1 (D + 1) (.Call (.Name "len" p) [.Name "value" q] [] pos) (.int 2) := fun p q pos => by
    have z := re_callB (vs := [.ref a]) (p := p) (pos := pos) gd1 ge (kg "len" (by decide +kernel)) ml (by decide +kernel) (rf_len (D := D + 1) (w := w) (P := P) ht1 hz) (ra_cons (v1 q) ra_nil)
    rw [hl] at z
    exact z
  have e2 : (!decide ((2 : Int) = 2)) = false := by decide
  have tests : RTw P w env h1 (D + 1) (.BoolOp .Or [.UnaryOp .Not (.Call (.Name "isinstance" ⟨35, 11, 35, 21⟩) [.Name "value" ⟨35, 22, 35, 27⟩, .Name "tuple" ⟨35, 29, 35, 34⟩] [] ⟨35, 11, 35, 35⟩) ⟨35, 7, 35, 35⟩,
      .Compare (.Call (.Name "len" ⟨35, 39, 35, 42⟩) [.Name "value" ⟨35, 43, 35, 48⟩] [] ⟨35, 39, 35, 49⟩) [.NotEq] [.Constant (.int 2) 0 ⟨35, 53, 35, 54⟩] ⟨35, 39, 35, 54⟩,
      .UnaryOp .Not (.Call (.Name "is_in" ⟨35, 63, 35, 68⟩) [.Subscript (.Name "value" ⟨35, 69, 35, 74⟩) (.Constant (.int 0) 0 ⟨35, 75, 35, 76⟩) ⟨35, 69, 35, 77⟩, .Constant (.int 1) 0 ⟨35, 79, 35, 80⟩, .Name "size" ⟨35, 82, 35, 86⟩] [] ⟨35, 63, 35, 87⟩) ⟨35, 59, 35, 87⟩] ⟨35, 7, 35, 88⟩)
      (!(decide (1 ≤ s.1) && decide (s.1 ≤ (n : Int)))) :=
    rw_orF (rt_not (b := true) (rt_val (re_callB (vs := [.ref a, .ty "tuple"]) gd1 ge (kg _ (by decide +kernel)) mi (by decide +kernel) (rf_isi (t := .type "tuple") (Pr := fun _ => True) gd1 (isi_tup ht1) (kit_ty (by decide +kernel)))
      (ra_cons (v1 _) (ra_cons (re_blt gd1 ge (kg _ (by decide +kernel)) mt (by decide +kernel) rfl) ra_nil)))))
    (rw_orF (e2 ▸ rt_ne (xl _ _ _) re_int) (rw_or1 (rt_not (rt_val (re_call gd1 ge (kg _ (by decide +kernel)) gI FI.kp (isI s.1 1 n) (ra_cons (x0 _ _ _ _) (ra_cons re_int (ra_cons (v0 _) ra_nil))))))))
  have second : ∀ b : Bool, b = (decide (0 ≤ s.2) && decide (s.2 ≤ (n : Int))) → RE P w env h1 (D + 1) (.Call (.Name "is_in" ⟨37, 11, 37, 16⟩) [.Subscript (.Name "value" ⟨37, 17, 37, 22⟩) (.Constant (.int 1) 0 ⟨37, 23, 37, 24⟩) ⟨37, 17, 37, 25⟩, .Constant (.int 0) 0 ⟨37, 27, 37, 28⟩, .Name "size" ⟨37, 30, 37, 34⟩] [] ⟨37, 11, 37, 35⟩) (.bl b) := fun b e => by
    rw [e]
    exact re_call gd1 ge (kg _ (by decide +kernel)) gI FI.kp (isI s.2 0 n) (ra_cons (x1 _ _ _ _) (ra_cons re_int (ra_cons (v0 _) ra_nil)))
  unfold stepOk
  cases q1 : (decide (1 ≤ s.1) && decide (s.1 ≤ (n : Int))) with
  | false =>
    rw [q1] at tests
    exact rs_ifT tests.rt (rs_ret re_bl)
  | true =>
    rw [q1] at tests
    refine rs_ifF tests.rt (rs_ret ?_)
    cases q2 : (decide (0 ≤ s.2) && decide (s.2 ≤ (n : Int))) with
    | false => exact re_andF (second false q2.symm)
    | true => exact re_andT (second true q2.symm) (re_one (re_ne (x0 _ _ _ _) (x1 _ _ _ _)))
end
end G
set_option Elab.async false
set_option linter.all false
set_option maxRecDepth 100000
set_option maxHeartbeats 2000000
namespace G
open PySem PySem.Spec PyProof.Rows L2 GxR
/-- the element at the i-th turn is the truth value pb i -/
def EltOk (X : Cx) (P : Addr) (σ : L2.St) (H1 : Hp) (scope : Scope) (x : Str) (elt : Expr) (xs : List V) (pb : Nat → Bool) : Prop :=
  ∀ (pins : List (Addr × Obj)) (s1 : Shared), Inv X pins σ H1 s1 → ∀ (cenv : Env) (h1 : Heap) (m : Str → Option Value) (i : Nat) (v : V) (u : Value), cenv.scope = scope → cenv.globals = mainGlobals → cenv.builtins = builtinsNs →
    cenv.cells = cloFrom X.env.cells scope.names [] → (∀ b o, b ≠ P → s1.heap.get? b = some o → h1.get? b = some o) → h1.Ns cenv.locals m → m x = some u → xs[i]? = some v → RelV v u → RE X.prog X.w cenv h1 (X.A.depth + 1) elt (.bl (pb i))
def ReadyT (X : Cx) (pins : List (Addr × Obj)) (σ : L2.St) (H1 : Hp) (P : Addr) (n : Nat) (pb : Nat → Bool) (g : Addr) (s5 : Shared) : Prop :=
  ∃ (fp wr : List Addr) (G : Array GenState → Array GenState → Prop) (F : Nat → Value → Prop) (St : Nat → Shared → Prop),
    WalksS X.prog X.w X.A.in1 g fp wr G n F St ∧ St 0 s5 ∧
    TruthOf X.prog X.w X.A.in1 F pb ∧
    ∀ s', Moved wr G s5 s' → ∃ H2, Tabbed P H1 H2 ∧ Inv X pins σ H2 s'
section
variable {X : Cx} {pins : List (Addr × Obj)} {σ : L2.St} {H : Hp} {s : Shared}
theorem gen_tup {c P : Addr} {elt iter : Expr} {x : Str} {px gpos : Pos} {scope : Scope} {te : TE} {k : Nat} {Q' : Value → Shared → Prop} {R : List V → (Nat → Bool) → Hp → Prop}
    (hr : Room k X.A) (TB : TabB X.base X.mg c P) (hcode : X.env.code = .ref c) (S : GenS X.env scope x) (hi : PE X iter te)
    (hs : ∀ v, genFold iter X.env v = pure v) (I : Inv X pins σ H s) (h : te σ H fun v H1 => ∃ a xs pb, v = .ref a ∧ H1 a = some (.tup xs) ∧ TabG H1 P ∧ EltOk X P σ H1 scope x elt xs pb ∧ R xs pb H1)
    (hQ : ∀ xs pb H1 g s5, R xs pb H1 → ReadyT X pins σ H1 P xs.length pb g s5 → Q' (.ref g) s5) :
    wpAny (model X.prog X.w) X.A (eval (.GeneratorExp elt [⟨.Name x px, iter, [], 0⟩] scope gpos) X.env) Q' X.xe s := by
  refine wpAny_GeneratorExp_walksQD hr.hd S.co (closure_ok S.free) S.cell S.dot S.loc S.kind (by have := hr.dp; omega) ?_ hs
  refine thn (hi.run pins s σ H _ I h) fun xv s1 ⟨v, H1, I1, r1, q1⟩ => ?_
  obtain ⟨a, xs, pb, rfl, hxs, ⟨ps, hP, ht⟩, hel, q1⟩ := q1
  cases r1
  obtain ⟨its, rv, htup, hz⟩ := I1.tuple (SqT.of hxs)
  have hlen := rv.length
  refine wpAny_pyIter_tuple htup ?_
  generalize ho : ({ cls := .type "tuple_iterator", data := .fields #[.ref a, .int 0 0] } : Obj) = o
  have hPs : s1.heap.get? P = some { cls := .none, data := .fields ps } := I1.hok P _ hP
  have hPlt : P < s1.heap.objs.size := Heap.lt_size hPs
  have hP2 : (s1.heap.push o).get? P = some { cls := .none, data := .fields ps } := Heap.get?_push_of_some _ hPs
  have cd : PySem.W.CodeHd (s1.heap.push o) c P := TB.code.keeps fun b u e => Heap.get?_push_of_some _ (I1.bk b u e)
  have lim2 : (s1.heap.push o).NoLimit := I1.nolimit.push o
  have halt : a < s1.heap.objs.size := htup.lt
  have hane : a ≠ P := fun e => by rw [e, hP] at hxs; cases hxs
  have cont : ∀ (code : Value) (h3 : Heap) (tk : Nat) (ps' : Array Value), Heap.ExtBut P (s1.heap.push o) h3 → (s1.heap.push o).objs.size ≤ h3.objs.size → h3.get? P = some { cls := .none, data := .fields ps' } → (∃ more, ps' = ps ++ more) → TriplesOk ps'.toList →
      wpAny (model X.prog X.w) X.A (builtinsFor X.env.globals X.env.builtins) (fun bi s₄ =>
        ∃ Ia fp wr n₀ Pf St₀ pz F, Value.ref s1.heap.objs.size = .ref Ia ∧ (∀ A' : Around, A'.handled = none → Walks X.prog X.w A' Ia fp wr n₀ Pf St₀) ∧ St₀ 0 s₄.heap ∧ (∀ b ∈ fp, b < s₄.heap.objs.size) ∧ s₄.heap.NoLimit ∧ cStatics ∉ wr ∧
          (∀ href : Heap, (∀ b o, s₄.heap.get? b = some o → href.get? b = some o) →
            QuietGenD X.prog X.w (genEnv scope (cloFrom X.env.cells scope.names []) s₄.heap.objs.size code bi X.env) x [] elt (List.range s₄.heap.objs.size) wr Pf pz F href (X.A.depth + 1) (X.A.units + 8)) ∧
          (∀ a h₅ tk gs, gs.bare = true → s₄.heap.objs.size < a → h₅.objs.size = a + 1 → (∀ b o, s₄.heap.get? b = some o → h₅.get? b = some o) →
            WalksS X.prog X.w X.A.in4 a (a :: s₄.heap.objs.size :: List.range s₄.heap.objs.size) (s₄.heap.objs.size :: wr) (GenOnlyQ s₄.gens.size) (passing pz n₀ 0).length
              (fun j y => ∃ i, (passing pz n₀ 0)[j]? = some i ∧ F i y) (GenAt X.prog X.w X.A.in4 a s₄.gens.size s₄.heap.objs.size (List.range s₄.heap.objs.size) wr pz n₀ F) →
            GenAt X.prog X.w X.A.in4 a s₄.gens.size s₄.heap.objs.size (List.range s₄.heap.objs.size) wr pz n₀ F 0 { s₄ with gens := s₄.gens.push gs, toks := tk, heap := h₅ } →
            Q' (.ref a) { s₄ with gens := s₄.gens.push gs, toks := tk, heap := h₅ })) X.xe { s1 with heap := h3, toks := tk } := by
    intro code h3 tk ps' hx hsz hP3 hmore ht3
    obtain ⟨bm, ob, e1, e2, e3, e4, e5, e6, e7, e8⟩ := TB.bm
    have hcP : cStatics ≠ P := fun e => by
      obtain ⟨_, hns, _⟩ := I1.nolimit
      obtain ⟨o', es, ep, ho, hd, _⟩ := hns
      rw [e, hPs] at ho
      cases ho
      cases hd
    have hcl : cStatics < s1.heap.objs.size := let ⟨_, hns, _⟩ := I1.nolimit; hns.lt
    have sz2 : (s1.heap.push o).objs.size = s1.heap.objs.size + 1 := Heap.size_push ..
    have keep3 : ∀ b u, b ≠ P → s1.heap.get? b = some u → h3.get? b = some u := fun b u hb e => hx b u hb (Heap.get?_push_of_some _ e)
    refine wpAny_builtinsFor (m := X.mg) (by rw [I1.ok.glob]; exact ((I1.mod.glob.keeps I1.bk).push o).extBut hx TB.gP) e1 e2 (keep3 _ _ e4 (I1.bk _ _ e5)) e6 e7 e8 ?_
    refine ⟨s1.heap.objs.size, [s1.heap.objs.size, a], [s1.heap.objs.size], its.toArray.size, (fun i v => its.toArray[i]? = some v), (fun i h => h.IsTupleIter s1.heap.objs.size a i ∧ h.IsTuple a its.toArray), (fun _ => true), (fun i y => i < xs.length ∧ y = .bool (pb i)), rfl, fun A' hA => Walks.tuple hA _ _ (Nat.ne_of_lt halt) _, ?_, ?_, lim2.extBut hx hcP, ?_, ?_, ?_⟩
    · refine ⟨⟨_, hx _ _ (fun z => Nat.ne_of_lt hPlt z.symm) (Heap.get?_push_size _ (by rw [← ho] <;> rfl)), by rw [← ho] <;> rfl, by rw [← ho] <;> rfl⟩, ?_⟩
      obtain ⟨o1, z1, z2, z3⟩ := htup
      exact ⟨o1, keep3 _ _ hane z1, z2, z3⟩
    · intro b hb
      have hs3 : s1.heap.objs.size < h3.objs.size := by omega
      rcases List.mem_cons.mp hb with z | z
      · rw [z]; exact hs3
      · rcases List.mem_cons.mp z with z | z
        · rw [z]; exact Nat.lt_trans halt hs3
        · cases z
    · intro z
      rcases List.mem_cons.mp z with z | z
      · exact Nat.ne_of_lt hcl z
      · cases z
    · intro href hhref
      refine ⟨fun A' E' i v s₂ m₂ hA _ _ hPv hn hm hk => ?_, fun A' E' i v s₂ m₂ hA hdp _ hPv hp hn hm hk => ?_⟩
      · simp only [List.forIn_nil]
        exact wpAny_pure ⟨rfl, keeps_refl _⟩
      · have hij : i < its.toArray.size ∧ its.toArray[i]? = some v := ⟨(Array.getElem?_eq_some_iff.mp hPv).1, hPv⟩
        have hix : i < xs.length := by rw [hlen]; simpa using hij.1
        obtain ⟨u, eu, ru⟩ := rv.get (List.getElem?_eq_getElem hix)
        have euv : u = v := by
          have : its[i]? = some v := by simpa using hPv
          rw [eu] at this
          exact Option.some.inj this
        subst euv
        refine hel pins s1 I1 (genEnv scope (cloFrom X.env.cells scope.names []) h3.objs.size code builtinsNs X.env) s₂.heap m₂ i xs[i] u rfl I1.ok.glob rfl rfl (fun b o2 hb e => ?_) hn hm (List.getElem?_eq_getElem hix) ru A' E' s₂ _ hdp (fun _ _ z => z) fun y s3 ry k3 => ⟨⟨hix, ry⟩, k3⟩
        have hlt := Heap.lt_size e
        refine hk b (List.mem_range.mpr (by show b < h3.objs.size; have : s1.heap.objs.size < h3.objs.size := by omega
                                            exact Nat.lt_trans hlt this)) (fun z => ?_) o2 (hhref _ _ (keep3 b o2 hb e))
        rcases List.mem_cons.mp z with z | z
        · exact Nat.ne_of_lt hlt z
        · cases z
    · intro g h5 tk5 gs hgb hag hsz5 hk5 W5 hat
      simp only [GxR.passing_true, List.length_range] at W5
      have en : xs.length = its.toArray.size := by rw [List.size_toArray, hlen]
      refine hQ xs pb H1 g _ q1 ?_
      rw [en]
      refine ⟨_, _, _, _, _, W5.in4_1, hat, ?_, fun s' hm => ?_⟩
      · intro j y sj Qj Ej hy hQj
        obtain ⟨i, hij, hi2, ey⟩ := hy
        obtain ⟨hj, ej⟩ := List.getElem?_eq_some_iff.mp hij
        rw [List.getElem_range] at ej
        subst ej
        rw [ey]
        exact wpAny_truthy_bool hQj
      · obtain ⟨more, em⟩ := hmore
        have nwr : ∀ b u, s1.heap.get? b = some u → b ∉ h3.objs.size :: [s1.heap.objs.size] := fun b u e hb => by
          have hl := Heap.lt_size e
          rcases List.mem_cons.mp hb with z | z
          · rw [z] at hl
            have h9 : (h3.objs.size : Nat) < s1.heap.objs.size := hl
            omega
          · rcases List.mem_cons.mp z with z | z
            · rw [z] at hl
              exact Nat.lt_irrefl _ hl
            · cases z
        have J := inv_tab (more := more) (h' := s'.heap) (g' := s'.gens) (d' := s'.drawn) (t' := s'.toks) I1 hP (fun b u hb e => hm.heap b u (nwr b u e) (hk5 b u (keep3 b u hb e)))
          (by rw [← em]; exact hm.heap P _ (nwr P _ hPs) (hk5 P _ hP3)) (AllBare.movedS (I1.bare.push hgb) hm)
        rw [sh_eta s1 s' hm.os] at J
        refine ⟨upd H1 P (.tbl (ps ++ more)), ⟨⟨ps ++ more, upd_same, by rw [← em]; exact ht3⟩, fun b hb => upd_ne hb⟩, J⟩
  refine ⟨lim2, ?_⟩
  cases hf : codeAmong gpos ps.toList with
  | none =>
    refine wpAny_genexprCodeX hcode (cd.code hP2 ht) (cd.tab hP2) hf fun c' h' tk hx hge hlt hco' _ htab' _ => ?_
    obtain ⟨o1, vs, f1, tf, fl, tg, inF, tx, tt, op, _, _, _, _, _, _, _, _, _, htr, _⟩ := hco'
    exact cont _ h' tk _ hx (Nat.le_trans hge (Nat.le_of_lt hlt)) htab'.2 ⟨_, rfl⟩ htr
  | some cv =>
    refine wpAny_genexprCode_hit hcode (cd.code hP2 ht) hf ?_
    exact cont cv (s1.heap.push o) s1.toks ps (Heap.ExtBut.refl _ _) (Nat.le_refl _) hP2 ⟨#[], by simp⟩ ht
/-- all(test for x in e), e a tuple; behind it the def's table may have grown -/
def tAllT (X : Cx) (P : Addr) (scope : Scope) (x : Str) (elt : Expr) (te : TE) : TE := fun σ H Q => te σ H fun v H1 => ∃ a xs pb, v = .ref a ∧ H1 a = some (.tup xs) ∧ TabG H1 P ∧ EltOk X P σ H1 scope x elt xs pb ∧ ∀ H2, Tabbed P H1 H2 → Q (.bl ((List.range xs.length).all pb)) H2
theorem pe_allT {c P : Addr} {elt iter : Expr} {x : Str} {px p pos gpos : Pos} {scope : Scope} {te : TE} {k : Nat}
    (hr : Room k X.A) (hg : Gl X "all") (hm : X.mg "all" = none) (TB : TabB X.base X.mg c P) (hcode : X.env.code = .ref c) (S : GenS X.env scope x) (hi : PE X iter te)
    (hs : ∀ v, genFold iter X.env v = pure v) (hb : bootBuiltins "all" = some (.builtin "all") := by decide +kernel)
    (he : starEach [.GeneratorExp elt [⟨.Name x px, iter, [], 0⟩] scope gpos] X.env = (false, eval (.GeneratorExp elt [⟨.Name x px, iter, [], 0⟩] scope gpos) X.env) :: starEach [] X.env := by rfl) :
    PE X (.Call (.Name "all" p) [.GeneratorExp elt [⟨.Name x px, iter, [], 0⟩] scope gpos] [] pos) (tAllT X P scope x elt te) := by
  refine ⟨fun pins s σ H Q I h => ?_⟩
  refine wpAny_Call_Name_kw (ld_blt I hg hm hb ?_)
  refine PyProof.Rows.callWith_builtin1 ?_ he (by rfl)
  rw [he]
  show wpAny _ _ (spliced ((false, eval (.GeneratorExp elt [⟨.Name x px, iter, [], 0⟩] scope gpos) X.env) :: backTo pos (starEach [] X.env))) _ _ s
  refine Calls.spliced_cons (gen_tup (R := fun xs pb H1 => ∀ H2, Tabbed P H1 H2 → Q (.bl ((List.range xs.length).all pb)) H2) hr TB hcode S hi hs I h fun xs pb H1 g s5 hR hG => ?_)
  obtain ⟨fp, wr, G, F, St, W, hst, htr, hI⟩ := hG
  refine Calls.spliced_nil ?_
  refine call_all_walkS (W.self 0 _ _ _ hst ⟨g, fp, wr, G, _, F, St, _, rfl, W, hst, htr, fun s' hmv => ?_⟩)
  obtain ⟨H2, hT, J⟩ := hI s' hmv
  exact ⟨.bl _, H2, J, rfl, hR H2 hT⟩
end
end G
set_option Elab.async false
set_option linter.all false
set_option maxRecDepth 100000
set_option maxHeartbeats 2000000
namespace G
open PySem PySem.Spec PyProof.Rows L2
open Sem (wp)
open AutoSeq1 (wpAny_loadPart')
theorem meets_enumerate_newT (l : Addr) (items : Array Value) (n : Nat) (dct : Option Addr) (sl : Array (Option Value)) :
    Meets (Builtin.«enumerate.__new__» ⟨[.type "enumerate", .ref l], []⟩) (fun _ R s => s.heap.get? l = some { cls := .type "tuple", dict := dct, data := .seq items n, slots := sl } ∧
      R (.ok (.ret (.ref (s.heap.push { cls := .type "tuple_iterator", data := .fields #[.ref l, .int 0 0] }).objs.size)))
        { s with heap := (s.heap.push { cls := .type "tuple_iterator", data := .fields #[.ref l, .int 0 0] }).push { cls := .type "enumerate", data := .fields #[.none, .bool false, .ref s.heap.objs.size, rawInt 0, .none, .none] } }) :=
  .of_wp fun prog w A R s h => by
    obtain ⟨hp, g, d, tk, os⟩ := s; obtain ⟨hl, h⟩ := h
    have hsub := sub_enumerate
    have hL : Heap.IsTuple (Shared.heap ⟨hp, g, d, tk, os⟩) l items := ⟨_, hl, rfl, n, rfl⟩
    wp_walk using wpAny_loadPart' hl
    refine wpAny_stack_any fun st => wpAny_pure ?_
    split
    · rename_i c _ _ _ _ _
      cases (c == Value.type "enumerate")
      · wp_walk using wpAny_loadPart' hl, wpAny_pyIter_tuple hL
        exact ⟨_, rfl, h⟩
      · wp_walk using wpAny_loadPart' hl, wpAny_pyIter_tuple hL
        exact ⟨_, rfl, h⟩
    · wp_walk using wpAny_loadPart' hl, wpAny_pyIter_tuple hL
      exact ⟨_, rfl, h⟩
theorem call_enumerate_tuple {prog : Program} {w : World} {A : Around} {E : Value → Shared → Prop} {s : Shared} {l : Addr} {items : Array Value} {Q : Value → Shared → Prop} (hL : s.heap.IsTuple l items)
    (h : ∀ h', IsEnum h' (s.heap.objs.size + 1) s.heap.objs.size 0 .none → h'.IsTupleIter s.heap.objs.size l 0 → h'.objs.size = s.heap.objs.size + 2 →
      (∀ b o, s.heap.get? b = some o → h'.get? b = some o) → Q (.ref (s.heap.objs.size + 1)) { s with heap := h' }) :
    wpAny (model prog w) A (call (.type "enumerate") [.ref l]) Q E s := by
  obtain ⟨⟨c, dct, dt, sl⟩, hl, hc, n, hd⟩ := hL
  replace hc : c = .type "tuple" := hc
  replace hd : dt = .seq items n := hd
  subst hc hd
  refine callType_new F.called_enumerate (by decide) (F.typeCall_enumerate_1 _) (F.newCall_enumerate_1 _) (fun obj => F.args_object_init_2 obj _) F.entry_enumerate_new
    (meets_enumerate_newT l items n dct sl) ⟨hl, ?_⟩
  have hz : (s.heap.push { cls := .type "tuple_iterator", data := .fields #[.ref l, .int 0 0] }).objs.size = s.heap.objs.size + 1 := Heap.size_push ..
  show _ ∧ _
  rw [hz]
  have he : IsEnum ((s.heap.push { cls := .type "tuple_iterator", data := .fields #[.ref l, .int 0 0] }).push
      { cls := .type "enumerate", data := .fields #[.none, .bool false, .ref s.heap.objs.size, rawInt 0, .none, .none] }) (s.heap.objs.size + 1) s.heap.objs.size 0 .none := by
    have := Heap.get?_push_size (s.heap.push { cls := .type "tuple_iterator", data := .fields #[.ref l, .int 0 0] })
      (o := { cls := .type "enumerate", data := .fields #[.none, .bool false, .ref s.heap.objs.size, rawInt 0, .none, .none] }) rfl
    rw [hz] at this; exact this
  refine ⟨⟨_, he, rfl⟩, h _ he ⟨_, Heap.get?_push_of_some _ (Heap.get?_push_size _ rfl), rfl, rfl⟩ (by rw [Heap.size_push, hz]) fun b o x => Heap.get?_push_of_some _ (Heap.get?_push_of_some _ x)⟩
/-- the tuple at a, each item in a new pair with its place -/
def IteT (K : PySem.W.Frag) (a : Addr) : It :=
  ⟨fun i H => ∃ (xs : List V) (x : V), SqT K H a xs ∧ xs[i]? = some x, fun i H v H' => ∃ T x, v = .ref T ∧ H T = none ∧ H' = upd H T (.tup [.int (i : Nat), x]) ∧ ∀ xs, SqT K H a xs → xs[i]? = some x, fun i H => ∃ xs : List V, SqT K H a xs ∧ xs.length = i⟩
theorem turn_enumT {P : Program} {w : World} {K : PySem.W.Frag} {elts : List Expr} {kk : Nat} {tpos : Pos} (a e it : Addr) :
    Turn P w K (.Tuple elts kk tpos) (IteT K a) [e, it] e (fun i h => (∃ old, IsEnum h e it ((i : Nat) : Int) old) ∧ h.IsTupleIter it a i ∧ e ≠ it) where
  mem := by simp
  obj := fun i h st b hb => by
    obtain ⟨⟨old, he⟩, ⟨o, ho, hc, hd⟩, _⟩ := st
    have e' : b = e ∨ b = it := by simpa using hb
    rcases e' with z | z
    · rw [z]; exact ⟨_, he, fun v q => nomatch q⟩
    · rw [z]; exact ⟨o, ho, fun v q => by rw [hd] at q; cases q⟩
  keep := fun i h h' st k => let ⟨⟨old, he⟩, hi, hne⟩ := st; ⟨⟨old, k e (by simp) _ he⟩, hi.at fun o q => k it (by simp) o q, hne⟩
  item := by
    intro X hP hw hK hc i pins s σ H E I hf st hg
    subst hP hw hK
    obtain ⟨⟨old, he⟩, hit, hne⟩ := st
    obtain ⟨xs, x, hq, hx⟩ := hg
    obtain ⟨its, rv, p, hz⟩ := I.tuple hq
    obtain ⟨u, hu, ru⟩ := rv.get hx
    have hel : e < s.heap.objs.size := Heap.lt_size he
    have hil : it < s.heap.objs.size := by obtain ⟨_, q, _⟩ := hit; exact Heap.lt_size q
    have hait : a ≠ it := fun z => by
      obtain ⟨o, q1, q2, _⟩ := p
      obtain ⟨o2, q3, q4, _⟩ := hit
      rw [z, q3] at q1
      cases q1
      rw [q4] at q2
      exact absurd (Value.type.inj q2) (by decide)
    have hae : a ≠ e := fun z => by
      obtain ⟨o, q1, q2, _⟩ := p
      rw [z, he] at q1
      cases q1
      exact absurd (Value.type.inj (show Value.type "enumerate" = Value.type "tuple" from q2)) (by decide)
    have hef : e ∉ [it, a] := fun z => by
      rcases List.mem_cons.mp z with z | z
      · exact hne z
      · rcases List.mem_cons.mp z with z | z
        · exact hae z.symm
        · cases z
    have hlt : i < its.toArray.size := by
      have := (List.getElem?_eq_some_iff.mp hu).1
      simpa using this
    refine wpAny_pyNext_enum_itemD (Draws.tuple (A := X.A.in1) (I.ok.hd hc) it a hait its.toArray) he ⟨hit, p⟩ hlt hne hef fun y h' tk hP ho hst' hT hsz hk => ?_
    have ey : u = y := by
      have q : its[i]? = some y := by simpa using hP
      rw [hu] at q
      exact Option.some.inj q
    subst ey
    obtain ⟨hit', _⟩ := hst'
    refine ⟨_, rfl, wpAny_letOwnedTupleGo_enum (s := { s with heap := h', toks := tk + 1 }) ho fun h'' he' sb => ?_⟩
    have hT2 : h''.get? s.heap.objs.size = some { cls := .type "tuple", data := .seq #[.int i tk, u] } := (sb.2 _ (Nat.ne_of_gt hel)).trans hT
    have new : ObjOk X.prog X.w (upd H s.heap.objs.size (.tup [.int (i : Nat), x])) h'' s.heap.objs.size (.tup [.int (i : Nat), x]) :=
      ⟨by show 2 ≤ sizeLine; decide, [.int i tk, u], .cons ⟨_, rfl⟩ (.cons ru .nil), ⟨_, hT2, rfl, _, rfl⟩⟩
    have I1 : Inv X pins σ (upd H s.heap.objs.size (.tup [.int (i : Nat), x])) { s with heap := h'', toks := tk + 1 } :=
      I.turnedNew (ch := [e, it]) (fun b ob hb q => (sb.2 b (fun z => hb (by simp [z]))).trans (hk b ob (fun z => hb (by simp [z])) (fun z => hb (by simp [z])) q)) hf (Nat.le_refl _) new
    refine ⟨.ref s.heap.objs.size, _, I1, rfl, ⟨_, x, rfl, I.hok.fresh (Nat.le_refl _), rfl, fun ys hy => by rw [I.tuple_inj hy hq]; exact hx⟩, ⟨⟨u, ?_⟩, hit'.at fun o q => (sb.2 it (Ne.symm hne)).trans q, hne⟩, fun b hb => ?_⟩
    · have e1 : ((i + 1 : Nat) : Int) = (i : Int) + 1 := by omega
      rw [e1]; exact he'
    · have hb' : b < s.heap.objs.size := by
        have e' : b = e ∨ b = it := by simpa using hb
        rcases e' with z | z
        · rw [z]; exact hel
        · rw [z]; exact hil
      rw [upd_ne (Nat.ne_of_lt hb')]
      exact (hf b hb).1
  done := by
    intro X hP hw hK hc i pins s σ H E I hf st hg
    subst hP hw hK
    obtain ⟨⟨old, he⟩, hit, hne⟩ := st
    obtain ⟨xs, hq, hx⟩ := hg
    obtain ⟨its, rv, p, hz⟩ := I.tuple hq
    obtain ⟨f0, f1, f2, f3, f4, f5⟩ := hf it (by simp)
    have hl := rv.length
    have hait : a ≠ it := fun z => by
      obtain ⟨o, q1, q2, _⟩ := p
      obtain ⟨o2, q3, q4, _⟩ := hit
      rw [z, q3] at q1
      cases q1
      rw [q4] at q2
      exact absurd (Value.type.inj q2) (by decide)
    have en : i = its.toArray.size := by rw [List.size_toArray]; omega
    subst en
    exact wpAny_pyNext_enum_endD (Draws.tuple (A := X.A.in1) (I.ok.hd hc) it a hait its.toArray) he ⟨hit, p⟩ fun h' eb => ⟨rfl, I.turned (t' := s.toks) (fun b o hb q => eb b o hb q) f0 f1 f3 f4 f5⟩
  self := fun A i s Q E st h => let ⟨⟨_, he⟩, _⟩ := st; wpAny_pyIter_enum he h
def iEnumT (K : PySem.W.Frag) (ta : TA) : TI := fun σ H R => ta σ H fun vs H1 => ∃ a xs, vs = [.ref a] ∧ SqT K H1 a xs ∧ R (IteT K a) H1
theorem pi_enumT {X : Cx} {e : Expr} {ta : TA} {p pos tpos : Pos} {elts : List Expr} {kk : Nat} (hg : Gl X "enumerate") (hm : X.mg "enumerate" = none) (ha : PA X [e] ta) (hs : starEach [e] X.env = [(false, eval e X.env)] := by rfl) :
    PI X (.Tuple elts kk tpos) (.Call (.Name "enumerate" p) [e] [] pos) (iEnumT X.K ta) := by
  refine ⟨fun pins s σ H R I h => ?_⟩
  refine Call_ (ld_blt I hg hm boot_enumerate (PyProof.Rows.callWith_type1 (thn (ha.run pos pins s σ H _ I h) fun us s1 ⟨vs, H1, I1, r1, q1⟩ => ?_) hs rfl))
  obtain ⟨a, xs, ex, hq, q⟩ := q1
  subst ex
  cases r1 with
  | cons r rr =>
    cases rr
    cases r
    obtain ⟨its, rv, p', hz⟩ := I1.tuple hq
    refine call_enumerate_tuple p' fun h' he hit hsz hk => wpAny_pyIter_enum he ?_
    have I2 : Inv X pins σ H1 { s1 with heap := h' } := I1.kept (t' := s1.toks) hk
    refine ⟨s1.heap.objs.size + 1, [s1.heap.objs.size + 1, s1.heap.objs.size], _, _, H1, rfl, I2, turn_enumT a (s1.heap.objs.size + 1) s1.heap.objs.size, ⟨⟨.none, he⟩, hit, Nat.succ_ne_self _⟩, fun b hb => ?_, q⟩
    have e' : b = s1.heap.objs.size + 1 ∨ b = s1.heap.objs.size := by simpa using hb
    have hle : s1.heap.objs.size ≤ b := by
      rcases e' with z | z
      · rw [z]; exact Nat.le_add_right _ _
      · rw [z]; exact Nat.le_refl _
    exact I1.fpOk hle (I1.hok.fresh hle)
end G
set_option Elab.async false
set_option linter.all false
set_option maxRecDepth 100000
set_option maxHeartbeats 1000000
namespace G
open PySem PySem.Spec PyProof.Rows L2
/-- what the top has written, by names -/
structure Tx (K : PySem.W.Frag) (mg : Str → Option Value) where
  fIsIn : Addr
  dIsIn : FuncData
  FIsIn : Fun K "is_in" "is_in" sIsIn fIsIn dIsIn
  gIsIn : mg "is_in" = some (.ref fIsIn)
  bIsIn : Binds K dIsIn ["value", "least", "most"] []
  fComesUp : Addr
  dComesUp : FuncData
  FComesUp : Fun K "comes_up" "comes_up" sComesUp fComesUp dComesUp
  gComesUp : mg "comes_up" = some (.ref fComesUp)
  bComesUp : Binds K dComesUp ["chiefs"] []
  fIsChart : Addr
  dIsChart : FuncData
  FIsChart : Fun K "is_chart" "is_chart" sIsChart fIsChart dIsChart
  gIsChart : mg "is_chart" = some (.ref fIsChart)
  bIsChart : Binds K dIsChart ["value"] []
  fNeedChart : Addr
  dNeedChart : FuncData
  FNeedChart : Fun K "need_chart" "need_chart" sNeedChart fNeedChart dNeedChart
  gNeedChart : mg "need_chart" = some (.ref fNeedChart)
  bNeedChart : Binds K dNeedChart ["chart"] []
  fIsStep : Addr
  dIsStep : FuncData
  FIsStep : Fun K "is_step" "is_step" sIsStep fIsStep dIsStep
  gIsStep : mg "is_step" = some (.ref fIsStep)
  bIsStep : Binds K dIsStep ["size", "value"] []
  fStepped : Addr
  dStepped : FuncData
  FStepped : Fun K "stepped" "stepped" sStepped fStepped dStepped
  gStepped : mg "stepped" = some (.ref fStepped)
  bStepped : Binds K dStepped ["chart", "step"] []
  fNeedRow : Addr
  dNeedRow : FuncData
  FNeedRow : Fun K "need_row" "need_row" sNeedRow fNeedRow dNeedRow
  gNeedRow : mg "need_row" = some (.ref fNeedRow)
  bNeedRow : Binds K dNeedRow ["size", "row"] []
  fAreSteps : Addr
  dAreSteps : FuncData
  FAreSteps : Fun K "are_steps" "are_steps" sAreSteps fAreSteps dAreSteps
  gAreSteps : mg "are_steps" = some (.ref fAreSteps)
  bAreSteps : Binds K dAreSteps ["size", "value", "most"] []
  fIsRow : Addr
  dIsRow : FuncData
  FIsRow : Fun K "is_row" "is_row" sIsRow fIsRow dIsRow
  gIsRow : mg "is_row" = some (.ref fIsRow)
  bIsRow : Binds K dIsRow ["size", "value"] []
  fTrace : Addr
  dTrace : FuncData
  FTrace : Fun K "trace" "trace" sTrace fTrace dTrace
  gTrace : mg "trace" = some (.ref fTrace)
  bTrace : Binds K dTrace ["chart", "row"] []
  fAllSteps : Addr
  dAllSteps : FuncData
  FAllSteps : Fun K "all_steps" "all_steps" sAllSteps fAllSteps dAllSteps
  gAllSteps : mg "all_steps" = some (.ref fAllSteps)
  bAllSteps : Binds K dAllSteps ["size"] []
  fNeedChanging : Addr
  dNeedChanging : FuncData
  FNeedChanging : Fun K "need_changing" "need_changing" sNeedChanging fNeedChanging dNeedChanging
  gNeedChanging : mg "need_changing" = some (.ref fNeedChanging)
  bNeedChanging : Binds K dNeedChanging ["start", "row", "goal"] []
  fCheapest : Addr
  dCheapest : FuncData
  FCheapest : Fun K "cheapest" "cheapest" sCheapest fCheapest dCheapest
  gCheapest : mg "cheapest" = some (.ref fCheapest)
  bCheapest : Binds K dCheapest ["start", "row"] []
  fChanged : Addr
  dChanged : FuncData
  FChanged : Fun K "changed_row" "changed_row" sChanged fChanged dChanged
  gChanged : mg "changed_row" = some (.ref fChanged)
  bChanged : Binds K dChanged ["start", "row", "goal"] []
  fShows : Addr
  dShows : FuncData
  FShows : Fun K "shows_changed_row" "shows_changed_row" sShows fShows dShows
  gShows : mg "shows_changed_row" = some (.ref fShows)
  bShows : Binds K dShows ["start", "row", "goal", "value"] []
  fTaken : Addr
  dTaken : FuncData
  FTaken : Fun K "_law_taken" "_law_taken" sTaken fTaken dTaken
  gTaken : mg "_law_taken" = some (.ref fTaken)
  bTaken : Binds K dTaken ["_law_row_here", "_law_many"] []
  fPick : Addr
  dPick : FuncData
  FPick : Fun K "_law_pick" "_law_pick" sPick fPick dPick
  gPick : mg "_law_pick" = some (.ref fPick)
  bPick : Binds K dPick ["_law_row_here", "_law_things"] []
  fAlike : Addr
  dAlike : FuncData
  FAlike : Fun K "_law_alike" "_law_alike" sAlike fAlike dAlike
  gAlike : mg "_law_alike" = some (.ref fAlike)
  bAlike : Binds K dAlike ["_law_found", "_law_due"] []
  fLStep : Addr
  dLStep : FuncData
  FLStep : Fun K "_law_step" "_law_step" sLStep fLStep dLStep
  gLStep : mg "_law_step" = some (.ref fLStep)
  bLStep : Binds K dLStep ["_law_chart_here", "_law_step_here"] []
  fLDone : Addr
  dLDone : FuncData
  FLDone : Fun K "_law_done" "_law_done" sLDone fLDone dLDone
  gLDone : mg "_law_done" = some (.ref fLDone)
  bLDone : Binds K dLDone ["_law_chart_here", "_law_steps_here"] []
  fLSteps : Addr
  dLSteps : FuncData
  FLSteps : Fun K "_law_steps" "_law_steps" sLSteps fLSteps dLSteps
  gLSteps : mg "_law_steps" = some (.ref fLSteps)
  bLSteps : Binds K dLSteps ["_law_size"] []
  fLIsChart : Addr
  dLIsChart : FuncData
  FLIsChart : Fun K "_law_is_chart" "_law_is_chart" sLIsChart fLIsChart dLIsChart
  gLIsChart : mg "_law_is_chart" = some (.ref fLIsChart)
  bLIsChart : Binds K dLIsChart ["_law_value"] []
  fLCharts : Addr
  dLCharts : FuncData
  FLCharts : Fun K "_law_charts" "_law_charts" sLCharts fLCharts dLCharts
  gLCharts : mg "_law_charts" = some (.ref fLCharts)
  bLCharts : Binds K dLCharts ["_law_size"] []
  fLaw : Addr
  dLaw : FuncData
  FLaw : Fun K "law" "law" sLaw fLaw dLaw
  gLaw : mg "law" = some (.ref fLaw)
  bLaw : Binds K dLaw ["_law_script"] []
  m_isinstance : mg "isinstance" = none
  m_int : mg "int" = none
  m_bool : mg "bool" = none
  m_tuple : mg "tuple" = none
  m_list : mg "list" = none
  m_str : mg "str" = none
  m_len : mg "len" = none
  m_range : mg "range" = none
  m_all : mg "all" = none
  m_enumerate : mg "enumerate" = none
  m_zip : mg "zip" = none
  m_min : mg "min" = none
  c_MOST_PEOPLE : ∃ t, mg "MOST_PEOPLE" = some (.int 6 t)
  c_MOST_ROW : ∃ t, mg "MOST_ROW" = some (.int 40 t)
  c_MOST_CHANGED : ∃ t, mg "MOST_CHANGED" = some (.int 4 t)
  c_MOST_STEPS : ∃ t, mg "MOST_STEPS" = some (.int 6 t)
  c1 : Addr
  P1 : Addr
  e1 : dIsChart.code = .ref c1
  c2 : Addr
  P2 : Addr
  e2 : dAreSteps.code = .ref c2
theorem ite_mono {c A B A' B' : Prop} [Decidable c] (h : if c then A else B) (f : A → A') (g : B → B') : if c then A' else B' := by
  by_cases e : c
  · rw [if_pos e] at h ⊢; exact f h
  · rw [if_neg e] at h ⊢; exact g h
theorem u65 {k : Nat} {A : Around} (r : Room k A) : A.units + 65 < cLine := by have := r.un; omega
section
variable {P : Program} {w : World} {K : PySem.W.Frag} {mg : Str → Option Value} {base : Heap}
/-- a def, its code object told -/
theorem okC {x qual : Str} {st : Stmt} {f : Addr} {fd : FuncData} {N ps : List Str} {k : Nat} {sp : Sp} (F : Fun K x qual st f fd) (S : FnScope N ps (defScope st)) (len : ∀ vs H Q E, sp vs H Q E → vs.length = ps.length)
    (hbody : ∀ (cdv : Value), fd.code = cdv → ∀ (A : Around) (outer : List Env) (s : Shared) (H : Hp) (vs : List V) (Q : VK) (E : XK), Room k (A.deeper (envOfC qual (defScope st) s.heap.objs.size f cdv)) → sp vs H Q E →
      ∃ t, PSs (cxOf CX0 P w K mg base N qual (defScope st) f cdv A outer s H E).nox (defBody st) t ∧ t { nx := fun _ H' => Q .non H', rt := Q } (start N vs) H) : FnOk P w K mg base CX0 (k + 1) f fd ps sp := by
  obtain ⟨oc, od, kV, doc, pm, an, cdv, ct, osl, rfl, lk, hcd⟩ := F.ex
  refine fn_of lk hcd S len fun A outer s H vs Q E hr hsp => ?_
  obtain ⟨t, h, q⟩ := hbody cdv rfl A outer s H vs Q E hr hsp
  exact ⟨t, h.nox, q⟩
variable (T : Tx K mg)
/-! ### is_in -/
def spIsIn : Sp := fun vs H Q _ => ∃ i lo hi : Int, vs = [.int i, .int lo, .int hi] ∧ Q (.bl (decide (lo ≤ i) && decide (i ≤ hi))) H
theorem ok_isIn : FnOk P w K mg base CX0 1 T.fIsIn T.dIsIn ["value", "least", "most"] spIsIn := by
  refine T.FIsIn.ok scIsIn (fun vs H Q E h => ?_) (fun cdv A outer s H vs Q E hr h => ?_)
  · obtain ⟨_, _, _, rfl, _⟩ := h; rfl
  · obtain ⟨i, lo, hi, rfl, q⟩ := h
    refine ⟨_, (pss_one (ps_ret (pe_and (pe_callB call_isi (by rfl) T.m_isinstance (by decide +kernel) (pa_cons (pv 0) (pa_cons (pe_bltn (v := .ty "int") (by rfl) T.m_int PyProof.Rows.boot_int rfl) pa_nil))) (pe_and (pe_not (pe_callB call_isi (by rfl) T.m_isinstance (by decide +kernel) (pa_cons (pv 0) (pa_cons (pe_bltn (v := .ty "bool") (by rfl) T.m_bool (by decide +kernel) rfl) pa_nil)))) (pe_one (pe_chain op_le op_le (pv 1) (pv 0) (pv 2))))))), ?_⟩
    refine ⟨.int i, rfl, _, _, .type "int", _, true, rfl, ClsV.ty _, .base (.int i), kit_ty (by decide +kernel), true, rfl, iteT ?_⟩
    refine ⟨.int i, rfl, _, _, .type "int", _, false, rfl, ClsV.ty _, .base (.int i), kit_ty (by decide +kernel), false, rfl, true, rfl, iteT ?_⟩
    refine ⟨_, rfl, _, rfl, lo, i, rfl, rfl, decide (lo ≤ i), rfl, ?_⟩
    by_cases h : lo ≤ i
    · rw [decide_eq_true h] at q ⊢
      exact iteT ⟨_, rfl, i, hi, rfl, rfl, q⟩
    · rw [decide_eq_false h] at q ⊢
      exact iteF q
/-! ### is_step -/
def spIsStep : Sp := fun vs H Q _ => ∃ (n : Nat) (v : V) (s : Sx), vs = [.int n, v] ∧ StV H v s ∧ Q (.bl (stepOk n s)) H
theorem ok_isStep : FnOk P w K mg base CX0 2 T.fIsStep T.dIsStep ["size", "value"] spIsStep := by
  have GIsIn := ok_isIn (P := P) (w := w) (base := base) T
  refine T.FIsStep.ok scIsStep (fun vs H Q E h => ?_) (fun cdv A outer s H vs Q E hr h => ?_)
  · obtain ⟨_, _, _, rfl, _⟩ := h; rfl
  · obtain ⟨n, v, st, rfl, ⟨a, rfl, ha⟩, q⟩ := h
    refine ⟨_, (pss_cons (ps_if (PW.pt (pw_or (pt_not (pt_val (pe_callB call_isi (by rfl) T.m_isinstance (by decide +kernel) (pa_cons (pv 1) (pa_cons (pe_bltn (v := .ty "tuple") (by rfl) T.m_tuple (by decide +kernel) rfl) pa_nil))))) (pw_or (pt_cmpR op_ne (pe_callB call_len_seq (by rfl) T.m_len PySem.boot_len (pa_cons (pv 1) pa_nil)) pe_int (nomark _)) (pw_or1 (pt_not (pt_val (pe_call GIsIn (hr.mono (by decide)) (by rfl) T.gIsIn T.FIsIn.kp T.bIsIn .nil pass0 (pa_cons (pe_ix ix_tup (pv 1) pe_int (fun _ _ => rfl)) (pa_cons pe_int (pa_cons (pv 0) pa_nil)))))))))) (pss_one (ps_ret pe_bl)) pss_nil)
      (pss_one (ps_ret (pe_and (pe_call GIsIn (hr.mono (by decide)) (by rfl) T.gIsIn T.FIsIn.kp T.bIsIn .nil pass0 (pa_cons (pe_ix ix_tup (pv 1) pe_int (fun _ _ => rfl)) (pa_cons pe_int (pa_cons (pv 0) pa_nil)))) (pe_one (pe_cmpR op_ne (pe_ix ix_tup (pv 1) pe_int (fun _ _ => rfl)) (pe_ix ix_tup (pv 1) pe_int (fun _ _ => rfl)) (nomark _))))))), ?_⟩
    have hT : SqT K H a [.int st.1, .int st.2] := SqT.of ha
    refine ⟨_, rfl, _, _, .type "tuple", _, true, rfl, ClsV.ty _, .base (.tup ha), kit_ty (by decide +kernel), true, rfl, iteF ?_⟩
    refine ⟨_, rfl, a, _, rfl, .inr hT, rfl, false, rfl, iteF ?_⟩
    refine ⟨_, rfl, a, _, 0, .int st.1, rfl, rfl, hT, atI_nat (j := 0) rfl, .int n, rfl, st.1, 1, n, rfl, _, rfl, ?_⟩
    unfold stepOk at q
    cases h1 : (decide (1 ≤ st.1) && decide (st.1 ≤ (n : Int))) with
    | false =>
      rw [h1] at q
      exact iteT q
    | true =>
      rw [h1] at q
      refine iteF ?_
      refine ⟨_, rfl, a, _, 1, .int st.2, rfl, rfl, hT, atI_nat (j := 1) rfl, .int n, rfl, st.2, 0, n, rfl, _, rfl, ?_⟩
      cases h2 : (decide (0 ≤ st.2) && decide (st.2 ≤ (n : Int))) with
      | false =>
        rw [h2] at q
        exact iteF q
      | true =>
        rw [h2] at q
        refine iteT ⟨_, rfl, a, _, 0, .int st.1, rfl, rfl, hT, atI_nat (j := 0) rfl, _, rfl, a, _, 1, .int st.2, rfl, rfl, hT, atI_nat (j := 1) rfl, rfl, ?_⟩
        have e : (!decide (V.int st.1 = V.int st.2)) = !decide (st.1 = st.2) := by
          by_cases h : st.1 = st.2
          · rw [h, decide_eq_true rfl, decide_eq_true rfl]
          · rw [decide_eq_false h, decide_eq_false (fun z => h (V.int.inj z))]
        show Q (.bl (!decide (V.int st.1 = V.int st.2))) H
        rw [e]
        exact q
/-! ### going up -/
def up (c : Ch) (h : Int) : Int := if h = 0 then 0 else c.getD (h - 1).toNat 0
def iterUp (c : Ch) : Nat → Int → Int
  | 0, h => h
  | k + 1, h => up c (iterUp c k h)
structure ChOk (n : Nat) (c : Ch) : Prop where
  len : c.length = n
  n1 : 1 ≤ n
  n3 : n ≤ 3
  rng : ∀ x ∈ c, 0 ≤ x ∧ x ≤ (n : Int)
  ups : ∀ i, i < n → iterUp c n ((i : Int) + 1) = 0
theorem ChOk.at (o : ChOk n c) {h : Int} (h1 : 1 ≤ h) (h2 : h ≤ n) : c[(h - 1).toNat]? = some (c.getD (h - 1).toNat 0) := by
  have hl := o.len
  have : (h - 1).toNat < c.length := by omega
  rw [List.getD_eq_getElem?_getD, List.getElem?_eq_getElem this]; rfl
theorem ChOk.up_rng (o : ChOk n c) {h : Int} (h1 : 0 ≤ h) (h2 : h ≤ n) : 0 ≤ up c h ∧ up c h ≤ n := by
  unfold up
  split
  · exact ⟨Int.le_refl _, by omega⟩
  · exact o.rng _ (List.mem_of_getElem? (o.at (by omega) h2))
theorem ChOk.iter_rng (o : ChOk n c) {h : Int} (h1 : 0 ≤ h) (h2 : h ≤ n) : ∀ k, 0 ≤ iterUp c k h ∧ iterUp c k h ≤ n
  | 0 => ⟨h1, h2⟩
  | k + 1 => o.up_rng (o.iter_rng h1 h2 k).1 (o.iter_rng h1 h2 k).2
def spComesUp : Sp := fun vs H Q _ => ∃ (n : Nat) (v : V) (c : Ch), vs = [v] ∧ ChV H v c ∧ ChOk n c ∧ Q (.bl true) H
theorem ok_comesUp : FnOk P w K mg base CX0 1 T.fComesUp T.dComesUp ["chiefs"] spComesUp := by
  refine T.FComesUp.ok scComesUp (fun vs H Q E h => ?_) (fun cdv A outer s H vs Q E hr h => ?_)
  · obtain ⟨_, _, _, rfl, _⟩ := h; rfl
  · obtain ⟨n, v, c, rfl, ⟨a, rfl, ha⟩, o, q⟩ := h
    refine ⟨_, (pss_cons (ps_for PassesOwn.never rfl (pi_range2 (by rfl) T.m_range (pa_cons pe_int (pa_cons (pe_op op_add (pe_callB call_len_seq (by rfl) T.m_len PySem.boot_len (pa_cons (pv 0) pa_nil)) pe_int) pa_nil))) (pg_name (i := 1) scComesUp.nd rfl (.inl rfl)) (pss_cons (ps_par (i := 2) (j := 3) rfl scComesUp.nd rfl rfl (by decide) rfl rfl (pa_cons (pv 1) (pa_cons pe_int pa_nil)) (by rfl))
      (pss_cons (ps_while PassesOwn.never (PW.pt (pw_and (pt_cmpR op_ne (pv 2) pe_int (nomark _)) (pw_and1 (pt_cmpR op_le (pv 3) (pe_callB call_len_seq (by rfl) T.m_len PySem.boot_len (pa_cons (pv 0) pa_nil)) (nomark _))))) (pss_one (ps_par (i := 2) (j := 3) rfl scComesUp.nd rfl rfl (by decide) rfl rfl (pa_cons (pe_ix ix_tup (pv 0) (pe_op op_sub (pv 2) pe_int) (fun _ _ => rfl)) (pa_cons (pe_op op_add (pv 3) pe_int) pa_nil)) (by rfl))))
      (pss_one (ps_if (pt_cmpR op_ne (pv 2) pe_int (nomark _)) (pss_one (ps_ret pe_bl)) pss_nil)))))
      (pss_one (ps_ret pe_bl))), ?_⟩
    have hT : SqT K H a (c.map V.int) := SqT.of ha
    have hl : (c.map V.int).length = n := by rw [List.length_map]; exact o.len
    refine ⟨.ref a, rfl, a, _, rfl, .inr hT, _, _, rfl, rfl, 1, ((c.map V.int).length : Int) + 1, rfl, by have := o.n3; omega, ?_⟩
    refine for_range (lo := 1) (n := (((c.map V.int).length : Int) + 1 - 1).toNat) (fun i σ H' => (∃ y1 y2 y3, σ = [some (.ref a), y1, y2, y3]) ∧ H = H') ⟨⟨none, none, none, rfl⟩, rfl⟩ ?_ ?_
    · rintro i σ H' hi ⟨⟨y1, y2, y3, rfl⟩, rfl⟩
      have hin : i < n := by omega
      refine ⟨.int (1 + (i : Int)), rfl, _, _, rfl, ?_⟩
      refine while_by (fun σ H' => ∃ m : Nat, m ≤ n + 1 ∧ σ = [some (.ref a), some (.int (1 + (i : Int))), some (.int (iterUp c m ((i : Int) + 1))), some (.int m)] ∧ H = H') (fun σ _ => match σ with
        | [_, _, _, some (.int m)] => n + 1 - m.toNat
        | _ => 0) ⟨0, by omega, ?_, rfl⟩ ?_ ?_
      · show [some (V.ref a), some (.int (1 + (i : Int))), some (.int (1 + (i : Int))), some (.int 0)] = _
        have e : 1 + (i : Int) = (i : Int) + 1 := by omega
        rw [e]; rfl
      · rintro σ H' ⟨m, hm, rfl, rfl⟩
        obtain ⟨r1, r2⟩ := o.iter_rng (h := (i : Int) + 1) (by omega) (by omega) m
        -- what stands behind the loop where here is 0
        have fin : iterUp c m ((i : Int) + 1) = 0 → tIfS (tTest (tOp rNe (tVar 2) (tC (.int 0)))) (tRet (tC (.bl false))) tNext { nx := fun σ H' => (∃ y1 y2 y3, σ = [some (.ref a), y1, y2, y3]) ∧ H = H', rt := Q, bk := fun σ H' => Q (.bl true) H', ct := fun σ H' => (∃ y1 y2 y3, σ = [some (.ref a), y1, y2, y3]) ∧ H = H' } [some (.ref a), some (.int (1 + (i : Int))), some (.int (iterUp c m ((i : Int) + 1))), some (.int m)] H := fun e0 => by
          refine ⟨_, rfl, rfl, _, rfl, ?_⟩
          rw [e0]
          exact iteF ⟨⟨_, _, _, rfl⟩, rfl⟩
        refine ⟨_, rfl, rfl, _, rfl, ?_⟩
        by_cases e0 : iterUp c m ((i : Int) + 1) = 0
        · have ed : (!decide (V.int (iterUp c m ((i : Int) + 1)) = V.int 0)) = false := by rw [e0]; rfl
          rw [ed]
          exact iteF (iteF (fin e0))
        · have ed : (!decide (V.int (iterUp c m ((i : Int) + 1)) = V.int 0)) = true := by
            rw [decide_eq_false (fun z => e0 (V.int.inj z))]; rfl
          rw [ed]
          refine iteT ⟨_, rfl, .ref a, rfl, a, _, rfl, .inr hT, _, _, rfl, rfl, _, rfl, ?_⟩
          by_cases lm : (m : Int) ≤ ((c.map V.int).length : Int)
          · rw [decide_eq_true lm]
            refine iteT ?_
            have hat : atI (c.map V.int) (iterUp c m ((i : Int) + 1) - 1) = some (.int (iterUp c (m + 1) ((i : Int) + 1))) := by
              refine at_of (j := (iterUp c m ((i : Int) + 1) - 1).toNat) (by omega) ?_
              rw [List.getElem?_map, o.at (by omega) r2]
              show some (V.int _) = some (V.int (up c (iterUp c m ((i : Int) + 1))))
              unfold up
              rw [if_neg e0]
            refine ⟨_, rfl, _, rfl, _, _, rfl, rfl, a, _, _, _, rfl, rfl, hT, hat, _, rfl, _, _, rfl, rfl, _, _, rfl, ⟨⟨m + 1, by omega, rfl, rfl⟩, ?_⟩⟩
            show n + 1 - ((m : Int) + 1).toNat < n + 1 - ((m : Int)).toNat
            omega
          · exfalso
            have em : m = n + 1 := by omega
            subst em
            have u := o.ups i hin
            have : iterUp c (n + 1) ((i : Int) + 1) = 0 := by
              show up c (iterUp c n ((i : Int) + 1)) = 0
              rw [u]; rfl
            exact e0 this
      · intro σ H' Q1 Q2 hQ h
        obtain ⟨x1, e1, e2, k, e3, h⟩ := h
        refine ⟨x1, e1, e2, k, e3, ite_mono h (fun h => ?_) (hQ _ _)⟩
        obtain ⟨x3, e3, x0, e0, p, ys, e4, e5, i, j, e6, e7, k2, e8, h⟩ := h
        exact ⟨x3, e3, x0, e0, p, ys, e4, e5, i, j, e6, e7, k2, e8, hQ _ _ h⟩
    · rintro σ H' ⟨⟨y1, y2, y3, rfl⟩, rfl⟩
      exact q
/-! ### the captured name of a generator expression -/
theorem cell_at {X : Cx} {pins : List (Addr × Obj)} {σ : L2.St} {H : Hp} {s : Shared} (I : L2.Inv X pins σ H s) {i : Nat} {x : Str} {v : V} (hN : X.N[i]? = some x) (hσ : σ[i]? = some (some v)) (hk : X.env.kindOf x = some .cell) :
    ∃ c u, X.env.cells.lookup x = some c ∧ s.heap.IsCell c (some u) ∧ RelV v u ∧ H c = none := by
  obtain ⟨m, hn, hl⟩ := I.loc
  obtain ⟨u, r, q⟩ := hl i x v hN hσ (.inr (.inl hk))
  rcases q with ⟨z, _⟩ | ⟨_, c, e, z⟩
  · rw [hk] at z; cases z
  · exact ⟨c, u, e, z, r, I.freeC x c e⟩
/-- the base's objects in a later heap that keeps all but the table -/
theorem base_kept {X : Cx} {pins : List (Addr × Obj)} {σ : L2.St} {H : Hp} {s : Shared} (I : L2.Inv X pins σ H s) {Pt : Addr} (hP : H Pt ≠ none) {h1 : Heap} (k : ∀ b o, b ≠ Pt → s.heap.get? b = some o → h1.get? b = some o) : ∀ b o, X.base.get? b = some o → h1.get? b = some o := fun b o e =>
  k b o (fun z => hP (by rw [← z]; exact (I.bs b o e).2)) (I.bk b o e)
theorem gd_of {X : Cx} {pins : List (Addr × Obj)} {σ : L2.St} {H : Hp} {s : Shared} (I : L2.Inv X pins σ H s) {h1 : Heap} (k : ∀ b o, X.base.get? b = some o → h1.get? b = some o) : Gd X.K X.mg h1 ∧ h1.NoLimit :=
  ⟨⟨I.mod.kin.keeps k, I.mod.glob.keeps k, let ⟨mb, a, b⟩ := I.mod.blt; ⟨mb, a.keeps k, b⟩⟩, I.mod.nolimit.keeps k⟩
end
end G
set_option Elab.async false
set_option linter.all false
set_option maxRecDepth 100000
set_option maxHeartbeats 1000000
namespace G
open PySem PySem.Spec PyProof.Rows L2
section
variable {P : Program} {w : World} {K : PySem.W.Frag} {mg : Str → Option Value} {base : Heap} (T : Tx K mg)
/-! ### is_chart -/
def scopeGen : Expr → Scope
  | .GeneratorExp _ _ sc _ => sc
  | _ => { kind := .function, names := [], isGenerator := false, isCoroutine := false }
def genIn : Expr → Expr
  | .Call _ (e :: _) _ _ => e
  | e => e
def lastVal : List Stmt → Expr
  | [.Return (some e) _] => e
  | _ :: r => lastVal r
  | [] => .Constant .none 0 ⟨0, 0, 0, 0⟩
def boolAt (i : Nat) : Expr → Expr
  | .BoolOp _ es _ => es.getD i (.Constant .none 0 ⟨0, 0, 0, 0⟩)
  | e => e
abbrev gen1 : Expr := genIn (boolAt 0 (lastVal (defBody sIsChart)))
abbrev gen2 : Expr := genIn (boolAt 2 (lastVal (defBody sAreSteps)))
theorem isGen1 : ∃ a b c, gen1 = .GeneratorExp a b (scopeGen gen1) c := ⟨_, _, _, rfl⟩
theorem isGen2 : ∃ a b c, gen2 = .GeneratorExp a b (scopeGen gen2) c := ⟨_, _, _, rfl⟩
def spIsChart (P1 : Addr) : Sp := fun vs H Q _ => ∃ (n : Nat) (v : V) (c : Ch), vs = [v] ∧ ChV H v c ∧ ChOk n c ∧ GxR.TabG H P1 ∧ ∀ H', Ex H H' → Q (.bl true) H'
theorem ok_isChart (TB : GxR.TabB base mg T.c1 T.P1) : FnOk P w K mg base CX0 2 T.fIsChart T.dIsChart ["value"] (spIsChart T.P1) := by
  have GComesUp := ok_comesUp (P := P) (w := w) (base := base) T
  obtain ⟨tMP, hMOST_PEOPLE⟩ := T.c_MOST_PEOPLE
  refine okC T.FIsChart scIsChart (fun vs H Q E h => ?_) (fun cdv hcd A outer s H vs Q E hr h => ?_)
  · obtain ⟨_, _, _, rfl, _⟩ := h; rfl
  · obtain ⟨n, v, c, rfl, ⟨a, rfl, ha⟩, o, hTab, q⟩ := h
    have hcode : cdv = .ref T.c1 := hcd.symm.trans T.e1
    subst hcode
    have scGen1 : GxR.GenS (envOfC "is_chart" (defScope sIsChart) s.heap.objs.size T.fIsChart (.ref T.c1)) (scopeGen gen1) "one" := ⟨by decide +kernel, by decide +kernel, by decide +kernel, by decide +kernel, by decide +kernel, fun y hy e => by
      have hy2 : y = (("value" : Str), NameKind.free) := by
        have : ∀ y ∈ (scopeGen gen1).names, y.2 = .free → y = (("value" : Str), NameKind.free) := by decide +kernel
        exact this y hy e
      rw [hy2]
      exact cell_has (sc := defScope sIsChart) (by decide +kernel)⟩
    refine ⟨_, (pss_cons (ps_if (PW.pt (pw_or (pt_not (pt_val (pe_callB call_isi (by rfl) T.m_isinstance (by decide +kernel) (pa_cons (pv 0) (pa_cons (pe_bltn (v := .ty "tuple") (by rfl) T.m_tuple (by decide +kernel) rfl) pa_nil))))) (pw_or1 (pt_not (pt_chain op_le op_le pe_int (pe_callB call_len_seq (by rfl) T.m_len PySem.boot_len (pa_cons (pv 0) pa_nil)) (pe_glob (v := .int 6) (by rfl) hMOST_PEOPLE ⟨_, rfl⟩)))))) (pss_one (ps_ret pe_bl)) pss_nil)
      (pss_one (ps_ret (pe_and (pe_allT (x := "one") hr (by rfl) T.m_all TB rfl scGen1 (pv 0) (fun _ => rfl)) (pe_one (pe_call GComesUp (hr.mono (by decide)) (by rfl) T.gComesUp T.FComesUp.kp T.bComesUp .nil pass0 (pa_cons (pv 0) pa_nil))))))), ?_⟩
    have hT : SqT K H a (c.map V.int) := SqT.of ha
    have hl : (c.map V.int).length = n := by rw [List.length_map]; exact o.len
    have hn1 := o.n1
    have hn3 := o.n3
    have hPn : H T.P1 ≠ none := fun z => by obtain ⟨ps, e, _⟩ := hTab; rw [z] at e; cases e
    refine ⟨_, rfl, _, _, .type "tuple", _, true, rfl, ClsV.ty _, .base (.tup ha), kit_ty (by decide +kernel), true, rfl, iteF ?_⟩
    refine ⟨_, rfl, a, _, rfl, .inr hT, 1, _, rfl, rfl, true, ?_, iteT ⟨_, 6, rfl, rfl, true, ?_, iteF ?_⟩⟩
    · show V.bl (decide ((1 : Int) ≤ ((c.map V.int).length : Int))) = V.bl true
      rw [decide_eq_true (by omega)]
    · show V.bl (decide (((c.map V.int).length : Int) ≤ 6)) = V.bl true
      rw [decide_eq_true (by omega)]
    refine ⟨.ref a, rfl, a, c.map V.int, fun i => decide (i < n), rfl, ha, hTab, ?_, fun H2 hT2 => ?_⟩
    · -- the element
      intro pins s1 I cenv h1 m i v u esc egl ebl ecl k hn hm hi r
      have kb := base_kept I hPn k
      obtain ⟨gd, lim⟩ := gd_of I kb
      have hkind : cenv.scope.kind = .function := by rw [esc]
      have ge : Ge cenv := ⟨hkind, egl, ebl⟩
      have kn : ∀ (x : Str) (y : NameKind), (scopeGen gen1).names.lookup x = some y → cenv.kindOf x = some y := fun x y h => by
        show cenv.scope.names.lookup x = _
        rw [esc]; exact h
      obtain ⟨cc, uc, c1, c2, c3, c4⟩ := cell_at I (i := 0) (x := "value") rfl rfl (by show (defScope sIsChart).names.lookup ("value" : Str) = _; decide +kernel)
      have hcl : cenv.cells.lookup ("value" : Str) = some cc := by
        rw [ecl]
        have e : ∀ cells : List (Str × Addr), (cloFrom cells (scopeGen gen1).names []).lookup ("value" : Str) = some ((cells.lookup ("value" : Str)).getD 0) := fun cells => by
          have e2 : cloFrom cells (scopeGen gen1).names [] = [(("value" : Str), (cells.lookup ("value" : Str)).getD 0)] := rfl
          rw [e2]; rfl
        show (cloFrom (envOfC "is_chart" (defScope sIsChart) s.heap.objs.size T.fIsChart (.ref T.c1)).cells (scopeGen gen1).names []).lookup ("value" : Str) = some cc
        rw [e]
        show some ((List.lookup ("value" : Str) (envOfC "is_chart" (defScope sIsChart) s.heap.objs.size T.fIsChart (.ref T.c1)).cells).getD 0) = some cc
        have c1' : List.lookup ("value" : Str) (envOfC "is_chart" (defScope sIsChart) s.heap.objs.size T.fIsChart (.ref T.c1)).cells = some cc := c1
        rw [c1']; rfl
      have hcell : h1.IsCell cc (some uc) := by
        obtain ⟨ob, q1, q2⟩ := c2
        exact ⟨ob, k cc ob (fun z => hPn (by rw [← z]; exact c4)) q1, q2⟩
      obtain ⟨its, rv, htup, hz⟩ := I.tuple hT
      have htup1 : IsTup h1 a its.toArray := by
        obtain ⟨ob, q1, q2, q3⟩ := htup
        exact ⟨ob, k a ob (fun z => by
          obtain ⟨ps, e, _⟩ := hTab
          rw [← z, ha] at e
          cases e) q1, q2, q3⟩
      have hlen : its.length = n := by rw [← rv.length]; exact hl
      have hix : i < c.length := by
        have := (List.getElem?_eq_some_iff.mp hi).1
        rw [List.length_map] at this
        exact this
      have hv : v = .int c[i] := by
        rw [List.getElem?_map, List.getElem?_eq_getElem hix] at hi
        exact (Option.some.inj hi).symm
      subst hv
      have hrng := o.rng _ (List.getElem_mem hix)
      have hdp := hr.dp
      have res := re_call (P := P) (w := w) (env := cenv) (D := (A.deeper (envOfC "is_chart" (defScope sIsChart) s.heap.objs.size T.fIsChart (.ref T.c1))).depth + 1) (p := ⟨30, 16, 30, 21⟩) (pos := ⟨30, 16, 30, 41⟩) gd ge (kn "is_in" _ (by decide +kernel)) T.gIsIn T.FIsIn.kp
        (rf_isIn T.FIsIn T.bIsIn gd lim (by omega) T.m_isinstance T.m_int T.m_bool c[i] 0 n)
        (ra_cons (re_local (x := "one") (pos := ⟨30, 22, 30, 25⟩) ge (kn _ _ (by decide +kernel)) hn hm r) (ra_cons (re_int (i := 0) (j := 0) (pos := ⟨30, 27, 30, 28⟩))
          (ra_cons (by
            have z := re_callB (P := P) (w := w) (vs := [.ref a]) (p := ⟨30, 30, 30, 33⟩) (pos := ⟨30, 30, 30, 40⟩) gd ge (kn "len" _ (by decide +kernel)) T.m_len PySem.boot_len (rf_len (D := (A.deeper (envOfC "is_chart" (defScope sIsChart) s.heap.objs.size T.fIsChart (.ref T.c1))).depth + 1) (w := w) (P := P) htup1 (by omega)) (ra_cons (re_free (x := "value") (pos := ⟨30, 34, 30, 39⟩) ge (kn _ _ (by decide +kernel)) hcl hcell c3) ra_nil)
            rw [hlen] at z
            exact z) ra_nil)))
      have eb : (decide (0 ≤ c[i]) && decide (c[i] ≤ (n : Int))) = decide (i < n) := by
        rw [decide_eq_true hrng.1, decide_eq_true hrng.2, decide_eq_true (by have := o.len; omega)]; rfl
      rw [eb] at res
      exact res
    · have eall : ((List.range (c.map V.int).length).all fun i => decide (i < n)) = true := by
        rw [List.all_eq_true]
        intro i hi
        exact decide_eq_true (by have := List.mem_range.mp hi; omega)
      have hE : Ex H H2 := Ex.tbd hTab hT2
      refine ⟨true, by rw [eall], iteT ⟨_, rfl, n, .ref a, c, rfl, ⟨a, rfl, hE.tup ha⟩, o, q H2 hE⟩⟩
end
end G
set_option Elab.async false
set_option linter.all false
set_option maxRecDepth 100000
set_option maxHeartbeats 1000000
namespace G
open PySem PySem.Spec PyProof.Rows L2
section
variable {P : Program} {w : World} {K : PySem.W.Frag} {mg : Str → Option Value} {base : Heap} (T : Tx K mg)
/-! ### need_chart -/
def spNeedChart (P1 : Addr) : Sp := fun vs H Q _ => ∃ (n : Nat) (v : V) (c : Ch), vs = [v] ∧ ChV H v c ∧ ChOk n c ∧ GxR.TabG H P1 ∧ ∀ H', Ex H H' → Q .non H'
theorem ok_needChart (TB : GxR.TabB base mg T.c1 T.P1) : FnOk P w K mg base CX0 3 T.fNeedChart T.dNeedChart ["chart"] (spNeedChart T.P1) := by
  have GIsChart := ok_isChart (P := P) (w := w) (base := base) T TB
  refine T.FNeedChart.ok scNeedChart (fun vs H Q E h => ?_) (fun cdv A outer s H vs Q E hr h => ?_)
  · obtain ⟨_, _, _, rfl, _⟩ := h; rfl
  · obtain ⟨n, v, c, rfl, hv, o, hTab, q⟩ := h
    refine ⟨_, (pss_one (ps_if (pt_not (pt_val (pe_call GIsChart (hr.mono (by decide)) (by rfl) T.gIsChart T.FIsChart.kp T.bIsChart .nil pass0 (pa_cons (pv 0) pa_nil)))) (pss_one ps_never) pss_nil)), ?_⟩
    exact ⟨v, rfl, n, v, c, rfl, hv, o, hTab, fun H' hE => ⟨true, rfl, iteF (q H' hE)⟩⟩
/-! ### stepped -/
def spStepped : Sp := fun vs H Q _ => ∃ (v u : V) (c : Ch) (s : Sx), vs = [v, u] ∧ ChV H v c ∧ StV H u s ∧ c.length ≤ 6 ∧ stepOk c.length s = true ∧ ∀ H' v', Ex H H' → ChV H' v' (stepC c s) → Q v' H'
theorem stepOk_rng {n : Nat} {s : Sx} (h : stepOk n s = true) : 1 ≤ s.1 ∧ s.1 ≤ n ∧ 0 ≤ s.2 ∧ s.2 ≤ n ∧ s.1 ≠ s.2 := by
  unfold stepOk at h
  simp only [Bool.and_eq_true, decide_eq_true_eq, Bool.not_eq_true', decide_eq_false_iff_not] at h
  exact ⟨h.1.1.1, h.1.1.2, h.1.2.1, h.1.2.2, h.2⟩
theorem ok_stepped : FnOk P w K mg base CX0 1 T.fStepped T.dStepped ["chart", "step"] spStepped := by
  refine T.FStepped.ok scStepped (fun vs H Q E h => ?_) (fun cdv A outer s H vs Q E hr h => ?_)
  · obtain ⟨_, _, _, _, rfl, _⟩ := h; rfl
  · obtain ⟨v, u, c, st, rfl, ⟨a, rfl, ha⟩, ⟨b, rfl, hb⟩, hl, hok, q⟩ := h
    obtain ⟨h1, h2, h3, h4, h5⟩ := stepOk_rng hok
    have hT : SqT K H a (c.map V.int) := SqT.of ha
    refine ⟨_, (pss_cons (ps_asg (pv 1) (pg_tup rfl (pgs_cons (pg_name (i := 2) scStepped.nd rfl (.inr rfl)) (pgs_cons (pg_name (i := 3) scStepped.nd rfl (.inl rfl)) pgs_nil))))
      (pss_cons (ps_set (i := 4) scStepped.nd rfl (.inr rfl) (pe_ix ix_tup (pv 0) (pe_op op_sub (pv 2) pe_int) (fun _ _ => rfl)))
      (pss_cons (ps_setLc (i := 5) (own := [("one", 6)]) rfl scStepped.nd rfl rfl (sw_true rfl rfl rfl (by decide +kernel)) (pi_tup (pv 0)) (blkOk_by (own := [("one", 6)]) (N := ["chart", "step", "person", "chief", "old", "found", "one"]) (sc := (defScope sStepped)) (by decide +kernel)) (fun _ _ _ _ _ => (pg_name (i := 6) scStepped.nd rfl (.inl rfl))) (fun _ _ _ _ _ => pts_nil) (fun _ _ _ _ _ => (pe_ifExp (pt_cmpR op_eq (pv 6) (pv 2) (nomark _)) (pv 4) (pv 6))))
      (pss_cons (ps_asg (pv 3) (pg_sub (pv 5) (pe_op op_sub (pv 2) pe_int) set_list))
      (pss_one (ps_ret (pe_callTy call_tuple_of (by rfl) T.m_tuple (by decide +kernel) (pa_cons (pv 5) pa_nil)))))))), ?_⟩
    -- person, chief = step
    refine ⟨.ref b, rfl, b, [.int st.1, .int st.2], rfl, SqT.of hb, rfl, .int st.1, _, rfl, .int st.2, _, rfl, rfl, ?_⟩
    -- old
    have hi : (st.1 - 1).toNat < c.length := by omega
    have hat : atI (c.map V.int) (st.1 - 1) = some (.int (c.getD (st.1 - 1).toNat 0)) := by
      refine at_of (j := (st.1 - 1).toNat) (by omega) ?_
      rw [List.getElem?_map, List.getD_eq_getElem?_getD, List.getElem?_eq_getElem hi]; rfl
    refine ⟨.ref a, rfl, .int st.1, rfl, st.1, 1, rfl, rfl, a, _, _, _, rfl, rfl, hT, hat, ?_⟩
    -- the comprehension
    refine ⟨.ref a, rfl, a, rfl, ⟨_, hT⟩, fun D nD => ?_⟩
    refine lc_tup (K := K) (a := a) (xs := c.map V.int) (fun i H' => Ex H H' ∧ H' D = some (.lst (((c.take i).map fun x => if x = st.1 then c.getD (st.1 - 1).toNat 0 else x).map V.int))) ⟨Ex.new nD, upd_same⟩ (fun i H' _ h => SqT.of (h.1.tup ha)) ?_ ?_
    · rintro i x H' hx ⟨hE, hD⟩
      have hix : i < c.length := by
        have := (List.getElem?_eq_some_iff.mp hx).1
        rw [List.length_map] at this
        exact this
      have ex : x = .int c[i] := by
        rw [List.getElem?_map, List.getElem?_eq_getElem hix] at hx
        exact (Option.some.inj hx).symm
      subst ex
      refine ⟨rfl, iteT (B := True) ?_⟩
      have fin : ∀ y : Int, y = (if c[i] = st.1 then c.getD (st.1 - 1).toNat 0 else c[i]) → ∃ acc, H' D = some (.lst acc) ∧ acc.length < sizeLine ∧ Ex H (upd H' D (.lst (acc ++ [.int y]))) ∧ (upd H' D (.lst (acc ++ [.int y]))) D = some (.lst (((c.take (i + 1)).map fun x => if x = st.1 then c.getD (st.1 - 1).toNat 0 else x).map V.int)) := by
        intro y ey
        refine ⟨_, hD, ?_, hE.set nD, ?_⟩
        · rw [List.length_map, List.length_map, List.length_take]
          exact Nat.lt_of_le_of_lt (Nat.min_le_left _ _) (small1000 (by omega))
        · rw [upd_same, List.take_add_one, List.getElem?_eq_getElem hix, List.map_append, List.map_append, ey]
          rfl
      refine ⟨_, rfl, _, rfl, rfl, _, rfl, ?_⟩
      by_cases e : c[i] = st.1
      · have ed : decide (V.int c[i] = V.int st.1) = true := decide_eq_true (by rw [e])
        rw [ed]
        exact iteT ⟨_, rfl, fin _ (by rw [if_pos e])⟩
      · have ed : decide (V.int c[i] = V.int st.1) = false := decide_eq_false fun z => e (V.int.inj z)
        rw [ed]
        exact iteF ⟨_, rfl, fin _ (by rw [if_neg e])⟩
    · rintro H' ⟨hE, hD⟩
      have et : c.take (c.map V.int).length = c := List.take_of_length_le (by rw [List.length_map]; exact Nat.le_refl _)
      rw [et] at hD
      -- found[person - 1] = chief
      refine ⟨.int st.2, rfl, .ref D, rfl, .int st.1, rfl, st.1, 1, rfl, rfl, D, _, st.1 - 1, (st.1 - 1).toNat, rfl, rfl, hD, ?_, ?_⟩
      · have en : ((c.map fun x => if x = st.1 then c.getD (st.1 - 1).toNat 0 else x).map V.int).length = c.length := by simp
        rw [en]
        unfold ixN
        rw [if_pos (by omega), if_pos (by omega)]
      · refine ⟨.ref D, rfl, D, _, rfl, .inl ⟨SqL.of upd_same, fun l nl => ?_⟩⟩
        refine q _ _ ((hE.set nD).set ?_) ⟨l, rfl, ?_⟩
        · exact (hE.set nD).free _ nl
        · rw [upd_same]
          unfold stepC
          rw [List.map_set]
end
end G
set_option Elab.async false
set_option linter.all false
set_option maxRecDepth 100000
set_option maxHeartbeats 1000000
namespace G
open PySem PySem.Spec PyProof.Rows L2
theorem for_enumT {K : PySem.W.Frag} {a : Addr} {xs : List V} {g : TG} {tb : TS} {D : Ends} {σ : L2.St} {H : Hp} (Pv : Nat → L2.St → Hp → Prop) (h0 : Pv 0 σ H) (hq : ∀ i σ H, Pv i σ H → H a = some (.tup xs))
    (hs : ∀ i x T σ H, xs[i]? = some x → Pv i σ H → H T = none → g (.ref T) σ (upd H T (.tup [.int (i : Nat), x])) fun σ2 H2 => tb { D with nx := Pv (i + 1), ct := Pv (i + 1), bk := D.nx } σ2 H2) (hd : ∀ σ H, Pv xs.length σ H → D.nx σ H) :
    ∃ W : Nat → Nat → L2.St → Hp → Prop, (∃ m, W 0 m σ H) ∧ ∀ i m σ H, W i m σ H →
      ((IteT K a).stop i H ∧ D.nx σ H) ∨ ((IteT K a).go i H ∧ ∃ N : L2.St → Hp → Prop, (∀ σ' H', N σ' H' → ∃ m', m' < m ∧ W (i + 1) m' σ' H') ∧ ∀ y H', (IteT K a).yld i H y H' → g y σ H' fun σ2 H2 => tb { D with nx := N, ct := N, bk := D.nx } σ2 H2) := by
  refine ⟨fun i m σ H => m = xs.length - i ∧ i ≤ xs.length ∧ Pv i σ H, ⟨xs.length, rfl, Nat.zero_le _, h0⟩, ?_⟩
  rintro i m σ H ⟨rfl, hi, p⟩
  have hS : SqT K H a xs := SqT.of (hq i σ H p)
  by_cases hlt : i < xs.length
  · refine .inr ⟨⟨xs, _, hS, List.getElem?_eq_getElem hlt⟩, Pv (i + 1), fun σ' H' p' => ⟨xs.length - (i + 1), by omega, rfl, hlt, p'⟩, fun y H' hy => ?_⟩
    obtain ⟨Tt, x, rfl, nT, rfl, f⟩ := hy
    exact hs i x Tt σ H (f xs hS) p nT
  · have e : i = xs.length := by omega
    subst e
    exact .inl ⟨⟨xs, hS, rfl⟩, hd σ H p⟩
section
variable {P : Program} {w : World} {K : PySem.W.Frag} {mg : Str → Option Value} {base : Heap} (T : Tx K mg)
/-! ### need_row -/
def spNeedRow : Sp := fun vs H Q _ => ∃ (n : Nat) (v : V) (r : Rw), vs = [.int n, v] ∧ RwV H v r ∧ (∀ s ∈ r, stepOk n s = true) ∧ r.length ≤ 40 ∧ ∀ H', Ex H H' → Q .non H'
theorem ok_needRow : FnOk P w K mg base CX0 3 T.fNeedRow T.dNeedRow ["size", "row"] spNeedRow := by
  have GIsStep := ok_isStep (P := P) (w := w) (base := base) T
  obtain ⟨tMR, hMOST_ROW⟩ := T.c_MOST_ROW
  refine T.FNeedRow.ok scNeedRow (fun vs H Q E h => ?_) (fun cdv A outer s H vs Q E hr h => ?_)
  · obtain ⟨_, _, _, rfl, _⟩ := h; rfl
  · obtain ⟨n, v, r, rfl, ⟨a, xs, rfl, ha, hp⟩, hok, hlen, q⟩ := h
    have hl : xs.length = r.length := hp.length
    refine ⟨_, (pss_cons (ps_if (PW.pt (pw_or (pt_not (pt_val (pe_callB call_isi (by rfl) T.m_isinstance (by decide +kernel) (pa_cons (pv 1) (pa_cons (pe_bltn (v := .ty "tuple") (by rfl) T.m_tuple (by decide +kernel) rfl) pa_nil))))) (pw_or1 (pt_cmpR op_gt (pe_callB call_len_seq (by rfl) T.m_len PySem.boot_len (pa_cons (pv 1) pa_nil)) (pe_glob (v := .int 40) (by rfl) hMOST_ROW ⟨_, rfl⟩) (nomark _))))) (pss_one ps_never) pss_nil)
      (pss_one (ps_for PassesOwn.never rfl (pi_enumT (by rfl) T.m_enumerate (pa_cons (pv 1) pa_nil)) (pg_tup rfl (pgs_cons (pg_name (i := 2) scNeedRow.nd rfl (.inl rfl)) (pgs_cons (pg_name (i := 3) scNeedRow.nd rfl (.inl rfl)) pgs_nil))) (pss_one (ps_if (pt_not (pt_val (pe_call GIsStep (hr.mono (by decide)) (by rfl) T.gIsStep T.FIsStep.kp T.bIsStep .nil pass0 (pa_cons (pv 0) (pa_cons (pv 3) pa_nil))))) (pss_one ps_never) pss_nil))))), ?_⟩
    refine ⟨.ref a, rfl, _, _, .type "tuple", _, true, rfl, ClsV.ty _, .base (.tup ha), kit_ty (by decide +kernel), true, rfl, iteF ?_⟩
    refine ⟨.ref a, rfl, a, xs, rfl, .inr (SqT.of ha), _, 40, rfl, rfl, false, ?_, iteF ?_⟩
    · show V.bl (decide ((40 : Int) < (xs.length : Int))) = V.bl false
      rw [decide_eq_false (by omega)]
    refine ⟨.ref a, rfl, a, xs, rfl, SqT.of ha, ?_⟩
    refine for_enumT (xs := xs) (fun i σ H' => (∃ y2 y3, σ = [some (.int n), some (.ref a), y2, y3]) ∧ Ex H H') ⟨⟨none, none, rfl⟩, Ex.refl H⟩ (fun i σ H' h => h.2.tup ha) ?_ ?_
    · rintro i x Tt σ H' hx ⟨⟨y2, y3, rfl⟩, hE⟩ nT
      obtain ⟨st, e1, e2⟩ := Paired.get? hp hx
      have hE2 : Ex H (upd H' Tt (.tup [.int (i : Nat), x])) := hE.set (hE.free _ nT)
      refine ⟨Tt, _, rfl, SqT.of upd_same, rfl, _, _, rfl, _, _, rfl, rfl, ?_⟩
      refine ⟨_, rfl, x, rfl, n, x, st, rfl, e2.te hE2.te, ?_⟩
      rw [hok st (List.mem_of_getElem? e1)]
      exact ⟨true, rfl, iteF ⟨⟨_, _, rfl⟩, hE2⟩⟩
    · rintro σ H' ⟨⟨y2, y3, rfl⟩, hE⟩
      exact q H' hE
/-! ### trace -/
def spTrace : Sp := fun vs H Q _ => ∃ (v u : V) (c : Ch) (r : Rw), vs = [v, u] ∧ ChV H v c ∧ RwV H u r ∧ c.length ≤ 6 ∧ (∀ s ∈ r, stepOk c.length s = true) ∧ r.length ≤ 40 ∧
  ∀ H' p us v', Ex H H' → H' p = some (.lst (us ++ [v'])) → ChV H' v' (doneC c r) → Q (.ref p) H'
theorem ok_trace : FnOk P w K mg base CX0 2 T.fTrace T.dTrace ["chart", "row"] spTrace := by
  have GStepped := ok_stepped (P := P) (w := w) (base := base) T
  refine T.FTrace.ok scTrace (fun vs H Q E h => ?_) (fun cdv A outer s H vs Q E hr h => ?_)
  · obtain ⟨_, _, _, _, rfl, _⟩ := h; rfl
  · obtain ⟨v, u, c, r, rfl, hc, ⟨b, xs, rfl, hb, hp⟩, hcl, hok, hlen, q⟩ := h
    have hl : xs.length = r.length := hp.length
    refine ⟨_, (pss_cons (ps_set (i := 2) scTrace.nd rfl (.inl rfl) (pe_lst (pa_cons (pv 0) pa_nil)))
      (pss_cons (ps_for PassesOwn.never rfl (pi_tup (pv 1)) (pg_name (i := 3) scTrace.nd rfl (.inl rfl)) (pss_one (ps_expr (pe_bm PySem.F.plainAttrs_list PySem.F.slot_list_append PySem.F.type_list_append mt_append (pv 2) (pa_cons (pe_call GStepped (hr.mono (by decide)) (by rfl) T.gStepped T.FStepped.kp T.bStepped .nil pass0 (pa_cons (pe_ix ix_list (pv 2) (pe_un un_neg pe_int) (fun _ _ => rfl)) (pa_cons (pv 3) pa_nil))) pa_nil)))))
      (pss_one (ps_ret (pv 2))))), ?_⟩
    refine ⟨v, rfl, by show 1 ≤ sizeLine; decide, fun o no => ?_⟩
    refine ⟨.ref b, rfl, b, rfl, ⟨xs, SqT.of ((Ex.new no).tup hb)⟩, ?_⟩
    refine for_tup (K := K) (a := b) (xs := xs) (fun i σ H' => ∃ y3 us v', σ = [some v, some (.ref b), some (.ref o), y3] ∧ Ex H H' ∧ H' o = some (.lst (us ++ [v'])) ∧ us.length = i ∧ ChV H' v' (doneC c (r.take i)))
      ⟨none, [], v, rfl, Ex.new no, upd_same, rfl, hc.te (TE_.new no)⟩ (fun i σ H' _ h => let ⟨_, _, _, _, hE, _⟩ := h; SqT.of (hE.tup hb)) ?_ ?_
    · rintro i x σ H' hx ⟨y3, us, v', rfl, hE, ho, hul, hv'⟩
      obtain ⟨st, e1, e2⟩ := Paired.get? hp hx
      have hir : i < r.length := (List.getElem?_eq_some_iff.mp e1).1
      have hdl : (doneC c (r.take i)).length = c.length := doneC_len _ _
      refine ⟨.ref o, rfl, .inl ⟨rfl, _, SqL.of ho⟩, .ref o, rfl, 1, rfl, o, _, -1, v', rfl, rfl, SqL.of ho, atI_last _ _, x, rfl, v', x, doneC c (r.take i), st, rfl, hv', e2.te hE.te, by rw [hdl]; exact hcl, by rw [hdl]; exact hok st (List.mem_of_getElem? e1), fun H2 v2 hE2 hv2 => ?_⟩
      refine ⟨o, _, v2, rfl, rfl, hE2.lst ho, ?_, _, us ++ [v'], v2, rfl, (hE.trans hE2).set no, upd_same, by rw [List.length_append, hul]; rfl, ?_⟩
      · rw [List.length_append, hul]
        exact small1000 (by show i + 1 ≤ 1000; omega)
      · have e3 : doneC c (r.take (i + 1)) = stepC (doneC c (r.take i)) st := by
          rw [List.take_add_one, e1]
          exact doneC_snoc _ _ _
        rw [e3]
        exact hv2.te (TE_.lst (hE2.lst ho))
    · rintro σ H' ⟨y3, us, v', rfl, hE, ho, hul, hv'⟩
      have et : r.take xs.length = r := List.take_of_length_le (by omega)
      rw [et] at hv'
      exact ⟨_, rfl, q H' o us v' hE ho hv'⟩
/-! ### all_steps -/
def spAllSteps : Sp := fun vs H Q _ => ∃ n : Nat, vs = [.int n] ∧ n ≤ 6 ∧ ∀ H' p, Ex H H' → H p = none → Ls StV H' p (stepsOf n) → Q (.ref p) H'
theorem ok_allSteps : FnOk P w K mg base CX0 1 T.fAllSteps T.dAllSteps ["size"] spAllSteps := by
  refine T.FAllSteps.ok scAllSteps (fun vs H Q E h => ?_) (fun cdv A outer s H vs Q E hr h => ?_)
  · obtain ⟨_, rfl, _⟩ := h; rfl
  · obtain ⟨n, rfl, hn, q⟩ := h
    refine ⟨_, (pss_cons (ps_set (i := 1) scAllSteps.nd rfl (.inl rfl) (pe_lst pa_nil))
      (pss_cons (ps_for PassesOwn.never rfl (pi_range2 (by rfl) T.m_range (pa_cons pe_int (pa_cons (pe_op op_add (pv 0) pe_int) pa_nil))) (pg_name (i := 2) scAllSteps.nd rfl (.inr rfl)) (pss_one (ps_set (i := 1) scAllSteps.nd rfl (.inl rfl) (pe_op op_cat (pv 1) (pe_lc (own := [("chief", 3)]) rfl scAllSteps.nd (pi_range1 (by rfl) T.m_range (pa_cons (pe_op op_add (pv 0) pe_int) pa_nil)) (blkOk_by (own := [("chief", 3)]) (N := ["size", "found", "person", "chief"]) (sc := (defScope sAllSteps)) (by decide +kernel)) (fun _ _ _ _ _ => (pg_name (i := 3) scAllSteps.nd rfl (.inl rfl))) (fun _ _ _ _ _ => (pts_one (pt_cmpR op_ne (pv 3) (pv 2) (nomark _)))) (fun _ _ _ _ _ => (pe_tup (pa_cons (pv 2) (pa_cons (pv 3) pa_nil)))))))))
      (pss_one (ps_ret (pv 1))))), ?_⟩
    refine ⟨Nat.zero_le _, fun o no => ?_⟩
    refine ⟨.int n, rfl, _, _, rfl, rfl, 1, (n : Int) + 1, rfl, by omega, ?_⟩
    refine for_range (lo := 1) (n := ((n : Int) + 1 - 1).toNat) (fun i σ H' => ∃ y2 y3 o, σ = [some (.int n), some (.ref o), y2, y3] ∧ Ex H H' ∧ H o = none ∧ Ls StV H' o ((List.range i).flatMap fun i => stepsP i (n + 1)))
      ⟨none, none, o, rfl, Ex.new no, no, [], upd_same, .nil⟩ ?_ ?_
    · rintro i σ H' hi ⟨y2, y3, o, rfl, hE, no, vs, ho, hvs⟩
      have hvl : vs.length ≤ 100 := by
        rw [hvs.length]
        have h1 : ∀ m, m ≤ 6 → ((List.range m).flatMap fun i => stepsP i (n + 1)).length ≤ m * 7 := by
          intro m hm
          induction m with
          | zero => simp
          | succ m ih =>
            rw [List.range_succ, List.flatMap_append, List.length_append]
            have h2 : ([m].flatMap fun i => stepsP i (n + 1)).length ≤ n + 1 := by
              simp only [List.flatMap_cons, List.flatMap_nil, List.append_nil, stepsP, List.length_map]
              exact Nat.le_trans (List.length_filter_le _ _) (by simp)
            have := ih (by omega)
            omega
        have := h1 i (by omega)
        omega
      refine ⟨.ref o, rfl, .int n, rfl, _, _, rfl, rfl, (n : Int) + 1, rfl, ?_, ?_, fun D nD => ?_⟩
      · omega
      · omega
      have nDH : H D = none := hE.free _ nD
      have noD : o ≠ D := fun z => by rw [z] at ho; rw [nD] at ho; cases ho
      refine lc_range (lo := 0) (n := ((n : Int) + 1).toNat) (fun k H2 => Ex H' H2 ∧ ∃ ws, H2 D = some (.lst ws) ∧ Paired (StV H2) ws (stepsP i k)) ⟨Ex.new nD, [], upd_same, .nil⟩ ?_ ?_
      · rintro k H2 hk ⟨hE2, ws, hD, hws⟩
        have hwl : ws.length ≤ k := by
          rw [hws.length]
          simp only [stepsP, List.length_map]
          exact Nat.le_trans (List.length_filter_le _ _) (by simp)
        have ek : (0 : Int) + (k : Int) = (k : Int) := by omega
        refine ⟨rfl, _, rfl, _, rfl, rfl, _, rfl, ?_⟩
        by_cases e : (k : Int) = (i : Int) + 1
        · have ed : (!decide (V.int (0 + (k : Int)) = V.int (1 + (i : Int)))) = false := by
            rw [decide_eq_true (by rw [ek, e, Int.add_comm])]; rfl
          rw [ed]
          refine iteF ⟨hE2, ws, hD, ?_⟩
          rw [stepsP_succ, if_pos e, List.append_nil]
          exact hws
        · have ed : (!decide (V.int (0 + (k : Int)) = V.int (1 + (i : Int)))) = true := by
            rw [decide_eq_false (fun z => e (by have := V.int.inj z; omega))]; rfl
          rw [ed]
          refine iteT ⟨_, rfl, _, rfl, by show 2 ≤ sizeLine; decide, fun p np => ?_⟩
          have hDp : D ≠ p := fun z => by rw [z] at hD; rw [np] at hD; cases hD
          have hD2 : (upd H2 p (.tup [.int (1 + (i : Int)), .int (0 + (k : Int))])) D = some (.lst ws) := by rw [upd_ne hDp]; exact hD
          refine ⟨ws, hD2, small1000 (by omega), (hE2.set (hE2.free _ np)).set nD, _, upd_same, ?_⟩
          have t1 : TE_ H2 (upd H2 p (.tup [.int (1 + (i : Int)), .int (0 + (k : Int))])) := TE_.new np
          have t2 := TE_.lst (o := .lst (ws ++ [.ref p])) hD2
          rw [stepsP_succ, if_neg e]
          refine Paired.app (Paired.mapP hws fun _ _ z => z.te (t1.trans t2)) (.cons ⟨p, rfl, ?_⟩ .nil)
          refine t2 _ _ ?_
          rw [upd_same, ek, Int.add_comm]
      · rintro H2 ⟨hE2, ws, hD, hws⟩
        have en : ((n : Int) + 1).toNat = n + 1 := by omega
        rw [en] at hws
        have hwl : ws.length ≤ n + 1 := by
          rw [hws.length]
          simp only [stepsP, List.length_map]
          exact Nat.le_trans (List.length_filter_le _ _) (by simp)
        refine ⟨o, D, vs, ws, rfl, rfl, hE2.lst ho, hD, ?_, fun p np => ?_⟩
        · exact Nat.le_of_lt (small1000 (by omega))
        · have t1 : TE_ H2 (upd H2 p (.lst (vs ++ ws))) := TE_.new np
          refine ⟨_, _, p, rfl, (hE.trans hE2).set ((hE.trans hE2).free _ np), (hE.trans hE2).free _ np, _, upd_same, ?_⟩
          rw [List.range_succ, List.flatMap_append]
          refine Paired.app (Paired.mapP hvs fun _ _ z => z.te (hE2.te.trans t1)) ?_
          have e1 : ([i].flatMap fun i => stepsP i (n + 1)) = stepsP i (n + 1) := by simp
          rw [e1]
          exact Paired.mapP hws fun _ _ z => z.te t1
    · rintro σ H' ⟨y2, y3, o, rfl, hE, no, hL⟩
      have en : ((n : Int) + 1 - 1).toNat = n := by omega
      rw [en] at hL
      exact ⟨_, rfl, q H' o hE no hL⟩
end
end G
set_option Elab.async false
set_option linter.all false
set_option maxRecDepth 100000
set_option maxHeartbeats 1000000
namespace G
open PySem PySem.Spec PyProof.Rows L2
section
variable {P : Program} {w : World} {K : PySem.W.Frag} {mg : Str → Option Value} {base : Heap} (T : Tx K mg)
/-! ### are_steps, is_row -/
/-- a row, or a list -/
def WV (H : Hp) (v : V) : Option Rw → Prop
  | some r => RwV H v r
  | none => ∃ a xs, v = .ref a ∧ H a = some (.lst xs)
def stepsB (n : Nat) : Option Rw → Bool
  | some r => r.all (stepOk n)
  | none => false
def lenOk : Option Rw → Prop
  | some r => r.length ≤ 40
  | none => True
def spAreSteps (P2 : Addr) : Sp := fun vs H Q _ => ∃ (n : Nat) (v : V) (x : Option Rw), vs = [.int n, v, .int 40] ∧ WV H v x ∧ lenOk x ∧ GxR.TabG H P2 ∧ ∀ H', Ex H H' → Q (.bl (stepsB n x)) H'
theorem ok_areSteps (TB : GxR.TabB base mg T.c2 T.P2) : FnOk P w K mg base CX0 2 T.fAreSteps T.dAreSteps ["size", "value", "most"] (spAreSteps T.P2) := by
  refine okC T.FAreSteps scAreSteps (fun vs H Q E h => ?_) (fun cdv hcd A outer s H vs Q E hr h => ?_)
  · obtain ⟨_, _, _, rfl, _⟩ := h; rfl
  · obtain ⟨n, v, x, rfl, hx, hlen, hTab, q⟩ := h
    have hcode : cdv = .ref T.c2 := hcd.symm.trans T.e2
    subst hcode
    have scGen2 : GxR.GenS (envOfC "are_steps" (defScope sAreSteps) s.heap.objs.size T.fAreSteps (.ref T.c2)) (scopeGen gen2) "step" := ⟨by decide +kernel, by decide +kernel, by decide +kernel, by decide +kernel, by decide +kernel, fun y hy e => by
      have hy2 : y = (("size" : Str), NameKind.free) := by
        have : ∀ y ∈ (scopeGen gen2).names, y.2 = .free → y = (("size" : Str), NameKind.free) := by decide +kernel
        exact this y hy e
      rw [hy2]
      exact cell_has (sc := defScope sAreSteps) (by decide +kernel)⟩
    refine ⟨_, (pss_one (ps_ret (pe_and (pe_callB call_isi (by rfl) T.m_isinstance (by decide +kernel) (pa_cons (pv 1) (pa_cons (pe_bltn (v := .ty "tuple") (by rfl) T.m_tuple (by decide +kernel) rfl) pa_nil))) (pe_and (pe_cmpR op_le (pe_callB call_len_seq (by rfl) T.m_len PySem.boot_len (pa_cons (pv 1) pa_nil)) (pv 2) (nomark _)) (pe_one (pe_allT (x := "step") hr (by rfl) T.m_all TB rfl scGen2 (pv 1) (fun _ => rfl))))))), ?_⟩
    have hPn : H T.P2 ≠ none := fun z => by obtain ⟨ps, e, _⟩ := hTab; rw [z] at e; cases e
    cases x with
    | none =>
      obtain ⟨a, xs, rfl, ha⟩ := hx
      exact ⟨_, rfl, _, _, .type "list", _, false, rfl, ClsV.ty _, .base (.lst ha), kit_ty (by decide +kernel), false, rfl, iteF (q H (Ex.refl H))⟩
    | some r =>
      obtain ⟨a, xs, rfl, ha, hp⟩ := hx
      have hl : xs.length = r.length := hp.length
      have hlen : r.length ≤ 40 := hlen
      refine ⟨_, rfl, _, _, .type "tuple", _, true, rfl, ClsV.ty _, .base (.tup ha), kit_ty (by decide +kernel), true, rfl, iteT ?_⟩
      refine ⟨_, rfl, a, _, rfl, .inr (SqT.of ha), _, rfl, _, 40, rfl, rfl, true, ?_, iteT ?_⟩
      · show V.bl (decide ((xs.length : Int) ≤ 40)) = V.bl true
        rw [decide_eq_true (by omega)]
      refine ⟨.ref a, rfl, a, xs, fun i => stepOk n (r.getD i (0, 0)), rfl, ha, hTab, ?_, fun H2 hT2 => ?_⟩
      · -- the element
        intro pins s1 I cenv h1 m i v u esc egl ebl ecl k hn hm hi rv0
        have kb := base_kept I hPn k
        obtain ⟨gd, lim⟩ := gd_of I kb
        have hkind : cenv.scope.kind = .function := by rw [esc]
        have ge : Ge cenv := ⟨hkind, egl, ebl⟩
        have kn : ∀ (x : Str) (y : NameKind), (scopeGen gen2).names.lookup x = some y → cenv.kindOf x = some y := fun x y h => by
          show cenv.scope.names.lookup x = _
          rw [esc]; exact h
        obtain ⟨cc, uc, c1, c2, c3, c4⟩ := cell_at I (i := 0) (x := "size") rfl rfl (by show (defScope sAreSteps).names.lookup ("size" : Str) = _; decide +kernel)
        have hcl : cenv.cells.lookup ("size" : Str) = some cc := by
          rw [ecl]
          have e : ∀ cells : List (Str × Addr), (cloFrom cells (scopeGen gen2).names []).lookup ("size" : Str) = some ((cells.lookup ("size" : Str)).getD 0) := fun cells => by
            have e2 : cloFrom cells (scopeGen gen2).names [] = [(("size" : Str), (cells.lookup ("size" : Str)).getD 0)] := rfl
            rw [e2]; rfl
          show (cloFrom (envOfC "are_steps" (defScope sAreSteps) s.heap.objs.size T.fAreSteps (.ref T.c2)).cells (scopeGen gen2).names []).lookup ("size" : Str) = some cc
          rw [e]
          have c1' : List.lookup ("size" : Str) (envOfC "are_steps" (defScope sAreSteps) s.heap.objs.size T.fAreSteps (.ref T.c2)).cells = some cc := c1
          rw [c1']; rfl
        have hcell : h1.IsCell cc (some uc) := by
          obtain ⟨ob, q1, q2⟩ := c2
          exact ⟨ob, k cc ob (fun z => hPn (by rw [← z]; exact c4)) q1, q2⟩
        obtain ⟨st, e1, b, eb, hb⟩ := Paired.get? hp hi
        subst eb
        obtain ⟨its, rv, htup, hz⟩ := I.tuple (SqT.of hb)
        have htup1 : IsTup h1 b its.toArray := by
          obtain ⟨ob, q1, q2, q3⟩ := htup
          exact ⟨ob, k b ob (fun z => by
            obtain ⟨ps, e, _⟩ := hTab
            rw [← z, hb] at e
            cases e) q1, q2, q3⟩
        have hdp := hr.dp
        have res := re_call (P := P) (w := w) (env := cenv) (D := (A.deeper (envOfC "are_steps" (defScope sAreSteps) s.heap.objs.size T.fAreSteps (.ref T.c2))).depth + 1) (p := ⟨51, 68, 51, 75⟩) (pos := ⟨51, 68, 51, 87⟩) gd ge (kn "is_step" _ (by decide +kernel)) T.gIsStep T.FIsStep.kp
          (rf_isStep T.FIsStep T.bIsStep T.FIsIn T.bIsIn gd lim (by omega) T.gIsIn T.m_isinstance T.m_int T.m_bool T.m_tuple T.m_len n st htup1 rv)
          (ra_cons (re_free (x := "size") (pos := ⟨51, 76, 51, 80⟩) ge (kn _ _ (by decide +kernel)) hcl hcell c3) (ra_cons (re_local (x := "step") (pos := ⟨51, 82, 51, 86⟩) ge (kn _ _ (by decide +kernel)) hn hm rv0) ra_nil))
        have eg : r.getD i (0, 0) = st := by rw [List.getD_eq_getElem?_getD, e1]; rfl
        show RE P w cenv h1 _ _ (.bl (stepOk n (r.getD i (0, 0))))
        rw [eg]
        exact res
      · have eall : ((List.range xs.length).all fun i => stepOk n (r.getD i (0, 0))) = r.all (stepOk n) := by
          rw [hl, Bool.eq_iff_iff, List.all_eq_true, List.all_eq_true]
          constructor
          · intro h y hy
            obtain ⟨j, hj, e⟩ := List.getElem_of_mem hy
            have z := h j (List.mem_range.mpr hj)
            rw [List.getD_eq_getElem?_getD, List.getElem?_eq_getElem hj] at z
            rw [← e]; exact z
          · intro h i hi
            have hj := List.mem_range.mp hi
            rw [List.getD_eq_getElem?_getD, List.getElem?_eq_getElem hj]
            exact h _ (List.getElem_mem hj)
        rw [eall]
        exact q H2 (Ex.tbd hTab hT2)
def spIsRow (P2 : Addr) : Sp := fun vs H Q _ => ∃ (n : Nat) (v : V) (x : Option Rw), vs = [.int n, v] ∧ WV H v x ∧ lenOk x ∧ GxR.TabG H P2 ∧ ∀ H', Ex H H' → Q (.bl (stepsB n x)) H'
theorem ok_isRow (TB : GxR.TabB base mg T.c2 T.P2) : FnOk P w K mg base CX0 3 T.fIsRow T.dIsRow ["size", "value"] (spIsRow T.P2) := by
  have GAreSteps := ok_areSteps (P := P) (w := w) (base := base) T TB
  obtain ⟨tMR, hMOST_ROW⟩ := T.c_MOST_ROW
  refine T.FIsRow.ok scIsRow (fun vs H Q E h => ?_) (fun cdv A outer s H vs Q E hr h => ?_)
  · obtain ⟨_, _, _, rfl, _⟩ := h; rfl
  · obtain ⟨n, v, x, rfl, hx, hlen, hTab, q⟩ := h
    refine ⟨_, (pss_one (ps_ret (pe_call GAreSteps (hr.mono (by decide)) (by rfl) T.gAreSteps T.FAreSteps.kp T.bAreSteps .nil pass0 (pa_cons (pv 0) (pa_cons (pv 1) (pa_cons (pe_glob (v := .int 40) (by rfl) hMOST_ROW ⟨_, rfl⟩) pa_nil)))))), ?_⟩
    exact ⟨_, rfl, v, rfl, n, v, x, rfl, hx, hlen, hTab, q⟩
end
end G
set_option Elab.async false
set_option linter.all false
set_option maxRecDepth 100000
set_option maxHeartbeats 2000000
namespace G
open PySem PySem.Spec PyProof.Rows L2
/-! ### the table as a dict -/
def inls (c : Ch) : List Key := c.map Sum.inl
theorem inls_inj : ∀ {c d : Ch}, inls c = inls d → c = d
  | [], [], _ => rfl
  | [], _ :: _, h => by cases h
  | _ :: _, [], h => by cases h
  | x :: c, y :: d, h => by
    have h : (Sum.inl x : Key) :: inls c = Sum.inl y :: inls d := h
    injection h with h1 h2
    rw [Sum.inl.inj h1, inls_inj h2]
theorem inls_kV (c : Ch) : (inls c).map kV = c.map V.int := by
  unfold inls
  rw [List.map_map]; rfl
def KvR (H : Hp) (x : List Key × V) (y : Ch × Part) : Prop := x.1 = inls y.1 ∧ PtV H x.2 y.2
def TbV (H : Hp) (d : Addr) (t : Tb) : Prop := ∃ kvs, H d = some (.dT kvs) ∧ Paired (KvR H) kvs t
theorem KvR.te {H H' : Hp} (e : TE_ H H') {x : List Key × V} {y : Ch × Part} (h : KvR H x y) : KvR H' x y := ⟨h.1, h.2.te e⟩
theorem kvs_te {H H' : Hp} (e : TE_ H H') {kvs : List (List Key × V)} {t : Tb} (h : Paired (KvR H) kvs t) : Paired (KvR H') kvs t := Paired.mapP h fun _ _ q => q.te e
theorem tb_val {H : Hp} : ∀ {kvs : List (List Key × V)} {t : Tb} (c : Ch), Paired (KvR H) kvs t → (lookM t c = none ∧ valV kvs (inls c) = none) ∨ ∃ p v, lookM t c = some p ∧ valV kvs (inls c) = some v ∧ PtV H v p
  | _, _, c, .nil => .inl ⟨rfl, rfl⟩
  | _, _, c, .cons (a := x) (b := y) r q => by
    rw [lookM_cons]
    by_cases e : y.1 = c
    · have e2 : x.1 = inls c := by rw [r.1, e]
      rw [if_pos e, valV_pos e2]
      exact .inr ⟨_, _, rfl, rfl, r.2⟩
    · have e2 : ¬ x.1 = inls c := fun z => e (inls_inj (r.1.symm.trans z))
      rw [if_neg e, valV_neg e2]
      exact tb_val c q
theorem tb_any {H : Hp} (c : Ch) : ∀ {kvs : List (List Key × V)} {t : Tb}, Paired (KvR H) kvs t → (kvs.any fun kv => decide (kv.1 = inls c)) = t.any fun kv => decide (kv.1 = c)
  | _, _, .nil => rfl
  | _, _, .cons (a := x) (b := y) r q => by
    rw [List.any_cons, List.any_cons, tb_any c q]
    have e : decide (x.1 = inls c) = decide (y.1 = c) := by
      rw [r.1]
      by_cases e : y.1 = c
      · rw [decide_eq_true e, decide_eq_true (by rw [e])]
      · rw [decide_eq_false e, decide_eq_false (fun z => e (inls_inj z))]
    rw [e]
theorem tb_repl {H : Hp} {v : V} {p : Part} (c : Ch) (hv : PtV H v p) : ∀ {kvs : List (List Key × V)} {t : Tb}, Paired (KvR H) kvs t → Paired (KvR H) (kvs.map fun kv => if kv.1 = inls c then (kv.1, v) else kv) (t.map fun kv => if kv.1 = c then (kv.1, p) else kv)
  | _, _, .nil => .nil
  | _, _, .cons (a := x) (b := y) r q => by
    rw [List.map_cons, List.map_cons]
    refine .cons ?_ (tb_repl c hv q)
    by_cases e : y.1 = c
    · rw [if_pos e, if_pos (by rw [r.1, e])]
      exact ⟨r.1, hv⟩
    · rw [if_neg e, if_neg (fun z => e (inls_inj (r.1.symm.trans z)))]
      exact r
theorem tb_put {H : Hp} {v : V} {p : Part} (c : Ch) (hv : PtV H v p) {kvs : List (List Key × V)} {t : Tb} (h : Paired (KvR H) kvs t) : Paired (KvR H) (putK kvs (inls c) v) (putM t c p) := by
  unfold putK putM
  rw [tb_any c h]
  split
  · exact tb_repl c hv h
  · exact Paired.app h (.cons ⟨rfl, hv⟩ .nil)
theorem foldl_len (lt : Part → Part → Bool) : ∀ (M : List (Ch × Part)) (t : Tb), (M.foldl (upd1 lt) t).length ≤ t.length + M.length
  | [], t => by simp
  | x :: M, t => by
    have h1 := foldl_len lt M (upd1 lt t x)
    have h2 : (upd1 lt t x).length ≤ t.length + 1 := by
      unfold upd1
      split
      · exact putM_len _ _ _
      · split
        · exact putM_len _ _ _
        · omega
    rw [List.foldl_cons, List.length_cons]
    omega
theorem tC_ite {c : Prop} [Decidable c] {σ : L2.St} {H : Hp} {Q : VK} {x y : V} (h : Q (if c then x else y) H) : if c then tC x σ H Q else tC y σ H Q := by
  by_cases e : c
  · rw [if_pos e] at h ⊢; exact h
  · rw [if_neg e] at h ⊢; exact h
theorem ltP_ne {p q : Part} (e : p.1 ≠ q.1) : ltP p q = decide (p.1 < q.1) := by
  unfold ltP ptD
  rw [PySem.W.dataLt_tuple, PySem.W.dataLt_all_no (by simp [PySem.W.alike]) (by simp [PyData.eqv, e]), PySem.W.dataLt_int]
theorem ltP_le (p q : Part) (h : ltP p q = true) : p.1 ≤ q.1 := by
  by_cases e : p.1 = q.1
  · omega
  · rw [ltP_ne e] at h
    have := of_decide_eq_true h
    omega
theorem ltP_ge (p q : Part) (h : ltP p q = false) : q.1 ≤ p.1 := by
  by_cases e : p.1 = q.1
  · omega
  · rw [ltP_ne e] at h
    have := of_decide_eq_false h
    omega
/-- the first j charts of the table, the first k steps of the next -/
def candJ (S : List Sx) (old : Sx) (t : Tb) (j : Nat) : List (Ch × Part) := ((t.map (·.1)).take j).flatMap fun here => candS S old here ((lookM t here).getD (0, []))
theorem candJ_len (S : List Sx) (old : Sx) (t : Tb) (j : Nat) : (candJ S old t j).length ≤ j * S.length := by
  unfold candJ
  have h : ∀ l : List Ch, (l.flatMap fun here => candS S old here ((lookM t here).getD (0, []))).length = l.length * S.length := by
    intro l
    induction l with
    | nil => simp
    | cons a l ih => rw [List.flatMap_cons, List.length_append, ih, List.length_cons, Nat.succ_mul]; simp [candS]; omega
  rw [h, List.length_take]
  exact Nat.mul_le_mul_right _ (Nat.min_le_left _ _)
theorem candJ_succ (S : List Sx) (old : Sx) (t : Tb) (j : Nat) {c : Ch} (h : (t.map (·.1))[j]? = some c) : candJ S old t (j + 1) = candJ S old t j ++ candS S old c ((lookM t c).getD (0, [])) := by
  unfold candJ
  rw [List.take_add_one, h, List.flatMap_append]
  simp
theorem for_keysT {d : Addr} {od : Obj} {kvs : List (List Key × V)} {g : TG} {tb : TS} {D : Ends} {σ : L2.St} {H : Hp} (Pv : Nat → L2.St → Hp → Prop) (h0 : Pv 0 σ H) (hq : ∀ i σ H, Pv i σ H → H d = some (.frz od (.dT kvs)))
    (hs : ∀ i k v q σ H, kvs[i]? = some (k, v) → Pv i σ H → H q = some (.tup (k.map kV)) → g (.ref q) σ H fun σ2 H2 => tb { D with nx := Pv (i + 1), ct := Pv (i + 1), bk := D.nx } σ2 H2) (hd : ∀ σ H, Pv kvs.length σ H → D.nx σ H) :
    ∃ W : Nat → Nat → L2.St → Hp → Prop, (∃ m, W 0 m σ H) ∧ ∀ i m σ H, W i m σ H →
      ((Itkt d od kvs).stop i H ∧ D.nx σ H) ∨ ((Itkt d od kvs).go i H ∧ ∃ N : L2.St → Hp → Prop, (∀ σ' H', N σ' H' → ∃ m', m' < m ∧ W (i + 1) m' σ' H') ∧ ∀ y H', (Itkt d od kvs).yld i H y H' → g y σ H' fun σ2 H2 => tb { D with nx := N, ct := N, bk := D.nx } σ2 H2) := by
  refine ⟨fun i m σ H => m = kvs.length - i ∧ i ≤ kvs.length ∧ Pv i σ H, ⟨kvs.length, rfl, Nat.zero_le _, h0⟩, ?_⟩
  rintro i m σ H ⟨rfl, hi, p⟩
  have hS := hq i σ H p
  by_cases hlt : i < kvs.length
  · refine .inr ⟨⟨hS, hlt⟩, Pv (i + 1), fun σ' H' p' => ⟨kvs.length - (i + 1), by omega, rfl, hlt, p'⟩, fun y H' hy => ?_⟩
    obtain ⟨rfl, k, v, q, e1, rfl, e2⟩ := hy
    exact hs i k v q σ H' e1 p e2
  · have e : i = kvs.length := by omega
    subst e
    exact .inl ⟨⟨hS, Nat.le_refl _⟩, hd σ H p⟩
theorem cheap_snoc (lt : Part → Part → Bool) (S : List Sx) (c : Ch) (r : Rw) (s : Sx) : cheap lt S c (r ++ [s]) = turn lt S s (cheap lt S c r) := by
  unfold cheap
  rw [List.foldl_append]; rfl
theorem turn_len (lt : Part → Part → Bool) (S : List Sx) (s : Sx) (t : Tb) : (turn lt S s t).length ≤ t.length * S.length := by
  have h1 := foldl_len lt (candK S s t) []
  have h2 := candJ_len S s t t.length
  have e : candJ S s t t.length = candK S s t := by
    unfold candJ candK
    rw [List.take_of_length_le (by simp)]
  rw [e] at h2
  unfold turn
  simp only [List.length_nil, Nat.zero_add] at h1
  omega
theorem cheap_len (lt : Part → Part → Bool) (S : List Sx) (c : Ch) (hS : S.length ≤ 12) : ∀ (k : Nat) (r : Rw), r.length = k → (cheap lt S c r).length ≤ 12 ^ k
  | 0, r, h => by
    have : r = [] := List.eq_nil_of_length_eq_zero h
    subst this
    simp [cheap]
  | k + 1, r, h => by
    have hne : r ≠ [] := fun e => by rw [e] at h; cases h
    have e := List.dropLast_concat_getLast hne
    rw [← e, cheap_snoc]
    have h1 := turn_len lt S (r.getLast hne) (cheap lt S c r.dropLast)
    have h2 := cheap_len lt S c hS k r.dropLast (by rw [List.length_dropLast, h]; rfl)
    have h3 : (cheap lt S c r.dropLast).length * S.length ≤ 12 ^ k * 12 := Nat.mul_le_mul h2 hS
    rw [Nat.pow_succ]
    omega
section
variable {P : Program} {w : World} {K : PySem.W.Frag} {mg : Str → Option Value} {base : Heap} (T : Tx K mg)
def spCheapest : Sp := fun vs H Q _ => ∃ (n : Nat) (v u : V) (c : Ch) (r : Rw), vs = [v, u] ∧ ChV H v c ∧ RwV H u r ∧ c.length = n ∧ 1 ≤ n ∧ n ≤ 3 ∧ (∀ s ∈ r, stepOk n s = true) ∧ r.length ≤ 3 ∧
  ∀ H' d, Ex H H' → TbV H' d (cheap ltP (stepsOf n) c r) → Q (.ref d) H'
theorem ok_cheapest : FnOk P w K mg base CX0 2 T.fCheapest T.dCheapest ["start", "row"] spCheapest := by
  have GAllSteps := ok_allSteps (P := P) (w := w) (base := base) T
  have GStepped := ok_stepped (P := P) (w := w) (base := base) T
  refine T.FCheapest.ok scCheapest (fun vs H Q E h => ?_) (fun cdv A outer s H vs Q E hr h => ?_)
  · obtain ⟨_, _, _, _, _, rfl, _⟩ := h; rfl
  · obtain ⟨n, v, u, c, r, rfl, ⟨ca, rfl, hca⟩, ⟨b, xs, rfl, hb, hp⟩, hcn, hn1, hn3, hok, hlen, q⟩ := h
    have hl : xs.length = r.length := hp.length
    have hS12 : (stepsOf n).length ≤ 12 := by
      have h1 := stepsOf_len_le n
      have : n = 1 ∨ n = 2 ∨ n = 3 := by omega
      rcases this with rfl | rfl | rfl <;> omega
    refine ⟨_, (pss_cons (ps_set (i := 2) scCheapest.nd rfl (.inl rfl) (pe_disp1T hr.units0 (pv 0) (pe_tup (pa_cons pe_int (pa_cons (pe_tup pa_nil) pa_nil)))))
      (pss_cons (ps_for PassesOwn.never rfl (pi_tup (pv 1)) (pg_name (i := 3) scCheapest.nd rfl (.inl rfl)) (pss_cons (ps_set (i := 4) scCheapest.nd rfl (.inl rfl) pe_dnewT)
      (pss_cons (ps_lock (ps_for PassesOwn.never rfl (pi_keys (pv 2)) (pg_name (i := 5) scCheapest.nd rfl (.inl rfl)) (pss_cons (ps_asg (pe_dget (hu_of hr) (pv 2) (pv 5) (fun _ _ => rfl)) (pg_tup rfl (pgs_cons (pg_name (i := 6) scCheapest.nd rfl (.inl rfl)) (pgs_cons (pg_name (i := 7) scCheapest.nd rfl (.inl rfl)) pgs_nil))))
      (pss_one (ps_for PassesOwn.never rfl (pi_list (pe_call GAllSteps (hr.mono (by decide)) (by rfl) T.gAllSteps T.FAllSteps.kp T.bAllSteps .nil pass0 (pa_cons (pe_callB call_len_seq (by rfl) T.m_len PySem.boot_len (pa_cons (pv 0) pa_nil)) pa_nil))) (pg_name (i := 8) scCheapest.nd rfl (.inl rfl)) (pss_cons (ps_set (i := 9) scCheapest.nd rfl (.inl rfl) (pe_call GStepped (hr.mono (by decide)) (by rfl) T.gStepped T.FStepped.kp T.bStepped .nil pass0 (pa_cons (pv 5) (pa_cons (pv 8) pa_nil))))
      (pss_cons (ps_set (i := 10) scCheapest.nd rfl (.inl rfl) (pe_tup (pa_cons (pe_op op_add (pv 6) (pe_ifExp (pt_cmpR (op_eqD hr.units) (pv 8) (pv 3) (nomark _)) pe_int pe_int)) (pa_cons (pe_tup (StX.pa_star (pv 7) (pa_cons (pv 8) pa_nil))) pa_nil))))
      (pss_one (ps_if (PW.pt (pw_or (pt_cmp (pc_dnotin (hu_of hr) (pv 9) (pv 4))) (pw_or1 (pt_cmpR (op_ltP hr.units) (pv 10) (pe_dget (hu_of hr) (pv 4) (pv 9) (fun _ _ => rfl)) (nomark _))))) (pss_one (ps_dput (hu_of hr) (pv 4) (pv 9) (pv 10) rfl)) pss_nil)))))))))
      (pss_one (ps_set (i := 2) scCheapest.nd rfl (.inl rfl) (pv 4))))))
      (pss_one (ps_ret (pv 2))))), ?_⟩
    -- found = {start: (0, ())}
    refine fun d nd => ⟨.ref ca, rfl, Nat.zero_le _, fun p1 np1 => ⟨by show 2 ≤ sizeLine; decide, fun p2 np2 => ?_⟩⟩
    have e1 : Ex H (upd H d (.dT [])) := Ex.new nd
    have e2 : Ex H (upd (upd H d (.dT [])) p1 (.tup [])) := e1.set (e1.free _ np1)
    have e3 : Ex H (upd (upd (upd H d (.dT [])) p1 (.tup [])) p2 (.tup [.int 0, .ref p1])) := e2.set (e2.free _ np2)
    have d1 : d ≠ p1 := fun z => by rw [← z, upd_same] at np1; cases np1
    have d2 : d ≠ p2 := fun z => by rw [← z, upd_ne d1, upd_same] at np2; cases np2
    refine ⟨?_, ca, inls c, rfl, ?_, ?_⟩
    · rw [upd_ne d2, upd_ne d1, upd_same]
    · rw [inls_kV]; exact e3.tup hca
    have hd3 : (upd (upd (upd H d (.dT [])) p1 (.tup [])) p2 (.tup [.int 0, .ref p1])) d = some (.dT []) := by rw [upd_ne d2, upd_ne d1, upd_same]
    have p12 : p1 ≠ p2 := fun z => by rw [← z, upd_same] at np2; cases np2
    -- the loop over the row
    refine ⟨.ref b, rfl, b, rfl, ⟨xs, SqT.of ((e3.set nd).tup hb)⟩, ?_⟩
    refine for_tup (K := K) (a := b) (xs := xs) (fun i σ H' => ∃ y3 y4 y5 y6 y7 y8 y9 y10 d, σ = [some (.ref ca), some (.ref b), some (.ref d), y3, y4, y5, y6, y7, y8, y9, y10] ∧ Ex H H' ∧ H d = none ∧ TbV H' d (cheap ltP (stepsOf n) c (r.take i)))
      ⟨none, none, none, none, none, none, none, none, d, rfl, e3.set nd, nd, [(inls c, .ref p2)], upd_same, .cons ⟨rfl, p2, .ref p1, rfl, ?_, p1, [], rfl, ?_, .nil⟩ .nil⟩ (fun i σ H' _ h => let ⟨_, _, _, _, _, _, _, _, _, _, hE, _⟩ := h; SqT.of (hE.tup hb)) ?_ ?_
    · rw [upd_ne d2.symm, upd_same]
    · rw [upd_ne d1.symm, upd_ne p12, upd_same]
    · rintro i x σ H' hx ⟨y3, y4, y5, y6, y7, y8, y9, y10, d, rfl, hE, nd, kvs, hd, hkv⟩
      obtain ⟨old, eo, hold⟩ := Paired.get? hp hx
      have hold' : StV H' x old := hold.te hE.te
      have hir : i < r.length := (List.getElem?_eq_some_iff.mp eo).1
      have hti : r.take (i + 1) = r.take i ++ [old] := by rw [List.take_add_one, eo]; rfl
      generalize ht : cheap ltP (stepsOf n) c (r.take i) = t at hkv
      have htl : t.length ≤ 144 := by
        have := cheap_len ltP (stepsOf n) c hS12 (r.take i).length (r.take i) rfl
        rw [ht] at this
        have h2 : (r.take i).length ≤ 2 := by rw [List.length_take]; omega
        have h3 : 12 ^ (r.take i).length ≤ 12 ^ 2 := Nat.pow_le_pow_right (by decide) h2
        omega
      have hkl : kvs.length = t.length := hkv.length
      -- more = {}
      refine fun m nm => ?_
      have hmd : m ≠ d := fun z => by rw [z, hd] at nm; cases nm
      have hE1 : Ex H (upd H' m (.dT [])) := hE.set (hE.free _ nm)
      have hd1 : (upd H' m (.dT [])) d = some (.dT kvs) := by rw [upd_ne hmd.symm]; exact hd
      -- the lock
      refine ⟨d, .dT kvs, hd1, trivial, fun od => ?_⟩
      refine ⟨.ref d, rfl, d, od, rfl, .inr ⟨kvs, upd_same, ?_⟩⟩
      have hE2 : Ex H (upd (upd H' m (.dT [])) d (.frz od (.dT kvs))) := hE1.set nd
      have t2 : TE_ H' (upd (upd H' m (.dT [])) d (.frz od (.dT kvs))) := (TE_.new nm).trans (TE_.set hd1 fun _ z => nomatch z)
      refine for_keysT (fun j σ H2 => ∃ y5 y6 y7 y8 y9 y10, σ = [some (.ref ca), some (.ref b), some (.ref d), some x, some (.ref m), y5, y6, y7, y8, y9, y10] ∧ Ex H H2 ∧ TE_ H' H2 ∧ H2 d = some (.frz od (.dT kvs)) ∧ TbV H2 m ((candJ (stepsOf n) old t j).foldl (upd1 ltP) []))
        ⟨y5, y6, y7, y8, y9, y10, rfl, hE2, t2, upd_same, [], by rw [upd_ne hmd, upd_same], .nil⟩ (fun j σ H2 h => let ⟨_, _, _, _, _, _, _, _, _, h, _⟩ := h; h) ?_ ?_
      · rintro j k kv qa σ H2 hkj ⟨y5, y6, y7, y8, y9, y10, rfl, hE2, t2, hd2, mk, hm, hmk⟩ hqa
        have hjl : j < kvs.length := (List.getElem?_eq_some_iff.mp hkj).1
        obtain ⟨⟨here, pq⟩, ek, ekr⟩ := Paired.get? hkv hkj
        have ekk : k = inls here := ekr.1
        subst ekk
        rw [inls_kV] at hqa
        have hmem : (t.map (·.1))[j]? = some here := by rw [List.getElem?_map, ek]; rfl
        have hhl : here.length = n := by
          have h1 : here ∈ t.map (·.1) := List.mem_of_getElem? hmem
          obtain ⟨p0, hp0⟩ := lookM_of_mem h1
          have := (says_cheap ltP_le ltP_ge (stepsOf n) c (r.take i) here).2 p0 (by rw [ht]; exact hp0)
          rw [← this.2.1, doneC_len]; exact hcn
        -- changes, done = found[here]
        have hkv2 := kvs_te t2 hkv
        rcases tb_val here hkv2 with ⟨z, _⟩ | ⟨p, pv_, hlk, hvk, pa_, pu, rfl, hpa, hpr⟩
        · exfalso
          obtain ⟨p0, hp0⟩ := lookM_of_mem (List.mem_of_getElem? hmem)
          rw [z] at hp0; cases hp0
        refine ⟨.ref d, rfl, .ref qa, rfl, d, .ref pa_, rfl, .inr ⟨kvs, inls here, qa, .inr ⟨od, hd2⟩, rfl, by rw [inls_kV]; exact hqa, hvk.symm⟩, pa_, _, rfl, SqT.of hpa, rfl, _, _, rfl, _, _, rfl, rfl, ?_⟩
        -- for step in all_steps(len(start))
        refine ⟨.ref ca, rfl, ca, c.map V.int, rfl, .inr (SqT.of (hE2.tup hca)), n, by rw [List.length_map, hcn]; rfl, by omega, fun H3 ps hE3 nps hps => ?_⟩
        obtain ⟨sv, hsv, hsp⟩ := hps
        have hsl : sv.length = (stepsOf n).length := hsp.length
        refine ⟨ps, rfl, ⟨sv, SqL.of hsv⟩, ?_⟩
        have npsH : H ps = none := hE2.free _ nps
        have npm : ps ≠ m := fun z => by rw [z, hm] at nps; cases nps
        have npd : ps ≠ d := fun z => by rw [z, hd2] at nps; cases nps
        have nmH : H m = none := hE.free _ nm
        have eget : (lookM t here).getD (0, []) = p := by rw [hlk]; rfl
        refine for_list (K := K) (a := ps) (xs := sv) (fun k σ H4 => ∃ y8 y9 y10, σ = [some (.ref ca), some (.ref b), some (.ref d), some x, some (.ref m), some (.ref qa), some (.int p.1), some pu, y8, y9, y10] ∧ Ex H H4 ∧ TE_ H3 H4 ∧ H4 d = some (.frz od (.dT kvs)) ∧ H4 ps = some (.lst sv) ∧ TbV H4 m ((candJ (stepsOf n) old t j ++ (candS (stepsOf n) old here p).take k).foldl (upd1 ltP) []))
          ⟨y8, y9, y10, rfl, hE2.trans hE3, fun _ _ z => z, hE3.frz hd2, hsv, mk, hE3.dT hm, by rw [List.take_zero, List.append_nil]; exact kvs_te hE3.te hmk⟩ (fun k σ H4 _ h => let ⟨_, _, _, _, _, _, _, h, _⟩ := h; SqL.of h) ?_ ?_
        · rintro k sx σ H4 hsx ⟨y8, y9, y10, rfl, hE4, t4, hd4, hps4, mk4, hm4, hmk4⟩
          obtain ⟨st, est, hst⟩ := Paired.get? hsp hsx
          have hkl : k < (stepsOf n).length := (List.getElem?_eq_some_iff.mp est).1
          have hst4 : StV H4 sx st := hst.te t4
          have hok4 : stepOk here.length st = true := by rw [hhl]; exact mem_stepsOf.mp (List.mem_of_getElem? est)
          -- there = stepped(here, step)
          refine ⟨.ref qa, rfl, sx, rfl, .ref qa, sx, here, st, rfl, ⟨qa, rfl, t4 _ _ (hE3.tup hqa)⟩, hst4, by omega, hok4, fun H5 v5 hE5 hv5 => ?_⟩
          obtain ⟨th, rfl, hth⟩ := hv5
          -- part
          have hold5 : StV H5 x old := hold'.te ((t2.trans (hE3.te.trans t4)).trans hE5.te)
          have hst5 : StV H5 sx st := hst4.te hE5.te
          refine ⟨.int p.1, rfl, sx, rfl, x, rfl, stD st, stD old, hst5.dp, hold5.dp, stSh st, stSh old, _, rfl, ?_⟩
          rw [stEqv]
          refine tC_ite ?_
          have ev : (if decide (st = old) = true then V.int 0 else V.int 1) = V.int (if st = old then 0 else 1) := by
            by_cases e : st = old
            · rw [if_pos e, if_pos (decide_eq_true e)]
            · rw [if_neg e, if_neg (by rw [decide_eq_false e]; exact Bool.false_ne_true)]
          rw [ev]
          have hpr5 : RwV H5 pu p.2 := hpr.te (hE3.te.trans (t4.trans hE5.te))
          obtain ⟨ua, us, rfl, hua, hus⟩ := hpr5
          have husl : us.length ≤ 3 := by
            have h1 := hus.length
            have h2 := (says_cheap ltP_le ltP_ge (stepsOf n) c (r.take i) here).2 p (by rw [ht]; exact hlk)
            have h3 := (mem_rowsOf.mp h2.1).1
            have h4 : (r.take i).length ≤ 3 := by rw [List.length_take]; omega
            omega
          refine ⟨_, _, rfl, rfl, .ref ua, rfl, ua, us, rfl, .inl (SqT.of hua), sx, rfl, ?_, fun q1 nq1 => ?_⟩
          · rw [List.length_append]
            exact Nat.le_of_lt (small1000 (by show us.length + 1 ≤ 1000; omega))
          refine ⟨by show 2 ≤ sizeLine; decide, fun q2 nq2 => ?_⟩
          have n12 : q1 ≠ q2 := fun z => by rw [← z, upd_same] at nq2; cases nq2
          have t5 : TE_ H5 (upd H5 q1 (.tup (us ++ [sx]))) := TE_.new nq1
          have t6 : TE_ (upd H5 q1 (.tup (us ++ [sx]))) (upd (upd H5 q1 (.tup (us ++ [sx]))) q2 (.tup [.int (p.1 + (if st = old then 0 else 1)), .ref q1])) := TE_.new nq2
          have hE7 : Ex H5 (upd (upd H5 q1 (.tup (us ++ [sx]))) q2 (.tup [.int (p.1 + (if st = old then 0 else 1)), .ref q1])) := (Ex.new nq1).set ((Ex.new nq1).free _ nq2)
          have hq1 : (upd (upd H5 q1 (.tup (us ++ [sx]))) q2 (.tup [.int (p.1 + (if st = old then 0 else 1)), .ref q1])) q1 = some (.tup (us ++ [sx])) := by rw [upd_ne n12, upd_same]
          have hq2 : (upd (upd H5 q1 (.tup (us ++ [sx]))) q2 (.tup [.int (p.1 + (if st = old then 0 else 1)), .ref q1])) q2 = some (.tup [.int (p.1 + (if st = old then 0 else 1)), .ref q1]) := upd_same
          generalize hH7 : (upd (upd H5 q1 (.tup (us ++ [sx]))) q2 (.tup [.int (p.1 + (if st = old then 0 else 1)), .ref q1])) = H7 at t6 hE7 hq1 hq2
          have t57 : TE_ H5 H7 := t5.trans t6
          have hPt : PtV H7 (.ref q2) (partOf p old st) := ⟨q2, .ref q1, rfl, hq2, q1, us ++ [sx], rfl, hq1, Paired.app (Paired.mapP hus fun _ _ z => z.te t57) (.cons (hst5.te t57) .nil)⟩
          have hth7 : H7 th = some (.tup ((inls (stepC here st)).map kV)) := by rw [inls_kV]; exact t57 _ _ hth
          have hm7 : H7 m = some (.dT mk4) := hE7.dT (hE5.dT hm4)
          have hd7 : H7 d = some (.frz od (.dT kvs)) := hE7.frz (hE5.frz hd4)
          have hps7 : H7 ps = some (.lst sv) := hE7.lst (hE5.lst hps4)
          have hmk7 : Paired (KvR H7) mk4 _ := kvs_te (hE5.te.trans t57) hmk4
          have hEH7 : Ex H H7 := (hE4.trans hE5).trans hE7
          have t37 : TE_ H3 H7 := t4.trans (hE5.te.trans t57)
          have hmkl : mk4.length < sizeLine := by
            rw [hmk4.length]
            have h1 := foldl_len ltP (candJ (stepsOf n) old t j ++ (candS (stepsOf n) old here p).take k) []
            have h2 := candJ_len (stepsOf n) old t j
            have h3 : j * (stepsOf n).length ≤ 144 * 12 := Nat.mul_le_mul (by omega) hS12
            have h4 : ((candS (stepsOf n) old here p).take k).length ≤ 12 := by
              rw [List.length_take]
              have : (candS (stepsOf n) old here p).length = (stepsOf n).length := by simp [candS]
              omega
            rw [List.length_append] at h1
            simp only [List.length_nil, Nat.zero_add] at h1
            exact Nat.lt_of_le_of_lt (by omega : _ ≤ 2000) (by decide)
          have enext : (candJ (stepsOf n) old t j ++ (candS (stepsOf n) old here p).take (k + 1)).foldl (upd1 ltP) [] = upd1 ltP ((candJ (stepsOf n) old t j ++ (candS (stepsOf n) old here p).take k).foldl (upd1 ltP) []) (stepC here st, partOf p old st) := by
            have ec : (candS (stepsOf n) old here p)[k]? = some (stepC here st, partOf p old st) := by
              unfold candS
              rw [List.getElem?_map, est]; rfl
            rw [List.take_add_one, ec, ← List.append_assoc, List.foldl_append]; rfl
          have fin : ∀ (H8 : Hp) (mk8 : List (List Key × V)), Ex H H8 → TE_ H3 H8 → H8 d = some (.frz od (.dT kvs)) → H8 ps = some (.lst sv) → H8 m = some (.dT mk8) → Paired (KvR H8) mk8 (upd1 ltP ((candJ (stepsOf n) old t j ++ (candS (stepsOf n) old here p).take k).foldl (upd1 ltP) []) (stepC here st, partOf p old st)) →
              ∃ y8 y9 y10, [some (.ref ca), some (.ref b), some (.ref d), some x, some (.ref m), some (.ref qa), some (.int p.1), some (.ref ua), some sx, some (.ref th), some (.ref q2)] = [some (.ref ca), some (.ref b), some (.ref d), some x, some (.ref m), some (.ref qa), some (.int p.1), some (.ref ua), y8, y9, y10] ∧ Ex H H8 ∧ TE_ H3 H8 ∧ H8 d = some (.frz od (.dT kvs)) ∧ H8 ps = some (.lst sv) ∧ TbV H8 m ((candJ (stepsOf n) old t j ++ (candS (stepsOf n) old here p).take (k + 1)).foldl (upd1 ltP) []) :=
            fun H8 mk8 a1 a2 a3 a4 a5 a6 => ⟨_, _, _, rfl, a1, a2, a3, a4, mk8, a5, by rw [enext]; exact a6⟩
          generalize hbig : (candJ (stepsOf n) old t j ++ (candS (stepsOf n) old here p).take k).foldl (upd1 ltP) [] = big at hmk7 fin
          have t8 : TE_ H7 (upd H7 m (.dT (putK mk4 (inls (stepC here st)) (.ref q2)))) := TE_.set hm7 fun _ z => nomatch z
          have finPut : upd1 ltP big (stepC here st, partOf p old st) = putM big (stepC here st) (partOf p old st) → _ := fun e => fin (upd H7 m (.dT (putK mk4 (inls (stepC here st)) (.ref q2)))) _ (hEH7.set nmH) (t37.trans t8) (by rw [upd_ne (Ne.symm hmd)]; exact hd7) (by rw [upd_ne npm]; exact hps7) upd_same (by
            rw [e]
            exact kvs_te t8 (tb_put _ hPt hmk7))
          rcases tb_val (stepC here st) hmk7 with ⟨z1, z2⟩ | ⟨pp, pv2, z1, z2, z3⟩
          · refine ⟨.ref th, rfl, .ref m, rfl, m, none, rfl, by rw [← z2]; exact DGet.t hm7 hth7, true, rfl, iteT (iteT ?_)⟩
            refine ⟨.ref q2, rfl, .ref m, rfl, .ref th, rfl, m, _, rfl, DPut.t hm7 hth7 hmkl, ?_⟩
            exact finPut (by simp only [upd1, z1])
          · refine ⟨.ref th, rfl, .ref m, rfl, m, some pv2, rfl, by rw [← z2]; exact DGet.t hm7 hth7, false, rfl, iteF ?_⟩
            refine ⟨.ref q2, rfl, .ref m, rfl, .ref th, rfl, m, pv2, rfl, by rw [← z2]; exact DGet.t hm7 hth7, partOf p old st, pp, hPt, z3, _, rfl, ?_⟩
            cases hlt : ltP (partOf p old st) pp with
            | true =>
              refine iteT ?_
              refine ⟨.ref q2, rfl, .ref m, rfl, .ref th, rfl, m, _, rfl, DPut.t hm7 hth7 hmkl, ?_⟩
              exact finPut (by simp only [upd1, z1, hlt, if_true])
            | false =>
              refine iteF ?_
              exact fin H7 mk4 hEH7 t37 hd7 hps7 hm7 (by
                have : upd1 ltP big (stepC here st, partOf p old st) = big := by simp only [upd1, z1, hlt, Bool.false_eq_true, if_false]
                rw [this]
                exact hmk7)
        · rintro σ H4 ⟨y8, y9, y10, rfl, hE4, t4, hd4, hps4, hT4⟩
          refine ⟨_, _, _, _, _, _, rfl, hE4, (t2.trans hE3.te).trans t4, hd4, ?_⟩
          rw [candJ_succ _ _ _ _ hmem, eget]
          have e5 : (candS (stepsOf n) old here p).take sv.length = candS (stepsOf n) old here p := List.take_of_length_le (by simp [candS]; omega)
          rw [e5] at hT4
          exact hT4
      · rintro σ H2 ⟨y5, y6, y7, y8, y9, y10, rfl, hE2, t2, hd2, mk, hm, hmk⟩
        refine ⟨hd2, _, rfl, some x, some (.ref m), y5, y6, y7, y8, y9, y10, m, rfl, hE2.set nd, hE.free _ nm, mk, by rw [upd_ne hmd]; exact hm, ?_⟩
        have t3 : TE_ H2 (upd H2 d (.dT kvs)) := TE_.set hd2 fun _ z => nomatch z
        rw [hti, cheap_snoc, ht]
        have e5 : candJ (stepsOf n) old t kvs.length = candK (stepsOf n) old t := by
          unfold candJ candK
          rw [List.take_of_length_le (by simp; omega)]
        rw [e5] at hmk
        exact kvs_te t3 hmk
    · rintro σ H' ⟨y3, y4, y5, y6, y7, y8, y9, y10, d, rfl, hE, nd, hT⟩
      have et : r.take xs.length = r := List.take_of_length_le (by omega)
      rw [et] at hT
      exact ⟨_, rfl, q H' d hE hT⟩
end
end G
set_option Elab.async false
set_option linter.all false
set_option maxRecDepth 100000
set_option maxHeartbeats 2000000
namespace G
open PySem PySem.Spec PyProof.Rows L2
theorem op_neK {X : Cx} {K : PySem.W.Frag} (hu : X.A.units + 64 < cLine) (hK : X.K = K := by rfl) : OpR X (compareOp .NotEq) (rNeD K) := hK ▸ op_neD hu
theorem pg_tupK {X : Cx} {K : PySem.W.Frag} {es : List Expr} {k : Nat} {pos : Pos} {t : TGs} {n : Nat} (hc : X.calm = true) (h : PGs X es t)
    (hn : (assignEach es X.env).length = n := by rfl) (hst : (assignEach es X.env).findIdx? (·.1) = none := by rfl) (hK : X.K = K := by rfl) : PG X (.Tuple es k pos) (gTup K n t) := hK ▸ pg_tup hc h hn hst
theorem op_eqK {X : Cx} {K : PySem.W.Frag} (hu : X.A.units + 64 < cLine) (hK : X.K = K := by rfl) : OpR X (compareOp .Eq) (rEqD K) := hK ▸ op_eqD hu
theorem ix_tupK {X : Cx} {K : PySem.W.Frag} (hK : X.K = K := by rfl) : IxR X (rIxT K) := hK ▸ ix_tup
theorem ix_listK {X : Cx} {K : PySem.W.Frag} (hK : X.K = K := by rfl) : IxR X (rIxL K) := hK ▸ ix_list
theorem op_catAK {X : Cx} {K : PySem.W.Frag} (hK : X.K = K := by rfl) : OpR X (binaryOp .Add) (rCatA K) := hK ▸ op_catA
def rLenK (K : PySem.W.Frag) : List V → Hp → VK → Prop := fun xs H Q => ∃ p ys, xs = [.ref p] ∧ (SqL K H p ys ∨ SqT K H p ys) ∧ Q (.int ys.length) H
theorem call_lenK {X : Cx} {K : PySem.W.Frag} (hK : X.K = K := by rfl) : CallR X (.builtin "len") (rLenK K) := hK ▸ call_len_seq
theorem lc_zipT {K : PySem.W.Frag} {a b : Addr} {xs ys : List V} {g : TG} {tt : TT} {te : TE} {vs : List Nat} {σ : L2.St} {H1 : Hp} {D : Addr} {Qd : Hp → Prop} (hl : xs.length = ys.length) (Pv : Nat → Hp → Prop) (h0 : Pv 0 (upd H1 D (.lst []))) (hq : ∀ i H, Pv i H → SqT K H a xs ∧ SqT K H b ys)
    (hs : ∀ i x y Tt H, xs[i]? = some x → ys[i]? = some y → Pv i H → H Tt = none → g (.ref Tt) (wipe σ vs) (upd H Tt (.tup [x, y])) fun σ2 H2 => wipe σ2 vs = wipe σ vs ∧ tt σ2 H2 fun b H3 =>
      if b = true then te σ2 H3 fun y H4 => ∃ acc, H4 D = some (.lst acc) ∧ acc.length < sizeLine ∧ Pv (i + 1) (upd H4 D (.lst (acc ++ [y]))) else Pv (i + 1) H3) (hd : ∀ H, Pv xs.length H → Qd H) :
    ∃ W : Nat → Nat → Hp → Prop, (∃ m, W 0 m (upd H1 D (.lst []))) ∧ ∀ i m H, W i m H →
      ((RZ.ItzT K a b).stop i H ∧ Qd H) ∨ ((RZ.ItzT K a b).go i H ∧ ∃ Nx : Hp → Prop, (∀ H', Nx H' → ∃ m', m' < m ∧ W (i + 1) m' H') ∧ ∀ x H', (RZ.ItzT K a b).yld i H x H' → g x (wipe σ vs) H' fun σ2 H2 => wipe σ2 vs = wipe σ vs ∧ tt σ2 H2 fun b H3 =>
        if b = true then te σ2 H3 fun y H4 => ∃ acc, H4 D = some (.lst acc) ∧ acc.length < sizeLine ∧ Nx (upd H4 D (.lst (acc ++ [y]))) else Nx H3) := by
  refine ⟨fun i m H => m = xs.length - i ∧ i ≤ xs.length ∧ Pv i H, ⟨xs.length, by simp, Nat.zero_le _, h0⟩, ?_⟩
  rintro i m H ⟨rfl, hi, p⟩
  obtain ⟨q1, q2⟩ := hq i H p
  by_cases hlt : i < xs.length
  · have hlt2 : i < ys.length := by omega
    refine .inr ⟨⟨xs, ys, xs[i], ys[i], q1, q2, by simp [hlt], by simp [hlt2]⟩, Pv (i + 1), fun H' p' => ⟨xs.length - (i + 1), by omega, rfl, hlt, p'⟩, fun x H' y => ?_⟩
    obtain ⟨Tt, x1, y1, rfl, nT, rfl, f1, f2⟩ := y
    exact hs i x1 y1 Tt _ (f1 xs q1) (f2 ys q2) p nT
  · have e : i = xs.length := by omega
    subst e
    exact .inl ⟨⟨xs, ys, q1, q2, .inl (Nat.le_refl _)⟩, hd H p⟩
section
variable {P : Program} {w : World} {K : PySem.W.Frag} {mg : Str → Option Value} {base : Heap} (T : Tx K mg)
/-! ### need_changing -/
def spNeedChanging (P1 : Addr) : Sp := fun vs H Q _ => ∃ (n : Nat) (v u g : V) (c d : Ch) (r : Rw), vs = [v, u, g] ∧ ChV H v c ∧ RwV H u r ∧ ChV H g d ∧ ChOk n c ∧ ChOk n d ∧ (∀ s ∈ r, stepOk n s = true) ∧ r.length ≤ 3 ∧ GxR.TabG H P1 ∧ ∀ H', Ex H H' → Q .non H'
theorem ok_needChanging (TB : GxR.TabB base mg T.c1 T.P1) : FnOk P w K mg base CX0 4 T.fNeedChanging T.dNeedChanging ["start", "row", "goal"] (spNeedChanging T.P1) := by
  have GNeedChart := ok_needChart (P := P) (w := w) (base := base) T TB
  have GNeedRow := ok_needRow (P := P) (w := w) (base := base) T
  have GIsChart := ok_isChart (P := P) (w := w) (base := base) T TB
  obtain ⟨t1, hMOST_CHANGED⟩ := T.c_MOST_CHANGED
  obtain ⟨t2, hMOST_STEPS⟩ := T.c_MOST_STEPS
  refine T.FNeedChanging.ok scNeedChanging (fun vs H Q E h => ?_) (fun cdv A outer s H vs Q E hr h => ?_)
  · obtain ⟨_, _, _, _, _, _, _, rfl, _⟩ := h; rfl
  · obtain ⟨n, v, u, g, c, d, r, rfl, hc, hu, hg, oc, od, hok, hlen, hTab, q⟩ := h
    refine ⟨_, (pss_cons (ps_expr (pe_call GNeedChart (hr.mono (by decide)) (by rfl) T.gNeedChart T.FNeedChart.kp T.bNeedChart .nil pass0 (pa_cons (pv 0) pa_nil)))
      (pss_cons (ps_expr (pe_call GNeedRow (hr.mono (by decide)) (by rfl) T.gNeedRow T.FNeedRow.kp T.bNeedRow .nil pass0 (pa_cons (pe_callB call_len_seq (by rfl) T.m_len PySem.boot_len (pa_cons (pv 0) pa_nil)) (pa_cons (pv 1) pa_nil))))
      (pss_cons (ps_if (PW.pt (pw_or (pt_not (pt_val (pe_call GIsChart (hr.mono (by decide)) (by rfl) T.gIsChart T.FIsChart.kp T.bIsChart .nil pass0 (pa_cons (pv 2) pa_nil)))) (pw_or1 (pt_cmpR op_ne (pe_callB call_len_seq (by rfl) T.m_len PySem.boot_len (pa_cons (pv 2) pa_nil)) (pe_callB call_len_seq (by rfl) T.m_len PySem.boot_len (pa_cons (pv 0) pa_nil)) (nomark _))))) (pss_one ps_never) pss_nil)
      (pss_cons (ps_if (pt_cmpR op_gt (pe_callB call_len_seq (by rfl) T.m_len PySem.boot_len (pa_cons (pv 0) pa_nil)) (pe_glob (v := .int 4) (by rfl) hMOST_CHANGED ⟨_, rfl⟩) (nomark _)) (pss_one ps_never) pss_nil)
      (pss_one (ps_if (pt_cmpR op_gt (pe_callB call_len_seq (by rfl) T.m_len PySem.boot_len (pa_cons (pv 1) pa_nil)) (pe_glob (v := .int 6) (by rfl) hMOST_STEPS ⟨_, rfl⟩) (nomark _)) (pss_one ps_never) pss_nil)))))), ?_⟩
    refine ⟨v, rfl, n, v, c, rfl, hc, oc, hTab, fun H1 e1 => ?_⟩
    obtain ⟨a, rfl, ha⟩ := hc.te e1.te
    have hn1 := oc.n1
    have hn3 := oc.n3
    have hl : (c.map V.int).length = n := by rw [List.length_map]; exact oc.len
    refine ⟨.ref a, rfl, a, _, rfl, .inr (SqT.of ha), u, rfl, n, u, r, by rw [hl]; rfl, hu.te e1.te, hok, by omega, fun H2 e2 => ?_⟩
    have ha2 : H2 a = some (.tup (c.map V.int)) := e2.tup ha
    have e12 := e1.trans e2
    refine ⟨g, rfl, n, g, d, rfl, hg.te e12.te, od, e12.tab _ hTab, fun H3 e3 => ⟨true, rfl, iteF ?_⟩⟩
    obtain ⟨b, rfl, hb⟩ := hg.te (e12.trans e3).te
    have ha3 : H3 a = some (.tup (c.map V.int)) := e3.tup ha2
    have hl2 : (d.map V.int).length = n := by rw [List.length_map]; exact od.len
    refine ⟨.ref b, rfl, b, _, rfl, .inr (SqT.of hb), .ref a, rfl, a, _, rfl, .inr (SqT.of ha3), rfl, false, ?_, iteF ?_⟩
    · rw [hl, hl2, decide_eq_true rfl]; rfl
    refine ⟨.ref a, rfl, a, _, rfl, .inr (SqT.of ha3), _, 4, rfl, rfl, false, ?_, iteF ?_⟩
    · show V.bl (decide ((4 : Int) < ((c.map V.int).length : Int))) = V.bl false
      rw [decide_eq_false (by omega)]
    obtain ⟨ub, xs, rfl, hub, hp⟩ := hu.te (e12.trans e3).te
    have hxl := hp.length
    refine ⟨.ref ub, rfl, ub, xs, rfl, .inr (SqT.of hub), _, 6, rfl, rfl, false, ?_, iteF ?_⟩
    · show V.bl (decide ((6 : Int) < (xs.length : Int))) = V.bl false
      rw [decide_eq_false (by omega)]
    exact q H3 (e12.trans e3)
/-! ### changed_row -/
def PtO (H : Hp) (v : V) : Option Part → Prop
  | none => v = .non
  | some p => PtV H v p
def spChanged (P1 : Addr) : Sp := fun vs H Q _ => ∃ (n : Nat) (v u g : V) (c d : Ch) (r : Rw), vs = [v, u, g] ∧ ChV H v c ∧ RwV H u r ∧ ChV H g d ∧ ChOk n c ∧ ChOk n d ∧ (∀ s ∈ r, stepOk n s = true) ∧ r.length ≤ 3 ∧ GxR.TabG H P1 ∧
  ∀ H' v', Ex H H' → PtO H' v' (lookM (cheap ltP (stepsOf n) c r) d) → Q v' H'
theorem get_best {H : Hp} {d : Addr} {t : Tb} {b : Addr} {g : Ch} (hT : TbV H d t) (hb : H b = some (.tup (g.map V.int))) : IsD H d ∧ ∃ o, DGet H d (.ref b) o ∧ PtO H (o.getD .non) (lookM t g) := by
  obtain ⟨kvs, hd, hk⟩ := hT
  refine ⟨.inr ⟨kvs, .inl hd⟩, valV kvs (inls g), DGet.t hd (by rw [inls_kV]; exact hb), ?_⟩
  rcases tb_val g hk with ⟨z1, z2⟩ | ⟨p, v, z1, z2, z3⟩
  · rw [z1, z2]; rfl
  · rw [z1, z2]; exact z3
theorem ok_changed (TB : GxR.TabB base mg T.c1 T.P1) : FnOk P w K mg base CX0 5 T.fChanged T.dChanged ["start", "row", "goal"] (spChanged T.P1) := by
  have GNeedChanging := ok_needChanging (P := P) (w := w) (base := base) T TB
  have GCheapest := ok_cheapest (P := P) (w := w) (base := base) T
  refine T.FChanged.ok scChanged (fun vs H Q E h => ?_) (fun cdv A outer s H vs Q E hr h => ?_)
  · obtain ⟨_, _, _, _, _, _, _, rfl, _⟩ := h; rfl
  · obtain ⟨n, v, u, g, c, d, r, rfl, hc, hu, hg, oc, od, hok, hlen, hTab, q⟩ := h
    refine ⟨_, (pss_cons (ps_expr (pe_call GNeedChanging (hr.mono (by decide)) (by rfl) T.gNeedChanging T.FNeedChanging.kp T.bNeedChanging .nil pass0 (pa_cons (pv 0) (pa_cons (pv 1) (pa_cons (pv 2) pa_nil)))))
      (pss_one (ps_ret (pe_dget2 (hu_of hr) (pe_call GCheapest (hr.mono (by decide)) (by rfl) T.gCheapest T.FCheapest.kp T.bCheapest .nil pass0 (pa_cons (pv 0) (pa_cons (pv 1) pa_nil))) (pv 2) pe_non ⟨rfl, rfl, rfl, rfl⟩)))), ?_⟩
    refine ⟨v, rfl, u, rfl, g, rfl, n, v, u, g, c, d, r, rfl, hc, hu, hg, oc, od, hok, hlen, hTab, fun H1 e1 => ?_⟩
    refine ⟨v, rfl, u, rfl, n, v, u, c, r, rfl, hc.te e1.te, hu.te e1.te, oc.len, oc.n1, oc.n3, hok, hlen, fun H2 da e2 hT => ?_⟩
    obtain ⟨b, rfl, hb⟩ := hg.te (e1.trans e2).te
    obtain ⟨h1, o, h2, h3⟩ := get_best hT hb
    exact ⟨da, rfl, h1, .ref b, rfl, o, h2, q H2 _ (e1.trans e2) h3⟩
/-! ### shows_changed_row -/
inductive Val where
  | non | int (i : Int) | lst | pair (b : Option Int) (x : Option Rw)
def oiV : Option Int → V
  | none => .non
  | some i => .int i
def ValV (H : Hp) (v : V) : Val → Prop
  | .non => v = .non
  | .int i => v = .int i
  | .lst => ∃ a xs, v = .ref a ∧ H a = some (.lst xs)
  | .pair b x => ∃ a u, v = .ref a ∧ H a = some (.tup [oiV b, u]) ∧ WV H u x
theorem WV.ex {H H' : Hp} (e : Ex H H') {v : V} {x : Option Rw} (h : WV H v x) : WV H' v x := by
  cases x with
  | none => obtain ⟨a, xs, h1, h2⟩ := h; exact ⟨a, xs, h1, e.lst h2⟩
  | some r => exact RwV.te e.te h
theorem ValV.ex {H H' : Hp} (e : Ex H H') {v : V} {x : Val} (h : ValV H v x) : ValV H' v x := by
  cases x with
  | non => exact h
  | int i => exact h
  | lst => obtain ⟨a, xs, h1, h2⟩ := h; exact ⟨a, xs, h1, e.lst h2⟩
  | pair b x => obtain ⟨a, u, h1, h2, h3⟩ := h; exact ⟨a, u, h1, e.tup h2, h3.ex e⟩
def rowB (start goal : Ch) (r : Rw) (k : Int) : Option Rw → Bool
  | some q => decide (q.length = r.length) && decide (doneC start q = goal) && decide ((diff r q : Int) = k)
  | none => false
/-- what shows_changed_row answers -/
def showsB (n : Nat) (start goal : Ch) (r : Rw) (best : Option Part) (x : Val) : Bool :=
  match best, x with
  | none, .non => true
  | none, _ => false
  | some p, .pair (some i) y => (decide (p.1 ≤ i) && decide (i ≤ p.1)) && (stepsB n y && rowB start goal r p.1 y)
  | some _, _ => false
def valOk (best : Option Part) : Val → Prop
  | .pair b x => lenOk x ∧ (best ≠ none → b ≠ none)
  | _ => True
def spShows (P1 P2 : Addr) : Sp := fun vs H Q _ => ∃ (n : Nat) (v u g x : V) (c d : Ch) (r : Rw) (y : Val), vs = [v, u, g, x] ∧ ChV H v c ∧ RwV H u r ∧ ChV H g d ∧ ValV H x y ∧ ChOk n c ∧ ChOk n d ∧ (∀ s ∈ r, stepOk n s = true) ∧ r.length ≤ 3 ∧ GxR.TabG H P1 ∧ GxR.TabG H P2 ∧
  valOk (lookM (cheap ltP (stepsOf n) c r) d) y ∧ ∀ H', Ex H H' → Q (.bl (showsB n c d r (lookM (cheap ltP (stepsOf n) c r) d) y)) H'
theorem ok_shows (TB : GxR.TabB base mg T.c1 T.P1) (TB2 : GxR.TabB base mg T.c2 T.P2) : FnOk P w K mg base CX0 5 T.fShows T.dShows ["start", "row", "goal", "value"] (spShows T.P1 T.P2) := by
  have GNeedChanging := ok_needChanging (P := P) (w := w) (base := base) T TB
  have GCheapest := ok_cheapest (P := P) (w := w) (base := base) T
  have GIsIn := ok_isIn (P := P) (w := w) (base := base) T
  have GIsRow := ok_isRow (P := P) (w := w) (base := base) T TB2
  have GTrace := ok_trace (P := P) (w := w) (base := base) T
  refine T.FShows.ok scShows (fun vs H Q E h => ?_) (fun cdv A outer s H vs Q E hr h => ?_)
  · obtain ⟨_, _, _, _, _, _, _, _, _, rfl, _⟩ := h; rfl
  · obtain ⟨n, v, u, g, x, c, d, r, y, rfl, hc, hu, hg, hx, oc, od, hok, hlen, hTab, hTab2, hvo, q⟩ := h
    refine ⟨_, (pss_cons (ps_expr (pe_call GNeedChanging (hr.mono (by decide)) (by rfl) T.gNeedChanging T.FNeedChanging.kp T.bNeedChanging .nil pass0 (pa_cons (pv 0) (pa_cons (pv 1) (pa_cons (pv 2) pa_nil)))))
      (pss_cons (ps_set (i := 4) scShows.nd rfl (.inl rfl) (pe_dget2 (hu_of hr) (pe_call GCheapest (hr.mono (by decide)) (by rfl) T.gCheapest T.FCheapest.kp T.bCheapest .nil pass0 (pa_cons (pv 0) (pa_cons (pv 1) pa_nil))) (pv 2) pe_non ⟨rfl, rfl, rfl, rfl⟩))
      (pss_cons (ps_if (PW.pt (pw_or (pt_cmpR op_isN (pv 4) pe_non (nomark _)) (pw_or1 (pt_cmpR op_isN (pv 3) pe_non (nomark _))))) (pss_one (ps_ret (pe_and (pe_cmpR op_isN (pv 4) pe_non (nomark _)) (pe_one (pe_cmpR op_isN (pv 3) pe_non (nomark _)))))) pss_nil)
      (pss_cons (ps_if (PW.pt (pw_or (pt_not (pt_val (pe_callB call_isi (by rfl) T.m_isinstance (by decide +kernel) (pa_cons (pv 3) (pa_cons (pe_bltn (v := .ty "tuple") (by rfl) T.m_tuple (by decide +kernel) rfl) pa_nil))))) (pw_or (pt_cmpR op_ne (pe_callB call_len_seq (by rfl) T.m_len PySem.boot_len (pa_cons (pv 3) pa_nil)) pe_int (nomark _)) (pw_or1 (pt_not (pt_val (pe_call GIsIn (hr.mono (by decide)) (by rfl) T.gIsIn T.FIsIn.kp T.bIsIn .nil pass0 (pa_cons (pe_ix ix_tup (pv 3) pe_int (fun _ _ => rfl)) (pa_cons (pe_ix ix_tup (pv 4) pe_int (fun _ _ => rfl)) (pa_cons (pe_ix ix_tup (pv 4) pe_int (fun _ _ => rfl)) pa_nil)))))))))) (pss_one (ps_ret pe_bl)) pss_nil)
      (pss_cons (ps_if (PW.pt (pw_or (pt_not (pt_val (pe_call GIsRow (hr.mono (by decide)) (by rfl) T.gIsRow T.FIsRow.kp T.bIsRow .nil pass0 (pa_cons (pe_callB call_len_seq (by rfl) T.m_len PySem.boot_len (pa_cons (pv 0) pa_nil)) (pa_cons (pe_ix ix_tup (pv 3) pe_int (fun _ _ => rfl)) pa_nil))))) (pw_or (pt_cmpR op_ne (pe_callB call_len_seq (by rfl) T.m_len PySem.boot_len (pa_cons (pe_ix ix_tup (pv 3) pe_int (fun _ _ => rfl)) pa_nil)) (pe_callB call_len_seq (by rfl) T.m_len PySem.boot_len (pa_cons (pv 1) pa_nil)) (nomark _)) (pw_or1 (pt_cmpR (op_neD hr.units) (pe_ix ix_list (pe_call GTrace (hr.mono (by decide)) (by rfl) T.gTrace T.FTrace.kp T.bTrace .nil pass0 (pa_cons (pv 0) (pa_cons (pe_ix ix_tup (pv 3) pe_int (fun _ _ => rfl)) pa_nil))) (pe_un un_neg pe_int) (fun _ _ => rfl)) (pv 2) (nomark _)))))) (pss_one (ps_ret pe_bl)) pss_nil)
      (pss_one (ps_ret (pe_cmpR op_eq (pe_callB call_len_seq (by rfl) T.m_len PySem.boot_len (pa_cons (pe_lc (own := [("one", 5), ("other", 6)]) rfl scShows.nd (RZ.pi_zipA (by rfl) T.m_zip (pa_cons (pv 1) (pa_cons (pe_ix ix_tup (pv 3) pe_int (fun _ _ => rfl)) pa_nil))) (blkOk_by (own := [("one", 5), ("other", 6)]) (N := ["start", "row", "goal", "value", "best", "one", "other"]) (sc := (defScope sShows)) (by decide +kernel)) (fun _ _ _ _ _ => (pg_tupK (K := K) (n := 2) rfl (pgs_cons (pg_name (i := 5) scShows.nd rfl (.inl rfl)) (pgs_cons (pg_name (i := 6) scShows.nd rfl (.inl rfl)) pgs_nil)))) (fun _ _ _ _ _ => (pts_one (pt_cmpR (op_neK (K := K) hr.units) (pv 5) (pv 6) (nomark _)))) (fun _ _ _ _ _ => pe_int)) pa_nil)) (pe_ix ix_tup (pv 4) pe_int (fun _ _ => rfl)) (nomark _))))))))), ?_⟩
    refine ⟨v, rfl, u, rfl, g, rfl, n, v, u, g, c, d, r, rfl, hc, hu, hg, oc, od, hok, hlen, hTab, fun H1 e1 => ?_⟩
    refine ⟨v, rfl, u, rfl, n, v, u, c, r, rfl, hc.te e1.te, hu.te e1.te, oc.len, oc.n1, oc.n3, hok, hlen, fun H2 da e2 hT => ?_⟩
    have e12 := e1.trans e2
    obtain ⟨ga, rfl, hga⟩ := hg.te e12.te
    obtain ⟨h1, o, h2, h3⟩ := get_best hT hga
    generalize hbest : lookM (cheap ltP (stepsOf n) c r) d = best at *
    refine ⟨da, rfl, h1, .ref ga, rfl, o, h2, ?_⟩
    have hx2 : ValV H2 x y := hx.ex e12
    have isn : ∀ {z : V}, z ≠ .non → decide (z = .non) = false := fun h => decide_eq_false h
    cases best with
    | none =>
      have h3 : o.getD .non = .non := h3
      rw [h3]
      refine ⟨.non, rfl, rfl, true, rfl, iteT (iteT ?_)⟩
      refine ⟨.non, rfl, rfl, true, rfl, iteT ⟨x, rfl, rfl, ?_⟩⟩
      have e : decide (x = .non) = showsB n c d r none y := by
        cases y with
        | non => have hx2 : x = .non := hx2; rw [hx2]; rfl
        | int i => have hx2 : x = .int i := hx2; rw [hx2]; rfl
        | lst => obtain ⟨a, xs, rfl, _⟩ := hx2; rfl
        | pair b z => obtain ⟨a, u, rfl, _⟩ := hx2; rfl
      rw [e]
      exact q H2 e12
    | some p =>
      obtain ⟨pa, pu, e3, hpa, hpr⟩ := h3
      rw [e3]
      refine ⟨.ref pa, rfl, rfl, false, rfl, iteF ?_⟩
      cases y with
      | non =>
        have hx2 : x = .non := hx2
        subst hx2
        exact ⟨.non, rfl, rfl, true, rfl, iteT ⟨.ref pa, rfl, rfl, false, rfl, iteF (q H2 e12)⟩⟩
      | int i =>
        have hx2 : x = .int i := hx2
        subst hx2
        refine ⟨.int i, rfl, rfl, false, rfl, iteF ?_⟩
        exact ⟨_, rfl, _, _, .type "int", _, false, rfl, ClsV.ty _, .base (.int i), kit_ty (by decide +kernel), false, rfl, iteT (iteT (q H2 e12))⟩
      | lst =>
        obtain ⟨xa, xs, rfl, hxa⟩ := hx2
        refine ⟨.ref xa, rfl, rfl, false, rfl, iteF ?_⟩
        exact ⟨_, rfl, _, _, .type "list", _, false, rfl, ClsV.ty _, .base (.lst hxa), kit_ty (by decide +kernel), false, rfl, iteT (iteT (q H2 e12))⟩
      | pair b z =>
        obtain ⟨xa, xu, rfl, hxa, hz⟩ := hx2
        obtain ⟨hlz, hbn⟩ := hvo
        cases b with
        | none => exact absurd rfl (hbn (by simp))
        | some i =>
        refine ⟨.ref xa, rfl, rfl, false, rfl, iteF ?_⟩
        have hT2 : SqT K H2 xa [.int i, xu] := SqT.of hxa
        have hPa : SqT K H2 pa [.int p.1, pu] := SqT.of hpa
        refine ⟨_, rfl, _, _, .type "tuple", _, true, rfl, ClsV.ty _, .base (.tup hxa), kit_ty (by decide +kernel), true, rfl, iteF ?_⟩
        refine ⟨_, rfl, xa, _, rfl, .inr hT2, rfl, false, rfl, iteF ?_⟩
        refine ⟨_, rfl, xa, _, 0, .int i, rfl, rfl, hT2, atI_nat (j := 0) rfl, _, rfl, pa, _, 0, .int p.1, rfl, rfl, hPa, atI_nat (j := 0) rfl, _, rfl, pa, _, 0, .int p.1, rfl, rfl, hPa, atI_nat (j := 0) rfl, i, p.1, p.1, rfl, _, rfl, ?_⟩
        have qq : ∀ H' : Hp, Ex H H' → Q (.bl ((decide (p.1 ≤ i) && decide (i ≤ p.1)) && (stepsB n z && rowB c d r p.1 z))) H' := q
        clear q
        cases hk1 : (decide (p.1 ≤ i) && decide (i ≤ p.1)) with
        | false =>
          rw [hk1] at qq
          exact iteT (qq H2 e12)
        | true =>
          rw [hk1] at qq
          refine iteF ?_
          obtain ⟨va, rfl, hva⟩ := hc.te e12.te
          have hl : (c.map V.int).length = n := by rw [List.length_map]; exact oc.len
          refine ⟨_, rfl, va, _, rfl, .inr (SqT.of hva), _, rfl, xa, _, 1, xu, rfl, rfl, hT2, atI_nat (j := 1) rfl, n, xu, z, by rw [hl]; rfl, hz, hlz, e12.tab _ hTab2, fun H3 e3' => ?_⟩
          have e13 := e12.trans e3'
          cases hk2 : stepsB n z with
          | false =>
            rw [hk2] at qq
            exact ⟨false, rfl, iteT (iteT (qq H3 e13))⟩
          | true =>
            rw [hk2] at qq
            refine ⟨true, rfl, iteF ?_⟩
            cases z with
            | none => cases hk2
            | some r2 =>
            have hsteps : ∀ s ∈ r2, stepOk n s = true := List.all_eq_true.mp hk2
            obtain ⟨ya, ys, rfl, hya, hyp⟩ := RwV.te e3'.te hz
            have hyl : ys.length = r2.length := hyp.length
            obtain ⟨ra, xs, rfl, hra, hrp⟩ := hu.te e13.te
            have hrl : xs.length = r.length := hrp.length
            have hT3 : SqT K H3 xa [.int i, .ref ya] := SqT.of (e3'.tup hxa)
            refine ⟨_, rfl, xa, _, 1, .ref ya, rfl, rfl, hT3, atI_nat (j := 1) rfl, ya, ys, rfl, .inr (SqT.of hya), _, rfl, ra, xs, rfl, .inr (SqT.of hra), rfl, !decide (r2.length = r.length), ?_, ?_⟩
            · rw [hyl, hrl]
              by_cases e : r2.length = r.length
              · rw [e, decide_eq_true rfl, decide_eq_true rfl]
              · rw [decide_eq_false e, decide_eq_false (fun z => e (by have := V.int.inj z; omega))]
            have rb : rowB c d r p.1 (some r2) = (decide (r2.length = r.length) && decide (doneC c r2 = d) && decide ((diff r r2 : Int) = p.1)) := rfl
            rw [rb] at qq
            by_cases hle : r2.length = r.length
            · rw [decide_eq_true hle] at qq ⊢
              refine iteF ?_
              refine ⟨_, rfl, _, rfl, xa, _, 1, .ref ya, rfl, rfl, hT3, atI_nat (j := 1) rfl, .ref va, .ref ya, c, r2, rfl, ⟨va, rfl, e3'.tup hva⟩, ⟨ya, ys, rfl, hya, hyp⟩, by rw [oc.len]; have := oc.n3; omega, by rw [oc.len]; exact hsteps, hlz, fun H4 ta us v' e4 hta hv' => ?_⟩
              have e14 := e13.trans e4
              have hga4 : H4 ga = some (.tup (d.map V.int)) := (e3'.trans e4).tup hga
              refine ⟨1, rfl, ta, _, -1, v', rfl, rfl, SqL.of hta, atI_last _ _, .ref ga, rfl, chD (doneC c r2), chD d, hv'.dp, ChV.dp ⟨ga, rfl, hga4⟩, chSh _, chSh _, _, rfl, ?_⟩
              rw [chEqv]
              by_cases hdo : doneC c r2 = d
              · rw [decide_eq_true hdo] at qq ⊢
                refine iteF ?_
                -- the comprehension
                have hT4 : SqT K H4 xa [.int i, .ref ya] := SqT.of ((e3'.trans e4).tup hxa)
                have hra4 : H4 ra = some (.tup xs) := e4.tup hra
                have hya4 : H4 ya = some (.tup ys) := e4.tup hya
                refine ⟨_, rfl, _, rfl, xa, _, 1, .ref ya, rfl, rfl, hT4, atI_nat (j := 1) rfl, ra, ya, xs, ys, rfl, .inr ⟨SqT.of hra4, SqT.of hya4, fun D nD => ?_⟩⟩
                refine lc_zipT (K := K) (a := ra) (b := ya) (xs := xs) (ys := ys) (by omega) (fun k H5 => Ex H4 H5 ∧ ∃ acc, H5 D = some (.lst acc) ∧ acc.length = diff (r.take k) (r2.take k)) ⟨Ex.new nD, [], upd_same, rfl⟩ (fun k H5 h => ⟨SqT.of (h.1.tup hra4), SqT.of (h.1.tup hya4)⟩) ?_ ?_
                · rintro k x1 y1 Tt H5 hx1 hy1 ⟨e5, acc, hD, hal⟩ nT
                  obtain ⟨s1, es1, hs1⟩ := Paired.get? hrp hx1
                  obtain ⟨s2, es2, hs2⟩ := Paired.get? hyp hy1
                  have hk1 : k < r.length := (List.getElem?_eq_some_iff.mp es1).1
                  have e45 : Ex H4 (upd H5 Tt (.tup [x1, y1])) := e5.set (e5.free _ nT)
                  have hDT : D ≠ Tt := fun z => by rw [z, nT] at hD; cases hD
                  have hD5 : (upd H5 Tt (.tup [x1, y1])) D = some (.lst acc) := by rw [upd_ne hDT]; exact hD
                  have td1 : diff (r.take (k + 1)) (r2.take (k + 1)) = diff (r.take k) (r2.take k) + (if s1 = s2 then 0 else 1) := by
                    rw [List.take_add_one, List.take_add_one, es1, es2]
                    exact diff_snoc _ _ _ _ (by rw [List.length_take, List.length_take, hle])
                  refine ⟨Tt, _, rfl, SqT.of upd_same, rfl, _, _, rfl, _, _, rfl, rfl, rfl, ?_⟩
                  refine ⟨_, rfl, _, rfl, stD s1, stD s2, (hs1.te (e4.te.trans e45.te)).dp, (hs2.te (e4.te.trans e45.te)).dp, stSh _, stSh _, _, rfl, ?_⟩
                  rw [stEqv]
                  by_cases e : s1 = s2
                  · rw [decide_eq_true e]
                    refine iteF ⟨e45, acc, hD5, ?_⟩
                    rw [td1, if_pos e]; exact hal
                  · rw [decide_eq_false e]
                    refine iteT ⟨acc, hD5, ?_, e45.set nD, _, upd_same, ?_⟩
                    · rw [hal]
                      have h1 := diff_le (r.take k) (r2.take k)
                      rw [List.length_take] at h1
                      exact small1000 (by omega)
                    · rw [List.length_append, td1, if_neg e, hal]; rfl
                · rintro H5 ⟨e5, acc, hD, hal⟩
                  rw [List.take_of_length_le (by omega), List.take_of_length_le (by omega)] at hal
                  refine ⟨D, acc, rfl, .inl (SqL.of hD), _, rfl, pa, _, 0, .int p.1, rfl, rfl, SqT.of (((e3'.trans e4).trans e5).tup hpa), atI_nat (j := 0) rfl, rfl, ?_⟩
                  have ef : decide (V.int (acc.length : Int) = V.int p.1) = decide ((diff r r2 : Int) = p.1) := by
                    rw [hal]
                    by_cases e : (diff r r2 : Int) = p.1
                    · rw [e, decide_eq_true rfl, decide_eq_true rfl]
                    · rw [decide_eq_false e, decide_eq_false (fun z => e (V.int.inj z))]
                  show Q (.bl (decide (V.int (acc.length : Int) = V.int p.1))) H5
                  rw [ef]
                  exact qq H5 (e14.trans e5)
              · rw [decide_eq_false hdo] at qq ⊢
                exact iteT (qq H4 e14)
            · rw [decide_eq_false hle] at qq ⊢
              exact iteT (iteT (qq H3 e13))
end
end G
set_option Elab.async false
set_option linter.all false
set_option maxRecDepth 100000
set_option maxHeartbeats 2000000
namespace G
open PySem PySem.Spec PyProof.Rows L2
/-- the drawn row at l: the script at p, and three numbers -/
def RowH (H : Hp) (l p : Addr) : Prop := ∃ i s r : Int, H l = some (.lst [.ref p, .int i, .int s, .int r]) ∧ 0 ≤ i ∧ 0 ≤ s ∧ s < 2147483647
/-- all but l stands -/
def Mv (l : Addr) (H H' : Hp) : Prop := ∀ b, b ≠ l → H' b = H b
theorem upd_upd {H : Hp} {l : Addr} {o u : HO} : L2.upd (L2.upd H l o) l u = L2.upd H l u := by
  funext b
  by_cases h : b = l
  · subst h; rw [upd_same, upd_same]
  · rw [upd_ne h, upd_ne h, upd_ne h]
theorem Mv.upd {H : Hp} {l : Addr} {o : HO} : Mv l H (L2.upd H l o) := fun b h => upd_ne h
theorem Mv.seqL {K : PySem.W.Frag} {H H' : Hp} {l p : Addr} {xs : List V} (m : Mv l H H') (ne : p ≠ l) (h : SqL K H p xs) : SqL K H' p xs := by
  rcases h with (h | ⟨o, h⟩) | h
  · exact .inl (.inl (by rw [m _ ne]; exact h))
  · exact .inl (.inr ⟨o, by rw [m _ ne]; exact h⟩)
  · exact .inr h
theorem row_ne {K : PySem.W.Frag} {H : Hp} {l p : Addr} {i s r : Int} {ns : List Int} (h : H l = some (.lst [.ref p, .int i, .int s, .int r])) (hp : H p = some (.lst (ns.map V.int)) ∨ ∃ o u, H p = some (.frz o u)) : p ≠ l := by
  intro e
  subst e
  rcases hp with hp | ⟨o, u, hp⟩
  · rw [h] at hp
    cases ns with
    | nil => simp at hp
    | cons a ns => simp at hp
  · rw [h] at hp; cases hp
theorem row_sq {K : PySem.W.Frag} {H : Hp} {l p : Addr} {i s r : Int} {ns : List Int} {ys : List V} (h : H l = some (.lst [.ref p, .int i, .int s, .int r])) (hp : SqL K H p (ns.map V.int)) : SqL K (L2.upd H l (.lst ys)) p (ns.map V.int) := by
  rcases hp with (hp | ⟨o, hp⟩) | hp
  · exact Mv.upd.seqL (row_ne (K := K) h (.inl hp)) (.inl (.inl hp))
  · exact Mv.upd.seqL (row_ne (K := K) (ns := ns) h (.inr ⟨_, _, hp⟩)) (.inl (.inr ⟨o, hp⟩))
  · exact .inr hp
theorem fmod_rng {a m : Int} (h : 0 < m) : 0 ≤ a.fmod m ∧ a.fmod m < m := by
  rw [Int.fmod_eq_emod_of_nonneg a (by omega)]
  exact ⟨Int.emod_nonneg _ (by omega), Int.emod_lt_of_pos _ h⟩
section
variable {P : Program} {w : World} {K : PySem.W.Frag} {mg : Str → Option Value} {base : Heap} (T : Tx K mg)
/-! ### taken -/
def spTaken (K : PySem.W.Frag) : Sp := fun vs H Q _ => ∃ (l p : Addr) (m : Int) (ns : List Int), vs = [.ref l, .int m] ∧ 0 < m ∧ m < 100000 ∧ RowH H l p ∧ SqL K H p (ns.map V.int) ∧
  ∀ H' k, Mv l H H' → RowH H' l p → SqL K H' p (ns.map V.int) → 0 ≤ k → k < m → Q (.int k) H'
theorem ok_taken : FnOk P w K mg base CX0 1 T.fTaken T.dTaken ["_law_row_here", "_law_many"] (spTaken K) := by
  refine T.FTaken.ok scTaken (fun vs H Q E h => ?_) (fun cdv A outer st H vs Q E hr h => ?_)
  · obtain ⟨_, _, _, _, rfl, _⟩ := h; rfl
  · obtain ⟨l, p, m, ns, rfl, hm, hm2, ⟨i, s, r, hl, hi, hs, hs2⟩, hp, q⟩ := h
    have hmN : m.natAbs < 1073741824 := by omega
    have hm0 : m ≠ 0 := by omega
    refine ⟨_, (pss_cons (ps_if (pt_cmpR op_gt (pe_ix ix_list (pv 0) pe_int (fun _ _ => rfl)) pe_int (nomark _)) (pss_cons (ps_set (i := 2) scTaken.nd rfl (.inl rfl) (pe_op op_modN (pe_callTy call_int1 (by rfl) T.m_int PyProof.Rows.boot_int (pa_cons (pe_ix ix_list (pv 0) pe_int (fun _ _ => rfl)) pa_nil)) (pv 1)))
      (pss_cons (ps_asg (pe_op op_fdivN (pe_ix ix_list (pv 0) pe_int (fun _ _ => rfl)) (pv 1)) (pg_sub (pv 0) pe_int set_list))
      (pss_one (ps_ret (pv 2))))) pss_nil)
      (pss_cons (ps_asg (pe_op op_add (pe_ix ix_list (pv 0) pe_int (fun _ _ => rfl)) pe_int) (pg_sub (pv 0) pe_int set_list))
      (pss_cons (ps_if (pt_cmpR op_gt (pe_ix ix_list (pv 0) pe_int (fun _ _ => rfl)) (pe_callB call_len_seq (by rfl) T.m_len PySem.boot_len (pa_cons (pe_ix ix_list (pv 0) pe_int (fun _ _ => rfl)) pa_nil)) (nomark _)) (pss_cons (ps_asg (pe_op op_modN (pe_callTy call_int1 (by rfl) T.m_int PyProof.Rows.boot_int (pa_cons (pe_op op_add (pe_op op_mul (pe_ix ix_list (pv 0) pe_int (fun _ _ => rfl)) pe_int) pe_int) pa_nil)) pe_int) (pg_sub (pv 0) pe_int set_list))
      (pss_one (ps_ret (pe_op op_modN (pe_callTy call_int1 (by rfl) T.m_int PyProof.Rows.boot_int (pa_cons (pe_op op_fdivN (pe_ix ix_list (pv 0) pe_int (fun _ _ => rfl)) pe_int) pa_nil)) (pv 1))))) pss_nil)
      (pss_cons (ps_set (i := 3) scTaken.nd rfl (.inl rfl) (pe_ix ix_list (pe_ix ix_list (pv 0) pe_int (fun _ _ => rfl)) (pe_op op_sub (pe_ix ix_list (pv 0) pe_int (fun _ _ => rfl)) pe_int) (fun _ _ => rfl)))
      (pss_cons (ps_asg (pe_op op_modN (pe_callTy call_int1 (by rfl) T.m_int PyProof.Rows.boot_int (pa_cons (pe_op op_add (pe_op op_add (pe_op op_mul (pe_ix ix_list (pv 0) pe_int (fun _ _ => rfl)) pe_int) (pv 3)) pe_int) pa_nil)) pe_int) (pg_sub (pv 0) pe_int set_list))
      (pss_cons (ps_if (pt_cmpR op_ge (pv 3) (pe_op op_pow pe_int pe_int) (nomark _)) (pss_one (ps_asg (pe_op op_fdivN (pv 3) (pv 1)) (pg_sub (pv 0) pe_int set_list))) pss_nil)
      (pss_one (ps_ret (pe_op op_modN (pe_callTy call_int1 (by rfl) T.m_int PyProof.Rows.boot_int (pa_cons (pv 3) pa_nil)) (pv 1)))))))))), ?_⟩
    refine ⟨_, rfl, l, _, 3, .int r, rfl, rfl, SqL.of hl, atI_nat (j := 3) rfl, r, 0, rfl, rfl, _, rfl, ?_⟩
    by_cases h0 : 0 < r
    · rw [decide_eq_true h0]
      refine iteT ?_
      refine ⟨_, rfl, l, _, 3, .int r, rfl, rfl, SqL.of hl, atI_nat (j := 3) rfl, .inl ⟨r, rfl, _, rfl, r, m, rfl, rfl, hm0, ?_⟩⟩
      refine ⟨_, rfl, l, _, 3, .int r, rfl, rfl, SqL.of hl, atI_nat (j := 3) rfl, _, rfl, r, m, rfl, rfl, ⟨hm0, hmN⟩, _, rfl, l, _, 3, 3, rfl, rfl, hl, rfl, _, rfl, ?_⟩
      obtain ⟨k1, k2⟩ := fmod_rng (a := r) hm
      exact q _ _ Mv.upd ⟨i, s, _, upd_same, hi, hs, hs2⟩ (row_sq hl hp) k1 k2
    · rw [decide_eq_false h0]
      refine iteF ?_
      refine ⟨_, rfl, l, _, 1, .int i, rfl, rfl, SqL.of hl, atI_nat (j := 1) rfl, i, 1, rfl, rfl, _, rfl, l, _, 1, 1, rfl, rfl, hl, rfl, ?_⟩
      have hl1 : (upd H l (.lst [.ref p, .int (i + 1), .int s, .int r])) l = some (.lst [.ref p, .int (i + 1), .int s, .int r]) := upd_same
      have hp1 : SqL K (upd H l (.lst [.ref p, .int (i + 1), .int s, .int r])) p (ns.map V.int) := row_sq hl hp
      have m1 : Mv l H (upd H l (.lst [.ref p, .int (i + 1), .int s, .int r])) := Mv.upd
      refine ⟨_, rfl, l, _, 1, .int (i + 1), rfl, rfl, SqL.of hl1, atI_nat (j := 1) rfl, _, rfl, l, _, 0, .ref p, rfl, rfl, SqL.of hl1, atI_nat (j := 0) rfl, p, _, rfl, .inl hp1, _, _, rfl, rfl, _, rfl, ?_⟩
      by_cases h1 : ((ns.map V.int).length : Int) < i + 1
      · rw [decide_eq_true h1]
        refine iteT ?_
        refine ⟨_, rfl, l, _, 2, .int s, rfl, rfl, SqL.of hl1, atI_nat (j := 2) rfl, s, 48271, rfl, rfl, .inl ⟨by omega, by omega⟩, _, _, rfl, rfl, .inl ⟨_, rfl, _, _, rfl, rfl, (by show (2147483647 : Int) ≠ 0; decide), _, rfl, l, _, 2, 2, rfl, rfl, hl1, rfl, ?_⟩⟩
        refine ⟨_, rfl, l, _, 2, .int _, rfl, rfl, SqL.of upd_same, atI_nat (j := 2) rfl, _, 7, rfl, rfl, ⟨by decide, by decide⟩, .inl ⟨_, rfl, _, rfl, _, m, rfl, rfl, hm0, ?_⟩⟩
        obtain ⟨k1, k2⟩ := fmod_rng (a := s * 48271 + 11) (m := 2147483647) (by decide)
        obtain ⟨k3, k4⟩ := fmod_rng (a := ((s * 48271 + 11).fmod 2147483647).fdiv 7) hm
        exact q _ _ (fun b h => by rw [Mv.upd b h]; exact m1 b h) ⟨_, _, _, upd_same, by omega, k1, k2⟩ (row_sq hl1 hp1) k3 k4
      · rw [decide_eq_false h1]
        refine iteF ?_
        have hc : (i + 1 - 1).toNat < (ns.map V.int).length := by omega
        have hc2 : (i + 1 - 1).toNat < ns.length := by rw [List.length_map] at hc; exact hc
        have hat : atI (ns.map V.int) (i + 1 - 1) = some (.int ns[(i + 1 - 1).toNat]) := by
          have e : (i + 1 - 1 : Int) = (((i + 1 - 1).toNat : Nat) : Int) := by omega
          have := atI_nat (xs := ns.map V.int) (j := (i + 1 - 1).toNat) (v := .int ns[(i + 1 - 1).toNat]) (by rw [List.getElem?_map, List.getElem?_eq_getElem hc2]; rfl)
          rw [← e] at this
          exact this
        generalize ns[(i + 1 - 1).toNat] = c at hat
        refine ⟨_, rfl, l, _, 0, .ref p, rfl, rfl, SqL.of hl1, atI_nat (j := 0) rfl, _, rfl, l, _, 1, .int (i + 1), rfl, rfl, SqL.of hl1, atI_nat (j := 1) rfl, _, _, rfl, rfl, p, _, _, .int c, rfl, rfl, hp1, hat, ?_⟩
        refine ⟨_, rfl, l, _, 2, .int s, rfl, rfl, SqL.of hl1, atI_nat (j := 2) rfl, s, 48271, rfl, rfl, .inl ⟨by omega, by omega⟩, _, rfl, _, _, rfl, rfl, _, _, rfl, rfl, .inl ⟨_, rfl, _, _, rfl, rfl, (by show (2147483647 : Int) ≠ 0; decide), _, rfl, l, _, 2, 2, rfl, rfl, hl1, rfl, ?_⟩⟩
        obtain ⟨k1, k2⟩ := fmod_rng (a := s * 48271 + c + 11) (m := 2147483647) (by decide)
        obtain ⟨k3, k4⟩ := fmod_rng (a := c) hm
        have hl2 : (upd (upd H l (.lst [.ref p, .int (i + 1), .int s, .int r])) l (.lst [.ref p, .int (i + 1), .int ((s * 48271 + c + 11).fmod 2147483647), .int r])) l = some (.lst [.ref p, .int (i + 1), .int ((s * 48271 + c + 11).fmod 2147483647), .int r]) := upd_same
        have hp2 := row_sq (ys := [.ref p, .int (i + 1), .int ((s * 48271 + c + 11).fmod 2147483647), .int r]) hl1 hp1
        have m2 : Mv l H (upd (upd H l (.lst [.ref p, .int (i + 1), .int s, .int r])) l (.lst [.ref p, .int (i + 1), .int ((s * 48271 + c + 11).fmod 2147483647), .int r])) := fun b h => by rw [Mv.upd b h]; exact m1 b h
        refine ⟨_, rfl, 10, 18, rfl, rfl, ⟨by decide, by decide, by decide⟩, _, _, rfl, rfl, _, rfl, ?_⟩
        by_cases h3 : (10 : Int) ^ (18 : Int).toNat ≤ c
        · rw [decide_eq_true h3]
          refine iteT ?_
          refine ⟨_, rfl, _, rfl, c, m, rfl, rfl, ⟨hm0, hmN⟩, _, rfl, l, _, 3, 3, rfl, rfl, hl2, rfl, ?_⟩
          refine ⟨_, rfl, .inl ⟨c, rfl, _, rfl, c, m, rfl, rfl, hm0, ?_⟩⟩
          exact q _ _ (fun b h => by rw [Mv.upd b h]; exact m2 b h) ⟨_, _, _, upd_same, by omega, k1, k2⟩ (row_sq hl2 hp2) k3 k4
        · rw [decide_eq_false h3]
          refine iteF ?_
          refine ⟨_, rfl, .inl ⟨c, rfl, _, rfl, c, m, rfl, rfl, hm0, ?_⟩⟩
          exact q _ _ m2 ⟨_, _, _, hl2, by omega, k1, k2⟩ hp2 k3 k4
end
end G
set_option Elab.async false
set_option linter.all false
set_option maxRecDepth 100000
set_option maxHeartbeats 2000000
namespace G
open PySem PySem.Spec PyProof.Rows L2
theorem stepC_get {c : Ch} {s : Sx} {k : Nat} (hk : k < c.length) (h1 : 1 ≤ s.1) (h2 : s.1 ≤ c.length) : (stepC c s)[k]? = some (if (k : Int) + 1 = s.1 then s.2 else if c[k] = s.1 then c.getD (s.1 - 1).toNat 0 else c[k]) := by
  unfold stepC
  rw [List.getElem?_set]
  by_cases e : (k : Int) + 1 = s.1
  · have e2 : (s.1 - 1).toNat = k := by omega
    rw [if_pos e2, if_pos e, if_pos (by rw [List.length_map]; omega)]
  · have e2 : ¬ (s.1 - 1).toNat = k := by omega
    rw [if_neg e2, if_neg e, List.getElem?_map, List.getElem?_eq_getElem hk]
    rfl
section
variable {P : Program} {w : World} {K : PySem.W.Frag} {mg : Str → Option Value} {base : Heap} (T : Tx K mg)
/-! ### pick -/
def spPick (K : PySem.W.Frag) : Sp := fun vs H Q _ => ∃ (l p t : Addr) (ns : List Int) (xs : List V), vs = [.ref l, .ref t] ∧ t ≠ l ∧ xs ≠ [] ∧ xs.length < 100000 ∧ H t = some (.lst xs) ∧ RowH H l p ∧ SqL K H p (ns.map V.int) ∧
  ∀ H' v, Mv l H H' → RowH H' l p → SqL K H' p (ns.map V.int) → v ∈ xs → Q v H'
theorem ok_pick : FnOk P w K mg base CX0 2 T.fPick T.dPick ["_law_row_here", "_law_things"] (spPick K) := by
  have GTaken := ok_taken (P := P) (w := w) (base := base) T
  refine T.FPick.ok scPick (fun vs H Q E h => ?_) (fun cdv A outer s H vs Q E hr h => ?_)
  · obtain ⟨_, _, _, _, _, rfl, _⟩ := h; rfl
  · obtain ⟨l, p, t, ns, xs, rfl, ne, hx, hx2, ht, hR, hp, q⟩ := h
    refine ⟨_, (pss_one (ps_ret (pe_ix ix_list (pv 1) (pe_call GTaken (hr.mono (by decide)) (by rfl) T.gTaken T.FTaken.kp T.bTaken .nil pass0 (pa_cons (pv 0) (pa_cons (pe_callB call_len_seq (by rfl) T.m_len PySem.boot_len (pa_cons (pv 1) pa_nil)) pa_nil))) (fun _ _ => rfl)))), ?_⟩
    have hpos : 0 < xs.length := List.length_pos_iff.mpr hx
    refine ⟨_, rfl, _, rfl, _, rfl, t, xs, rfl, .inl (SqL.of ht), l, p, _, ns, rfl, by omega, by omega, hR, hp, fun H' k m hR' hp' k1 k2 => ?_⟩
    have hk : k.toNat < xs.length := by omega
    refine ⟨t, xs, k, xs[k.toNat], rfl, rfl, SqL.of (by rw [m t ne]; exact ht), ?_, q H' _ m hR' hp' (List.getElem_mem hk)⟩
    have e : k = ((k.toNat : Nat) : Int) := by omega
    have := atI_nat (xs := xs) (j := k.toNat) (v := xs[k.toNat]) (List.getElem?_eq_getElem hk)
    rw [← e] at this
    exact this
/-! ### alike -/
def spAlike : Sp := fun vs H Q _ => ∃ a b : Bool, vs = [.bl a, .bl b] ∧ ∀ H', Ex H H' → Q (.bl (a == b)) H'
theorem ok_alike : FnOk P w K mg base CX0 1 T.fAlike T.dAlike ["_law_found", "_law_due"] spAlike := by
  refine T.FAlike.ok scAlike (fun vs H Q E h => ?_) (fun cdv A outer s H vs Q E hr h => ?_)
  · obtain ⟨_, _, rfl, _⟩ := h; rfl
  · obtain ⟨a, b, rfl, q⟩ := h
    refine ⟨_, (pss_cons (ps_if (pt_val (pe_callB call_isiT (by rfl) T.m_isinstance (by decide +kernel) (pa_cons (pv 1) (pa_cons (pe_tup (pa_cons (pe_bltn (v := .ty "tuple") (by rfl) T.m_tuple (by decide +kernel) rfl) (pa_cons (pe_bltn (v := .ty "list") (by rfl) T.m_list (by decide +kernel) rfl) pa_nil))) pa_nil)))) (pss_cons ps_never (pss_cons ps_never (pss_one ps_never))) pss_nil)
      (pss_cons (ps_if (PW.pt (pw_or (pt_cmpR op_isN (pv 1) pe_non (nomark _)) (pw_or1 (pt_val (pe_callB call_isi (by rfl) T.m_isinstance (by decide +kernel) (pa_cons (pv 1) (pa_cons (pe_bltn (v := .ty "str") (by rfl) T.m_str (by decide +kernel) rfl) pa_nil))))))) (pss_one ps_never) pss_nil)
      (pss_one (ps_ret (pe_and (pe_callB call_isi (by rfl) T.m_isinstance (by decide +kernel) (pa_cons (pv 0) (pa_cons (pe_bltn (v := .ty "int") (by rfl) T.m_int PyProof.Rows.boot_int rfl) pa_nil))) (pe_and (pe_cmpR op_eq (pe_callB call_isi (by rfl) T.m_isinstance (by decide +kernel) (pa_cons (pv 0) (pa_cons (pe_bltn (v := .ty "bool") (by rfl) T.m_bool (by decide +kernel) rfl) pa_nil))) (pe_callB call_isi (by rfl) T.m_isinstance (by decide +kernel) (pa_cons (pv 1) (pa_cons (pe_bltn (v := .ty "bool") (by rfl) T.m_bool (by decide +kernel) rfl) pa_nil))) (nomark _)) (pe_one (pe_cmpR op_eq (pv 0) (pv 1) (nomark _))))))))), ?_⟩
    refine ⟨_, rfl, by show 2 ≤ sizeLine; decide, fun tp ntp => ?_⟩
    have hE : Ex H (upd H tp (.tup [.ty "tuple", .ty "list"])) := Ex.new ntp
    refine ⟨_, tp, _, .type "bool", _, false, rfl, upd_same, .cons (ClsV.ty _) (.cons (ClsV.ty _) .nil), .base (.bl b), by rfl, false, rfl, iteF ?_⟩
    refine ⟨_, rfl, rfl, false, rfl, iteF ?_⟩
    refine ⟨_, rfl, _, _, .type "bool", _, false, rfl, ClsV.ty _, .base (.bl b), kit_ty (by decide +kernel), false, rfl, iteF ?_⟩
    refine ⟨_, rfl, _, _, .type "bool", _, true, rfl, ClsV.ty _, .base (.bl a), kit_ty (by decide +kernel), true, rfl, iteT ?_⟩
    refine ⟨_, rfl, _, _, .type "bool", _, true, rfl, ClsV.ty _, .base (.bl a), kit_ty (by decide +kernel), ?_⟩
    refine ⟨_, rfl, _, _, .type "bool", _, true, rfl, ClsV.ty _, .base (.bl b), kit_ty (by decide +kernel), ?_⟩
    refine ⟨rfl, true, rfl, iteT ?_⟩
    refine ⟨_, rfl, _, rfl, rfl, ?_⟩
    have e : decide (V.bl a = V.bl b) = (a == b) := dec_bl
    rw [e]
    exact q _ hE
/-! ### step -/
def spLStep : Sp := fun vs H Q _ => ∃ (v u : V) (c : Ch) (s : Sx), vs = [v, u] ∧ ChV H v c ∧ StV H u s ∧ c.length ≤ 6 ∧ stepOk c.length s = true ∧ ∀ H' v', Ex H H' → ChV H' v' (stepC c s) → Q v' H'
theorem ok_lStep : FnOk P w K mg base CX0 1 T.fLStep T.dLStep ["_law_chart_here", "_law_step_here"] spLStep := by
  refine T.FLStep.ok scLStep (fun vs H Q E h => ?_) (fun cdv A outer s H vs Q E hr h => ?_)
  · obtain ⟨_, _, _, _, rfl, _⟩ := h; rfl
  · obtain ⟨v, u, c, st, rfl, ⟨a, rfl, ha⟩, ⟨b, rfl, hb⟩, hl, hok, q⟩ := h
    obtain ⟨h1, h2, h3, h4, h5⟩ := stepOk_rng hok
    have hT : SqT K H a (c.map V.int) := SqT.of ha
    refine ⟨_, (pss_cons (ps_asg (pv 1) (pg_tup rfl (pgs_cons (pg_name (i := 2) scLStep.nd rfl (.inl rfl)) (pgs_cons (pg_name (i := 3) scLStep.nd rfl (.inl rfl)) pgs_nil))))
      (pss_cons (ps_set (i := 4) scLStep.nd rfl (.inl rfl) (pe_lst pa_nil))
      (pss_cons (ps_for PassesOwn.never rfl (pi_range1 (by rfl) T.m_range (pa_cons (pe_callB call_len_seq (by rfl) T.m_len PySem.boot_len (pa_cons (pv 0) pa_nil)) pa_nil)) (pg_name (i := 5) scLStep.nd rfl (.inl rfl)) (pss_one (ps_expr (pe_bm PySem.F.plainAttrs_list PySem.F.slot_list_append PySem.F.type_list_append mt_append (pv 4) (pa_cons (pe_ifExp (pt_cmpR op_eq (pe_op op_add (pv 5) pe_int) (pv 2) (nomark _)) (pv 3) (pe_ifExp (pt_cmpR op_eq (pe_ix ix_tup (pv 0) (pv 5) (fun _ _ => rfl)) (pv 2) (nomark _)) (pe_ix ix_tup (pv 0) (pe_op op_sub (pv 2) pe_int) (fun _ _ => rfl)) (pe_ix ix_tup (pv 0) (pv 5) (fun _ _ => rfl)))) pa_nil)))))
      (pss_one (ps_ret (pe_callTy call_tuple_of (by rfl) T.m_tuple (by decide +kernel) (pa_cons (pv 4) pa_nil))))))), ?_⟩
    refine ⟨.ref b, rfl, b, [.int st.1, .int st.2], rfl, SqT.of hb, rfl, .int st.1, _, rfl, .int st.2, _, rfl, rfl, ?_⟩
    refine ⟨Nat.zero_le _, fun o no => ?_⟩
    have hl2 : (c.map V.int).length = c.length := List.length_map _
    have hsl : (stepC c st).length = c.length := stepC_len c st
    refine ⟨_, rfl, a, _, rfl, .inr (SqT.of ((Ex.new no).tup ha)), ((c.map V.int).length : Int), rfl, by omega, by omega, ?_⟩
    refine for_range (lo := 0) (n := (((c.map V.int).length : Int)).toNat) (fun i σ H' => (∃ y5, σ = [some (.ref a), some (.ref b), some (.int st.1), some (.int st.2), some (.ref o), y5]) ∧ Ex H H' ∧ H' o = some (.lst (((stepC c st).take i).map V.int))) ⟨⟨none, rfl⟩, Ex.new no, upd_same⟩ ?_ ?_
    · rintro i σ H' hi ⟨⟨y5, rfl⟩, hE, ho⟩
      have hic : i < c.length := by omega
      have ek : (0 : Int) + (i : Int) = (i : Int) := by omega
      have hT' : SqT K H' a (c.map V.int) := SqT.of (hE.tup ha)
      have hat : atI (c.map V.int) (0 + (i : Int)) = some (.int c[i]) := by
        rw [ek]
        exact atI_nat (j := i) (by rw [List.getElem?_map, List.getElem?_eq_getElem hic]; rfl)
      have hat2 : atI (c.map V.int) (st.1 - 1) = some (.int (c.getD (st.1 - 1).toNat 0)) := by
        refine at_of (j := (st.1 - 1).toNat) (by omega) ?_
        rw [List.getElem?_map, List.getD_eq_getElem?_getD, List.getElem?_eq_getElem (by omega : (st.1 - 1).toNat < c.length)]; rfl
      have fin : ∀ y : Int, y = (if (i : Int) + 1 = st.1 then st.2 else if c[i] = st.1 then c.getD (st.1 - 1).toNat 0 else c[i]) → (((stepC c st).take i).map V.int).length < sizeLine ∧ ((∃ y5, [some (V.ref a), some (.ref b), some (.int st.1), some (.int st.2), some (.ref o), some (V.int (0 + (i : Int)))] = [some (V.ref a), some (.ref b), some (.int st.1), some (.int st.2), some (.ref o), y5]) ∧ Ex H (upd H' o (.lst (((stepC c st).take i).map V.int ++ [.int y]))) ∧ (upd H' o (.lst (((stepC c st).take i).map V.int ++ [.int y]))) o = some (.lst (((stepC c st).take (i + 1)).map V.int))) := by
        intro y ey
        refine ⟨?_, ⟨_, rfl⟩, hE.set no, ?_⟩
        · rw [List.length_map, List.length_take]
          exact Nat.lt_of_le_of_lt (Nat.min_le_left _ _) (small1000 (by omega))
        · rw [upd_same, List.take_add_one, stepC_get hic h1 h2, List.map_append, ey]
          rfl
      refine ⟨.ref o, rfl, .inl ⟨rfl, _, SqL.of ho⟩, _, rfl, _, _, rfl, rfl, _, rfl, rfl, _, rfl, ?_⟩
      by_cases e : (i : Int) + 1 = st.1
      · have ed : decide (V.int (0 + (i : Int) + 1) = V.int st.1) = true := decide_eq_true (by rw [ek, e])
        rw [ed]
        exact iteT ⟨_, rfl, o, _, _, rfl, rfl, ho, fin _ (by rw [if_pos e])⟩
      · have ed : decide (V.int (0 + (i : Int) + 1) = V.int st.1) = false := decide_eq_false fun z => e (by have := V.int.inj z; omega)
        rw [ed]
        refine iteF ?_
        refine ⟨_, rfl, _, rfl, a, _, _, _, rfl, rfl, hT', hat, _, rfl, rfl, _, rfl, ?_⟩
        by_cases e2 : c[i] = st.1
        · have ed : decide (V.int c[i] = V.int st.1) = true := decide_eq_true (by rw [e2])
          rw [ed]
          exact iteT ⟨_, rfl, _, rfl, _, _, rfl, rfl, a, _, _, _, rfl, rfl, hT', hat2, o, _, _, rfl, rfl, ho, fin _ (by rw [if_neg e, if_pos e2])⟩
        · have ed : decide (V.int c[i] = V.int st.1) = false := decide_eq_false fun z => e2 (V.int.inj z)
          rw [ed]
          exact iteF ⟨_, rfl, _, rfl, a, _, _, _, rfl, rfl, hT', hat, o, _, _, rfl, rfl, ho, fin _ (by rw [if_neg e, if_neg e2])⟩
    · rintro σ H' ⟨⟨y5, rfl⟩, hE, ho⟩
      have et : (stepC c st).take (((c.map V.int).length : Int)).toNat = stepC c st := List.take_of_length_le (by omega)
      rw [et] at ho
      refine ⟨.ref o, rfl, o, _, rfl, .inl ⟨SqL.of ho, fun l nl => ?_⟩⟩
      exact q _ _ (hE.set (hE.free _ nl)) ⟨l, rfl, upd_same⟩
/-! ### done -/
def spLDone : Sp := fun vs H Q _ => ∃ (v u : V) (c : Ch) (r : Rw), vs = [v, u] ∧ ChV H v c ∧ RwV H u r ∧ c.length ≤ 6 ∧ (∀ s ∈ r, stepOk c.length s = true) ∧ ∀ H' v', Ex H H' → ChV H' v' (doneC c r) → Q v' H'
theorem ok_lDone : FnOk P w K mg base CX0 2 T.fLDone T.dLDone ["_law_chart_here", "_law_steps_here"] spLDone := by
  have GLStep := ok_lStep (P := P) (w := w) (base := base) T
  refine T.FLDone.ok scLDone (fun vs H Q E h => ?_) (fun cdv A outer s H vs Q E hr h => ?_)
  · obtain ⟨_, _, _, _, rfl, _⟩ := h; rfl
  · obtain ⟨v, u, c, r, rfl, hc, ⟨b, xs, rfl, hb, hp⟩, hcl, hok, q⟩ := h
    have hl : xs.length = r.length := hp.length
    refine ⟨_, (pss_cons (ps_for PassesOwn.never rfl (pi_tup (pv 1)) (pg_name (i := 2) scLDone.nd rfl (.inl rfl)) (pss_one (ps_set (i := 0) scLDone.nd rfl (.inl rfl) (pe_call GLStep (hr.mono (by decide)) (by rfl) T.gLStep T.FLStep.kp T.bLStep .nil pass0 (pa_cons (pv 0) (pa_cons (pv 2) pa_nil))))))
      (pss_one (ps_ret (pv 0)))), ?_⟩
    refine ⟨.ref b, rfl, b, rfl, ⟨xs, SqT.of hb⟩, ?_⟩
    refine for_tup (K := K) (a := b) (xs := xs) (fun i σ H' => ∃ v' y2, σ = [some v', some (.ref b), y2] ∧ Ex H H' ∧ ChV H' v' (doneC c (r.take i))) ⟨v, none, rfl, Ex.refl H, hc⟩ (fun i σ H' _ h => let ⟨_, _, _, hE, _⟩ := h; SqT.of (hE.tup hb)) ?_ ?_
    · rintro i x σ H' hx ⟨v', y2, rfl, hE, hv'⟩
      obtain ⟨st, e1, e2⟩ := Paired.get? hp hx
      have hdl : (doneC c (r.take i)).length = c.length := doneC_len _ _
      refine ⟨v', rfl, x, rfl, v', x, doneC c (r.take i), st, rfl, hv', e2.te hE.te, by rw [hdl]; exact hcl, by rw [hdl]; exact hok st (List.mem_of_getElem? e1), fun H2 v2 hE2 hv2 => ?_⟩
      have e3 : doneC c (r.take (i + 1)) = stepC (doneC c (r.take i)) st := by
        rw [List.take_add_one, e1]
        exact doneC_snoc _ _ _
      exact ⟨v2, _, rfl, hE.trans hE2, by rw [e3]; exact hv2⟩
    · rintro σ H' ⟨v', y2, rfl, hE, hv'⟩
      have et : r.take xs.length = r := List.take_of_length_le (by omega)
      rw [et] at hv'
      exact ⟨_, rfl, q H' v' hE hv'⟩
/-! ### law's own steps -/
def spLSteps : Sp := fun vs H Q _ => ∃ n : Nat, vs = [.int n] ∧ n ≤ 6 ∧ ∀ H' p, Ex H H' → H p = none → Ls StV H' p (stepsOf n) → Q (.ref p) H'
theorem ok_lSteps : FnOk P w K mg base CX0 1 T.fLSteps T.dLSteps ["_law_size"] spLSteps := by
  refine T.FLSteps.ok scLSteps (fun vs H Q E h => ?_) (fun cdv A outer s H vs Q E hr h => ?_)
  · obtain ⟨_, rfl, _⟩ := h; rfl
  · obtain ⟨n, rfl, hn, q⟩ := h
    refine ⟨_, (pss_cons (ps_set (i := 1) scLSteps.nd rfl (.inl rfl) (pe_lst pa_nil))
      (pss_cons (ps_for PassesOwn.never rfl (pi_range2 (by rfl) T.m_range (pa_cons pe_int (pa_cons (pe_op op_add (pv 0) pe_int) pa_nil))) (pg_name (i := 2) scLSteps.nd rfl (.inr rfl)) (pss_one (ps_set (i := 1) scLSteps.nd rfl (.inl rfl) (pe_op op_cat (pv 1) (pe_lc (own := [("_law_chief", 3)]) rfl scLSteps.nd (pi_range1 (by rfl) T.m_range (pa_cons (pe_op op_add (pv 0) pe_int) pa_nil)) (blkOk_by (own := [("_law_chief", 3)]) (N := ["_law_size", "_law_found", "_law_person", "_law_chief"]) (sc := (defScope sLSteps)) (by decide +kernel)) (fun _ _ _ _ _ => (pg_name (i := 3) scLSteps.nd rfl (.inl rfl))) (fun _ _ _ _ _ => (pts_one (pt_cmpR op_ne (pv 3) (pv 2) (nomark _)))) (fun _ _ _ _ _ => (pe_tup (pa_cons (pv 2) (pa_cons (pv 3) pa_nil)))))))))
      (pss_one (ps_ret (pv 1))))), ?_⟩
    refine ⟨Nat.zero_le _, fun o no => ?_⟩
    refine ⟨.int n, rfl, _, _, rfl, rfl, 1, (n : Int) + 1, rfl, by omega, ?_⟩
    refine for_range (lo := 1) (n := ((n : Int) + 1 - 1).toNat) (fun i σ H' => ∃ y2 y3 o, σ = [some (.int n), some (.ref o), y2, y3] ∧ Ex H H' ∧ H o = none ∧ Ls StV H' o ((List.range i).flatMap fun i => stepsP i (n + 1)))
      ⟨none, none, o, rfl, Ex.new no, no, [], upd_same, .nil⟩ ?_ ?_
    · rintro i σ H' hi ⟨y2, y3, o, rfl, hE, no, vs, ho, hvs⟩
      have hvl : vs.length ≤ 100 := by
        rw [hvs.length]
        have h1 : ∀ m, m ≤ 6 → ((List.range m).flatMap fun i => stepsP i (n + 1)).length ≤ m * 7 := by
          intro m hm
          induction m with
          | zero => simp
          | succ m ih =>
            rw [List.range_succ, List.flatMap_append, List.length_append]
            have h2 : ([m].flatMap fun i => stepsP i (n + 1)).length ≤ n + 1 := by
              simp only [List.flatMap_cons, List.flatMap_nil, List.append_nil, stepsP, List.length_map]
              exact Nat.le_trans (List.length_filter_le _ _) (by simp)
            have := ih (by omega)
            omega
        have := h1 i (by omega)
        omega
      refine ⟨.ref o, rfl, .int n, rfl, _, _, rfl, rfl, (n : Int) + 1, rfl, ?_, ?_, fun D nD => ?_⟩
      · omega
      · omega
      have nDH : H D = none := hE.free _ nD
      have noD : o ≠ D := fun z => by rw [z] at ho; rw [nD] at ho; cases ho
      refine lc_range (lo := 0) (n := ((n : Int) + 1).toNat) (fun k H2 => Ex H' H2 ∧ ∃ ws, H2 D = some (.lst ws) ∧ Paired (StV H2) ws (stepsP i k)) ⟨Ex.new nD, [], upd_same, .nil⟩ ?_ ?_
      · rintro k H2 hk ⟨hE2, ws, hD, hws⟩
        have hwl : ws.length ≤ k := by
          rw [hws.length]
          simp only [stepsP, List.length_map]
          exact Nat.le_trans (List.length_filter_le _ _) (by simp)
        have ek : (0 : Int) + (k : Int) = (k : Int) := by omega
        refine ⟨rfl, _, rfl, _, rfl, rfl, _, rfl, ?_⟩
        by_cases e : (k : Int) = (i : Int) + 1
        · have ed : (!decide (V.int (0 + (k : Int)) = V.int (1 + (i : Int)))) = false := by
            rw [decide_eq_true (by rw [ek, e, Int.add_comm])]; rfl
          rw [ed]
          refine iteF ⟨hE2, ws, hD, ?_⟩
          rw [stepsP_succ, if_pos e, List.append_nil]
          exact hws
        · have ed : (!decide (V.int (0 + (k : Int)) = V.int (1 + (i : Int)))) = true := by
            rw [decide_eq_false (fun z => e (by have := V.int.inj z; omega))]; rfl
          rw [ed]
          refine iteT ⟨_, rfl, _, rfl, by show 2 ≤ sizeLine; decide, fun p np => ?_⟩
          have hDp : D ≠ p := fun z => by rw [z] at hD; rw [np] at hD; cases hD
          have hD2 : (upd H2 p (.tup [.int (1 + (i : Int)), .int (0 + (k : Int))])) D = some (.lst ws) := by rw [upd_ne hDp]; exact hD
          refine ⟨ws, hD2, small1000 (by omega), (hE2.set (hE2.free _ np)).set nD, _, upd_same, ?_⟩
          have t1 : TE_ H2 (upd H2 p (.tup [.int (1 + (i : Int)), .int (0 + (k : Int))])) := TE_.new np
          have t2 := TE_.lst (o := .lst (ws ++ [.ref p])) hD2
          rw [stepsP_succ, if_neg e]
          refine Paired.app (Paired.mapP hws fun _ _ z => z.te (t1.trans t2)) (.cons ⟨p, rfl, ?_⟩ .nil)
          refine t2 _ _ ?_
          rw [upd_same, ek, Int.add_comm]
      · rintro H2 ⟨hE2, ws, hD, hws⟩
        have en : ((n : Int) + 1).toNat = n + 1 := by omega
        rw [en] at hws
        have hwl : ws.length ≤ n + 1 := by
          rw [hws.length]
          simp only [stepsP, List.length_map]
          exact Nat.le_trans (List.length_filter_le _ _) (by simp)
        refine ⟨o, D, vs, ws, rfl, rfl, hE2.lst ho, hD, ?_, fun p np => ?_⟩
        · exact Nat.le_of_lt (small1000 (by omega))
        · have t1 : TE_ H2 (upd H2 p (.lst (vs ++ ws))) := TE_.new np
          refine ⟨_, _, p, rfl, (hE.trans hE2).set ((hE.trans hE2).free _ np), (hE.trans hE2).free _ np, _, upd_same, ?_⟩
          rw [List.range_succ, List.flatMap_append]
          refine Paired.app (Paired.mapP hvs fun _ _ z => z.te (hE2.te.trans t1)) ?_
          have e1 : ([i].flatMap fun i => stepsP i (n + 1)) = stepsP i (n + 1) := by simp
          rw [e1]
          exact Paired.mapP hws fun _ _ z => z.te t1
    · rintro σ H' ⟨y2, y3, o, rfl, hE, no, hL⟩
      have en : ((n : Int) + 1 - 1).toNat = n := by omega
      rw [en] at hL
      exact ⟨_, rfl, q H' o hE no hL⟩
end
end G
set_option Elab.async false
set_option linter.all false
set_option maxRecDepth 100000
set_option maxHeartbeats 2000000
namespace G
open PySem PySem.Spec PyProof.Rows L2
/-- every person comes up -/
def chartB (n : Nat) (c : Ch) : Bool := (List.range n).all fun i : Nat => decide (iterUp c n ((i : Int) + 1) = 0)
/-- all rows of numbers 0 .. n -/
def allC (n : Nat) : Nat → List Ch
  | 0 => [[]]
  | k + 1 => (allC n k).flatMap fun c => (List.range (n + 1)).map fun j : Nat => c ++ [(j : Int)]
theorem mem_allC {n : Nat} : ∀ {k : Nat} {c : Ch}, c ∈ allC n k → c.length = k ∧ ∀ x ∈ c, 0 ≤ x ∧ x ≤ (n : Int)
  | 0, c, h => by
    simp only [allC, List.mem_singleton] at h
    subst h
    exact ⟨rfl, fun x h => nomatch h⟩
  | k + 1, c, h => by
    simp only [allC, List.mem_flatMap, List.mem_map, List.mem_range] at h
    obtain ⟨d, hd, j, hj, rfl⟩ := h
    obtain ⟨h1, h2⟩ := mem_allC hd
    refine ⟨by rw [List.length_append, h1]; rfl, fun x hx => ?_⟩
    rcases List.mem_append.mp hx with hx | hx
    · exact h2 x hx
    · simp only [List.mem_singleton] at hx
      subst hx
      omega
theorem allC_len {n : Nat} (hn : n ≤ 3) {k : Nat} (hk : k ≤ 3) : (allC n k).length ≤ 64 := by
  match n, k, hn, hk with
  | 0, 0, _, _ => decide
  | 0, 1, _, _ => decide
  | 0, 2, _, _ => decide
  | 0, 3, _, _ => decide
  | 1, 0, _, _ => decide
  | 1, 1, _, _ => decide
  | 1, 2, _, _ => decide
  | 1, 3, _, _ => decide
  | 2, 0, _, _ => decide
  | 2, 1, _, _ => decide
  | 2, 2, _, _ => decide
  | 2, 3, _, _ => decide
  | 3, 0, _, _ => decide
  | 3, 1, _, _ => decide
  | 3, 2, _, _ => decide
  | 3, 3, _, _ => decide
def chartsOf (n : Nat) : List Ch := (allC n n).filter (chartB n)
theorem chartsOf_ok {n : Nat} (h1 : 1 ≤ n) (h3 : n ≤ 3) {c : Ch} (h : c ∈ chartsOf n) : ChOk n c := by
  obtain ⟨h4, h5⟩ := List.mem_filter.mp h
  obtain ⟨h6, h7⟩ := mem_allC h4
  refine ⟨h6, h1, h3, h7, fun i hi => ?_⟩
  exact of_decide_eq_true (List.all_eq_true.mp h5 i (List.mem_range.mpr hi))
theorem chartsOf_ne {n : Nat} (h1 : 1 ≤ n) (h3 : n ≤ 3) : chartsOf n ≠ [] := by
  match n, h1, h3 with
  | 1, _, _ => decide
  | 2, _, _ => decide +kernel
  | 3, _, _ => decide +kernel
theorem chartsOf_len {n : Nat} (h3 : n ≤ 3) : (chartsOf n).length ≤ 64 := Nat.le_trans (List.length_filter_le _ _) (allC_len h3 h3)
section
variable {n : Nat} {c : Ch}
theorem at_rng (hl : c.length = n) {h : Int} (h1 : 1 ≤ h) (h2 : h ≤ n) : c[(h - 1).toNat]? = some (c.getD (h - 1).toNat 0) := by
  have : (h - 1).toNat < c.length := by omega
  rw [List.getD_eq_getElem?_getD, List.getElem?_eq_getElem this]; rfl
theorem up_rng (hl : c.length = n) (hr : ∀ x ∈ c, 0 ≤ x ∧ x ≤ (n : Int)) {h : Int} (h1 : 0 ≤ h) (h2 : h ≤ n) : 0 ≤ up c h ∧ up c h ≤ n := by
  unfold up
  split
  · exact ⟨Int.le_refl _, by omega⟩
  · exact hr _ (List.mem_of_getElem? (at_rng hl (by omega) h2))
theorem iter_rng (hl : c.length = n) (hr : ∀ x ∈ c, 0 ≤ x ∧ x ≤ (n : Int)) {h : Int} (h1 : 0 ≤ h) (h2 : h ≤ n) : ∀ k, 0 ≤ iterUp c k h ∧ iterUp c k h ≤ n
  | 0 => ⟨h1, h2⟩
  | k + 1 => up_rng hl hr (iter_rng hl hr h1 h2 k).1 (iter_rng hl hr h1 h2 k).2
end
section
variable {P : Program} {w : World} {K : PySem.W.Frag} {mg : Str → Option Value} {base : Heap} (T : Tx K mg)
/-! ### is a chart -/
def spLIsChart : Sp := fun vs H Q _ => ∃ (n : Nat) (v : V) (c : Ch), vs = [v] ∧ ChV H v c ∧ c.length = n ∧ n ≤ 3 ∧ (∀ x ∈ c, 0 ≤ x ∧ x ≤ (n : Int)) ∧ Q (.bl (chartB n c)) H
theorem ok_lIsChart : FnOk P w K mg base CX0 1 T.fLIsChart T.dLIsChart ["_law_value"] spLIsChart := by
  refine T.FLIsChart.ok scLIsChart (fun vs H Q E h => ?_) (fun cdv A outer s H vs Q E hr h => ?_)
  · obtain ⟨_, _, _, rfl, _⟩ := h; rfl
  · obtain ⟨n, v, c, rfl, ⟨a, rfl, ha⟩, hcl, hn3, hrg, q⟩ := h
    refine ⟨_, (pss_cons (ps_for PassesOwn.never rfl (pi_range2 (by rfl) T.m_range (pa_cons pe_int (pa_cons (pe_op op_add (pe_callB call_len_seq (by rfl) T.m_len PySem.boot_len (pa_cons (pv 0) pa_nil)) pe_int) pa_nil))) (pg_name (i := 1) scLIsChart.nd rfl (.inl rfl)) (pss_cons (ps_set (i := 2) scLIsChart.nd rfl (.inl rfl) (pv 1))
      (pss_cons (ps_for PassesOwn.never rfl (pi_range1 (by rfl) T.m_range (pa_cons (pe_callB call_len_seq (by rfl) T.m_len PySem.boot_len (pa_cons (pv 0) pa_nil)) pa_nil)) (pg_name (i := 3) scLIsChart.nd rfl (.inl rfl)) (pss_one (ps_set (i := 2) scLIsChart.nd rfl (.inl rfl) (pe_ifExp (pt_cmpR op_ne (pv 2) pe_int (nomark _)) (pe_ix ix_tup (pv 0) (pe_op op_sub (pv 2) pe_int) (fun _ _ => rfl)) pe_int))))
      (pss_one (ps_if (pt_cmpR op_ne (pv 2) pe_int (nomark _)) (pss_one (ps_ret pe_bl)) pss_nil)))))
      (pss_one (ps_ret pe_bl))), ?_⟩
    have hT : SqT K H a (c.map V.int) := SqT.of ha
    have hl : (c.map V.int).length = n := by rw [List.length_map]; exact hcl
    refine ⟨.ref a, rfl, a, _, rfl, .inr hT, _, _, rfl, rfl, 1, ((c.map V.int).length : Int) + 1, rfl, by omega, ?_⟩
    refine for_range (lo := 1) (n := (((c.map V.int).length : Int) + 1 - 1).toNat) (fun i σ H' => (∃ y1 y2 y3, σ = [some (.ref a), y1, y2, y3]) ∧ H = H' ∧ ∀ j, j < i → iterUp c n ((j : Int) + 1) = 0) ⟨⟨none, none, none, rfl⟩, rfl, fun j h => absurd h (Nat.not_lt_zero _)⟩ ?_ ?_
    · rintro i σ H' hi ⟨⟨y1, y2, y3, rfl⟩, rfl, hz⟩
      have hin : i < n := by omega
      refine ⟨.int (1 + (i : Int)), rfl, .ref a, rfl, a, _, rfl, .inr hT, ((c.map V.int).length : Int), rfl, by omega, by omega, ?_⟩
      refine for_range (lo := 0) (n := (((c.map V.int).length : Int)).toNat) (fun m σ H' => (∃ y3, σ = [some (.ref a), some (.int (1 + (i : Int))), some (.int (iterUp c m ((i : Int) + 1))), y3]) ∧ H = H') ⟨⟨y3, ?_⟩, rfl⟩ ?_ ?_
      · show [some (V.ref a), some (.int (1 + (i : Int))), some (.int (1 + (i : Int))), y3] = _
        have e : 1 + (i : Int) = (i : Int) + 1 := by omega
        rw [e]; rfl
      · rintro m σ H' hm ⟨⟨z3, rfl⟩, rfl⟩
        obtain ⟨r1, r2⟩ := iter_rng hcl hrg (h := (i : Int) + 1) (by omega) (by omega) m
        refine ⟨_, rfl, rfl, _, rfl, ?_⟩
        by_cases e0 : iterUp c m ((i : Int) + 1) = 0
        · have ed : (!decide (V.int (iterUp c m ((i : Int) + 1)) = V.int 0)) = false := by rw [e0]; rfl
          have e1 : iterUp c (m + 1) ((i : Int) + 1) = 0 := by show up c _ = 0; rw [e0]; rfl
          rw [ed]
          refine iteF ⟨⟨some (.int (0 + (m : Int))), ?_⟩, rfl⟩
          rw [e1]; rfl
        · have ed : (!decide (V.int (iterUp c m ((i : Int) + 1)) = V.int 0)) = true := by
            rw [decide_eq_false (fun z => e0 (V.int.inj z))]; rfl
          rw [ed]
          have hat : atI (c.map V.int) (iterUp c m ((i : Int) + 1) - 1) = some (.int (iterUp c (m + 1) ((i : Int) + 1))) := by
            refine at_of (j := (iterUp c m ((i : Int) + 1) - 1).toNat) (by omega) ?_
            rw [List.getElem?_map, at_rng hcl (by omega) r2]
            show some (V.int _) = some (V.int (up c (iterUp c m ((i : Int) + 1))))
            unfold up
            rw [if_neg e0]
          exact iteT ⟨_, rfl, _, rfl, _, _, rfl, rfl, a, _, _, _, rfl, rfl, hT, hat, ⟨_, rfl⟩, rfl⟩
      · rintro σ H' ⟨⟨z3, rfl⟩, rfl⟩
        have en : (((c.map V.int).length : Int)).toNat = n := by omega
        rw [en]
        refine ⟨_, rfl, rfl, _, rfl, ?_⟩
        by_cases e0 : iterUp c n ((i : Int) + 1) = 0
        · have ed : (!decide (V.int (iterUp c n ((i : Int) + 1)) = V.int 0)) = false := by rw [e0]; rfl
          rw [ed]
          refine iteF ⟨⟨_, _, _, rfl⟩, rfl, fun j hj => ?_⟩
          by_cases e : j = i
          · rw [e]; exact e0
          · exact hz j (by omega)
        · have ed : (!decide (V.int (iterUp c n ((i : Int) + 1)) = V.int 0)) = true := by
            rw [decide_eq_false (fun z => e0 (V.int.inj z))]; rfl
          rw [ed]
          have eb : chartB n c = false := by
            cases hb : chartB n c with
            | false => rfl
            | true => exact absurd (of_decide_eq_true (List.all_eq_true.mp hb i (List.mem_range.mpr hin))) e0
          rw [eb] at q
          exact iteT q
    · rintro σ H' ⟨⟨y1, y2, y3, rfl⟩, rfl, hz⟩
      have eb : chartB n c = true := List.all_eq_true.mpr fun i hi => decide_eq_true (hz i (by have := List.mem_range.mp hi; omega))
      rw [eb] at q
      exact q
end
end G
set_option Elab.async false
set_option linter.all false
set_option maxRecDepth 100000
set_option maxHeartbeats 2000000
namespace G
open PySem PySem.Spec PyProof.Rows L2
def extC (n : Nat) (c : Ch) : List Ch := (List.range (n + 1)).map fun j : Nat => c ++ [(j : Int)]
theorem take_flat {α β : Type} (f : α → List β) {xs : List α} {k : Nat} {x : α} (h : xs[k]? = some x) : (xs.take (k + 1)).flatMap f = (xs.take k).flatMap f ++ f x := by
  rw [List.take_add_one, h, List.flatMap_append]
  simp
theorem extC_len (n : Nat) (c : Ch) : (extC n c).length = n + 1 := by simp [extC]
theorem flat_len {α β : Type} (f : α → List β) {m : Nat} (h : ∀ x, (f x).length = m) : ∀ xs : List α, (xs.flatMap f).length = xs.length * m
  | [] => by simp
  | x :: xs => by rw [List.flatMap_cons, List.length_append, h, flat_len f h xs, List.length_cons, Nat.succ_mul]; omega
theorem ChV.ex {H H' : Hp} (e : Ex H H') {v : V} {c : Ch} (h : ChV H v c) : ChV H' v c := h.te e.te
section
variable {P : Program} {w : World} {K : PySem.W.Frag} {mg : Str → Option Value} {base : Heap} (T : Tx K mg)
def spLCharts : Sp := fun vs H Q _ => ∃ n : Nat, vs = [.int n] ∧ 1 ≤ n ∧ n ≤ 3 ∧ ∀ H' p, Ex H H' → H p = none → Ls ChV H' p (chartsOf n) → Q (.ref p) H'
theorem ok_lCharts : FnOk P w K mg base CX0 2 T.fLCharts T.dLCharts ["_law_size"] spLCharts := by
  have GLIsChart := ok_lIsChart (P := P) (w := w) (base := base) T
  refine T.FLCharts.ok scLCharts (fun vs H Q E h => ?_) (fun cdv A outer s H vs Q E hr h => ?_)
  · obtain ⟨_, rfl, _⟩ := h; rfl
  · obtain ⟨n, rfl, hn1, hn3, q⟩ := h
    refine ⟨_, (pss_cons (ps_set (i := 1) scLCharts.nd rfl (.inl rfl) (pe_lst (pa_cons (pe_tup pa_nil) pa_nil)))
      (pss_cons (ps_for PassesOwn.never rfl (pi_range1 (by rfl) T.m_range (pa_cons (pv 0) pa_nil)) (pg_name (i := 2) scLCharts.nd rfl (.inl rfl)) (pss_cons (ps_set (i := 3) scLCharts.nd rfl (.inl rfl) (pe_lst pa_nil))
      (pss_cons (ps_for PassesOwn.never rfl (pi_list (pv 1)) (pg_name (i := 4) scLCharts.nd rfl (.inr rfl)) (pss_one (ps_set (i := 3) scLCharts.nd rfl (.inl rfl) (pe_op op_cat (pv 3) (pe_lc (own := [("_law_chief", 5)]) rfl scLCharts.nd (pi_range1 (by rfl) T.m_range (pa_cons (pe_op op_add (pv 0) pe_int) pa_nil)) (blkOk_by (own := [("_law_chief", 5)]) (N := ["_law_size", "_law_found", "_law_person", "_law_more", "_law_one", "_law_chief"]) (sc := (defScope sLCharts)) (by decide +kernel)) (fun _ _ _ _ _ => (pg_name (i := 5) scLCharts.nd rfl (.inl rfl))) (fun _ _ _ _ _ => pts_nil) (fun _ _ _ _ _ => (pe_op (op_catAK (K := K)) (pv 4) (pe_tup (pa_cons (pv 5) pa_nil)))))))))
      (pss_one (ps_set (i := 1) scLCharts.nd rfl (.inl rfl) (pv 3))))))
      (pss_one (ps_ret (pe_lc (own := [("_law_one", 4)]) rfl scLCharts.nd (pi_list (pv 1)) (blkOk_by (own := [("_law_one", 4)]) (N := ["_law_size", "_law_found", "_law_person", "_law_more", "_law_one", "_law_chief"]) (sc := (defScope sLCharts)) (by decide +kernel)) (fun _ _ _ _ _ => (pg_name (i := 4) scLCharts.nd rfl (.inl rfl))) (fun _ _ _ _ _ => (pts_one (pt_val (pe_call GLIsChart (hr.mono (by decide)) (by rfl) T.gLIsChart T.FLIsChart.kp T.bLIsChart .nil pass0 (pa_cons (pv 4) pa_nil))))) (fun _ _ _ _ _ => (pv 4))))))), ?_⟩
    refine ⟨Nat.zero_le _, fun t0 nt0 => ⟨by show 1 ≤ sizeLine; decide, fun o no => ?_⟩⟩
    have hE0 : Ex H (upd (upd H t0 (.tup [])) o (.lst [.ref t0])) := (Ex.new nt0).trans (Ex.new no)
    refine ⟨_, rfl, (n : Int), rfl, by omega, by omega, ?_⟩
    refine for_range (lo := 0) (n := ((n : Int)).toNat) (fun i σ H' => ∃ o y2 y3 y4 y5, σ = [some (.int n), some (.ref o), y2, y3, y4, y5] ∧ Ex H H' ∧ Ls ChV H' o (allC n i))
      ⟨o, none, none, none, none, rfl, hE0, [.ref t0], upd_same, .cons ⟨t0, rfl, by rw [upd_ne (ne_of_none (upd_same : (upd H t0 (.tup [])) t0 = some (.tup [])) no)]; exact upd_same⟩ .nil⟩ ?_ ?_
    · rintro i σ H' hi ⟨o, y2, y3, y4, y5, rfl, hE, vs, ho, hvs⟩
      refine ⟨Nat.zero_le _, fun m nm => ?_⟩
      have ho1 : (upd H' m (.lst [])) o = some (.lst vs) := (Ex.new nm).lst ho
      have hil : i + 1 ≤ 3 := by omega
      have hvl : vs.length = (allC n i).length := hvs.length
      have tot : (allC n (i + 1)).length ≤ 64 := allC_len hn3 hil
      have tot2 : (allC n (i + 1)).length = (allC n i).length * (n + 1) := flat_len _ (extC_len n) _
      refine ⟨.ref o, rfl, o, rfl, ⟨vs, SqL.of ho1⟩, ?_⟩
      refine for_list (K := K) (a := o) (xs := vs) (fun k σ H2 => ∃ m y4 y5, σ = [some (.int n), some (.ref o), some (.int (0 + (i : Int))), some (.ref m), y4, y5] ∧ Ex H' H2 ∧ Ls ChV H2 m (((allC n i).take k).flatMap (extC n)))
        ⟨m, y4, y5, rfl, Ex.new nm, [], upd_same, .nil⟩ (fun k σ H2 _ h => let ⟨_, _, _, _, hE2, _⟩ := h; SqL.of (hE2.lst ho)) ?_ ?_
      · rintro k x σ H2 hx ⟨m, y4, y5, rfl, hE2, ws, hm, hws⟩
        obtain ⟨c, hc1, hc2⟩ := Paired.get? hvs hx
        have hk : k < (allC n i).length := (List.getElem?_eq_some_iff.mp hc1).1
        have hwl : ws.length ≤ 62 := by
          rw [hws.length, flat_len _ (extC_len n), List.length_take]
          have : min k (allC n i).length = k := by omega
          rw [this]
          have h2 : (k + 1) * (n + 1) ≤ (allC n i).length * (n + 1) := Nat.mul_le_mul_right _ hk
          rw [Nat.succ_mul] at h2
          omega
        obtain ⟨ca, rfl, hca⟩ := hc2
        have hcl : c.length = i := (mem_allC (List.mem_of_getElem? hc1)).1
        refine ⟨.ref m, rfl, .int n, rfl, _, _, rfl, rfl, (n : Int) + 1, rfl, ?_, ?_, fun D nD => ?_⟩
        · omega
        · omega
        refine lc_range (lo := 0) (n := ((n : Int) + 1).toNat) (fun j H3 => Ex H2 H3 ∧ ∃ us, H3 D = some (.lst us) ∧ us.length = j ∧ Paired (ChV H3) us ((List.range j).map fun j : Nat => c ++ [(j : Int)])) ⟨Ex.new nD, [], upd_same, rfl, .nil⟩ ?_ ?_
        · rintro j H3 hj ⟨hE3, us, hD, hul, hus⟩
          have hca3 : H3 ca = some (.tup (c.map V.int)) := hE3.tup (hE2.tup hca)
          refine ⟨rfl, iteT (B := True) ?_⟩
          refine ⟨_, rfl, _, rfl, by show 1 ≤ sizeLine; decide, fun p np => ?_⟩
          have hDp : D ≠ p := ne_of_none hD np
          have e31 : Ex H3 (upd H3 p (.tup [.int (0 + (j : Int))])) := Ex.new np
          have hD1 : (upd H3 p (.tup [.int (0 + (j : Int))])) D = some (.lst us) := e31.lst hD
          have ej : (0 : Int) + (j : Int) = (j : Int) := by omega
          have fin : ∀ (q1 : Addr) (H4 : Hp), Ex (upd H3 p (.tup [.int (0 + (j : Int))])) H4 → H4 q1 = some (.tup ((c ++ [(j : Int)]).map V.int)) → ∃ acc, H4 D = some (.lst acc) ∧ acc.length < sizeLine ∧ Ex H2 (upd H4 D (.lst (acc ++ [.ref q1]))) ∧ ∃ us, (upd H4 D (.lst (acc ++ [.ref q1]))) D = some (.lst us) ∧ us.length = j + 1 ∧ Paired (ChV (upd H4 D (.lst (acc ++ [.ref q1])))) us ((List.range (j + 1)).map fun j : Nat => c ++ [(j : Int)]) := by
            intro q1 H4 e4 hq1
            have hD4 : H4 D = some (.lst us) := e4.lst hD1
            have t4 := TE_.lst (o := .lst (us ++ [.ref q1])) hD4
            refine ⟨us, hD4, small1000 (by omega), ((hE3.trans e31).trans e4).set nD, _, upd_same, by rw [List.length_append, hul]; rfl, ?_⟩
            rw [List.range_succ, List.map_append]
            exact Paired.app (Paired.mapP hus fun _ _ z => z.te ((e31.te.trans e4.te).trans t4)) (.cons ⟨q1, rfl, t4 _ _ hq1⟩ .nil)
          refine ⟨ca, p, _, _, rfl, rfl, SqT.of (e31.tup hca3), SqT.of upd_same, ?_, fun hz => ?_, fun _ hz => ?_, fun _ _ p2 np2 => ?_⟩
          · rw [List.length_map, hcl]
            exact Nat.le_of_lt (small1000 (by show i + 1 ≤ 1000; omega))
          · have hc0 : c = [] := by cases c with
              | nil => rfl
              | cons _ _ => exact nomatch hz
            refine fin p _ (Ex.refl _) ?_
            rw [upd_same, hc0, ej]; rfl
          · exact nomatch hz
          · refine fin p2 _ (Ex.new np2) ?_
            rw [upd_same, List.map_append, ej]; rfl
        · rintro H3 ⟨hE3, us, hD, hul, hus⟩
          have en : ((n : Int) + 1).toNat = n + 1 := by omega
          rw [en] at hul hus
          refine ⟨m, D, ws, us, rfl, rfl, hE3.lst hm, hD, ?_, fun p np => ?_⟩
          · exact Nat.le_of_lt (small1000 (by omega))
          · have t1 : TE_ H3 (upd H3 p (.lst (ws ++ us))) := TE_.new np
            refine ⟨p, _, _, rfl, (hE2.trans hE3).trans (Ex.new np), _, upd_same, ?_⟩
            rw [take_flat _ hc1]
            exact Paired.app (Paired.mapP hws fun _ _ z => z.te (hE3.te.trans t1)) (Paired.mapP hus fun _ _ z => z.te t1)
      · rintro σ H2 ⟨m, y4, y5, rfl, hE2, ws, hm, hws⟩
        have et : (allC n i).take vs.length = allC n i := List.take_of_length_le (by omega)
        rw [et] at hws
        exact ⟨.ref m, rfl, m, _, _, _, _, rfl, hE.trans hE2, ws, hm, hws⟩
    · rintro σ H' ⟨o, y2, y3, y4, y5, rfl, hE, vs, ho, hvs⟩
      have en : ((n : Int)).toNat = n := by omega
      rw [en] at hvs
      have hvl : vs.length ≤ 64 := by rw [hvs.length]; exact allC_len hn3 hn3
      refine ⟨.ref o, rfl, o, rfl, ⟨vs, SqL.of ho⟩, fun D nD => ?_⟩
      refine lc_list (K := K) (a := o) (xs := vs) (fun k H2 => Ex H' H2 ∧ ∃ us, H2 D = some (.lst us) ∧ us.length ≤ k ∧ Paired (ChV H2) us (((allC n n).take k).filter (chartB n))) ⟨Ex.new nD, [], upd_same, Nat.le_refl _, .nil⟩ (fun k H2 _ h => SqL.of (h.1.lst ho)) ?_ ?_
      · rintro k x H2 hx ⟨hE2, us, hD, hul, hus⟩
        obtain ⟨c, hc1, hc2⟩ := Paired.get? hvs hx
        have hk : k < vs.length := (List.getElem?_eq_some_iff.mp hx).1
        obtain ⟨m1, m2⟩ := mem_allC (List.mem_of_getElem? hc1)
        refine ⟨rfl, _, rfl, n, _, c, rfl, hc2.te hE2.te, m1, hn3, m2, ?_⟩
        have e1 : ((allC n n).take (k + 1)).filter (chartB n) = ((allC n n).take k).filter (chartB n) ++ [c].filter (chartB n) := by
          rw [List.take_add_one, hc1, List.filter_append]; rfl
        cases hb : chartB n c with
        | false =>
          refine ⟨false, rfl, iteF ⟨hE2, us, hD, by omega, ?_⟩⟩
          rw [e1, List.filter_cons_of_neg (by rw [hb]; exact Bool.false_ne_true)]
          simpa using hus
        | true =>
          have t4 := TE_.lst (o := .lst (us ++ [x])) hD
          refine ⟨true, rfl, iteT ⟨x, rfl, us, hD, small1000 (by omega), hE2.set nD, _, upd_same, by rw [List.length_append]; show us.length + 1 ≤ k + 1; omega, ?_⟩⟩
          rw [e1, List.filter_cons_of_pos hb]
          exact Paired.app (Paired.mapP hus fun _ _ z => z.te t4) (.cons (hc2.te (hE2.te.trans t4)) .nil)
      · rintro H2 ⟨hE2, us, hD, hul, hus⟩
        have et : (allC n n).take vs.length = allC n n := List.take_of_length_le (by rw [hvs.length]; exact Nat.le_refl _)
        rw [et] at hus
        exact q H2 D (hE.trans hE2) (hE.free _ nD) ⟨us, hD, hus⟩
end
end G
set_option Elab.async false
set_option linter.all false
set_option maxRecDepth 100000
set_option maxHeartbeats 2000000
namespace G
open PySem PySem.Spec PyProof.Rows L2
theorem RowH.ne {H : Hp} {l p : Addr} (R : RowH H l p) {b : Addr} (h : H b = none) : b ≠ l := by
  obtain ⟨i, s, r, e, _⟩ := R
  intro z; rw [z, e] at h; cases h
theorem RowH.ex {H H' : Hp} {l p : Addr} (e : Ex H H') (R : RowH H l p) : RowH H' l p := by
  obtain ⟨i, s, r, h, h1⟩ := R
  exact ⟨i, s, r, e.lst h, h1⟩
theorem RowH.te {H H' : Hp} {l p : Addr} (R : RowH H l p) (m : Mv l H H') : TE_ H H' := fun b xs h => by
  obtain ⟨i, s, r, e, _⟩ := R
  rw [m b (fun z => by rw [z, e] at h; cases h)]; exact h
theorem RowH.tab {H H' : Hp} {l p P : Addr} (R : RowH H l p) (m : Mv l H H') (h : GxR.TabG H P) : GxR.TabG H' P := by
  obtain ⟨i, s, r, e, _⟩ := R
  obtain ⟨ps, h1, h2⟩ := h
  exact ⟨ps, by rw [m P (fun z => by rw [z, e] at h1; cases h1)]; exact h1, h2⟩
theorem Paired.mem {α β : Type} {R : α → β → Prop} : ∀ {xs : List α} {ys : List β} {x : α}, Paired R xs ys → x ∈ xs → ∃ y, y ∈ ys ∧ R x y
  | _, _, _, .nil, h => nomatch h
  | _, _, _, .cons r t, h => by
    cases h with
    | head => exact ⟨_, .head _, r⟩
    | tail _ h =>
      obtain ⟨y, h1, h2⟩ := Paired.mem t h
      exact ⟨y, .tail _ h1, h2⟩
theorem Ls.mv {α : Type} {R : Hp → V → α → Prop} (hR : ∀ (H H' : Hp) (v : V) (x : α), TE_ H H' → R H v x → R H' v x) {H H' : Hp} {l p a : Addr} {xs : List α} (W : RowH H l p) (m : Mv l H H') (ne : a ≠ l) (h : Ls R H a xs) : Ls R H' a xs := by
  obtain ⟨vs, h1, h2⟩ := h
  exact ⟨vs, by rw [m a ne]; exact h1, Paired.mapP h2 fun _ _ q => hR _ _ _ _ (W.te m) q⟩
theorem Ls.ex {α : Type} {R : Hp → V → α → Prop} (hR : ∀ (H H' : Hp) (v : V) (x : α), TE_ H H' → R H v x → R H' v x) {H H' : Hp} {a : Addr} {xs : List α} (e : Ex H H') (h : Ls R H a xs) : Ls R H' a xs := by
  obtain ⟨vs, h1, h2⟩ := h
  exact ⟨vs, e.lst h1, Paired.mapP h2 fun _ _ q => hR _ _ _ _ e.te q⟩
theorem teC (H H' : Hp) (v : V) (x : Ch) (e : TE_ H H') (h : ChV H v x) : ChV H' v x := h.te e
theorem teS (H H' : Hp) (v : V) (x : Sx) (e : TE_ H H') (h : StV H v x) : StV H' v x := h.te e
theorem teR (H H' : Hp) (v : V) (x : Rw) (e : TE_ H H') (h : RwV H v x) : RwV H' v x := h.te e
theorem Ls.ne {α : Type} {R : Hp → V → α → Prop} {H : Hp} {xs : List α} {vs : List V} (h : Paired (R H) vs xs) (n : xs ≠ []) : vs ≠ [] := by
  intro z; subst z; cases h; exact n rfl
theorem steps_count {n : Nat} (h : n ≤ 3) : (stepsOf n).length = n * n := by
  match n, h with
  | 0, _ => rfl
  | 1, _ => rfl
  | 2, _ => rfl
  | 3, _ => rfl
theorem steps_le9 {n : Nat} (h : n ≤ 3) : (stepsOf n).length ≤ 9 := by
  rw [steps_count h]
  exact Nat.mul_le_mul h h
theorem rows_count {n i : Nat} (h : n ≤ 3) (hi : i ≤ 3) : (rowsOf (stepsOf n) i).length ≤ 729 := by
  rw [rowsOf_len]
  refine Nat.le_trans (Nat.pow_le_pow_left (steps_le9 h) i) ?_
  exact Nat.le_trans (Nat.pow_le_pow_right (by decide) hi) (by decide)
theorem rows_ne {n i : Nat} (h1 : 1 ≤ n) (h : n ≤ 3) : rowsOf (stepsOf n) i ≠ [] := by
  intro z
  have e := rowsOf_len (stepsOf n) i
  rw [z, steps_count h] at e
  have : 0 < (n * n) ^ i := Nat.pow_pos (Nat.mul_pos h1 h1)
  rw [← e] at this
  exact absurd this (by simp)
def isGood (c d : Ch) (z : Rw) : Bool := decide (doneC c z = d)
end G
set_option Elab.async false
set_option linter.all false
set_option maxRecDepth 100000
set_option maxHeartbeats 2000000
namespace G
open PySem PySem.Spec PyProof.Rows L2
theorem Paired.drop {α β : Type} {R : α → β → Prop} : ∀ (k : Nat) {xs : List α} {ys : List β}, Paired R xs ys → Paired R (xs.drop k) (ys.drop k)
  | 0, _, _, h => h
  | _ + 1, _, _, .nil => .nil
  | k + 1, _, _, .cons _ t => Paired.drop k t
theorem Paired.take {α β : Type} {R : α → β → Prop} : ∀ (k : Nat) {xs : List α} {ys : List β}, Paired R xs ys → Paired R (xs.take k) (ys.take k)
  | 0, _, _, h => by simp only [List.take_zero]; exact .nil
  | _ + 1, _, _, .nil => .nil
  | k + 1, _, _, .cons r t => .cons r (Paired.take k t)
theorem Paired.rev {α β : Type} {R : α → β → Prop} : ∀ {xs : List α} {ys : List β}, Paired R xs ys → Paired R xs.reverse ys.reverse
  | _, _, .nil => .nil
  | _, _, .cons r t => by
    rw [List.reverse_cons, List.reverse_cons]
    exact Paired.app (Paired.rev t) (.cons r .nil)
theorem Paired.repl {α β : Type} {R : α → β → Prop} {x : α} {y : β} (h : R x y) : ∀ k : Nat, Paired R (List.replicate k x) (List.replicate k y)
  | 0 => .nil
  | k + 1 => .cons h (Paired.repl h k)
theorem flat_repl {α : Type} (x : α) : ∀ k : Nat, (List.replicate k [x]).flatten = List.replicate k x
  | 0 => rfl
  | k + 1 => by rw [List.replicate_succ, List.flatten_cons, flat_repl x k, List.replicate_succ]; rfl
theorem cut1 (xs : List V) : cutV xs (some 1) none = xs.drop 1 := by
  unfold cutV
  have e : HT.sIx xs.length 0 (some 1) = min 1 xs.length := HT.sIx_nat _ _ 1
  rw [e, HT.sIx_none]
  cases xs with
  | nil => rfl
  | cons a t =>
    have : min 1 (a :: t).length = 1 := by simp [List.length_cons]
    rw [this, List.take_of_length_le]
    rw [List.length_drop]; exact Nat.le_refl _
theorem cut20 (xs : List V) : cutV xs none (some 20) = xs.take 20 := by
  unfold cutV
  have e : HT.sIx xs.length xs.length (some 20) = min 20 xs.length := HT.sIx_nat _ _ 20
  rw [e, HT.sIx_none, List.drop_zero, Nat.sub_zero]
  by_cases h : 20 ≤ xs.length
  · rw [Nat.min_eq_left h]
  · rw [Nat.min_eq_right (by omega), List.take_of_length_le (Nat.le_refl _), List.take_of_length_le (by omega)]
section
variable {K : PySem.W.Frag} {H : Hp} {Kc : VK}
theorem slA_or {u : V} {r : Rw} (h : RwV H u r) (k : ∀ u' H', Ex H H' → RwV H' u' (r.drop 1) → Kc u' H') : rSlA K u (some 1) none H Kc := by
  obtain ⟨a, xs, rfl, ha, hp⟩ := h
  refine ⟨a, xs, rfl, SqT.of ha, fun h1 => ?_, fun _ p np => ?_⟩
  · have e : HT.sIx xs.length 0 (some 1) = min 1 xs.length := HT.sIx_nat _ _ 1
    have h1 := h1.1
    rw [e] at h1
    have hx : xs = [] := List.eq_nil_of_length_eq_zero (by omega)
    subst hx
    cases hp
    exact k _ H (Ex.refl H) ⟨a, [], rfl, ha, .nil⟩
  · refine k _ _ (Ex.new np) ⟨p, _, rfl, upd_same, ?_⟩
    rw [cut1]
    exact Paired.drop 1 (Paired.mapP hp fun _ _ z => z.te (TE_.new np))
theorem slA_or' {σ : L2.St} {u : V} {r : Rw} (h : RwV H u r) (k : ∀ u' H', Ex H H' → RwV H' u' (r.drop 1) → Kc u' H') : tNoPart σ H fun hi H3 => rSlA K u (some 1) hi H3 Kc := slA_or h k
theorem catA_or {u v : V} {r q : Rw} (hl : r.length ≤ 100) (hl2 : q.length ≤ 100) (h : RwV H u r) (h2 : RwV H v q) (k : ∀ u' H', Ex H H' → RwV H' u' (r ++ q) → Kc u' H') : rCatA K u v H Kc := by
  obtain ⟨a, xs, rfl, ha, hp⟩ := h
  obtain ⟨b, ys, rfl, hb, hq⟩ := h2
  have l1 := hp.length
  have l2 := hq.length
  refine ⟨a, b, xs, ys, rfl, rfl, SqT.of ha, SqT.of hb, Nat.le_of_lt (small1000 (by omega)), fun h1 => ?_, fun _ h1 => ?_, fun _ _ p np => ?_⟩
  · subst h1
    cases hp
    exact k _ H (Ex.refl H) ⟨b, ys, rfl, hb, hq⟩
  · subst h1
    cases hq
    exact k _ H (Ex.refl H) ⟨a, xs, rfl, ha, by rw [List.append_nil]; exact hp⟩
  · exact k _ _ (Ex.new np) ⟨p, _, rfl, upd_same, Paired.app (Paired.mapP hp fun _ _ z => z.te (TE_.new np)) (Paired.mapP hq fun _ _ z => z.te (TE_.new np))⟩
theorem rep_or {u : V} {s : Sx} {m : Nat} (hm : m ≤ 3) (h : RwV H u [s]) (k : ∀ u' H', Ex H H' → RwV H' u' (List.replicate m s) → Kc u' H') : rRepK u (.int (m : Int)) H Kc := by
  obtain ⟨a, xs, rfl, ha, hp⟩ := h
  cases hp with
  | cons hx t =>
  cases t
  rename_i x
  refine ⟨a, _, [x], rfl, rfl, ha, by simp, by omega, by omega, by show 1 ≤ 1000; decide, fun h1 => ?_, fun h1 p np => ?_⟩
  · have e : m = 1 := by omega
    subst e
    exact k _ H (Ex.refl H) ⟨a, [x], rfl, ha, .cons hx .nil⟩
  · refine k _ _ (Ex.new np) ⟨p, _, rfl, upd_same, ?_⟩
    have e : ((m : Int)).toNat = m := by omega
    rw [e, flat_repl]
    exact Paired.repl (hx.te (TE_.new np)) m
theorem min_or {σ : L2.St} {b : Bool} {v : V} {i : Nat} (h : Kc v H) (h1 : b = true → ∃ (a : Addr) (ns : List Int), σ[i]? = some (some (.ref a)) ∧ SqL K H a (ns.map V.int) ∧ 0 < ns.length ∧ ∀ mn, mn ∈ ns → (∀ y ∈ ns, mn ≤ y) → v = V.int mn) (h2 : b = false → v = .non) :
    if b = true then tCB (rMin K) (tCons (tVar i) tNil) σ H Kc else tC .non σ H Kc := by
  cases b with
  | true =>
    obtain ⟨a, ns, e, hs, hl, hm⟩ := h1 rfl
    refine iteT ⟨_, e, a, ns, rfl, hs, hl, fun mn h3 h4 => ?_⟩
    rw [← hm mn h3 h4]; exact h
  | false =>
    refine iteF ?_
    rw [h2 rfl] at h
    exact h
theorem word_or {σ : L2.St} {b : Bool} {v : V} {i j : Nat} (h : Kc v H) (h1 : b = true → ∃ (a : Addr) (x : V), σ[i]? = some (some (.ref a)) ∧ H a = some (.tup [x, v])) (h2 : b = false → σ[j]? = some (some v)) :
    if b = true then tOp (rIxT K) (tVar i) (tC (.int 1)) σ H Kc else tVar j σ H Kc := by
  cases b with
  | true =>
    obtain ⟨a, x, e, ha⟩ := h1 rfl
    exact iteT ⟨_, e, a, _, 1, v, rfl, rfl, SqT.of ha, atI_nat (j := 1) rfl, h⟩
  | false => exact iteF ⟨v, h2 rfl, h⟩
end
theorem lsNil (G : List Rw) : PyData.eqv (.list (G.map rwD)) (.list []) = decide (G = []) := by
  simp only [PyData.eqv]
  exact eqvAllD rwEqv G []
/-- what stands of the best part -/
structure BestOk (n m : Nat) (c d : Ch) (r : Rw) (G : List Rw) (L : Option Part) : Prop where
  none : L = none → G = []
  some : ∀ p, L = some p → p.2 ∈ G ∧ (diff p.2 r : Int) = p.1 ∧ ∀ z ∈ G, p.1 ≤ (diff z r : Int)
  mem : ∀ z : Rw, z ∈ G ↔ (z.length = m ∧ ∀ s ∈ z, stepOk n s = true) ∧ doneC c z = d
theorem best_ok {n m : Nat} {c d : Ch} {r : Rw} {G : List Rw} (hrl : r.length = m) (hG : (rowsOf (stepsOf n) m).filter (isGood c d) = G) (hmem : ∀ z : Rw, z ∈ G ↔ (z.length = m ∧ ∀ s ∈ z, stepOk n s = true) ∧ doneC c z = d) {t : Tb} (hs : Says (stepsOf n) c r t) : BestOk n m c d r G (lookM t d) := by
  obtain ⟨h1, h2⟩ := hs d
  rw [hrl] at h1 h2
  have hg : ∀ z, z ∈ G ↔ z ∈ rowsOf (stepsOf n) m ∧ doneC c z = d := fun z => by
    rw [← hG, List.mem_filter]
    unfold isGood
    rw [decide_eq_true_eq]
  refine ⟨fun e => ?_, fun p e => ?_, hmem⟩
  · refine List.eq_nil_iff_forall_not_mem.mpr fun z hz => ?_
    obtain ⟨z1, z2⟩ := (hg z).mp hz
    exact h1 e z z1 z2
  · obtain ⟨q1, q2, q3, q4⟩ := h2 p e
    exact ⟨(hg _).mpr ⟨q1, q2⟩, q3, fun z hz => q4 z ((hg z).mp hz).1 ((hg z).mp hz).2⟩
/-- the first half of what is due -/
def due1B : Option Part → Val → Bool
  | none, .non => true
  | some p, .pair b _ => decide (oiV b = .int p.1)
  | _, _ => false
def rIsNo : R2 := fun x y H Q => y = .non ∧ Q (.bl (decide (x = .non))) H
def rNotNo : R2 := fun x y H Q => y = .non ∧ Q (.bl (!decide (x = .non))) H
theorem rw_nonref {H : Hp} {v : V} {y : Val} (h : ValV H v y) (hy : y ≠ .non) : v ≠ .non := by
  cases y with
  | non => exact absurd rfl hy
  | int i => have h : v = .int i := h; rw [h]; exact fun z => nomatch z
  | lst => obtain ⟨a, _, rfl, _⟩ := h; exact fun z => nomatch z
  | pair b x => obtain ⟨a, _, rfl, _⟩ := h; exact fun z => nomatch z
section
variable {K : PySem.W.Frag} {H : Hp} {Kc : VK} {σ : L2.St} {x : V} {y : Val} {L : Option Part}
theorem due1 (h19 : σ[19]? = some (some x)) (h15 : σ[15]? = some (some (oiV (L.map (·.1))))) (hx : ValV H x y) (k : Kc (.bl (due1B L y)) H) :
    tIf (tTest (tOp rIsNo (tVar 19) (tC .non))) (tOp rIsNo (tVar 15) (tC .non)) (tAndV (tOp rNotNo (tVar 15) (tC .non)) (tAndV (tCB (rIsi K) (tCons (tVar 19) (tCons (tC (.ty "tuple")) tNil))) (tAndV (tOp rEq (tCB (fun xs H Q => ∃ p ys, xs = [.ref p] ∧ (SqL K H p ys ∨ SqT K H p ys) ∧ Q (.int ys.length) H) (tCons (tVar 19) tNil)) (tC (.int 2))) (tOp rEq (tOp (rIxT K) (tVar 19) (tC (.int 0))) (tVar 15))))) σ H Kc := by
  refine ⟨x, h19, rfl, _, rfl, ?_⟩
  cases y with
  | non =>
    have hx : x = .non := hx
    subst hx
    refine iteT ⟨_, h15, rfl, ?_⟩
    cases L with
    | none => exact k
    | some p => exact k
  | int i =>
    have hx : x = .int i := hx
    subst hx
    refine iteF ⟨_, h15, rfl, _, rfl, ?_⟩
    cases L with
    | none => exact iteF k
    | some p => exact iteT ⟨_, h19, _, _, .type "int", _, false, rfl, ClsV.ty _, .base (.int i), kit_ty (by decide +kernel), false, rfl, iteF k⟩
  | lst =>
    obtain ⟨a, xs, rfl, ha⟩ := hx
    refine iteF ⟨_, h15, rfl, _, rfl, ?_⟩
    cases L with
    | none => exact iteF k
    | some p => exact iteT ⟨_, h19, _, _, .type "list", _, false, rfl, ClsV.ty _, .base (.lst ha), kit_ty (by decide +kernel), false, rfl, iteF k⟩
  | pair b z =>
    obtain ⟨a, u, rfl, ha, hz⟩ := hx
    refine iteF ⟨_, h15, rfl, _, rfl, ?_⟩
    cases L with
    | none => exact iteF k
    | some p =>
      refine iteT ⟨_, h19, _, _, .type "tuple", _, true, rfl, ClsV.ty _, .base (.tup ha), kit_ty (by decide +kernel), true, rfl, iteT ?_⟩
      refine ⟨_, h19, a, _, rfl, .inr (SqT.of ha), rfl, true, rfl, iteT ?_⟩
      refine ⟨_, h19, a, _, 0, oiV b, rfl, rfl, SqT.of ha, atI_nat (j := 0) rfl, _, h15, ?_, k⟩
      cases b <;> rfl
/-- the end of a turn -/
theorem tail_ok {P1 P2 : Addr} {D : Ends} {n : Nat} {v1 v2 v3 : V} {c d : Ch} {r : Rw} {b : Bool}
    (h10 : σ[10]? = some (some v1)) (h11 : σ[11]? = some (some v2)) (h12 : σ[12]? = some (some v3)) (h19 : σ[19]? = some (some x)) (h20 : σ[20]? = some (some (.bl b)))
    (hcv : ChV H v1 c) (hrv : RwV H v3 r) (hdv : ChV H v2 d) (hx : ValV H x y) (oc : ChOk n c) (od : ChOk n d) (hok : ∀ s ∈ r, stepOk n s = true) (hlen : r.length ≤ 3) (hTa : GxR.TabG H P1) (hTb : GxR.TabG H P2)
    (hv : valOk (lookM (cheap ltP (stepsOf n) c r) d) y) (eb : showsB n c d r (lookM (cheap ltP (stepsOf n) c r) d) y = b) (k : ∀ H', Ex H H' → D.nx σ H') :
    tIfS (tNot (tB (tCall spAlike [] E0 (tCons (tCall (spShows P1 P2) [] E0 (tCons (tVar 10) (tCons (tVar 12) (tCons (tVar 11) (tCons (tVar 19) tNil))))) (tCons (tVar 20) tNil))))) (tRet (tC (.bl false))) tNext D σ H := by
  refine ⟨v1, h10, v3, h12, v2, h11, x, h19, n, v1, v3, v2, x, c, d, r, y, rfl, hcv, hrv, hdv, hx, oc, od, hok, hlen, hTa, hTb, hv, fun H2 e2 => ?_⟩
  refine ⟨_, h20, _, b, rfl, fun H3 e3 => ⟨_, rfl, ?_⟩⟩
  rw [eb]
  cases b with
  | true => exact iteF (k H3 (e2.trans e3))
  | false => exact iteF (k H3 (e2.trans e3))
end
section
variable {n m : Nat} {c d : Ch} {r : Rw} {G : List Rw} {L : Option Part}
theorem shows_f {y : Val} (h : due1B L y = false) : showsB n c d r L y = false := by
  cases L with
  | none => cases y <;> first | rfl | exact nomatch h
  | some p =>
    cases y with
    | pair b z =>
      cases b with
      | none => rfl
      | some i =>
        have h : decide (V.int i = V.int p.1) = false := h
        have h2 : ¬ i = p.1 := fun z => of_decide_eq_false h (by rw [z])
        show ((decide (p.1 ≤ i) && decide (i ≤ p.1)) && _) = false
        have : (decide (p.1 ≤ i) && decide (i ≤ p.1)) = false := by
          rw [Bool.eq_false_iff]
          intro z
          rw [Bool.and_eq_true, decide_eq_true_eq, decide_eq_true_eq] at z
          omega
        rw [this]; rfl
    | _ => rfl
theorem shows_l {p : Part} : showsB n c d r (some p) (.pair (some p.1) none) = false := by
  show ((decide (p.1 ≤ p.1) && decide (p.1 ≤ p.1)) && (false && _)) = false
  simp
theorem shows_r {p : Part} {z : Rw} (hrl : r.length = m) (B : BestOk n m c d r G L) : showsB n c d r (some p) (.pair (some p.1) (some z)) = (decide (z ∈ G) && decide ((diff z r : Int) = p.1)) := by
  show ((decide (p.1 ≤ p.1) && decide (p.1 ≤ p.1)) && (z.all (stepOk n) && (decide (z.length = r.length) && decide (doneC c z = d) && decide ((diff r z : Int) = p.1)))) = _
  rw [Bool.eq_iff_iff]
  simp only [Bool.and_eq_true, decide_eq_true_eq, List.all_eq_true, B.mem, hrl, diff_comm r z]
  constructor
  · rintro ⟨_, h1, ⟨h2, h3⟩, h4⟩; exact ⟨⟨⟨h2, h1⟩, h3⟩, h4⟩
  · rintro ⟨⟨⟨h2, h1⟩, h3⟩, h4⟩; exact ⟨⟨Int.le_refl _, Int.le_refl _⟩, h1, ⟨h2, h3⟩, h4⟩
end
def VO (L : Option Part) (H : Hp) (v : V) (y : Val) : Prop := ValV H v y ∧ valOk L y
theorem VO.ex {L : Option Part} {H H' : Hp} {v : V} {y : Val} (e : Ex H H') (h : VO L H v y) : VO L H' v y := ⟨h.1.ex e, h.2⟩
def valF : Option Part → Val
  | none => .non
  | some p => .pair (some p.1) (some p.2)
theorem VO.pair {L : Option Part} {H : Hp} {a : Addr} {u : V} {z : Option Rw} (h : H a = some (.tup [oiV (L.map (·.1)), u])) (h2 : WV H u z) (hl : lenOk z) : VO L H (.ref a) (.pair (L.map (·.1)) z) := by
  refine ⟨⟨a, u, rfl, h, h2⟩, hl, fun hn => ?_⟩
  cases L with
  | none => exact absurd rfl hn
  | some p => exact fun z => nomatch z
theorem VO.nine {L : Option Part} {H : Hp} {a : Addr} {u : V} {z : Option Rw} (h : H a = some (.tup [.int 9, u])) (h2 : WV H u z) (hl : lenOk z) : VO L H (.ref a) (.pair (some 9) z) :=
  ⟨⟨a, u, rfl, h, h2⟩, hl, fun _ z => nomatch z⟩
theorem VO.found {L : Option Part} {H : Hp} {v : V} (h : PtO H v L) (hl : ∀ p, L = some p → p.2.length ≤ 40) : VO L H v (valF L) := by
  cases L with
  | none => exact ⟨h, trivial⟩
  | some p =>
    obtain ⟨a, u, h1, h2, h3⟩ := h
    exact ⟨⟨a, u, h1, h2, h3⟩, hl p rfl, fun _ z => nomatch z⟩
theorem any_rw (G : List Rw) (q : Rw) : ((G.map rwD).any fun z => PyData.eqv z (rwD q)) = decide (q ∈ G) := by
  rw [Bool.eq_iff_iff, decide_eq_true_eq, List.any_eq_true]
  constructor
  · rintro ⟨z, hz, e⟩
    obtain ⟨y, hy, rfl⟩ := List.mem_map.mp hz
    rw [rwEqv, decide_eq_true_eq] at e
    rw [← e]; exact hy
  · intro h
    exact ⟨rwD q, List.mem_map.mpr ⟨q, h, rfl⟩, by rw [rwEqv]; exact decide_eq_true rfl⟩
theorem first_ix : ∀ {G : List Rw} {q : Rw}, q ∈ G → ∃ j : Nat, G[j]? = some q ∧ ∀ i, i < j → ∀ z, G[i]? = some z → z ≠ q
  | [], _, h => nomatch h
  | a :: G, q, h => by
    by_cases e : a = q
    · exact ⟨0, by rw [e]; rfl, fun i hi => absurd hi (Nat.not_lt_zero _)⟩
    · have h2 : q ∈ G := by
        cases h with
        | head => exact absurd rfl e
        | tail _ h => exact h
      obtain ⟨j, h3, h4⟩ := first_ix h2
      refine ⟨j + 1, by simpa using h3, fun i hi z hz => ?_⟩
      cases i with
      | zero =>
        have : z = a := by simpa using hz.symm
        rw [this]; exact e
      | succ i => exact h4 i (by omega) z (by simpa using hz)
theorem VO.exP {L : Option Part} {H H' : Hp} (e : Ex H H') {vs : List V} {ys : List Val} (h : Paired (VO L H) vs ys) : Paired (VO L H') vs ys := Paired.mapP h fun _ _ z => z.ex e
def PrV (b : Option Int) (H : Hp) (v : V) (z : Rw) : Prop := z.length ≤ 40 ∧ ∃ a u, v = .ref a ∧ H a = some (.tup [oiV b, u]) ∧ RwV H u z
theorem PrV.te {b : Option Int} {H H' : Hp} (e : TE_ H H') {v : V} {z : Rw} (h : PrV b H v z) : PrV b H' v z := by
  obtain ⟨h0, a, u, h1, h2, h3⟩ := h
  exact ⟨h0, a, u, h1, e _ _ h2, h3.te e⟩
theorem Paired.mapR {α β γ : Type} {R : α → β → Prop} {S : α → γ → Prop} (f : β → γ) (g : ∀ x y, R x y → S x (f y)) : ∀ {xs : List α} {ys : List β}, Paired R xs ys → Paired S xs (ys.map f)
  | _, _, .nil => .nil
  | _, _, .cons r t => .cons (g _ _ r) (Paired.mapR f g t)
theorem VO.ofPr {L : Option Part} {H : Hp} {v : V} {z : Rw} (h : PrV (L.map (·.1)) H v z) : VO L H v (.pair (L.map (·.1)) (some z)) := by
  obtain ⟨h0, a, u, rfl, h2, h3⟩ := h
  exact VO.pair h2 h3 h0
end G
set_option Elab.async false
set_option linter.all false
set_option maxRecDepth 100000
set_option maxHeartbeats 4000000
namespace G
open PySem PySem.Spec PyProof.Rows L2
theorem scLaw : FnScope ["_law_script", "_law_row_here", "_law_size", "_law_many", "_law_steps_here", "_law_some", "_law_rows", "_law_turn", "_law_more", "_law_one", "_law_start", "_law_goal", "_law_base", "_law_good", "_law_changes", "_law_best", "_law_found", "_law_word", "_law_values", "_law_value", "_law_due", "_law_step_here", "_law_k"] ["_law_script"] (defScope sLaw) := ⟨rfl, rfl, rfl, by decide +kernel, rfl, by decide +kernel, by decide +kernel⟩
def scopeLC : Expr → Scope
  | .ListComp _ _ sc _ => sc
  | _ => { kind := .function, names := [], isGenerator := false, isCoroutine := false }
def asgVal : Stmt → Expr
  | .Assign _ v _ => v
  | _ => .Constant .none 0 ⟨0, 0, 0, 0⟩
abbrev lawOneScope : Scope := scopeLC (asgVal ((defBody sLaw).getD 6 (.Pass ⟨0, 0, 0, 0⟩)))
section
variable {P : Program} {w : World} {K : PySem.W.Frag} {mg : Str → Option Value} {base : Heap} (T : Tx K mg)
def spLaw (K : PySem.W.Frag) (P1 P2 : Addr) : Sp := fun vs H Q _ => ∃ (p : Addr) (ns : List Int), vs = [.ref p] ∧ SqL K H p (ns.map V.int) ∧ GxR.TabG H P1 ∧ GxR.TabG H P2 ∧ ∀ H', Q (.bl true) H'
theorem ok_law (TB : GxR.TabB base mg T.c1 T.P1) (TB2 : GxR.TabB base mg T.c2 T.P2) : FnOk P w K mg base CX0 6 T.fLaw T.dLaw ["_law_script"] (spLaw K T.P1 T.P2) := by
  have GTaken := ok_taken (P := P) (w := w) (base := base) T
  have GPick := ok_pick (P := P) (w := w) (base := base) T
  have GAlike := ok_alike (P := P) (w := w) (base := base) T
  have GLDone := ok_lDone (P := P) (w := w) (base := base) T
  have GLSteps := ok_lSteps (P := P) (w := w) (base := base) T
  have GLCharts := ok_lCharts (P := P) (w := w) (base := base) T
  have GChanged := ok_changed (P := P) (w := w) (base := base) T TB
  have GShows := ok_shows (P := P) (w := w) (base := base) T TB TB2
  refine T.FLaw.ok scLaw (fun vs H Q E h => ?_) (fun cdv A outer s H vs Q E hr h => ?_)
  · obtain ⟨_, _, rfl, _⟩ := h; rfl
  · obtain ⟨p, ns, rfl, hp, hT1, hT2, q⟩ := h
    refine ⟨_, (pss_cons (ps_set (i := 1) scLaw.nd rfl (.inl rfl) (pe_lst (pa_cons (pv 0) (pa_cons pe_int (pa_cons pe_int (pa_cons pe_int pa_nil))))))
      (pss_cons (ps_asg (pe_tup (pa_cons (pe_op op_add pe_int (pe_call GTaken (hr.mono (by decide)) (by rfl) T.gTaken T.FTaken.kp T.bTaken .nil pass0 (pa_cons (pv 1) (pa_cons pe_int pa_nil)))) (pa_cons (pe_call GTaken (hr.mono (by decide)) (by rfl) T.gTaken T.FTaken.kp T.bTaken .nil pass0 (pa_cons (pv 1) (pa_cons pe_int pa_nil))) pa_nil))) (pg_tup rfl (pgs_cons (pg_name (i := 2) scLaw.nd rfl (.inl rfl)) (pgs_cons (pg_name (i := 3) scLaw.nd rfl (.inr rfl)) pgs_nil))))
      (pss_cons (ps_par3 (i := 4) (j := 5) (l := 6) rfl scLaw.nd rfl rfl rfl (by decide) (by decide) (by decide) rfl rfl rfl (pa_cons (pe_call GLSteps (hr.mono (by decide)) (by rfl) T.gLSteps T.FLSteps.kp T.bLSteps .nil pass0 (pa_cons (pv 2) pa_nil)) (pa_cons (pe_call GLCharts (hr.mono (by decide)) (by rfl) T.gLCharts T.FLCharts.kp T.bLCharts .nil pass0 (pa_cons (pv 2) pa_nil)) (pa_cons (pe_lst (pa_cons (pe_tup pa_nil) pa_nil)) pa_nil))) (by rfl))
      (pss_cons (ps_for PassesOwn.never rfl (pi_range1 (by rfl) T.m_range (pa_cons (pv 3) pa_nil)) (pg_name (i := 7) scLaw.nd rfl (.inl rfl)) (pss_cons (ps_set (i := 8) scLaw.nd rfl (.inl rfl) (pe_lst pa_nil))
      (pss_cons (ps_for PassesOwn.never rfl (pi_list (pv 6)) (pg_name (i := 9) scLaw.nd rfl (.inr rfl)) (pss_one (ps_set (i := 8) scLaw.nd rfl (.inl rfl) (pe_op op_cat (pv 8) (pe_lc (own := [("_law_step_here", 21)]) rfl scLaw.nd (pi_list (pv 4)) (blkOk_by (own := [("_law_step_here", 21)]) (N := ["_law_script", "_law_row_here", "_law_size", "_law_many", "_law_steps_here", "_law_some", "_law_rows", "_law_turn", "_law_more", "_law_one", "_law_start", "_law_goal", "_law_base", "_law_good", "_law_changes", "_law_best", "_law_found", "_law_word", "_law_values", "_law_value", "_law_due", "_law_step_here", "_law_k"]) (sc := (defScope sLaw)) (by decide +kernel)) (fun _ _ _ _ _ => (pg_name (i := 21) scLaw.nd rfl (.inl rfl))) (fun _ _ _ _ _ => pts_nil) (fun _ _ _ _ _ => (pe_op (op_catAK (K := K)) (pv 9) (pe_tup (pa_cons (pv 21) pa_nil)))))))))
      (pss_one (ps_set (i := 6) scLaw.nd rfl (.inl rfl) (pv 8))))))
      (pss_cons (ps_asg (pe_tup (pa_cons (pe_call GPick (hr.mono (by decide)) (by rfl) T.gPick T.FPick.kp T.bPick .nil pass0 (pa_cons (pv 1) (pa_cons (pv 5) pa_nil))) (pa_cons (pe_call GPick (hr.mono (by decide)) (by rfl) T.gPick T.FPick.kp T.bPick .nil pass0 (pa_cons (pv 1) (pa_cons (pv 5) pa_nil))) (pa_cons (pe_call GPick (hr.mono (by decide)) (by rfl) T.gPick T.FPick.kp T.bPick .nil pass0 (pa_cons (pv 1) (pa_cons (pv 6) pa_nil))) pa_nil)))) (pg_tup rfl (pgs_cons (pg_name (i := 10) scLaw.nd rfl (.inr rfl)) (pgs_cons (pg_name (i := 11) scLaw.nd rfl (.inr rfl)) (pgs_cons (pg_name (i := 12) scLaw.nd rfl (.inr rfl)) pgs_nil)))))
      (pss_cons (ps_setLc (i := 13) (own := [("_law_one", 9)]) rfl scLaw.nd rfl rfl (sw_true rfl rfl rfl (by decide +kernel)) (pi_list (pv 6)) (blkOk_by (own := [("_law_one", 9)]) (N := ["_law_script", "_law_row_here", "_law_size", "_law_many", "_law_steps_here", "_law_some", "_law_rows", "_law_turn", "_law_more", "_law_one", "_law_start", "_law_goal", "_law_base", "_law_good", "_law_changes", "_law_best", "_law_found", "_law_word", "_law_values", "_law_value", "_law_due", "_law_step_here", "_law_k"]) (sc := (defScope sLaw)) (by decide +kernel)) (fun _ _ _ _ _ => (pg_name (i := 9) scLaw.nd rfl (.inl rfl))) (fun _ _ _ _ _ => (pts_one (pt_cmpR (op_eqK (K := K) hr.units) (pe_call GLDone (hr.mono (by decide)) (by rfl) T.gLDone T.FLDone.kp T.bLDone .nil pass0 (pa_cons (pv 10) (pa_cons (pv 9) pa_nil))) (pv 11) (nomark _)))) (fun _ _ _ _ _ => (pv 9)))
      (pss_cons (ps_setLc (i := 14) (own := [("_law_one", 9)]) rfl scLaw.nd rfl rfl (sw_true rfl rfl rfl (by decide +kernel)) (pi_list (pv 13)) (blkOk_by (own := [("_law_one", 9)]) (N := ["_law_script", "_law_row_here", "_law_size", "_law_many", "_law_steps_here", "_law_some", "_law_rows", "_law_turn", "_law_more", "_law_one", "_law_start", "_law_goal", "_law_base", "_law_good", "_law_changes", "_law_best", "_law_found", "_law_word", "_law_values", "_law_value", "_law_due", "_law_step_here", "_law_k"]) (sc := (defScope sLaw)) (by decide +kernel)) (fun _ _ _ _ _ => (pg_name (i := 9) scLaw.nd rfl (.inr rfl))) (fun _ _ _ _ _ => pts_nil) (fun _ _ _ _ _ => (pe_callB (call_lenK (K := K)) (by rfl) T.m_len PySem.boot_len (pa_cons (pe_lc (own := [("_law_k", 22)]) rfl scLaw.nd (pi_range1 (by rfl) T.m_range (pa_cons (pv 3) pa_nil)) (blkOk_by (own := [("_law_k", 22)]) (N := ["_law_script", "_law_row_here", "_law_size", "_law_many", "_law_steps_here", "_law_some", "_law_rows", "_law_turn", "_law_more", "_law_one", "_law_start", "_law_goal", "_law_base", "_law_good", "_law_changes", "_law_best", "_law_found", "_law_word", "_law_values", "_law_value", "_law_due", "_law_step_here", "_law_k"]) (sc := (relS lawOneScope (defScope sLaw))) (by decide +kernel)) (fun _ _ _ _ _ => (pg_name (i := 22) scLaw.nd rfl (.inl rfl))) (fun _ _ _ _ _ => (pts_one (pt_cmpR (op_neK (K := K) hr.units) (pe_ix (ix_tupK (K := K)) (pv 9) (pv 22) (fun _ _ => rfl)) (pe_ix (ix_tupK (K := K)) (pv 12) (pv 22) (fun _ _ => rfl)) (nomark _)))) (fun _ _ _ _ _ => (pv 22))) pa_nil))))
      (pss_cons (ps_asg (pe_tup (pa_cons (pe_ifExp (pt_cmpR (op_neD hr.units) (pv 13) (pe_lst pa_nil) (nomark _)) (pe_callB (cr_min rfl) (by rfl) T.m_min (by decide +kernel) (pa_cons (pv 14) pa_nil)) pe_non) (pa_cons (pe_call GChanged (hr.mono (by decide)) (by rfl) T.gChanged T.FChanged.kp T.bChanged .nil pass0 (pa_cons (pv 10) (pa_cons (pv 12) (pa_cons (pv 11) pa_nil)))) pa_nil))) (pg_tup rfl (pgs_cons (pg_name (i := 15) scLaw.nd rfl (.inr rfl)) (pgs_cons (pg_name (i := 16) scLaw.nd rfl (.inl rfl)) pgs_nil))))
      (pss_cons (ps_if (pt_cmpR op_ne (pe_cmpR op_isN (pv 16) pe_non (nomark _)) (pe_cmpR (op_eqD hr.units) (pv 13) (pe_lst pa_nil) (nomark _)) (nomark _)) (pss_one (ps_ret pe_bl)) pss_nil)
      (pss_cons (ps_set (i := 17) scLaw.nd rfl (.inl rfl) (pe_ifExp (pt_cmpR op_notN (pv 16) pe_non (nomark _)) (pe_ix ix_tup (pv 16) pe_int (fun _ _ => rfl)) (pv 12)))
      (pss_cons (ps_set (i := 18) scLaw.nd rfl (.inl rfl) (pe_lst (pa_cons (pv 16) (pa_cons (pe_tup (pa_cons (pv 15) (pa_cons (pe_callTy call_list_of (by rfl) T.m_list (by decide +kernel) (pa_cons (pv 17) pa_nil)) pa_nil))) (pa_cons (pe_lst (pa_cons (pv 15) (pa_cons (pv 17) pa_nil))) (pa_cons (pe_tup (pa_cons (pv 15) (pa_cons (pe_slice sl_tupA (pv 17) (po_some pe_int) po_none) pa_nil))) (pa_cons (pe_tup (pa_cons (pv 15) (pa_cons (pe_revT (pv 17)) pa_nil))) (pa_cons (pe_tup (pa_cons (pv 15) (pa_cons (pe_op op_catA (pv 17) (pe_tup (pa_cons (pe_tup (pa_cons pe_int (pa_cons pe_int pa_nil))) pa_nil))) pa_nil))) (pa_cons (pe_tup (pa_cons pe_int (pa_cons (pv 17) pa_nil))) (pa_cons pe_non (pa_cons pe_int (pa_cons (pe_tup (pa_cons (pv 15) (pa_cons (pv 12) pa_nil))) pa_nil))))))))))))
      (pss_cons (ps_for PassesOwn.never rfl (pi_list (pe_op op_cat (pe_op op_cat (pv 18) (pe_lc (own := [("_law_one", 9)]) rfl scLaw.nd (pi_list (pe_slice sl_list (pv 6) po_none (po_some pe_int))) (blkOk_by (own := [("_law_one", 9)]) (N := ["_law_script", "_law_row_here", "_law_size", "_law_many", "_law_steps_here", "_law_some", "_law_rows", "_law_turn", "_law_more", "_law_one", "_law_start", "_law_goal", "_law_base", "_law_good", "_law_changes", "_law_best", "_law_found", "_law_word", "_law_values", "_law_value", "_law_due", "_law_step_here", "_law_k"]) (sc := (defScope sLaw)) (by decide +kernel)) (fun _ _ _ _ _ => (pg_name (i := 9) scLaw.nd rfl (.inl rfl))) (fun _ _ _ _ _ => pts_nil) (fun _ _ _ _ _ => (pe_tup (pa_cons (pv 15) (pa_cons (pv 9) pa_nil)))))) (pe_lst (pa_cons (pe_tup (pa_cons (pv 15) (pa_cons (pe_op op_repK (pe_tup (pa_cons (pe_tup (pa_cons pe_int (pa_cons (pe_op op_add (pv 2) pe_int) pa_nil))) pa_nil)) (pv 3)) pa_nil))) pa_nil)))) (pg_name (i := 19) scLaw.nd rfl (.inl rfl)) (pss_cons (ps_set (i := 20) scLaw.nd rfl (.inl rfl) (pe_ifExp (pt_cmpR op_isN (pv 19) pe_non (nomark _)) (pe_cmpR op_isN (pv 15) pe_non (nomark _)) (pe_and (pe_cmpR op_notN (pv 15) pe_non (nomark _)) (pe_and (pe_callB call_isi (by rfl) T.m_isinstance (by decide +kernel) (pa_cons (pv 19) (pa_cons (pe_bltn (v := .ty "tuple") (by rfl) T.m_tuple (by decide +kernel) rfl) pa_nil))) (pe_and (pe_cmpR op_eq (pe_callB call_len_seq (by rfl) T.m_len PySem.boot_len (pa_cons (pv 19) pa_nil)) pe_int (nomark _)) (pe_one (pe_cmpR op_eq (pe_ix ix_tup (pv 19) pe_int (fun _ _ => rfl)) (pv 15) (nomark _))))))))
      (pss_cons (ps_if (PW.pt (pw_and (pt_val (pv 20)) (pw_and1 (pt_cmpR op_notN (pv 19) pe_non (nomark _))))) (pss_one (ps_set (i := 20) scLaw.nd rfl (.inl rfl) (pe_and (pe_callB call_isi (by rfl) T.m_isinstance (by decide +kernel) (pa_cons (pe_ix ix_tup (pv 19) pe_int (fun _ _ => rfl)) (pa_cons (pe_bltn (v := .ty "tuple") (by rfl) T.m_tuple (by decide +kernel) rfl) pa_nil))) (pe_and (pe_cmpR (op_inD (u65 hr)) (pe_ix ix_tup (pv 19) pe_int (fun _ _ => rfl)) (pv 13) (by rfl)) (pe_one (pe_cmpR op_eq (pe_ix ix_list (pv 14) (pe_bm PySem.F.plainAttrs_list PySem.F.slot_list_index PySem.F.type_list_index (mt_indexD (u65 hr)) (pv 13) (pa_cons (pe_ix ix_tup (pv 19) pe_int (fun _ _ => rfl)) pa_nil)) (fun _ _ => rfl)) (pv 15) (nomark _))))))) pss_nil)
      (pss_one (ps_if (pt_not (pt_val (pe_call GAlike (hr.mono (by decide)) (by rfl) T.gAlike T.FAlike.kp T.bAlike .nil pass0 (pa_cons (pe_call GShows (hr.mono (by decide)) (by rfl) T.gShows T.FShows.kp T.bShows .nil pass0 (pa_cons (pv 10) (pa_cons (pv 12) (pa_cons (pv 11) (pa_cons (pv 19) pa_nil))))) (pa_cons (pv 20) pa_nil))))) (pss_one (ps_ret pe_bl)) pss_nil)))))
      (pss_one (ps_ret pe_bl)))))))))))))), ?_⟩
    refine ⟨_, rfl, by show 4 ≤ sizeLine; decide, fun l nl => ?_⟩
    have hR1 : RowH (upd H l (.lst [.ref p, .int 0, .int 13722, .int 0])) l p := ⟨0, 13722, 0, upd_same, by decide, by decide, by decide⟩
    have hp1 : SqL K (upd H l (.lst [.ref p, .int 0, .int 13722, .int 0])) p (ns.map V.int) := (Ex.new nl).seqL hp
    have hTa1 := (Ex.new (o := .lst [.ref p, .int 0, .int 13722, .int 0]) nl).tab _ hT1
    have hTb1 := (Ex.new (o := .lst [.ref p, .int 0, .int 13722, .int 0]) nl).tab _ hT2
    generalize upd H l (.lst [.ref p, .int 0, .int 13722, .int 0]) = H1 at hR1 hp1 hTa1 hTb1 ⊢
    clear nl hp hT1 hT2
    -- size, many
    refine ⟨_, rfl, l, p, 3, ns, rfl, by decide, by decide, hR1, hp1, fun H2 k1 m2 hR2 hp2 a1 b1 => ?_⟩
    refine ⟨1, k1, rfl, rfl, _, rfl, l, p, 4, ns, rfl, by decide, by decide, hR2, hp2, fun H3 k2 m3 hR3 hp3 a2 b2 => ?_⟩
    have hTa3 := hR2.tab m3 (hR1.tab m2 hTa1)
    have hTb3 := hR2.tab m3 (hR1.tab m2 hTb1)
    clear m2 m3 hR1 hp1 hTa1 hTb1 hR2 hp2
    obtain ⟨j, rfl⟩ := Int.eq_ofNat_of_zero_le a1
    obtain ⟨m, rfl⟩ := Int.eq_ofNat_of_zero_le a2
    obtain ⟨n, en⟩ : ∃ n : Nat, n = 1 + j := ⟨_, rfl⟩
    have hn1 : 1 ≤ n := by omega
    have hn3 : n ≤ 3 := by omega
    have hm3 : m ≤ 3 := by omega
    clear a1 b1 a2 b2
    refine ⟨by show 2 ≤ sizeLine; decide, fun t nt => ⟨t, _, rfl, SqT.of upd_same, rfl, _, _, rfl, _, _, rfl, rfl, ?_⟩⟩
    have e34 : Ex H3 (upd H3 t (.tup [.int (1 + (j : Int)), .int (m : Int)])) := Ex.new nt
    replace hR3 := hR3.ex e34
    replace hp3 := e34.seqL hp3
    replace hTa3 := e34.tab _ hTa3
    replace hTb3 := e34.tab _ hTb3
    clear e34 nt
    generalize upd H3 t (.tup [.int (1 + (j : Int)), .int (m : Int)]) = H4 at hR3 hp3 hTa3 hTb3 ⊢
    -- steps, charts, rows
    refine ⟨_, rfl, n, by rw [en]; rfl, by omega, fun H5 ps e5 n5 hS => ?_⟩
    refine ⟨_, rfl, n, by rw [en]; rfl, hn1, hn3, fun H6 pc e6 n6 hC => ?_⟩
    refine ⟨Nat.zero_le _, fun t0 nt0 => ⟨by show 1 ≤ sizeLine; decide, fun ro nro => ?_⟩⟩
    refine ⟨_, _, _, rfl, ?_⟩
    have hps : ps ≠ l := hR3.ne n5
    have hpc : pc ≠ l := (hR3.ex e5).ne n6
    replace hS : Ls StV H6 ps (stepsOf n) := hS.ex teS e6
    have hR6 : RowH H6 l p := (hR3.ex e5).ex e6
    have hp6 := e6.seqL (e5.seqL hp3)
    have hTa6 := e6.tab _ (e5.tab _ hTa3)
    have hTb6 := e6.tab _ (e5.tab _ hTb3)
    clear hR3 hp3 hTa3 hTb3 e5 n5 n6 e6
    obtain ⟨vsS, hvS, hpS⟩ := hS
    have hSl := hpS.length
    have hS9 := steps_le9 hn3
    refine ⟨_, rfl, (m : Int), rfl, by omega, by omega, ?_⟩
    have hE0 : Ex H6 (upd (upd H6 t0 (.tup [])) ro (.lst [.ref t0])) := (Ex.new nt0).trans (Ex.new nro)
    refine for_range (lo := 0) (n := ((m : Int)).toNat) (fun i σ H' => ∃ ro y7 y8 y9 y21 y22, σ = [some (.ref p), some (.ref l), some (.int n), some (.int m), some (.ref ps), some (.ref pc), some (.ref ro), y7, y8, y9, none, none, none, none, none, none, none, none, none, none, none, y21, y22] ∧ Ex H6 H' ∧ H6 ro = none ∧ Ls RwV H' ro (rowsOf (stepsOf n) i))
      ⟨ro, none, none, none, none, none, by rw [en]; rfl, hE0, (Ex.new nt0).free _ nro, [.ref t0], upd_same, .cons ⟨t0, [], rfl, by rw [upd_ne (ne_of_none (upd_same : (upd H6 t0 (.tup [])) t0 = some (.tup [])) nro)]; exact upd_same, .nil⟩ .nil⟩ ?_ ?_
    · clear nt0 nro hE0
      rintro i σ H' hi ⟨ro, y7, y8, y9, y21, y22, rfl, hE, nro, vs, ho, hvs⟩
      refine ⟨Nat.zero_le _, fun mo nm => ?_⟩
      have ho1 : (upd H' mo (.lst [])) ro = some (.lst vs) := (Ex.new nm).lst ho
      have hil : i + 1 ≤ 3 := by omega
      have hvl : vs.length = (rowsOf (stepsOf n) i).length := hvs.length
      have tot := rows_count hn3 hil
      have tot2 : (rowsOf (stepsOf n) (i + 1)).length = (rowsOf (stepsOf n) i).length * (stepsOf n).length := flat_len _ (fun _ => List.length_map _) _
      refine ⟨.ref ro, rfl, ro, rfl, ⟨vs, SqL.of ho1⟩, ?_⟩
      refine for_list (K := K) (a := ro) (xs := vs) (fun k σ H2 => ∃ mo y9 y21 y22, σ = [some (.ref p), some (.ref l), some (.int n), some (.int m), some (.ref ps), some (.ref pc), some (.ref ro), some (.int (0 + (i : Int))), some (.ref mo), y9, none, none, none, none, none, none, none, none, none, none, none, y21, y22] ∧ Ex H' H2 ∧ H6 mo = none ∧ Ls RwV H2 mo (((rowsOf (stepsOf n) i).take k).flatMap fun r => (stepsOf n).map fun s => r ++ [s]))
        ⟨mo, y9, y21, y22, rfl, Ex.new nm, hE.free _ nm, [], upd_same, .nil⟩ (fun k σ H2 _ h => let ⟨_, _, _, _, _, hE2, _⟩ := h; SqL.of (hE2.lst ho)) ?_ ?_
      · rintro k x σ H2 hx ⟨mo, y9, y21, y22, rfl, hE2, nmo, ws, hm, hws⟩
        obtain ⟨r, hc1, ⟨ca, xs, rfl, hca, hxs⟩⟩ := Paired.get? hvs hx
        have hk : k < (rowsOf (stepsOf n) i).length := (List.getElem?_eq_some_iff.mp hc1).1
        have hwl : ws.length ≤ 729 := by
          rw [hws.length, flat_len _ (fun _ => List.length_map _), List.length_take]
          have : min k (rowsOf (stepsOf n) i).length = k := by omega
          rw [this]
          have h2 : k * (stepsOf n).length ≤ (rowsOf (stepsOf n) i).length * (stepsOf n).length := Nat.mul_le_mul_right _ (Nat.le_of_lt hk)
          omega
        have hrl : r.length = i := (mem_rowsOf.mp (List.mem_of_getElem? hc1)).1
        have hxl : xs.length = i := by rw [hxs.length, hrl]
        refine ⟨.ref mo, rfl, _, rfl, ps, rfl, ⟨vsS, SqL.of ((hE.trans hE2).lst hvS)⟩, fun D nD => ?_⟩
        refine lc_list (K := K) (a := ps) (xs := vsS) (fun j H3 => Ex H2 H3 ∧ ∃ us, H3 D = some (.lst us) ∧ us.length = j ∧ Paired (RwV H3) us (((stepsOf n).take j).map fun s => r ++ [s])) ⟨Ex.new nD, [], upd_same, rfl, .nil⟩ (fun j H3 _ h => SqL.of (h.1.lst ((hE.trans hE2).lst hvS))) ?_ ?_
        · rintro j x H3 hx ⟨hE3, us, hD, hul, hus⟩
          obtain ⟨st, hs1, hs2⟩ := Paired.get? hpS hx
          have hj : j < vsS.length := (List.getElem?_eq_some_iff.mp hx).1
          have hca3 : H3 ca = some (.tup xs) := hE3.tup (hE2.tup hca)
          refine ⟨rfl, iteT (B := True) ?_⟩
          refine ⟨_, rfl, _, rfl, by show 1 ≤ sizeLine; decide, fun pp np => ?_⟩
          have e31 : Ex H3 (upd H3 pp (.tup [x])) := Ex.new np
          have hD1 : (upd H3 pp (.tup [x])) D = some (.lst us) := e31.lst hD
          have hxs3 : Paired (StV H3) xs r := Paired.mapP hxs fun _ _ z => z.te (hE2.trans hE3).te
          have hst3 : StV H3 x st := hs2.te ((hE.trans hE2).trans hE3).te
          have fin : ∀ (q1 : Addr) (H4 : Hp), Ex (upd H3 pp (.tup [x])) H4 → H4 q1 = some (.tup (xs ++ [x])) → ∃ acc, H4 D = some (.lst acc) ∧ acc.length < sizeLine ∧ Ex H2 (upd H4 D (.lst (acc ++ [.ref q1]))) ∧ ∃ us, (upd H4 D (.lst (acc ++ [.ref q1]))) D = some (.lst us) ∧ us.length = j + 1 ∧ Paired (RwV (upd H4 D (.lst (acc ++ [.ref q1])))) us (((stepsOf n).take (j + 1)).map fun s => r ++ [s]) := by
            intro q1 H4 e4 hq1
            have hD4 : H4 D = some (.lst us) := e4.lst hD1
            have t4 := TE_.lst (o := .lst (us ++ [.ref q1])) hD4
            have t34 := (e31.te.trans e4.te).trans t4
            refine ⟨us, hD4, small1000 (by omega), ((hE3.trans e31).trans e4).set nD, _, upd_same, by rw [List.length_append, hul]; rfl, ?_⟩
            rw [List.take_add_one, hs1, List.map_append]
            exact Paired.app (Paired.mapP hus fun _ _ z => z.te t34) (.cons ⟨q1, _, rfl, t4 _ _ hq1, Paired.app (Paired.mapP hxs3 fun _ _ z => z.te t34) (.cons (hst3.te t34) .nil)⟩ .nil)
          refine ⟨ca, pp, _, _, rfl, rfl, SqT.of (e31.tup hca3), SqT.of upd_same, ?_, fun hz => ?_, fun _ hz => ?_, fun _ _ p2 np2 => ?_⟩
          · rw [hxl]
            exact Nat.le_of_lt (small1000 (by show i + 1 ≤ 1000; omega))
          · refine fin pp _ (Ex.refl _) ?_
            rw [upd_same, hz]; rfl
          · exact nomatch hz
          · refine fin p2 _ (Ex.new np2) ?_
            rw [upd_same]
        · rintro H3 ⟨hE3, us, hD, hul, hus⟩
          rw [List.take_of_length_le (by omega)] at hus
          refine ⟨mo, D, ws, us, rfl, rfl, hE3.lst hm, hD, ?_, fun pp np => ?_⟩
          · exact Nat.le_of_lt (small1000 (by omega))
          · have t1 : TE_ H3 (upd H3 pp (.lst (ws ++ us))) := TE_.new np
            refine ⟨pp, _, _, _, rfl, (hE2.trans hE3).trans (Ex.new np), ((hE.trans hE2).trans hE3).free _ np, _, upd_same, ?_⟩
            rw [take_flat _ hc1]
            exact Paired.app (Paired.mapP hws fun _ _ z => z.te (hE3.te.trans t1)) (Paired.mapP hus fun _ _ z => z.te t1)
      · rintro σ H2 ⟨mo, y9, y21, y22, rfl, hE2, nmo, ws, hm, hws⟩
        have et : (rowsOf (stepsOf n) i).take vs.length = rowsOf (stepsOf n) i := List.take_of_length_le (by omega)
        rw [et] at hws
        exact ⟨.ref mo, rfl, mo, _, _, _, _, _, rfl, hE.trans hE2, nmo, ws, hm, hws⟩
    clear nt0 nro hE0
    rintro σ H7 ⟨ro, y7, y8, y9, y21, y22, rfl, hE7, nro, hRw⟩
    have em : ((m : Int)).toNat = m := by omega
    rw [em] at hRw
    clear em
    -- start, goal, base
    have hro : ro ≠ l := hR6.ne nro
    have hR7 := hR6.ex hE7
    have hp7 := hE7.seqL hp6
    have hTa7 := hE7.tab _ hTa6
    have hTb7 := hE7.tab _ hTb6
    obtain ⟨vC, hvC, hpC⟩ := hC.ex teC hE7
    obtain ⟨vR, hvR, hpR⟩ := hRw
    clear hC hR6 hp6 hTa6 hTb6 nro hE7 hps hSl hS9 hvS hpS
    have hCl : vC.length < 100000 := by rw [hpC.length]; exact Nat.lt_of_le_of_lt (chartsOf_len hn3) (by decide)
    have hRl : vR.length ≤ 729 := by rw [hpR.length]; exact rows_count hn3 hm3
    refine ⟨_, rfl, _, rfl, l, p, pc, ns, vC, rfl, hpc, Ls.ne hpC (chartsOf_ne hn1 hn3), hCl, hvC, hR7, hp7, fun H8 v1 m8 hR8 hp8 hv1 => ?_⟩
    refine ⟨_, rfl, _, rfl, l, p, pc, ns, vC, rfl, hpc, Ls.ne hpC (chartsOf_ne hn1 hn3), hCl, by rw [m8 pc hpc]; exact hvC, hR8, hp8, fun H9 v2 m9 hR9 hp9 hv2 => ?_⟩
    refine ⟨_, rfl, _, rfl, l, p, ro, ns, vR, rfl, hro, Ls.ne hpR (rows_ne hn1 hn3), by omega, by rw [m9 ro hro, m8 ro hro]; exact hvR, hR9, hp9, fun H10 v3 m10 hR10 hp10 hv3 => ?_⟩
    refine ⟨by show 3 ≤ sizeLine; decide, fun t nt => ⟨t, _, rfl, SqT.of upd_same, rfl, _, _, rfl, _, _, rfl, _, _, rfl, rfl, ?_⟩⟩
    have eT : Ex H10 (upd H10 t (.tup [v1, v2, v3])) := Ex.new nt
    have hte := (((hR7.te m8).trans (hR8.te m9)).trans (hR9.te m10)).trans eT.te
    obtain ⟨c, hc, hcv⟩ := Paired.mem hpC hv1
    obtain ⟨d, hd, hdv⟩ := Paired.mem hpC hv2
    obtain ⟨r, hr, hrv⟩ := Paired.mem hpR hv3
    replace hcv := hcv.te hte
    replace hdv := hdv.te hte
    replace hrv := hrv.te hte
    have hRw : Ls RwV (upd H10 t (.tup [v1, v2, v3])) ro (rowsOf (stepsOf n) m) := ⟨vR, eT.lst (by rw [m10 ro hro, m9 ro hro, m8 ro hro]; exact hvR), Paired.mapP hpR fun _ _ z => z.te hte⟩
    have hTa := eT.tab _ (hR9.tab m10 (hR8.tab m9 (hR7.tab m8 hTa7)))
    have hTb := eT.tab _ (hR9.tab m10 (hR8.tab m9 (hR7.tab m8 hTb7)))
    have oc := chartsOf_ok hn1 hn3 hc
    have od := chartsOf_ok hn1 hn3 hd
    clear hte hR7 hR8 hR9 hR10 hp7 hp8 hp9 hp10 hTa7 hTb7 hvC hpC hvR hpR hv1 hv2 hv3 hpc hro m8 m9 m10 hCl hRl hc hd eT
    generalize upd H10 t (.tup [v1, v2, v3]) = H11 at hcv hdv hrv hRw hTa hTb ⊢
    have hmem : ∀ {z : Rw}, z ∈ rowsOf (stepsOf n) m ↔ z.length = m ∧ ∀ s ∈ z, stepOk n s = true := by
      intro z
      rw [mem_rowsOf]
      exact ⟨fun h => ⟨h.1, fun s hs => mem_stepsOf.mp (h.2 s hs)⟩, fun h => ⟨h.1, fun s hs => mem_stepsOf.mpr (h.2 s hs)⟩⟩
    obtain ⟨hrl, hok⟩ := hmem.mp hr
    have hsay := says_cheap ltP_le ltP_ge (stepsOf n) c r
    have hRlen := rows_count (i := m) hn3 hm3
    obtain ⟨vR, hvR, hpR⟩ := hRw
    have hvRl := hpR.length
    -- good
    refine ⟨.ref ro, rfl, ro, rfl, ⟨vR, SqL.of hvR⟩, fun gd ngd => ?_⟩
    refine lc_list (K := K) (a := ro) (xs := vR) (fun k H2 => Ex H11 H2 ∧ ∃ us, H2 gd = some (.lst us) ∧ us.length ≤ k ∧ Paired (RwV H2) us (((rowsOf (stepsOf n) m).take k).filter (isGood c d))) ⟨Ex.new ngd, [], upd_same, Nat.le_refl _, .nil⟩ (fun k H2 _ h => SqL.of (h.1.lst hvR)) ?_ ?_
    · rintro k x H2 hx ⟨hE2, us, hD, hul, hus⟩
      obtain ⟨z, hz1, hz2⟩ := Paired.get? hpR hx
      have hk : k < vR.length := (List.getElem?_eq_some_iff.mp hx).1
      obtain ⟨z3, z4⟩ := hmem.mp (List.mem_of_getElem? hz1)
      refine ⟨rfl, _, rfl, _, rfl, v1, x, c, z, rfl, hcv.te hE2.te, hz2.te hE2.te, by rw [oc.len]; omega, by rw [oc.len]; exact z4, fun H3 v' e3 hv' => ⟨_, rfl, chD (doneC c z), chD d, hv'.dp, (hdv.te (hE2.trans e3).te).dp, chSh _, chSh _, _, rfl, ?_⟩⟩
      rw [chEqv]
      have e1 : ((rowsOf (stepsOf n) m).take (k + 1)).filter (isGood c d) = ((rowsOf (stepsOf n) m).take k).filter (isGood c d) ++ [z].filter (isGood c d) := by
        rw [List.take_add_one, hz1, List.filter_append]; rfl
      have hD3 : H3 gd = some (.lst us) := e3.lst hD
      by_cases hb : doneC c z = d
      · rw [decide_eq_true hb]
        have t4 := TE_.lst (o := .lst (us ++ [x])) hD3
        refine iteT ⟨x, rfl, us, hD3, small1000 (by omega), (hE2.trans e3).set ngd, _, upd_same, by rw [List.length_append]; show us.length + 1 ≤ k + 1; omega, ?_⟩
        rw [e1, List.filter_cons_of_pos (show isGood c d z = true from decide_eq_true hb)]
        exact Paired.app (Paired.mapP hus fun _ _ z => z.te (e3.te.trans t4)) (.cons (hz2.te ((hE2.trans e3).te.trans t4)) .nil)
      · rw [decide_eq_false hb]
        refine iteF ⟨hE2.trans e3, us, hD3, by omega, ?_⟩
        rw [e1, List.filter_cons_of_neg (by rw [show isGood c d z = false from decide_eq_false hb]; exact Bool.false_ne_true)]
        simpa using Paired.mapP hus fun _ _ z => z.te e3.te
    rintro H12 ⟨e12, us, hgd, hul, hus⟩
    rw [List.take_of_length_le (by omega)] at hus
    generalize hG : (rowsOf (stepsOf n) m).filter (isGood c d) = G at hus
    have hGm : ∀ {z : Rw}, z ∈ G ↔ (z.length = m ∧ ∀ s ∈ z, stepOk n s = true) ∧ doneC c z = d := by
      intro z
      rw [← hG, List.mem_filter, hmem]
      unfold isGood
      rw [decide_eq_true_eq]
    have hGl := hus.length
    -- changes
    refine ⟨.ref gd, rfl, gd, rfl, ⟨us, SqL.of hgd⟩, fun ch nch => ?_⟩
    refine lc_list (K := K) (a := gd) (xs := us) (fun k H2 => Ex H12 H2 ∧ H2 ch = some (.lst (((G.take k).map fun z => (diff z r : Int)).map V.int))) ⟨Ex.new nch, upd_same⟩ (fun k H2 _ h => SqL.of (h.1.lst hgd)) ?_ ?_
    · rintro k x H2 hx ⟨hE2, hD⟩
      obtain ⟨z, hz1, hz2⟩ := Paired.get? hus hx
      have hk : k < us.length := (List.getElem?_eq_some_iff.mp hx).1
      obtain ⟨⟨z3, z4⟩, _⟩ := hGm.mp (List.mem_of_getElem? hz1)
      obtain ⟨za, zxs, rfl, hza, hzp⟩ := hz2.te hE2.te
      obtain ⟨ra, rxs, erv, hra, hrp⟩ := hrv.te (e12.trans hE2).te
      refine ⟨rfl, iteT (B := True) ?_⟩
      refine ⟨_, rfl, (m : Int), rfl, by omega, by omega, fun D2 nD2 => ?_⟩
      refine lc_range (lo := 0) (n := ((m : Int)).toNat) (fun j H3 => Ex H2 H3 ∧ ∃ acc, H3 D2 = some (.lst acc) ∧ acc.length = diff (z.take j) (r.take j)) ⟨Ex.new nD2, [], upd_same, rfl⟩ ?_ ?_
      · rintro j H3 hj ⟨hE3, acc, hD3, hal⟩
        have ej : (0 : Int) + (j : Int) = (j : Int) := by omega
        have hjm : j < m := by omega
        obtain ⟨x1, hx1, hs1⟩ := Paired.get?' hzp (List.getElem?_eq_getElem (by omega : j < z.length))
        obtain ⟨x2, hx2, hs2⟩ := Paired.get?' hrp (List.getElem?_eq_getElem (by omega : j < r.length))
        have td1 : diff (z.take (j + 1)) (r.take (j + 1)) = diff (z.take j) (r.take j) + (if z[j] = r[j] then 0 else 1) := by
          rw [List.take_add_one, List.take_add_one, List.getElem?_eq_getElem (by omega : j < z.length), List.getElem?_eq_getElem (by omega : j < r.length)]
          exact diff_snoc _ _ _ _ (by rw [List.length_take, List.length_take, z3, hrl])
        refine ⟨rfl, _, rfl, _, rfl, za, zxs, _, x1, rfl, rfl, SqT.of (hE3.tup hza), by rw [ej]; exact atI_nat hx1, _, rfl, _, rfl, ra, rxs, _, x2, erv, rfl, SqT.of (hE3.tup hra), by rw [ej]; exact atI_nat hx2, stD z[j], stD r[j], (hs1.te hE3.te).dp, (hs2.te hE3.te).dp, stSh _, stSh _, _, rfl, ?_⟩
        rw [stEqv]
        by_cases e : z[j] = r[j]
        · rw [decide_eq_true e]
          refine iteF ⟨hE3, acc, hD3, ?_⟩
          rw [td1, if_pos e]; exact hal
        · rw [decide_eq_false e]
          refine iteT ⟨_, rfl, acc, hD3, ?_, hE3.set nD2, _, upd_same, ?_⟩
          · rw [hal]
            have h1 := diff_le (z.take j) (r.take j)
            rw [List.length_take] at h1
            exact small1000 (by omega)
          · rw [List.length_append, td1, if_neg e, hal]; rfl
      · rintro H3 ⟨hE3, acc, hD3, hal⟩
        rw [List.take_of_length_le (by omega), List.take_of_length_le (by omega)] at hal
        refine ⟨D2, acc, rfl, .inl (SqL.of hD3), _, hE3.lst hD, ?_, (hE2.trans hE3).set nch, ?_⟩
        · rw [List.length_map, List.length_map, List.length_take]
          exact small1000 (by omega)
        · rw [upd_same, List.take_add_one, hz1, List.map_append, List.map_append, hal]
          rfl
    rintro H13 ⟨e13, hch⟩
    rw [List.take_of_length_le (by omega)] at hch
    have B : BestOk n m c d r G (lookM (cheap ltP (stepsOf n) c r) d) := best_ok hrl hG (fun z => hGm) hsay
    have hLL : ∃ L, lookM (cheap ltP (stepsOf n) c r) d = L := ⟨_, rfl⟩
    obtain ⟨L, hL⟩ := hLL
    rw [hL] at B
    have e11 := e12.trans e13
    replace hgd := e13.lst hgd
    replace hus := Paired.mapP hus fun _ _ z => RwV.te e13.te z
    replace hcv := hcv.te e11.te
    replace hdv := hdv.te e11.te
    replace hrv := hrv.te e11.te
    replace hTa := e11.tab _ hTa
    replace hTb := e11.tab _ hTb
    replace hvR := e11.lst hvR
    replace hpR := Paired.mapP hpR fun _ _ z => RwV.te e11.te z
    clear e12 e13 e11 hG hsay hul hr
    -- best, found
    refine ⟨_, rfl, Nat.zero_le _, fun z0 nz0 => ?_⟩
    have e0 : Ex H13 (upd H13 z0 (.lst [])) := Ex.new nz0
    refine ⟨.list (G.map rwD), .list [], Ls.dp (fun v x h => RwV.dp h) ⟨us, e0.lst hgd, Paired.mapP hus fun _ _ z => RwV.te e0.te z⟩, .lst (SqL.of upd_same) .nil, lsSh G, lsSh [], _, rfl, ?_⟩
    rw [lsNil]
    refine min_or (v := oiV (L.map (·.1))) ?main (fun hb => ?h1) (fun hb => ?h2)
    case h1 =>
      have hne : G ≠ [] := fun z => by rw [decide_eq_true z] at hb; exact nomatch hb
      cases L with
      | none => exact absurd (B.none rfl) hne
      | some p =>
        obtain ⟨b1, b2, b3⟩ := B.some p rfl
        refine ⟨ch, G.map fun z => (diff z r : Int), rfl, SqL.of (e0.lst hch), by rw [List.length_map]; exact List.length_pos_iff.mpr hne, fun mn h3 h4 => ?_⟩
        obtain ⟨z, hz, ez⟩ := List.mem_map.mp h3
        have h5 := b3 z hz
        have h6 := h4 p.1 (List.mem_map.mpr ⟨p.2, b1, b2⟩)
        have e : p.1 = mn := by omega
        show V.int p.1 = V.int mn
        rw [e]
    case h2 =>
      have he : G = [] := by
        by_cases e : G = []
        · exact e
        · rw [decide_eq_false e] at hb; exact nomatch hb
      cases L with
      | none => rfl
      | some p => have := (B.some p rfl).1; rw [he] at this; exact nomatch this
    refine ⟨_, rfl, _, rfl, _, rfl, n, v1, v3, v2, c, d, r, rfl, hcv.te e0.te, hrv.te e0.te, hdv.te e0.te, oc, od, hok, by omega, e0.tab _ hTa, fun H15 fv e15 hPt => ?_⟩
    refine ⟨by show 2 ≤ sizeLine; decide, fun t nt => ⟨t, _, rfl, SqT.of upd_same, rfl, _, _, rfl, _, _, rfl, rfl, ?_⟩⟩
    rw [hL] at hPt
    have e16 : Ex H13 (upd H15 t (.tup [oiV (L.map (·.1)), fv])) := (e0.trans e15).trans (Ex.new nt)
    have hPt2 : PtO (upd H15 t (.tup [oiV (L.map (·.1)), fv])) fv L := by
      cases L with
      | none => exact hPt
      | some p => exact PtV.te (TE_.new nt) hPt
    clear hPt
    generalize upd H15 t (.tup [oiV (L.map (·.1)), fv]) = H16 at e16 hPt2 ⊢
    clear e0 nz0 e15 nt
    -- the same said of none
    refine ⟨_, rfl, rfl, _, rfl, Nat.zero_le _, fun z1 nz1 => ?_⟩
    have e17 : Ex H16 (upd H16 z1 (.lst [])) := Ex.new nz1
    refine ⟨.list (G.map rwD), .list [], Ls.dp (fun v x h => RwV.dp h) ⟨us, e17.lst (e16.lst hgd), Paired.mapP hus fun _ _ z => RwV.te (e16.trans e17).te z⟩, .lst (SqL.of upd_same) .nil, lsSh G, lsSh [], rfl, _, rfl, ?_⟩
    rw [lsNil]
    have hfn : decide (fv = .non) = decide (G = []) := by
      cases L with
      | none =>
        have h : fv = .non := hPt2
        rw [decide_eq_true h, decide_eq_true (B.none rfl)]
      | some p =>
        obtain ⟨a, u, h1, _⟩ := hPt2
        have h2 : G ≠ [] := fun z => by have := (B.some p rfl).1; rw [z] at this; exact nomatch this
        rw [decide_eq_false (by rw [h1]; exact fun z => nomatch z), decide_eq_false h2]
    have ed : (!decide (V.bl (decide (fv = .non)) = V.bl (decide (G = [])))) = false := by rw [hfn, decide_eq_true rfl]; rfl
    rw [ed]
    refine iteF ?_
    have e18 := e16.trans e17
    replace hPt2 : PtO (upd H16 z1 (.lst [])) fv L := by
      cases L with
      | none => exact hPt2
      | some p => exact PtV.te e17.te hPt2
    generalize upd H16 z1 (.lst []) = H17 at e18 hPt2 ⊢
    clear ed e17 nz1 e16
    replace hgd := e18.lst hgd
    replace hch := e18.lst hch
    replace hus := Paired.mapP hus fun _ _ z => RwV.te e18.te z
    replace hcv := hcv.te e18.te
    replace hdv := hdv.te e18.te
    replace hrv := hrv.te e18.te
    replace hTa := e18.tab _ hTa
    replace hTb := e18.tab _ hTb
    replace hvR := e18.lst hvR
    replace hpR := Paired.mapP hpR fun _ _ z => RwV.te e18.te z
    clear e18
    -- word
    have hword : ∃ (wv : V) (wd : Rw), RwV H17 wv wd ∧ wd.length = m ∧ (fv ≠ .non → ∃ a x, fv = .ref a ∧ H17 a = some (.tup [x, wv])) ∧ (fv = .non → wv = v3) := by
      cases L with
      | none =>
        have h : fv = .non := hPt2
        exact ⟨v3, r, hrv, hrl, fun z => absurd h z, fun _ => rfl⟩
      | some p =>
        obtain ⟨a, u, h1, h2, h3⟩ := hPt2
        refine ⟨u, p.2, h3, ((B.mem _).mp (B.some p rfl).1).1.1, fun _ => ⟨a, _, h1, h2⟩, fun z => ?_⟩
        rw [h1] at z; exact nomatch z
    obtain ⟨wv, wd, hw, hwl, hw1, hw2⟩ := hword
    refine ⟨_, rfl, rfl, _, rfl, ?_⟩
    refine word_or (v := wv) ?main2 (fun hb => ?w1) (fun hb => ?w2)
    case w1 =>
      obtain ⟨a, x, h1, h2⟩ := hw1 (fun z => by rw [decide_eq_true z] at hb; exact nomatch hb)
      exact ⟨a, x, by rw [h1]; rfl, h2⟩
    case w2 =>
      have h : fv = .non := by
        by_cases e : fv = .non
        · exact e
        · rw [decide_eq_false e] at hb; exact nomatch hb
      rw [hw2 h]; rfl
    -- the values
    have bvw : ∀ z : Rw, z.length ≤ 40 → lenOk (some z) := fun _ h => h
    have V1 : VO L H17 fv (valF L) := VO.found hPt2 fun p e => by
      have := ((B.mem _).mp (B.some p e).1).1.1
      omega
    obtain ⟨wa, wxs, rfl, hwa, hwp⟩ := hw
    have hwxl := hwp.length
    refine ⟨_, rfl, ?_⟩
    -- 2
    refine ⟨_, rfl, _, rfl, wa, wxs, rfl, .inr (SqT.of hwa), fun l2 nl2 => ⟨by show 2 ≤ sizeLine; decide, fun t2 nt2 => ?_⟩⟩
    have E2 : Ex H17 (upd (upd H17 l2 (.lst wxs)) t2 (.tup [oiV (L.map (·.1)), .ref l2])) := (Ex.new nl2).trans (Ex.new nt2)
    have V2 : VO L (upd (upd H17 l2 (.lst wxs)) t2 (.tup [oiV (L.map (·.1)), .ref l2])) (.ref t2) (.pair (L.map (·.1)) none) := VO.pair upd_same ⟨l2, wxs, rfl, (Ex.new nt2).lst upd_same⟩ trivial
    generalize upd (upd H17 l2 (.lst wxs)) t2 (.tup [oiV (L.map (·.1)), .ref l2]) = A2 at E2 V2 ⊢
    -- 3
    refine ⟨_, rfl, _, rfl, by show 2 ≤ sizeLine; decide, fun l3 nl3 => ?_⟩
    have E3 : Ex A2 (upd A2 l3 (.lst [oiV (L.map (·.1)), .ref wa])) := Ex.new nl3
    have V3 : VO L (upd A2 l3 (.lst [oiV (L.map (·.1)), .ref wa])) (.ref l3) .lst := ⟨⟨l3, _, rfl, upd_same⟩, trivial⟩
    generalize upd A2 l3 (.lst [oiV (L.map (·.1)), .ref wa]) = A3 at E3 V3 ⊢
    -- 4
    have hw3 : RwV A3 (.ref wa) wd := ⟨wa, wxs, rfl, (E2.trans E3).tup hwa, Paired.mapP hwp fun _ _ z => z.te (E2.trans E3).te⟩
    refine ⟨_, rfl, _, rfl, 1, rfl, slA_or' (K := K) hw3 fun u4 A4' e4 h4 => ⟨by show 2 ≤ sizeLine; decide, fun t4 nt4 => ?_⟩⟩
    have E4 : Ex A3 (upd A4' t4 (.tup [oiV (L.map (·.1)), u4])) := e4.trans (Ex.new nt4)
    have V4 : VO L (upd A4' t4 (.tup [oiV (L.map (·.1)), u4])) (.ref t4) (.pair (L.map (·.1)) (some (wd.drop 1))) := VO.pair upd_same (h4.te (TE_.new nt4)) (bvw _ (by rw [List.length_drop]; omega))
    generalize upd A4' t4 (.tup [oiV (L.map (·.1)), u4]) = A4 at E4 V4 ⊢
    -- 5
    have hwa4 : A4 wa = some (.tup wxs) := ((E2.trans E3).trans E4).tup hwa
    refine ⟨_, rfl, _, rfl, wa, wxs, rfl, hwa4, fun p5 np5 => ⟨by show 2 ≤ sizeLine; decide, fun t5 nt5 => ?_⟩⟩
    have E5 : Ex A4 (upd (upd A4 p5 (.tup wxs.reverse)) t5 (.tup [oiV (L.map (·.1)), .ref p5])) := (Ex.new np5).trans (Ex.new nt5)
    have V5 : VO L (upd (upd A4 p5 (.tup wxs.reverse)) t5 (.tup [oiV (L.map (·.1)), .ref p5])) (.ref t5) (.pair (L.map (·.1)) (some wd.reverse)) :=
      VO.pair upd_same ⟨p5, wxs.reverse, rfl, (Ex.new nt5).tup upd_same, Paired.rev (Paired.mapP hwp fun _ _ z => z.te (((E2.trans E3).trans E4).trans E5).te)⟩ (bvw _ (by rw [List.length_reverse]; omega))
    generalize upd (upd A4 p5 (.tup wxs.reverse)) t5 (.tup [oiV (L.map (·.1)), .ref p5]) = A5 at E5 V5 ⊢
    -- 6
    have E25 := ((E2.trans E3).trans E4).trans E5
    refine ⟨_, rfl, _, rfl, by show 2 ≤ sizeLine; decide, fun a6 na6 => ⟨by show 1 ≤ sizeLine; decide, fun b6 nb6 => ?_⟩⟩
    have e6 : Ex A5 (upd (upd A5 a6 (.tup [.int 1, .int 0])) b6 (.tup [.ref a6])) := (Ex.new na6).trans (Ex.new nb6)
    have hb6 : RwV (upd (upd A5 a6 (.tup [.int 1, .int 0])) b6 (.tup [.ref a6])) (.ref b6) [(1, 0)] := ⟨b6, _, rfl, upd_same, .cons ⟨a6, rfl, (Ex.new nb6).tup upd_same⟩ .nil⟩
    have hw6 : RwV (upd (upd A5 a6 (.tup [.int 1, .int 0])) b6 (.tup [.ref a6])) (.ref wa) wd := ⟨wa, wxs, rfl, (E25.trans e6).tup hwa, Paired.mapP hwp fun _ _ z => z.te (E25.trans e6).te⟩
    generalize upd (upd A5 a6 (.tup [.int 1, .int 0])) b6 (.tup [.ref a6]) = A6' at e6 hb6 hw6 ⊢
    refine catA_or (by omega) (by decide) hw6 hb6 fun u6 A6'' e6' h6 => ⟨by show 2 ≤ sizeLine; decide, fun t6 nt6 => ?_⟩
    have E6 : Ex A5 (upd A6'' t6 (.tup [oiV (L.map (·.1)), u6])) := (e6.trans e6').trans (Ex.new nt6)
    have V6 : VO L (upd A6'' t6 (.tup [oiV (L.map (·.1)), u6])) (.ref t6) (.pair (L.map (·.1)) (some (wd ++ [(1, 0)]))) := VO.pair upd_same (h6.te (TE_.new nt6)) (bvw _ (by rw [List.length_append]; show wd.length + 1 ≤ 40; omega))
    generalize upd A6'' t6 (.tup [oiV (L.map (·.1)), u6]) = A6 at E6 V6 ⊢
    -- 7
    have E26 := E25.trans E6
    refine ⟨_, rfl, by show 2 ≤ sizeLine; decide, fun t7 nt7 => ?_⟩
    have E7 : Ex A6 (upd A6 t7 (.tup [.int 9, .ref wa])) := Ex.new nt7
    have V7 : VO L (upd A6 t7 (.tup [.int 9, .ref wa])) (.ref t7) (.pair (some 9) (some wd)) := VO.nine upd_same ⟨wa, wxs, rfl, (E26.trans E7).tup hwa, Paired.mapP hwp fun _ _ z => z.te (E26.trans E7).te⟩ (bvw _ (by omega))
    generalize upd A6 t7 (.tup [.int 9, .ref wa]) = A7 at E7 V7 ⊢
    -- 10
    have E27 := E26.trans E7
    refine ⟨_, rfl, _, rfl, by show 2 ≤ sizeLine; decide, fun t10 nt10 => ?_⟩
    have E10 : Ex A7 (upd A7 t10 (.tup [oiV (L.map (·.1)), v3])) := Ex.new nt10
    have V10 : VO L (upd A7 t10 (.tup [oiV (L.map (·.1)), v3])) (.ref t10) (.pair (L.map (·.1)) (some r)) := VO.pair upd_same (hrv.te (E27.trans E10).te) (bvw _ (by omega))
    generalize upd A7 t10 (.tup [oiV (L.map (·.1)), v3]) = A10 at E10 V10 ⊢
    refine ⟨by show 10 ≤ sizeLine; decide, fun lv nlv => ?_⟩
    have Elv : Ex A10 (upd A10 lv (.lst [fv, .ref t2, .ref l3, .ref t4, .ref t5, .ref t6, .ref t7, .non, .int 3, .ref t10])) := Ex.new nlv
    have hlv : Ls (VO L) (upd A10 lv (.lst [fv, .ref t2, .ref l3, .ref t4, .ref t5, .ref t6, .ref t7, .non, .int 3, .ref t10])) lv [valF L, .pair (L.map (·.1)) none, .lst, .pair (L.map (·.1)) (some (wd.drop 1)), .pair (L.map (·.1)) (some wd.reverse), .pair (L.map (·.1)) (some (wd ++ [(1, 0)])), .pair (some 9) (some wd), .non, .int 3, .pair (L.map (·.1)) (some r)] := by
      have f10 := Elv
      have f7 := E10.trans f10
      have f6 := E7.trans f7
      have f5 := E6.trans f6
      have f4 := E5.trans f5
      have f3 := E4.trans f4
      have f2 := E3.trans f3
      have f1 := E2.trans f2
      exact ⟨_, upd_same, .cons (V1.ex f1) (.cons (V2.ex f2) (.cons (V3.ex f3) (.cons (V4.ex f4) (.cons (V5.ex f5) (.cons (V6.ex f6) (.cons (V7.ex f7) (.cons ⟨rfl, trivial⟩ (.cons ⟨rfl, trivial⟩ (.cons (V10.ex f10) .nil)))))))))⟩
    have E18 := (E27.trans E10).trans Elv
    generalize upd A10 lv (.lst [fv, .ref t2, .ref l3, .ref t4, .ref t5, .ref t6, .ref t7, .non, .int 3, .ref t10]) = H18 at E18 hlv ⊢
    clear V1 V2 V3 V4 V5 V6 V7 V10 E2 E3 E4 E5 E6 E7 E10 E25 E26 E27 Elv e4 e6 e6' h4 h6 hw6 hb6 nl2 nt2 nl3 nt4 np5 nt5 na6 nb6 nt6 nt7 nt10 nlv hw1 hw2 hw3 hwa4
    replace hgd := E18.lst hgd
    replace hch := E18.lst hch
    replace hus := Paired.mapP hus fun _ _ z => RwV.te E18.te z
    replace hcv := hcv.te E18.te
    replace hdv := hdv.te E18.te
    replace hrv := hrv.te E18.te
    replace hTa := E18.tab _ hTa
    replace hTb := E18.tab _ hTb
    replace hvR := E18.lst hvR
    replace hpR := Paired.mapP hpR fun _ _ z => RwV.te E18.te z
    clear E18
    generalize hvals : [valF L, .pair (L.map (·.1)) none, .lst, .pair (L.map (·.1)) (some (wd.drop 1)), .pair (L.map (·.1)) (some wd.reverse), .pair (L.map (·.1)) (some (wd ++ [(1, 0)])), .pair (some 9) (some wd), .non, .int 3, .pair (L.map (·.1)) (some r)] = vals at hlv
    -- the list of all values
    obtain ⟨vl0, hlv, hlp⟩ := hlv
    have hvl0 : vl0.length ≤ 10 := by rw [hlp.length, ← hvals]; exact Nat.le_refl 10
    refine ⟨_, rfl, _, rfl, 20, rfl, ro, vR, rfl, SqL.of hvR, fun pl npl => ⟨pl, rfl, ⟨_, SqL.of upd_same⟩, fun D nD => ?_⟩⟩
    have hpl : (upd H18 pl (.lst (cutV vR none (some 20)))) pl = some (.lst (vR.take 20)) := by rw [upd_same, cut20]
    have E19 : Ex H18 (upd H18 pl (.lst (cutV vR none (some 20)))) := Ex.new npl
    have hp20 := Paired.take 20 hpR
    have hl20 : (vR.take 20).length ≤ 20 := by rw [List.length_take]; omega
    generalize upd H18 pl (.lst (cutV vR none (some 20))) = H19 at hpl E19 nD ⊢
    refine lc_list (K := K) (a := pl) (xs := vR.take 20) (fun k H2 => Ex H19 H2 ∧ ∃ ws, H2 D = some (.lst ws) ∧ ws.length = k ∧ Paired (PrV (L.map (·.1)) H2) ws (((rowsOf (stepsOf n) m).take 20).take k)) ⟨Ex.new nD, [], upd_same, rfl, .nil⟩ (fun k H2 _ h => SqL.of (h.1.lst hpl)) ?_ ?_
    · rintro k x H2 hx ⟨hE2, ws, hD, hwl2, hws⟩
      obtain ⟨z, hz1, hz2⟩ := Paired.get? hp20 hx
      have hk : k < (vR.take 20).length := (List.getElem?_eq_some_iff.mp hx).1
      have hzl : z.length = m := (hmem.mp (List.mem_of_mem_take (List.mem_of_getElem? hz1))).1
      refine ⟨rfl, iteT (B := True) ⟨_, rfl, _, rfl, by show 2 ≤ sizeLine; decide, fun tt ntt => ?_⟩⟩
      have e3 : Ex H2 (upd H2 tt (.tup [oiV (L.map (·.1)), x])) := Ex.new ntt
      have hD3 : (upd H2 tt (.tup [oiV (L.map (·.1)), x])) D = some (.lst ws) := e3.lst hD
      have eD : Ex H19 (upd (upd H2 tt (.tup [oiV (L.map (·.1)), x])) D (.lst (ws ++ [.ref tt]))) := (hE2.trans e3).set nD
      refine ⟨ws, hD3, small1000 (by omega), eD, _, upd_same, by rw [List.length_append, hwl2]; rfl, ?_⟩
      have t3 := TE_.lst (o := .lst (ws ++ [.ref tt])) hD3
      rw [List.take_add_one, hz1]
      exact Paired.app (Paired.mapP hws fun _ _ z => PrV.te (e3.te.trans t3) z) (.cons ⟨by omega, tt, x, rfl, t3 _ _ upd_same, hz2.te (E19.te.trans eD.te)⟩ .nil)
    rintro H20 ⟨e20, ws, hD, hwl2, hws⟩
    rw [List.take_of_length_le (by rw [← hp20.length]; exact Nat.le_refl _)] at hws
    have hws2 : Paired (VO L H20) ws (((rowsOf (stepsOf n) m).take 20).map fun z => Val.pair (L.map (·.1)) (some z)) := Paired.mapR _ (fun _ _ h => VO.ofPr h) hws
    generalize ((rowsOf (stepsOf n) m).take 20).map (fun z => Val.pair (L.map (·.1)) (some z)) = valr at hws2
    have E20 := E19.trans e20
    refine ⟨lv, D, vl0, ws, rfl, rfl, E20.lst hlv, hD, Nat.le_of_lt (small1000 (by omega)), fun pc0 npc0 => ?_⟩
    have e21 : Ex H20 (upd H20 pc0 (.lst (vl0 ++ ws))) := Ex.new npc0
    have hpc0 : (upd H20 pc0 (.lst (vl0 ++ ws))) pc0 = some (.lst (vl0 ++ ws)) := upd_same
    have hall : Paired (VO L (upd H20 pc0 (.lst (vl0 ++ ws)))) (vl0 ++ ws) (vals ++ valr) := Paired.app (VO.exP (E20.trans e21) hlp) (VO.exP e21 hws2)
    have E21 := E20.trans e21
    have hal : (vl0 ++ ws).length ≤ 40 := by rw [List.length_append]; omega
    clear hws hws2 hpl hp20 hl20 E19 e20 nD npl hwl2 hD npc0 e21 E20
    generalize upd H20 pc0 (.lst (vl0 ++ ws)) = H21 at hpc0 hall E21 ⊢
    generalize vl0 ++ ws = vl1 at hpc0 hall hal ⊢
    generalize vals ++ valr = val1 at hall ⊢
    -- the last one
    refine ⟨_, rfl, _, rfl, n, 1, rfl, rfl, by show 2 ≤ sizeLine; decide, fun s1 ns1 => ⟨by show 1 ≤ sizeLine; decide, fun s2 ns2 => ⟨_, rfl, ?_⟩⟩⟩
    have e22 : Ex H21 (upd (upd H21 s1 (.tup [.int 1, .int ((n : Int) + 1)])) s2 (.tup [.ref s1])) := (Ex.new ns1).trans (Ex.new ns2)
    have h22 : RwV (upd (upd H21 s1 (.tup [.int 1, .int ((n : Int) + 1)])) s2 (.tup [.ref s1])) (.ref s2) [(1, (n : Int) + 1)] := ⟨s2, _, rfl, upd_same, .cons ⟨s1, rfl, (Ex.new ns2).tup upd_same⟩ .nil⟩
    generalize upd (upd H21 s1 (.tup [.int 1, .int ((n : Int) + 1)])) s2 (.tup [.ref s1]) = H22 at e22 h22 ⊢
    refine rep_or hm3 h22 fun u3 H23 e23 h23 => ⟨by show 2 ≤ sizeLine; decide, fun s3 ns3 => ⟨by show 1 ≤ sizeLine; decide, fun s4 ns4 => ?_⟩⟩
    have e24 : Ex H23 (upd H23 s3 (.tup [oiV (L.map (·.1)), u3])) := Ex.new ns3
    have V24 : VO L (upd H23 s3 (.tup [oiV (L.map (·.1)), u3])) (.ref s3) (.pair (L.map (·.1)) (some (List.replicate m (1, (n : Int) + 1)))) := VO.pair upd_same (h23.te e24.te) (by show (List.replicate m _).length ≤ 40; rw [List.length_replicate]; omega)
    generalize upd H23 s3 (.tup [oiV (L.map (·.1)), u3]) = H24 at e24 V24 ns4 ⊢
    have e25 : Ex H24 (upd H24 s4 (.lst [.ref s3])) := Ex.new ns4
    have e2125 := ((e22.trans e23).trans e24).trans e25
    refine ⟨pc0, s4, vl1, [.ref s3], rfl, rfl, e2125.lst hpc0, upd_same, Nat.le_of_lt (small1000 (by show vl1.length + 1 ≤ 1000; omega)), fun vl nvl => ⟨vl, rfl, ⟨_, SqL.of upd_same⟩, ?_⟩⟩
    have e26 : Ex (upd H24 s4 (.lst [.ref s3])) (upd (upd H24 s4 (.lst [.ref s3])) vl (.lst (vl1 ++ [.ref s3]))) := Ex.new nvl
    have hvl : (upd (upd H24 s4 (.lst [.ref s3])) vl (.lst (vl1 ++ [.ref s3]))) vl = some (.lst (vl1 ++ [.ref s3])) := upd_same
    have hall2 : Paired (VO L (upd (upd H24 s4 (.lst [.ref s3])) vl (.lst (vl1 ++ [.ref s3])))) (vl1 ++ [.ref s3]) (val1 ++ [.pair (L.map (·.1)) (some (List.replicate m (1, (n : Int) + 1)))]) := Paired.app (VO.exP (e2125.trans e26) hall) (.cons (V24.ex (e25.trans e26)) .nil)
    have E26 := E21.trans (e2125.trans e26)
    clear e22 e23 e24 e25 e26 e2125 ns1 ns2 ns3 ns4 nvl h22 h23 V24 hall hpc0 hal E21
    generalize upd (upd H24 s4 (.lst [.ref s3])) vl (.lst (vl1 ++ [.ref s3])) = H26 at E26 hvl hall2 ⊢
    generalize vl1 ++ [.ref s3] = vl2 at hvl hall2 ⊢
    generalize val1 ++ [.pair (L.map (·.1)) (some (List.replicate m (1, (n : Int) + 1)))] = val2 at hall2
    replace hgd := E26.lst hgd
    replace hch := E26.lst hch
    replace hus := Paired.mapP hus fun _ _ z => RwV.te E26.te z
    replace hcv := hcv.te E26.te
    replace hdv := hdv.te E26.te
    replace hrv := hrv.te E26.te
    replace hTa := E26.tab _ hTa
    replace hTb := E26.tab _ hTb
    clear E26 hlv hlp hvl0 hvR hpR
    refine for_list (K := K) (a := vl) (xs := vl2) (fun k σ H' => ∃ y9 y19 y20 y21 y22, σ = [some (.ref p), some (.ref l), some (.int n), some (.int m), some (.ref ps), some (.ref pc), some (.ref ro), y7, y8, y9, some v1, some v2, some v3, some (.ref gd), some (.ref ch), some (oiV (L.map (·.1))), some fv, some (.ref wa), some (.ref lv), y19, y20, y21, y22] ∧ Ex H26 H')
      ⟨_, _, _, _, _, rfl, Ex.refl _⟩ (fun k σ H' _ h => let ⟨_, _, _, _, _, _, hE⟩ := h; SqL.of (hE.lst hvl)) ?_ ?_
    · rintro k x σ H' hx ⟨y9, y19, y20, y21, y22, rfl, hE⟩
      obtain ⟨y, hy1, hy2, hy3⟩ := Paired.get? hall2 hx
      have hxy : ValV H' x y := hy2.ex hE
      have hcv' := hcv.te hE.te
      have hrv' := hrv.te hE.te
      have hdv' := hdv.te hE.te
      have hTa' := hE.tab _ hTa
      have hTb' := hE.tab _ hTb
      have hv' : valOk (lookM (cheap ltP (stepsOf n) c r) d) y := by rw [hL]; exact hy3
      have hrl3 : r.length ≤ 3 := by omega
      refine due1 (K := K) (y := y) (L := L) rfl rfl hxy ?_
      refine ⟨_, rfl, _, rfl, ?_⟩
      cases hb : due1B L y with
      | false =>
        refine iteF (iteF ?_)
        exact tail_ok rfl rfl rfl rfl rfl hcv' hrv' hdv' hxy oc od hok hrl3 hTa' hTb' hv' (by rw [hL]; exact shows_f hb) fun H2 e => ⟨_, _, _, _, _, rfl, hE.trans e⟩
      | true =>
        refine iteT ⟨_, rfl, rfl, _, rfl, ?_⟩
        cases y with
        | int i => cases L <;> exact nomatch hb
        | lst => cases L <;> exact nomatch hb
        | non =>
          have hx0 : x = .non := hxy
          subst hx0
          cases L with
          | some p => exact nomatch hb
          | none =>
            refine iteF ?_
            exact tail_ok (y := .non) rfl rfl rfl rfl rfl hcv' hrv' hdv' hxy oc od hok hrl3 hTa' hTb' hv' (by rw [hL]; rfl) fun H2 e => ⟨_, _, _, _, _, rfl, hE.trans e⟩
        | pair b z =>
          cases L with
          | none => exact nomatch hb
          | some pp =>
            cases b with
            | none => exact nomatch hb
            | some i =>
            have hi : i = pp.1 := by
              have hb : decide (V.int i = V.int pp.1) = true := hb
              exact V.int.inj (of_decide_eq_true hb)
            subst hi
            obtain ⟨xa, u, rfl, hxa, hz⟩ := id hxy
            refine iteT ?_
            cases z with
            | none =>
              obtain ⟨za, zs, rfl, hza⟩ := id hz
              refine ⟨_, rfl, xa, _, 1, .ref za, rfl, rfl, SqT.of hxa, atI_nat (j := 1) rfl, _, _, .type "list", _, false, rfl, ClsV.ty _, .base (.lst hza), kit_ty (by decide +kernel), false, rfl, iteF ?_⟩
              exact tail_ok (y := .pair (some pp.1) none) rfl rfl rfl rfl rfl hcv' hrv' hdv' hxy oc od hok hrl3 hTa' hTb' hv' (by rw [hL]; exact shows_l) fun H2 e => ⟨_, _, _, _, _, rfl, hE.trans e⟩
            | some z =>
              have hzr : RwV H' u z := hz
              obtain ⟨za, zs, rfl, hza, hzp⟩ := id hzr
              have hT2 : SqT K H' xa [.int pp.1, .ref za] := SqT.of hxa
              have dG : Dp K H' (.ref gd) (.list (G.map rwD)) := Ls.dp (fun v x h => RwV.dp h) ⟨us, hE.lst hgd, Paired.mapP hus fun _ _ z => RwV.te hE.te z⟩
              have dz : Dp K H' (.ref za) (rwD z) := hzr.dp
              refine ⟨_, rfl, xa, _, 1, .ref za, rfl, rfl, hT2, atI_nat (j := 1) rfl, _, _, .type "tuple", _, true, rfl, ClsV.ty _, .base (.tup hza), kit_ty (by decide +kernel), true, rfl, iteT ?_⟩
              refine ⟨_, rfl, xa, _, 1, .ref za, rfl, rfl, hT2, atI_nat (j := 1) rfl, _, rfl, rwD z, G.map rwD, dz, dG, rwSh z, lsSh G, _, rfl, ?_⟩
              rw [any_rw]
              by_cases hzG : z ∈ G
              · rw [decide_eq_true hzG]
                obtain ⟨j, hj1, hj2⟩ := first_ix hzG
                have hat : ((G.map fun z => (diff z r : Int)).map V.int)[j]? = some (.int (diff z r : Int)) := by
                  rw [List.getElem?_map, List.getElem?_map, hj1]; rfl
                refine iteT ⟨_, rfl, _, rfl, .inl ⟨rfl, _, SqL.of (hE.lst hgd)⟩, _, rfl, xa, _, 1, .ref za, rfl, rfl, hT2, atI_nat (j := 1) rfl, gd, .ref za, rwD z, G.map rwD, j, rwD z, rfl, rfl, dG, dz, lsSh G, rwSh z, by rw [List.getElem?_map, hj1]; rfl, by rw [rwEqv]; exact decide_eq_true rfl, fun i z' hi hz' => ?_, ch, _, _, _, rfl, rfl, SqL.of (hE.lst hch), atI_nat hat, _, rfl, rfl, ?_⟩
                · rw [List.getElem?_map] at hz'
                  cases e : G[i]? with
                  | none => rw [e] at hz'; exact nomatch hz'
                  | some w =>
                    rw [e] at hz'
                    have e2 : rwD w = z' := Option.some.inj hz'
                    rw [← e2, rwEqv]
                    exact decide_eq_false (hj2 i hi w e)
                · refine tail_ok (y := .pair (some pp.1) (some z)) rfl rfl rfl rfl rfl hcv' hrv' hdv' hxy oc od hok hrl3 hTa' hTb' hv' ?_ fun H2 e => ⟨_, _, _, _, _, rfl, hE.trans e⟩
                  rw [hL, shows_r hrl B, decide_eq_true hzG, Bool.true_and]
                  by_cases e : (diff z r : Int) = pp.1
                  · rw [decide_eq_true e]; exact (decide_eq_true (show V.int _ = V.int _ by rw [e])).symm
                  · rw [decide_eq_false e]; exact (decide_eq_false (fun w => e (V.int.inj w))).symm
              · rw [decide_eq_false hzG]
                refine iteF ?_
                exact tail_ok (y := .pair (some pp.1) (some z)) rfl rfl rfl rfl rfl hcv' hrv' hdv' hxy oc od hok hrl3 hTa' hTb' hv' (by rw [hL, shows_r hrl B, decide_eq_false hzG]; rfl) fun H2 e => ⟨_, _, _, _, _, rfl, hE.trans e⟩
    · rintro σ H' _
      exact q H'
end
end G

set_option Elab.async false
set_option linter.all false
set_option maxRecDepth 100000
set_option maxHeartbeats 0
namespace G
open PySem PySem.Spec PyProof.Rows L2
/-! ### the head: each def a datum, the facts of the names -/
def hdIsIn : He.DefD := ⟨("is_in", none), "is_in", "is_in", defArgs sIsIn, defBody sIsIn, defScope sIsIn, [], []⟩
def hdComesUp : He.DefD := ⟨("comes_up", none), "comes_up", "comes_up", defArgs sComesUp, defBody sComesUp, defScope sComesUp, [], []⟩
def hdIsChart : He.DefD := ⟨("is_chart", none), "is_chart", "is_chart", defArgs sIsChart, defBody sIsChart, defScope sIsChart, [], []⟩
def hdNeedChart : He.DefD := ⟨("need_chart", none), "need_chart", "need_chart", defArgs sNeedChart, defBody sNeedChart, defScope sNeedChart, [], []⟩
def hdIsStep : He.DefD := ⟨("is_step", none), "is_step", "is_step", defArgs sIsStep, defBody sIsStep, defScope sIsStep, [], []⟩
def hdStepped : He.DefD := ⟨("stepped", none), "stepped", "stepped", defArgs sStepped, defBody sStepped, defScope sStepped, [], []⟩
def hdNeedRow : He.DefD := ⟨("need_row", none), "need_row", "need_row", defArgs sNeedRow, defBody sNeedRow, defScope sNeedRow, [], []⟩
def hdAreSteps : He.DefD := ⟨("are_steps", none), "are_steps", "are_steps", defArgs sAreSteps, defBody sAreSteps, defScope sAreSteps, [], []⟩
def hdIsRow : He.DefD := ⟨("is_row", none), "is_row", "is_row", defArgs sIsRow, defBody sIsRow, defScope sIsRow, [], []⟩
def hdTrace : He.DefD := ⟨("trace", none), "trace", "trace", defArgs sTrace, defBody sTrace, defScope sTrace, [], []⟩
def hdAllSteps : He.DefD := ⟨("all_steps", none), "all_steps", "all_steps", defArgs sAllSteps, defBody sAllSteps, defScope sAllSteps, [], []⟩
def hdNeedChanging : He.DefD := ⟨("need_changing", none), "need_changing", "need_changing", defArgs sNeedChanging, defBody sNeedChanging, defScope sNeedChanging, [], []⟩
def hdCheapest : He.DefD := ⟨("cheapest", none), "cheapest", "cheapest", defArgs sCheapest, defBody sCheapest, defScope sCheapest, [], []⟩
def hdChanged : He.DefD := ⟨("changed_row", none), "changed_row", "changed_row", defArgs sChanged, defBody sChanged, defScope sChanged, [], []⟩
def hdShows : He.DefD := ⟨("shows_changed_row", none), "shows_changed_row", "shows_changed_row", defArgs sShows, defBody sShows, defScope sShows, [], []⟩
def hdTaken : He.DefD := ⟨("_law_taken", none), "_law_taken", "_law_taken", defArgs sTaken, defBody sTaken, defScope sTaken, [], []⟩
def hdPick : He.DefD := ⟨("_law_pick", none), "_law_pick", "_law_pick", defArgs sPick, defBody sPick, defScope sPick, [], []⟩
def hdAlike : He.DefD := ⟨("_law_alike", none), "_law_alike", "_law_alike", defArgs sAlike, defBody sAlike, defScope sAlike, [], []⟩
def hdLStep : He.DefD := ⟨("_law_step", none), "_law_step", "_law_step", defArgs sLStep, defBody sLStep, defScope sLStep, [], []⟩
def hdLDone : He.DefD := ⟨("_law_done", none), "_law_done", "_law_done", defArgs sLDone, defBody sLDone, defScope sLDone, [], []⟩
def hdLSteps : He.DefD := ⟨("_law_steps", none), "_law_steps", "_law_steps", defArgs sLSteps, defBody sLSteps, defScope sLSteps, [], []⟩
def hdLIsChart : He.DefD := ⟨("_law_is_chart", none), "_law_is_chart", "_law_is_chart", defArgs sLIsChart, defBody sLIsChart, defScope sLIsChart, [], []⟩
def hdLCharts : He.DefD := ⟨("_law_charts", none), "_law_charts", "_law_charts", defArgs sLCharts, defBody sLCharts, defScope sLCharts, [], []⟩
def hdLaw : He.DefD := ⟨("law", none), "law", "law", defArgs sLaw, defBody sLaw, defScope sLaw, [], []⟩
def hfn : List He.DefD := [hdIsIn, hdComesUp, hdIsChart, hdNeedChart, hdIsStep, hdStepped, hdNeedRow, hdAreSteps, hdIsRow, hdTrace, hdAllSteps, hdNeedChanging, hdCheapest, hdChanged, hdShows, hdTaken, hdPick, hdAlike, hdLStep, hdLDone, hdLSteps, hdLIsChart, hdLCharts, hdLaw]
def hfa1 : List He.Fa := [.glo "is_in", .glo "comes_up", .glo "is_chart", .glo "need_chart", .glo "is_step", .glo "stepped", .glo "need_row", .glo "are_steps", .glo "is_row", .glo "trace", .glo "all_steps", .glo "need_changing", .glo "cheapest", .glo "changed_row", .glo "shows_changed_row", .glo "_law_taken", .glo "_law_pick", .glo "_law_alike", .glo "_law_step", .glo "_law_done"]
def hfa2 : List He.Fa := [.glo "_law_steps", .glo "_law_is_chart", .glo "_law_charts", .glo "law", .free "isinstance", .free "int", .free "bool", .free "tuple", .free "list", .free "str", .free "len", .free "range", .free "all", .free "enumerate", .free "zip", .free "min", .int "MOST_PEOPLE" 6, .int "MOST_ROW" 40, .int "MOST_CHANGED" 4, .int "MOST_STEPS" 6]
def hfa : List He.Fa := hfa1 ++ hfa2
def htf : List He.Defn := [("is_chart", none), ("are_steps", none)]
def hloose0 : List Str := ["ChiefError", "BadChart", "BadRow", "TooMany", "MOST_PEOPLE", "MOST_ROW", "is_in", "comes_up", "is_chart"]
def hloose1 : List Str := ["need_chart", "is_step", "stepped", "need_row", "are_steps", "is_row", "trace", "all_steps", "MOST_CHANGED"]
def hloose2 : List Str := ["MOST_STEPS", "need_changing", "cheapest", "changed_row", "shows_changed_row", "_law_taken", "_law_pick", "_law_alike", "_law_step"]
def hloose3 : List Str := ["_law_done", "_law_steps", "_law_row", "_law_above", "_law_is_chart", "_law_charts", "_law_chart"]
def hloose : List Str := hloose0 ++ hloose1 ++ hloose2 ++ hloose3
abbrev RR : PySem.W.OpenRow := PySem.W.OpenLaw.row PySem.Challenge.rw_chiefdeeds_k22_whole_changed_rows
abbrev hk : PySem.W.Hook := He.hookX 4 hfa hfn [] htf (fun _ => true)
def hob (s : PySem.W.SharedT) : He.AlX := He.obsX 4 hfa hfn [] htf (fun _ => true) (HandSHeadRun.getT s)
theorem hob_eq (s : PySem.W.SharedT) : hob s = hk.obs s.abs := He.obsX_eq (HandSHeadRun.getT_eq s)
theorem hrun (w : World) : HandSHeadRun.RunEq RR (PySem.W.view RR.prog [38]) hk hob 3000 hloose w := by
  intro os
  kernel_rfl
theorem code_at {K : PySem.W.Frag} {x q : Str} {st : Stmt} {fd : FuncData} (F : Fun K x q st (He.fAd K (x, none)) fd) : fd.code = .ref (He.codeOf K (x, none)) := by
  obtain ⟨oc, od, kV, doc, pm, an, cdv, ct, osl, e, lk, ci⟩ := F.ex
  obtain ⟨c, ec⟩ := He.codeIn_ref ci
  have e1 : fd.code = .ref c := by rw [e, ec]
  rw [He.codeOf_eq lk e1]
  exact e1
theorem facts {w : World} {K : PySem.W.Frag} {h : Heap} {mg : Str → Option Value} {f : Addr} (X : K.In h) (Gm : h.Ns mainGlobals mg) (hfa0 : mg ("law" : Str) = some (.ref f)) (c : He.SaysX hfa hfn [] htf (fun _ => true) w h K) :
    LamX.LawAtS PySem.Challenge.rw_chiefdeeds_k22_whole_changed_rows w K CX0 6 63 "_law_script" mg f h := by
  have cd := He.SaysT.d c.t
  obtain ⟨dIsIn, DIsIn⟩ := cd.def_ 0 (d := hdIsIn) rfl
  have FIsIn : Fun K "is_in" "is_in" sIsIn (He.fAd K ("is_in", none)) dIsIn := He5.fun_of DIsIn
  have bIsIn : Binds K dIsIn ["value", "least", "most"] [] := FIsIn.binds fun _ _ _ _ _ _ us hl => match us, hl with | [_, _, _], _ => rfl
  obtain ⟨dComesUp, DComesUp⟩ := cd.def_ 1 (d := hdComesUp) rfl
  have FComesUp : Fun K "comes_up" "comes_up" sComesUp (He.fAd K ("comes_up", none)) dComesUp := He5.fun_of DComesUp
  have bComesUp : Binds K dComesUp ["chiefs"] [] := FComesUp.binds fun _ _ _ _ _ _ us hl => match us, hl with | [_], _ => rfl
  obtain ⟨dIsChart, DIsChart⟩ := cd.def_ 2 (d := hdIsChart) rfl
  have FIsChart : Fun K "is_chart" "is_chart" sIsChart (He.fAd K ("is_chart", none)) dIsChart := He5.fun_of DIsChart
  have bIsChart : Binds K dIsChart ["value"] [] := FIsChart.binds fun _ _ _ _ _ _ us hl => match us, hl with | [_], _ => rfl
  obtain ⟨dNeedChart, DNeedChart⟩ := cd.def_ 3 (d := hdNeedChart) rfl
  have FNeedChart : Fun K "need_chart" "need_chart" sNeedChart (He.fAd K ("need_chart", none)) dNeedChart := He5.fun_of DNeedChart
  have bNeedChart : Binds K dNeedChart ["chart"] [] := FNeedChart.binds fun _ _ _ _ _ _ us hl => match us, hl with | [_], _ => rfl
  obtain ⟨dIsStep, DIsStep⟩ := cd.def_ 4 (d := hdIsStep) rfl
  have FIsStep : Fun K "is_step" "is_step" sIsStep (He.fAd K ("is_step", none)) dIsStep := He5.fun_of DIsStep
  have bIsStep : Binds K dIsStep ["size", "value"] [] := FIsStep.binds fun _ _ _ _ _ _ us hl => match us, hl with | [_, _], _ => rfl
  obtain ⟨dStepped, DStepped⟩ := cd.def_ 5 (d := hdStepped) rfl
  have FStepped : Fun K "stepped" "stepped" sStepped (He.fAd K ("stepped", none)) dStepped := He5.fun_of DStepped
  have bStepped : Binds K dStepped ["chart", "step"] [] := FStepped.binds fun _ _ _ _ _ _ us hl => match us, hl with | [_, _], _ => rfl
  obtain ⟨dNeedRow, DNeedRow⟩ := cd.def_ 6 (d := hdNeedRow) rfl
  have FNeedRow : Fun K "need_row" "need_row" sNeedRow (He.fAd K ("need_row", none)) dNeedRow := He5.fun_of DNeedRow
  have bNeedRow : Binds K dNeedRow ["size", "row"] [] := FNeedRow.binds fun _ _ _ _ _ _ us hl => match us, hl with | [_, _], _ => rfl
  obtain ⟨dAreSteps, DAreSteps⟩ := cd.def_ 7 (d := hdAreSteps) rfl
  have FAreSteps : Fun K "are_steps" "are_steps" sAreSteps (He.fAd K ("are_steps", none)) dAreSteps := He5.fun_of DAreSteps
  have bAreSteps : Binds K dAreSteps ["size", "value", "most"] [] := FAreSteps.binds fun _ _ _ _ _ _ us hl => match us, hl with | [_, _, _], _ => rfl
  obtain ⟨dIsRow, DIsRow⟩ := cd.def_ 8 (d := hdIsRow) rfl
  have FIsRow : Fun K "is_row" "is_row" sIsRow (He.fAd K ("is_row", none)) dIsRow := He5.fun_of DIsRow
  have bIsRow : Binds K dIsRow ["size", "value"] [] := FIsRow.binds fun _ _ _ _ _ _ us hl => match us, hl with | [_, _], _ => rfl
  obtain ⟨dTrace, DTrace⟩ := cd.def_ 9 (d := hdTrace) rfl
  have FTrace : Fun K "trace" "trace" sTrace (He.fAd K ("trace", none)) dTrace := He5.fun_of DTrace
  have bTrace : Binds K dTrace ["chart", "row"] [] := FTrace.binds fun _ _ _ _ _ _ us hl => match us, hl with | [_, _], _ => rfl
  obtain ⟨dAllSteps, DAllSteps⟩ := cd.def_ 10 (d := hdAllSteps) rfl
  have FAllSteps : Fun K "all_steps" "all_steps" sAllSteps (He.fAd K ("all_steps", none)) dAllSteps := He5.fun_of DAllSteps
  have bAllSteps : Binds K dAllSteps ["size"] [] := FAllSteps.binds fun _ _ _ _ _ _ us hl => match us, hl with | [_], _ => rfl
  obtain ⟨dNeedChanging, DNeedChanging⟩ := cd.def_ 11 (d := hdNeedChanging) rfl
  have FNeedChanging : Fun K "need_changing" "need_changing" sNeedChanging (He.fAd K ("need_changing", none)) dNeedChanging := He5.fun_of DNeedChanging
  have bNeedChanging : Binds K dNeedChanging ["start", "row", "goal"] [] := FNeedChanging.binds fun _ _ _ _ _ _ us hl => match us, hl with | [_, _, _], _ => rfl
  obtain ⟨dCheapest, DCheapest⟩ := cd.def_ 12 (d := hdCheapest) rfl
  have FCheapest : Fun K "cheapest" "cheapest" sCheapest (He.fAd K ("cheapest", none)) dCheapest := He5.fun_of DCheapest
  have bCheapest : Binds K dCheapest ["start", "row"] [] := FCheapest.binds fun _ _ _ _ _ _ us hl => match us, hl with | [_, _], _ => rfl
  obtain ⟨dChanged, DChanged⟩ := cd.def_ 13 (d := hdChanged) rfl
  have FChanged : Fun K "changed_row" "changed_row" sChanged (He.fAd K ("changed_row", none)) dChanged := He5.fun_of DChanged
  have bChanged : Binds K dChanged ["start", "row", "goal"] [] := FChanged.binds fun _ _ _ _ _ _ us hl => match us, hl with | [_, _, _], _ => rfl
  obtain ⟨dShows, DShows⟩ := cd.def_ 14 (d := hdShows) rfl
  have FShows : Fun K "shows_changed_row" "shows_changed_row" sShows (He.fAd K ("shows_changed_row", none)) dShows := He5.fun_of DShows
  have bShows : Binds K dShows ["start", "row", "goal", "value"] [] := FShows.binds fun _ _ _ _ _ _ us hl => match us, hl with | [_, _, _, _], _ => rfl
  obtain ⟨dTaken, DTaken⟩ := cd.def_ 15 (d := hdTaken) rfl
  have FTaken : Fun K "_law_taken" "_law_taken" sTaken (He.fAd K ("_law_taken", none)) dTaken := He5.fun_of DTaken
  have bTaken : Binds K dTaken ["_law_row_here", "_law_many"] [] := FTaken.binds fun _ _ _ _ _ _ us hl => match us, hl with | [_, _], _ => rfl
  obtain ⟨dPick, DPick⟩ := cd.def_ 16 (d := hdPick) rfl
  have FPick : Fun K "_law_pick" "_law_pick" sPick (He.fAd K ("_law_pick", none)) dPick := He5.fun_of DPick
  have bPick : Binds K dPick ["_law_row_here", "_law_things"] [] := FPick.binds fun _ _ _ _ _ _ us hl => match us, hl with | [_, _], _ => rfl
  obtain ⟨dAlike, DAlike⟩ := cd.def_ 17 (d := hdAlike) rfl
  have FAlike : Fun K "_law_alike" "_law_alike" sAlike (He.fAd K ("_law_alike", none)) dAlike := He5.fun_of DAlike
  have bAlike : Binds K dAlike ["_law_found", "_law_due"] [] := FAlike.binds fun _ _ _ _ _ _ us hl => match us, hl with | [_, _], _ => rfl
  obtain ⟨dLStep, DLStep⟩ := cd.def_ 18 (d := hdLStep) rfl
  have FLStep : Fun K "_law_step" "_law_step" sLStep (He.fAd K ("_law_step", none)) dLStep := He5.fun_of DLStep
  have bLStep : Binds K dLStep ["_law_chart_here", "_law_step_here"] [] := FLStep.binds fun _ _ _ _ _ _ us hl => match us, hl with | [_, _], _ => rfl
  obtain ⟨dLDone, DLDone⟩ := cd.def_ 19 (d := hdLDone) rfl
  have FLDone : Fun K "_law_done" "_law_done" sLDone (He.fAd K ("_law_done", none)) dLDone := He5.fun_of DLDone
  have bLDone : Binds K dLDone ["_law_chart_here", "_law_steps_here"] [] := FLDone.binds fun _ _ _ _ _ _ us hl => match us, hl with | [_, _], _ => rfl
  obtain ⟨dLSteps, DLSteps⟩ := cd.def_ 20 (d := hdLSteps) rfl
  have FLSteps : Fun K "_law_steps" "_law_steps" sLSteps (He.fAd K ("_law_steps", none)) dLSteps := He5.fun_of DLSteps
  have bLSteps : Binds K dLSteps ["_law_size"] [] := FLSteps.binds fun _ _ _ _ _ _ us hl => match us, hl with | [_], _ => rfl
  obtain ⟨dLIsChart, DLIsChart⟩ := cd.def_ 21 (d := hdLIsChart) rfl
  have FLIsChart : Fun K "_law_is_chart" "_law_is_chart" sLIsChart (He.fAd K ("_law_is_chart", none)) dLIsChart := He5.fun_of DLIsChart
  have bLIsChart : Binds K dLIsChart ["_law_value"] [] := FLIsChart.binds fun _ _ _ _ _ _ us hl => match us, hl with | [_], _ => rfl
  obtain ⟨dLCharts, DLCharts⟩ := cd.def_ 22 (d := hdLCharts) rfl
  have FLCharts : Fun K "_law_charts" "_law_charts" sLCharts (He.fAd K ("_law_charts", none)) dLCharts := He5.fun_of DLCharts
  have bLCharts : Binds K dLCharts ["_law_size"] [] := FLCharts.binds fun _ _ _ _ _ _ us hl => match us, hl with | [_], _ => rfl
  obtain ⟨dLaw, DLaw⟩ := cd.def_ 23 (d := hdLaw) rfl
  have FLaw : Fun K "law" "law" sLaw (He.fAd K ("law", none)) dLaw := He5.fun_of DLaw
  have bLaw : Binds K dLaw ["_law_script"] [] := FLaw.binds fun _ _ _ _ _ _ us hl => match us, hl with | [_], _ => rfl
  let T : Tx K mg := {
    fIsIn := _
    dIsIn := dIsIn
    FIsIn := FIsIn
    gIsIn := He.glo_ok X Gm (cd.fact 0 (f := .glo "is_in") rfl)
    bIsIn := bIsIn
    fComesUp := _
    dComesUp := dComesUp
    FComesUp := FComesUp
    gComesUp := He.glo_ok X Gm (cd.fact 1 (f := .glo "comes_up") rfl)
    bComesUp := bComesUp
    fIsChart := _
    dIsChart := dIsChart
    FIsChart := FIsChart
    gIsChart := He.glo_ok X Gm (cd.fact 2 (f := .glo "is_chart") rfl)
    bIsChart := bIsChart
    fNeedChart := _
    dNeedChart := dNeedChart
    FNeedChart := FNeedChart
    gNeedChart := He.glo_ok X Gm (cd.fact 3 (f := .glo "need_chart") rfl)
    bNeedChart := bNeedChart
    fIsStep := _
    dIsStep := dIsStep
    FIsStep := FIsStep
    gIsStep := He.glo_ok X Gm (cd.fact 4 (f := .glo "is_step") rfl)
    bIsStep := bIsStep
    fStepped := _
    dStepped := dStepped
    FStepped := FStepped
    gStepped := He.glo_ok X Gm (cd.fact 5 (f := .glo "stepped") rfl)
    bStepped := bStepped
    fNeedRow := _
    dNeedRow := dNeedRow
    FNeedRow := FNeedRow
    gNeedRow := He.glo_ok X Gm (cd.fact 6 (f := .glo "need_row") rfl)
    bNeedRow := bNeedRow
    fAreSteps := _
    dAreSteps := dAreSteps
    FAreSteps := FAreSteps
    gAreSteps := He.glo_ok X Gm (cd.fact 7 (f := .glo "are_steps") rfl)
    bAreSteps := bAreSteps
    fIsRow := _
    dIsRow := dIsRow
    FIsRow := FIsRow
    gIsRow := He.glo_ok X Gm (cd.fact 8 (f := .glo "is_row") rfl)
    bIsRow := bIsRow
    fTrace := _
    dTrace := dTrace
    FTrace := FTrace
    gTrace := He.glo_ok X Gm (cd.fact 9 (f := .glo "trace") rfl)
    bTrace := bTrace
    fAllSteps := _
    dAllSteps := dAllSteps
    FAllSteps := FAllSteps
    gAllSteps := He.glo_ok X Gm (cd.fact 10 (f := .glo "all_steps") rfl)
    bAllSteps := bAllSteps
    fNeedChanging := _
    dNeedChanging := dNeedChanging
    FNeedChanging := FNeedChanging
    gNeedChanging := He.glo_ok X Gm (cd.fact 11 (f := .glo "need_changing") rfl)
    bNeedChanging := bNeedChanging
    fCheapest := _
    dCheapest := dCheapest
    FCheapest := FCheapest
    gCheapest := He.glo_ok X Gm (cd.fact 12 (f := .glo "cheapest") rfl)
    bCheapest := bCheapest
    fChanged := _
    dChanged := dChanged
    FChanged := FChanged
    gChanged := He.glo_ok X Gm (cd.fact 13 (f := .glo "changed_row") rfl)
    bChanged := bChanged
    fShows := _
    dShows := dShows
    FShows := FShows
    gShows := He.glo_ok X Gm (cd.fact 14 (f := .glo "shows_changed_row") rfl)
    bShows := bShows
    fTaken := _
    dTaken := dTaken
    FTaken := FTaken
    gTaken := He.glo_ok X Gm (cd.fact 15 (f := .glo "_law_taken") rfl)
    bTaken := bTaken
    fPick := _
    dPick := dPick
    FPick := FPick
    gPick := He.glo_ok X Gm (cd.fact 16 (f := .glo "_law_pick") rfl)
    bPick := bPick
    fAlike := _
    dAlike := dAlike
    FAlike := FAlike
    gAlike := He.glo_ok X Gm (cd.fact 17 (f := .glo "_law_alike") rfl)
    bAlike := bAlike
    fLStep := _
    dLStep := dLStep
    FLStep := FLStep
    gLStep := He.glo_ok X Gm (cd.fact 18 (f := .glo "_law_step") rfl)
    bLStep := bLStep
    fLDone := _
    dLDone := dLDone
    FLDone := FLDone
    gLDone := He.glo_ok X Gm (cd.fact 19 (f := .glo "_law_done") rfl)
    bLDone := bLDone
    fLSteps := _
    dLSteps := dLSteps
    FLSteps := FLSteps
    gLSteps := He.glo_ok X Gm (cd.fact 20 (f := .glo "_law_steps") rfl)
    bLSteps := bLSteps
    fLIsChart := _
    dLIsChart := dLIsChart
    FLIsChart := FLIsChart
    gLIsChart := He.glo_ok X Gm (cd.fact 21 (f := .glo "_law_is_chart") rfl)
    bLIsChart := bLIsChart
    fLCharts := _
    dLCharts := dLCharts
    FLCharts := FLCharts
    gLCharts := He.glo_ok X Gm (cd.fact 22 (f := .glo "_law_charts") rfl)
    bLCharts := bLCharts
    fLaw := _
    dLaw := dLaw
    FLaw := FLaw
    gLaw := He.glo_ok X Gm (cd.fact 23 (f := .glo "law") rfl)
    bLaw := bLaw
    m_isinstance := He.free_ok X Gm (cd.fact 24 (f := .free "isinstance") rfl)
    m_int := He.free_ok X Gm (cd.fact 25 (f := .free "int") rfl)
    m_bool := He.free_ok X Gm (cd.fact 26 (f := .free "bool") rfl)
    m_tuple := He.free_ok X Gm (cd.fact 27 (f := .free "tuple") rfl)
    m_list := He.free_ok X Gm (cd.fact 28 (f := .free "list") rfl)
    m_str := He.free_ok X Gm (cd.fact 29 (f := .free "str") rfl)
    m_len := He.free_ok X Gm (cd.fact 30 (f := .free "len") rfl)
    m_range := He.free_ok X Gm (cd.fact 31 (f := .free "range") rfl)
    m_all := He.free_ok X Gm (cd.fact 32 (f := .free "all") rfl)
    m_enumerate := He.free_ok X Gm (cd.fact 33 (f := .free "enumerate") rfl)
    m_zip := He.free_ok X Gm (cd.fact 34 (f := .free "zip") rfl)
    m_min := He.free_ok X Gm (cd.fact 35 (f := .free "min") rfl)
    c_MOST_PEOPLE := He.int_ok X Gm (cd.fact 36 (f := .int "MOST_PEOPLE" 6) rfl)
    c_MOST_ROW := He.int_ok X Gm (cd.fact 37 (f := .int "MOST_ROW" 40) rfl)
    c_MOST_CHANGED := He.int_ok X Gm (cd.fact 38 (f := .int "MOST_CHANGED" 4) rfl)
    c_MOST_STEPS := He.int_ok X Gm (cd.fact 39 (f := .int "MOST_STEPS" 6) rfl)
    c1 := (He.cT K ("is_chart", none)).1
    P1 := (He.cT K ("is_chart", none)).2
    e1 := code_at FIsChart
    c2 := (He.cT K ("are_steps", none)).1
    P2 := (He.cT K ("are_steps", none)).2
    e2 := code_at FAreSteps }
  have e := hfa0.symm.trans T.gLaw
  cases e
  have bA := FunD.bindsA (ps := ["_law_script"]) DLaw fun _ _ _ _ _ _ us hl => match us, hl with | [_], _ => rfl
  refine ⟨dLaw, [(T.c1, T.P1), (T.c2, T.P2)], spLaw K T.P1 T.P2, fun p hp => ?_, fun p hp => ?_, fun p hp => ?_, fun s v => bA s [v] rfl, fun H a ns _ _ hE hS => ?_, fun base X2 G2 TB => ?_⟩
  · rcases List.mem_cons.mp hp with rfl | hp
    · exact c.empty _ (.head _)
    · rcases List.mem_cons.mp hp with rfl | hp
      · exact c.empty _ (.tail _ (.head _))
      · exact nomatch hp
  · rcases List.mem_cons.mp hp with rfl | hp
    · exact c.out _ (.head _)
    · rcases List.mem_cons.mp hp with rfl | hp
      · exact c.out _ (.tail _ (.head _))
      · exact nomatch hp
  · rcases List.mem_cons.mp hp with rfl | hp
    · exact PySem.W.codeHd_of_K X (c.hd _ (.head _))
    · rcases List.mem_cons.mp hp with rfl | hp
      · exact PySem.W.codeHd_of_K X (c.hd _ (.tail _ (.head _)))
      · exact nomatch hp
  · exact ⟨a, ns, rfl, hS, ⟨#[], hE _ (.head _), trivial⟩, ⟨#[], hE _ (.tail _ (.head _)), trivial⟩, fun _ => rfl⟩
  · have t1 := TB _ (.head _)
    have t2 := TB _ (.tail _ (.head _))
    exact ok_law T ⟨t1.code, t1.bm, t1.gP⟩ ⟨t2.code, t2.bm, t2.gP⟩
end G
open PySem PySem.W PySem.Calls PyProof.Rows
theorem PySem.Challenge.cw_chiefdeeds_k22_whole_changed_rows_holds : PySem.Challenge.rw_chiefdeeds_k22_whole_changed_rows.Holds := by
  w_on; o_law
  refine HandSHeadRun.head_any (r := G.RR) (q := view G.RR.prog [38]) (H := G.hk) (ob := G.hob) (M := 3000) (loose := G.hloose) (d := HandSHeadRun.topDef G.RR.prog 38) (kwd := []) G.hob_eq
    (by kernel_rfl) (fun s => by kernel_rfl) G.hrun (by kernel_rfl) (by kernel_rfl) (by kernel_rfl) (by rfl) (by first | assumption | decide +kernel) (by decide +kernel) ⟨rfl, rfl, rfl, rfl, rfl, by decide +kernel⟩ ?hw ?hc
  case hw => w_witness2
  case hc =>
    refine LamX.walk_ofTsE (l := PySem.Challenge.rw_chiefdeeds_k22_whole_changed_rows) (n := 63) (k := 6) (x := "_law_script") (CX := fun _ => L2.CX0) rfl (by decide) (by kernel_rfl) ⟨rfl, by decide, by decide⟩ ?F (fun _ _ _ _ _ z => z)
    intro w mg fa h Y Gm hmg0
    obtain ⟨K, KX, c⟩ := Y
    have hmg : mg ("law" : PySem.Str) = some (.ref fa) := by
      have e : (HandSHeadRun.topDef G.RR.prog 38).name = ("law" : PySem.Str) := by kernel_rfl
      rw [← e]
      exact hmg0
    exact ⟨K, KX, G.facts KX Gm hmg c⟩

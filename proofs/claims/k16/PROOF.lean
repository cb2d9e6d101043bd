import PyProof.Rows.All
import Wide.All
import OpenK.AllK
import Wide.FinOn
import KE.GoesNew
import KE.KUnpackStar
import KE.KTupSum
import HandS.Base
import HandS.Call
import HandS.List
import HandS.Comp
import HandS.Iter
import HandS.Text
import HandS.Set
import HandS.SetFor
import HandS.SortInts
import HandS.ForMost
import HandS.Codes
import HandS.Evl
import HandS.CallLocal
import HandS.Defaults
import HandS.ReplaceLit
import HandS.Walk
import PySem.Challenge.RW_deltawires_k16_whole_numbers_by_all_fill
import HandS.ReplaceDef
import HandS.ReplaceList
set_option Elab.async false
set_option linter.all false
set_option maxRecDepth 100000
set_option maxHeartbeats 4000000
/-! The plain law: signs are codes (48 is 0, 49 is 1, 120 is x, 122 is z). No program in sight. -/
namespace Mth
def notB (a : Nat) : Nat := if a = 120 then 120 else if a = 48 then 49 else 48
def andB (a b : Nat) : Nat := if a = 48 ∨ b = 48 then 48 else if a = 49 ∧ b = 49 then 49 else 120
def orB (a b : Nat) : Nat := notB (andB (notB a) (notB b))
def xorB (a b : Nat) : Nat := if a = 120 ∨ b = 120 then 120 else if a = b then 48 else 49
def mostB (a b c : Nat) : Nat := if a = b then a else if b = c then b else if a = c then c else 120
def rd (c : Nat) : Nat := if c = 122 then 120 else c
def waysN (c : Nat) : List Nat := if c = 48 then [0] else if c = 49 then [1] else [0, 1]
def ways (c : Nat) : List Int := if c = 48 then [0] else if c = 49 then [1] else [0, 1]
/-- the signs as read, and as handed in -/
def C3 (c : Nat) : Prop := c = 48 ∨ c = 49 ∨ c = 120
def C4 (c : Nat) : Prop := c = 48 ∨ c = 49 ∨ c = 120 ∨ c = 122
theorem c3_mem {c : Nat} : C3 c ↔ c ∈ [48, 49, 120] := by simp [C3]
theorem c4_mem {c : Nat} : C4 c ↔ c ∈ [48, 49, 120, 122] := by simp [C4]
theorem rd_c3 {c : Nat} (h : C4 c) : C3 (rd c) := by
  unfold C3
  rcases h with h | h | h | h <;> subst h <;> decide
theorem ways_rd {c : Nat} (h : C4 c) : ways (rd c) = ways c := by
  rcases h with h | h | h | h <;> subst h <;> decide
theorem waysN_rd {c : Nat} (h : C4 c) : waysN (rd c) = waysN c := by
  rcases h with h | h | h | h <;> subst h <;> decide
theorem ways_cast (c : Nat) : ways c = (waysN c).map (fun n : Nat => (n : Int)) := by
  unfold ways waysN
  split
  · rfl
  · split <;> rfl
theorem waysN_le {c v : Nat} (h : v ∈ waysN c) : v = 0 ∨ v = 1 := by
  unfold waysN at h
  split at h
  · simp at h; exact .inl h
  · split at h
    · simp at h; exact .inr h
    · simp at h; exact h

/-! ### the answers -/
inductive Wd where
  | plus | same | less
  deriving DecidableEq
def plusF (st : List Nat × Nat) (p : Nat × Nat) : List Nat × Nat := (xorB (xorB p.1 p.2) st.2 :: st.1, mostB p.1 p.2 st.2)
def lessF (c : Nat) (p : Nat × Nat) : Nat := mostB (notB p.1) p.2 c
def plusL (a b : List Nat) : List Nat := ((a.reverse.zip b.reverse).foldl plusF ([], 48)).1
def lessL (a b : List Nat) : Nat := (a.reverse.zip b.reverse).foldl lessF 48
def anyL (a : List Nat) : Nat := a.foldl orB 48
def opL : Wd → List Nat → List Nat → List Nat
  | .plus, a, b => plusL a b
  | .same, a, b => [notB (anyL (a.zipWith xorB b))]
  | .less, a, b => [lessL a b]

/-! ### by bits -/
def tri (p q : Nat) (ahead : List Int) : List (Int × Int × Int) := (ways p).flatMap fun a => (ways q).flatMap fun b => ahead.map fun c => (a, b, c)
/-- what a list of noughts and ones tells -/
def sgn (ns : List Int) : Nat := if 0 ∈ ns ∧ 1 ∈ ns then 120 else if 1 ∈ ns then 49 else 48
/-- sorted and each once, of noughts and ones -/
def ss (ns : List Int) : List Int := (if 0 ∈ ns then [0] else []) ++ (if 1 ∈ ns then [1] else [])
def par (t : Int × Int × Int) : Int := (t.1 + t.2.1 + t.2.2) % 2
def nxt : Wd → Int × Int × Int → Int
  | .plus, t => (t.1 + t.2.1 + t.2.2) / 2
  | .less, t => if t.1 < t.2.1 + t.2.2 then 1 else 0
  | .same, t => if (if t.1 = t.2.1 then (0 : Int) else 1) > t.2.2 then (if t.1 = t.2.1 then (0 : Int) else 1) else t.2.2
def bitsF (w : Wd) (st : List Nat × List Int) (p : Nat × Nat) : List Nat × List Int :=
  (sgn ((tri p.1 p.2 st.2).map par) :: st.1, ss ((tri p.1 p.2 st.2).map (nxt w)))
def byBits (w : Wd) (a b : List Nat) : List Nat :=
  let r := (a.reverse.zip b.reverse).foldl (bitsF w) ([], [0])
  match w with
  | .plus => r.1
  | .less => [sgn r.2]
  | .same => [sgn (r.2.map fun c => 1 - c)]

theorem tri_01 {p q : Nat} {ahead : List Int} (h : ∀ c ∈ ahead, c = 0 ∨ c = 1) : ∀ t ∈ tri p q ahead, (t.1 = 0 ∨ t.1 = 1) ∧ (t.2.1 = 0 ∨ t.2.1 = 1) ∧ (t.2.2 = 0 ∨ t.2.2 = 1) := by
  intro t ht
  unfold tri at ht
  obtain ⟨a, ha, ht⟩ := List.mem_flatMap.mp ht
  obtain ⟨b, hb, ht⟩ := List.mem_flatMap.mp ht
  obtain ⟨c, hc, rfl⟩ := List.mem_map.mp ht
  have g : ∀ {c : Nat} {v : Int}, v ∈ ways c → v = 0 ∨ v = 1 := by
    intro c v hv
    unfold ways at hv
    split at hv
    · simp at hv; exact .inl hv
    · split at hv
      · simp at hv; exact .inr hv
      · simp at hv; exact hv
  exact ⟨g ha, g hb, h c hc⟩
theorem par_01 (t : Int × Int × Int) : par t = 0 ∨ par t = 1 := by
  unfold par
  omega
theorem nxt_01 (w : Wd) {t : Int × Int × Int} (h : (t.1 = 0 ∨ t.1 = 1) ∧ (t.2.1 = 0 ∨ t.2.1 = 1) ∧ (t.2.2 = 0 ∨ t.2.2 = 1)) : nxt w t = 0 ∨ nxt w t = 1 := by
  obtain ⟨h1, h2, h3⟩ := h
  cases w
  · show (t.1 + t.2.1 + t.2.2) / 2 = 0 ∨ (t.1 + t.2.1 + t.2.2) / 2 = 1
    omega
  · unfold nxt; (repeat' split) <;> omega
  · unfold nxt; (repeat' split) <;> omega
theorem ss_01 (ns : List Int) : ∀ c ∈ ss ns, c = 0 ∨ c = 1 := by
  intro c hc
  unfold ss at hc
  rcases List.mem_append.mp hc with h | h <;> (split at h <;> simp at h) <;> simp [h]
theorem tri_ne {p q : Nat} {ahead : List Int} (h : ahead ≠ []) : tri p q ahead ≠ [] := by
  unfold tri ways
  cases ahead with
  | nil => exact absurd rfl h
  | cons x r => (repeat' split) <;> simp
theorem ss_ne {ns : List Int} (h : ns ≠ []) (h1 : ∀ c ∈ ns, c = 0 ∨ c = 1) : ss ns ≠ [] := by
  cases ns with
  | nil => exact absurd rfl h
  | cons x r =>
    rcases h1 x (by simp) with e | e <;> subst e <;> simp [ss]
/-- a strictly rising list of the members of noughts and ones -/
theorem ss_eq {ns ms : List Int} (h1 : ∀ c ∈ ns, c = 0 ∨ c = 1) (hp : ms.Pairwise (· < ·)) (hm : ∀ k, k ∈ ms ↔ k ∈ ns) : ms = ss ns := by
  have g : ∀ c ∈ ms, c = 0 ∨ c = 1 := fun c hc => h1 c ((hm c).1 hc)
  have e : ms = [] ∨ ms = [0] ∨ ms = [1] ∨ ms = [0, 1] := by
    match ms, hp, g with
    | [], _, _ => exact .inl rfl
    | [x], _, g =>
      rcases g x (by simp) with e | e <;> subst e <;> simp
    | [x, y], hp, g =>
      have := List.rel_of_pairwise_cons hp (a' := y) (by simp)
      rcases g x (by simp) with e | e <;> rcases g y (by simp) with e' | e' <;> subst e <;> subst e' <;> simp at this ⊢
    | x :: y :: z :: r, hp, g =>
      have a1 := List.rel_of_pairwise_cons hp (a' := y) (by simp)
      have a2 := List.rel_of_pairwise_cons (List.Pairwise.of_cons hp) (a' := z) (by simp)
      have b1 := g x (by simp)
      have b2 := g y (by simp)
      have b3 := g z (by simp)
      omega
  have m0 := hm 0
  have m1 := hm 1
  unfold ss
  rcases e with e | e | e | e <;> subst e <;> simp at m0 m1 <;> simp [m0, m1]

theorem step_tab : ∀ p ∈ [48, 49, 120, 122], ∀ q ∈ [48, 49, 120, 122], ∀ c ∈ [48, 49, 120],
    sgn ((tri p q (ways c)).map par) = xorB (xorB (rd p) (rd q)) c ∧ ss ((tri p q (ways c)).map (nxt .plus)) = ways (mostB (rd p) (rd q) c) ∧
    ss ((tri p q (ways c)).map (nxt .less)) = ways (mostB (notB (rd p)) (rd q) c) ∧ ss ((tri p q (ways c)).map (nxt .same)) = ways (orB c (xorB (rd p) (rd q))) ∧
    mostB (rd p) (rd q) c ∈ [48, 49, 120] ∧ mostB (notB (rd p)) (rd q) c ∈ [48, 49, 120] ∧ orB c (xorB (rd p) (rd q)) ∈ [48, 49, 120] := by decide +kernel
theorem end_tab : ∀ c ∈ [48, 49, 120], sgn (ways c) = c ∧ sgn ((ways c).map fun x => 1 - x) = notB c := by decide +kernel

def rd2 (p : Nat × Nat) : Nat × Nat := (rd p.1, rd p.2)
def sameF (c : Nat) (p : Nat × Nat) : Nat := orB c (xorB p.1 p.2)
theorem fold_plus : ∀ (l : List (Nat × Nat)) (f : List Nat) (c : Nat), (∀ p ∈ l, C4 p.1 ∧ C4 p.2) → C3 c →
    l.foldl (bitsF .plus) (f, ways c) = (((l.map rd2).foldl plusF (f, c)).1, ways ((l.map rd2).foldl plusF (f, c)).2) ∧ C3 ((l.map rd2).foldl plusF (f, c)).2
  | [], f, c, _, hc => ⟨rfl, hc⟩
  | p :: l, f, c, h, hc => by
    obtain ⟨h1, h2⟩ := h p (by simp)
    obtain ⟨t1, t2, _, _, t3, _⟩ := step_tab p.1 (c4_mem.1 h1) p.2 (c4_mem.1 h2) c (c3_mem.1 hc)
    have ih := fold_plus l (xorB (xorB (rd p.1) (rd p.2)) c :: f) (mostB (rd p.1) (rd p.2) c) (fun q hq => h q (by simp [hq])) (c3_mem.2 t3)
    have e : bitsF .plus (f, ways c) p = (xorB (xorB (rd p.1) (rd p.2)) c :: f, ways (mostB (rd p.1) (rd p.2) c)) := by
      unfold bitsF
      rw [t1, t2]
    rw [List.foldl_cons, e]
    exact ih
theorem fold_less : ∀ (l : List (Nat × Nat)) (f : List Nat) (c : Nat), (∀ p ∈ l, C4 p.1 ∧ C4 p.2) → C3 c →
    (l.foldl (bitsF .less) (f, ways c)).2 = ways ((l.map rd2).foldl lessF c) ∧ C3 ((l.map rd2).foldl lessF c)
  | [], f, c, _, hc => ⟨rfl, hc⟩
  | p :: l, f, c, h, hc => by
    obtain ⟨h1, h2⟩ := h p (by simp)
    obtain ⟨t1, _, t2, _, _, t3, _⟩ := step_tab p.1 (c4_mem.1 h1) p.2 (c4_mem.1 h2) c (c3_mem.1 hc)
    have ih := fold_less l (xorB (xorB (rd p.1) (rd p.2)) c :: f) (mostB (notB (rd p.1)) (rd p.2) c) (fun q hq => h q (by simp [hq])) (c3_mem.2 t3)
    have e : bitsF .less (f, ways c) p = (xorB (xorB (rd p.1) (rd p.2)) c :: f, ways (mostB (notB (rd p.1)) (rd p.2) c)) := by
      unfold bitsF
      rw [t1, t2]
    rw [List.foldl_cons, e]
    exact ih
theorem fold_same : ∀ (l : List (Nat × Nat)) (f : List Nat) (c : Nat), (∀ p ∈ l, C4 p.1 ∧ C4 p.2) → C3 c →
    (l.foldl (bitsF .same) (f, ways c)).2 = ways ((l.map rd2).foldl sameF c) ∧ C3 ((l.map rd2).foldl sameF c)
  | [], f, c, _, hc => ⟨rfl, hc⟩
  | p :: l, f, c, h, hc => by
    obtain ⟨h1, h2⟩ := h p (by simp)
    obtain ⟨t1, _, _, t2, _, _, t3⟩ := step_tab p.1 (c4_mem.1 h1) p.2 (c4_mem.1 h2) c (c3_mem.1 hc)
    have ih := fold_same l (xorB (xorB (rd p.1) (rd p.2)) c :: f) (orB c (xorB (rd p.1) (rd p.2))) (fun q hq => h q (by simp [hq])) (c3_mem.2 t3)
    have e : bitsF .same (f, ways c) p = (xorB (xorB (rd p.1) (rd p.2)) c :: f, ways (orB c (xorB (rd p.1) (rd p.2)))) := by
      unfold bitsF
      rw [t1, t2]
    rw [List.foldl_cons, e]
    exact ih

/-! ### any, whichever way about -/
def orAll (l : List Nat) : Nat := if 49 ∈ l then 49 else if 120 ∈ l then 120 else 48
theorem or_tab : ∀ a ∈ [48, 49, 120], ∀ b ∈ [48, 49, 120], ∀ d ∈ [48, 49, 120], orB (orB a b) d = orB a (orB b d) ∧ orB a b ∈ [48, 49, 120] ∧ orB a 48 = a ∧ orB 49 a = 49 ∧ orB 48 a = a ∧
    (orB 120 a = if a = 49 then 49 else 120) := by decide +kernel
theorem orAll_c3 (l : List Nat) : C3 (orAll l) := by
  unfold orAll C3
  split
  · simp
  · split <;> simp
theorem orAll_cons {x : Nat} {l : List Nat} (hx : C3 x) : orAll (x :: l) = orB x (orAll l) := by
  obtain ⟨_, _, _, t1, t2, t3⟩ := or_tab (orAll l) (c3_mem.1 (orAll_c3 l)) 48 (by simp) 48 (by simp)
  rcases hx with e | e | e <;> subst e
  · rw [t2]
    unfold orAll
    simp
  · rw [t1]
    unfold orAll
    simp
  · rw [t3]
    unfold orAll
    by_cases h : 49 ∈ l
    · simp [h]
    · simp [h]
      split <;> simp
theorem fold_or : ∀ (l : List Nat) (c : Nat), (∀ x ∈ l, C3 x) → C3 c → l.foldl orB c = orB c (orAll l)
  | [], c, _, hc => by
    obtain ⟨_, _, t, _⟩ := or_tab c (c3_mem.1 hc) 48 (by simp) 48 (by simp)
    exact t.symm
  | x :: l, c, h, hc => by
    have hx := h x (by simp)
    obtain ⟨t1, t2, _⟩ := or_tab c (c3_mem.1 hc) x (c3_mem.1 hx) (orAll l) (c3_mem.1 (orAll_c3 l))
    rw [List.foldl_cons, fold_or l (orB c x) (fun y hy => h y (by simp [hy])) (c3_mem.2 t2), t1, orAll_cons hx]
theorem orAll_rev (l : List Nat) : orAll l.reverse = orAll l := by
  unfold orAll
  simp
theorem xorB_c3 (a b : Nat) : C3 (xorB a b) := by
  unfold xorB C3
  split
  · simp
  · split <;> simp
theorem sameF_fold : ∀ (l : List (Nat × Nat)) (c : Nat), l.foldl sameF c = (l.map fun p => xorB p.1 p.2).foldl orB c
  | [], _ => rfl
  | p :: l, c => sameF_fold l _
theorem zipWith_map {a b : List Nat} {f : Nat → Nat → Nat} : a.zipWith f b = (a.zip b).map fun p => f p.1 p.2 := by
  induction a generalizing b with
  | nil => rfl
  | cons x a ih =>
    cases b with
    | nil => rfl
    | cons y b => exact congrArg (f x y :: ·) ih
theorem zip_rev : ∀ {a b : List Nat}, a.length = b.length → a.reverse.zip b.reverse = (a.zip b).reverse := by
  intro a b h
  have := List.reverse_zipWith (f := Prod.mk) (l := a) (l' := b) h
  rw [List.zip_eq_zipWith, List.zip_eq_zipWith, this]
theorem same_low {a b : List Nat} (h : a.length = b.length) (hb : a.length = b.length) : anyL (a.zipWith xorB b) = (a.reverse.zip b.reverse).foldl sameF 48 := by
  rw [sameF_fold, zip_rev h, List.map_reverse, zipWith_map]
  unfold anyL
  rw [fold_or _ _ (fun x hx => ?_) (.inl rfl), fold_or _ _ (fun x hx => ?_) (.inl rfl), orAll_rev]
  · obtain ⟨p, _, rfl⟩ := List.mem_map.mp (List.mem_reverse.mp hx)
    exact xorB_c3 _ _
  · obtain ⟨p, _, rfl⟩ := List.mem_map.mp hx
    exact xorB_c3 _ _

/-- THE FIRST READING -/
theorem zip_rd (a b : List Nat) : ((a.map rd).reverse.zip (b.map rd).reverse) = (a.reverse.zip b.reverse).map rd2 := by
  rw [← List.map_reverse, ← List.map_reverse, List.zip_map]
  rfl
theorem zip_c4 {a b : List Nat} (ha : ∀ c ∈ a, C4 c) (hb : ∀ c ∈ b, C4 c) : ∀ p ∈ a.reverse.zip b.reverse, C4 p.1 ∧ C4 p.2 := fun p hp =>
  ⟨ha _ (List.mem_reverse.mp (List.of_mem_zip hp).1), hb _ (List.mem_reverse.mp (List.of_mem_zip hp).2)⟩
theorem byBits_eq (w : Wd) {a b : List Nat} (hl : a.length = b.length) (ha : ∀ c ∈ a, C4 c) (hb : ∀ c ∈ b, C4 c) : byBits w a b = opL w (a.map rd) (b.map rd) := by
  have hz := zip_c4 ha hb
  cases w with
  | plus =>
    have h := (fold_plus _ [] 48 hz (.inl rfl)).1
    show ((a.reverse.zip b.reverse).foldl (bitsF .plus) ([], [0])).1 = plusL (a.map rd) (b.map rd)
    unfold plusL
    rw [zip_rd]
    rw [show ([0] : List Int) = ways 48 from rfl, h]
  | less =>
    have h := fold_less _ [] 48 hz (.inl rfl)
    show [sgn ((a.reverse.zip b.reverse).foldl (bitsF .less) ([], [0])).2] = [lessL (a.map rd) (b.map rd)]
    unfold lessL
    rw [zip_rd, show ([0] : List Int) = ways 48 from rfl, h.1, (end_tab _ (c3_mem.1 h.2)).1]
  | same =>
    have h := fold_same _ [] 48 hz (.inl rfl)
    show [sgn (((a.reverse.zip b.reverse).foldl (bitsF .same) ([], [0])).2.map fun c => 1 - c)] = [notB (anyL ((a.map rd).zipWith xorB (b.map rd)))]
    rw [same_low (by simpa using hl) (by simpa using hl), zip_rd, show ([0] : List Int) = ways 48 from rfl, h.1, (end_tab _ (c3_mem.1 h.2)).2]

/-! ### by all fillings; lists of signs from the lowest up -/
def Fil : List Nat → Nat → Prop
  | [], x => x = 0
  | c :: l, x => ∃ b ∈ waysN c, ∃ y, Fil l y ∧ x = 2 * y + b
theorem waysN_ne (c : Nat) : ∃ b, b ∈ waysN c := by
  unfold waysN
  split
  · exact ⟨0, by simp⟩
  · split
    · exact ⟨1, by simp⟩
    · exact ⟨0, by simp⟩
theorem fil_ex : ∀ l : List Nat, ∃ x, Fil l x
  | [] => ⟨0, rfl⟩
  | c :: l => by
    obtain ⟨y, hy⟩ := fil_ex l
    obtain ⟨b, hb⟩ := waysN_ne c
    exact ⟨2 * y + b, b, hb, y, hy, rfl⟩
theorem fil_lt : ∀ (l : List Nat) (x : Nat), Fil l x → x < 2 ^ l.length
  | [], x, h => by
    have : x = 0 := h
    simp [this]
  | c :: l, x, h => by
    obtain ⟨b, hb, y, hy, rfl⟩ := h
    have := fil_lt l y hy
    have := waysN_le hb
    rw [List.length_cons, Nat.pow_succ]
    omega
theorem fil_rd : ∀ (l : List Nat) (x : Nat), (∀ c ∈ l, C4 c) → (Fil (l.map rd) x ↔ Fil l x)
  | [], x, _ => Iff.rfl
  | c :: l, x, h => by
    show (∃ b ∈ waysN (rd c), ∃ y, Fil (l.map rd) y ∧ x = 2 * y + b) ↔ ∃ b ∈ waysN c, ∃ y, Fil l y ∧ x = 2 * y + b
    rw [waysN_rd (h c (by simp))]
    have ih := fun y => fil_rd l y fun d hd => h d (by simp [hd])
    simp only [ih]
/-- both values' fillings, by pairs -/
def Fp (l : List (Nat × Nat)) (x y : Nat) : Prop := Fil (l.map (·.1)) x ∧ Fil (l.map (·.2)) y
theorem fp_cons {p : Nat × Nat} {l : List (Nat × Nat)} {x y : Nat} : Fp (p :: l) x y ↔ ∃ b1 ∈ waysN p.1, ∃ b2 ∈ waysN p.2, ∃ x' y', Fp l x' y' ∧ x = 2 * x' + b1 ∧ y = 2 * y' + b2 := by
  constructor
  · rintro ⟨⟨b1, h1, x', hx, rfl⟩, ⟨b2, h2, y', hy, rfl⟩⟩
    exact ⟨b1, h1, b2, h2, x', y', ⟨hx, hy⟩, rfl, rfl⟩
  · rintro ⟨b1, h1, b2, h2, x', y', ⟨hx, hy⟩, rfl, rfl⟩
    exact ⟨⟨b1, h1, x', hx, rfl⟩, ⟨b2, h2, y', hy, rfl⟩⟩
theorem fp_ex (l : List (Nat × Nat)) : ∃ x y, Fp l x y := by
  obtain ⟨x, hx⟩ := fil_ex (l.map (·.1))
  obtain ⟨y, hy⟩ := fil_ex (l.map (·.2))
  exact ⟨x, y, hx, hy⟩

/-! the three steps -/
theorem way_tab : ∀ p ∈ [48, 49, 120], ∀ q ∈ [48, 49, 120], ∀ c ∈ [48, 49, 120],
    (∀ b1 ∈ waysN p, ∀ b2 ∈ waysN q, ∀ d ∈ waysN c, (b1 + b2 + d) % 2 ∈ waysN (xorB (xorB p q) c) ∧ (b1 + b2 + d) / 2 ∈ waysN (mostB p q c) ∧
      (if b1 < b2 + d then 1 else 0) ∈ waysN (mostB (notB p) q c) ∧ (if d = 1 ∨ b1 ≠ b2 then 1 else 0) ∈ waysN (orB c (xorB p q))) ∧
    (∀ v ∈ waysN (xorB (xorB p q) c), ∃ b1 ∈ waysN p, ∃ b2 ∈ waysN q, ∃ d ∈ waysN c, v = (b1 + b2 + d) % 2) ∧
    (∀ v ∈ waysN (mostB p q c), ∃ b1 ∈ waysN p, ∃ b2 ∈ waysN q, ∃ d ∈ waysN c, v = (b1 + b2 + d) / 2) ∧
    (∀ v ∈ waysN (mostB (notB p) q c), ∃ b1 ∈ waysN p, ∃ b2 ∈ waysN q, ∃ d ∈ waysN c, v = if b1 < b2 + d then 1 else 0) ∧
    (∀ v ∈ waysN (orB c (xorB p q)), ∃ b1 ∈ waysN p, ∃ b2 ∈ waysN q, ∃ d ∈ waysN c, v = if d = 1 ∨ b1 ≠ b2 then 1 else 0) ∧
    mostB p q c ∈ [48, 49, 120] ∧ mostB (notB p) q c ∈ [48, 49, 120] ∧ orB c (xorB p q) ∈ [48, 49, 120] := by decide +kernel
def P3 (l : List (Nat × Nat)) : Prop := ∀ p ∈ l, C3 p.1 ∧ C3 p.2
/-- the sum's signs from the lowest up -/
def sumS : List (Nat × Nat) → Nat → List Nat
  | [], _ => []
  | p :: l, c => xorB (xorB p.1 p.2) c :: sumS l (mostB p.1 p.2 c)
theorem sumS_len : ∀ (l : List (Nat × Nat)) (c : Nat), (sumS l c).length = l.length
  | [], _ => rfl
  | p :: l, c => congrArg (· + 1) (sumS_len l _)
theorem sumS_fold : ∀ (l : List (Nat × Nat)) (f : List Nat) (c : Nat), (l.foldl plusF (f, c)).1 = (sumS l c).reverse ++ f
  | [], f, c => rfl
  | p :: l, f, c => by
    show (l.foldl plusF (xorB (xorB p.1 p.2) c :: f, mostB p.1 p.2 c)).1 = (xorB (xorB p.1 p.2) c :: sumS l (mostB p.1 p.2 c)).reverse ++ f
    rw [sumS_fold l, List.reverse_cons, List.append_assoc]
    rfl
theorem sumS_c3 : ∀ (l : List (Nat × Nat)) (c : Nat), ∀ s ∈ sumS l c, C3 s
  | [], _, s, h => by simp [sumS] at h
  | p :: l, c, s, h => by
    rcases List.mem_cons.mp h with e | h
    · rw [e]; exact xorB_c3 _ _
    · exact sumS_c3 l _ s h
theorem sum_ways : ∀ (l : List (Nat × Nat)) (c k s : Nat), P3 l → C3 c → (sumS l c)[k]? = some s →
    ∀ v, v ∈ waysN s ↔ ∃ x y d, Fp l x y ∧ d ∈ waysN c ∧ v = (x + y + d) / 2 ^ k % 2
  | [], c, k, s, _, _, h => by simp [sumS] at h
  | p :: l, c, 0, s, hl, hc, h => by
    intro v
    have e : xorB (xorB p.1 p.2) c = s := by simpa [sumS] using h
    subst e
    obtain ⟨h1, h2⟩ := hl p (by simp)
    obtain ⟨t, t1, _⟩ := way_tab p.1 (c3_mem.1 h1) p.2 (c3_mem.1 h2) c (c3_mem.1 hc)
    constructor
    · intro hv
      obtain ⟨b1, m1, b2, m2, d, md, rfl⟩ := t1 v hv
      obtain ⟨x, y, hxy⟩ := fp_ex l
      refine ⟨2 * x + b1, 2 * y + b2, d, fp_cons.2 ⟨b1, m1, b2, m2, x, y, hxy, rfl, rfl⟩, md, ?_⟩
      rw [Nat.pow_zero, Nat.div_one]
      omega
    · rintro ⟨x, y, d, hf, md, rfl⟩
      obtain ⟨b1, m1, b2, m2, x', y', _, rfl, rfl⟩ := fp_cons.1 hf
      have := (t b1 m1 b2 m2 d md).1
      rw [Nat.pow_zero, Nat.div_one, show (2 * x' + b1 + (2 * y' + b2) + d) % 2 = (b1 + b2 + d) % 2 by omega]
      exact this
  | p :: l, c, k + 1, s, hl, hc, h => by
    intro v
    have e : (sumS l (mostB p.1 p.2 c))[k]? = some s := by simpa [sumS] using h
    obtain ⟨h1, h2⟩ := hl p (by simp)
    obtain ⟨t, _, t1, _, _, t2, _⟩ := way_tab p.1 (c3_mem.1 h1) p.2 (c3_mem.1 h2) c (c3_mem.1 hc)
    rw [sum_ways l _ k s (fun q hq => hl q (by simp [hq])) (c3_mem.2 t2) e v]
    have half : ∀ x' y' b1 b2 d : Nat, (2 * x' + b1 + (2 * y' + b2) + d) / 2 ^ (k + 1) % 2 = (x' + y' + (b1 + b2 + d) / 2) / 2 ^ k % 2 := by
      intro x' y' b1 b2 d
      rw [show 2 ^ (k + 1) = 2 * 2 ^ k by rw [Nat.pow_succ, Nat.mul_comm], ← Nat.div_div_eq_div_mul, show (2 * x' + b1 + (2 * y' + b2) + d) / 2 = x' + y' + (b1 + b2 + d) / 2 by omega]
    constructor
    · rintro ⟨x', y', d', hf, md', rfl⟩
      obtain ⟨b1, m1, b2, m2, d, md, e9⟩ := t1 d' md'
      subst e9
      exact ⟨2 * x' + b1, 2 * y' + b2, d, fp_cons.2 ⟨b1, m1, b2, m2, x', y', hf, rfl, rfl⟩, md, (half ..).symm⟩
    · rintro ⟨x, y, d, hf, md, rfl⟩
      obtain ⟨b1, m1, b2, m2, x', y', hf', rfl, rfl⟩ := fp_cons.1 hf
      exact ⟨x', y', (b1 + b2 + d) / 2, hf', (t b1 m1 b2 m2 d md).2.1, half ..⟩
theorem fp_nil {x y : Nat} : Fp [] x y ↔ x = 0 ∧ y = 0 := Iff.rfl
theorem less_ways : ∀ (l : List (Nat × Nat)) (c : Nat), P3 l → C3 c → C3 (l.foldl lessF c) ∧
    ∀ v, v ∈ waysN (l.foldl lessF c) ↔ ∃ x y d, Fp l x y ∧ d ∈ waysN c ∧ v = if x < y + d then 1 else 0
  | [], c, _, hc => by
    refine ⟨hc, fun v => ?_⟩
    show v ∈ waysN c ↔ _
    constructor
    · intro hv
      refine ⟨0, 0, v, fp_nil.2 ⟨rfl, rfl⟩, hv, ?_⟩
      rcases waysN_le hv with e | e <;> subst e <;> rfl
    · rintro ⟨x, y, d, hf, md, rfl⟩
      obtain ⟨rfl, rfl⟩ := fp_nil.1 hf
      rcases waysN_le md with e | e <;> subst e <;> simpa using md
  | p :: l, c, hl, hc => by
    obtain ⟨h1, h2⟩ := hl p (by simp)
    obtain ⟨t, _, _, t1, _, _, t2, _⟩ := way_tab p.1 (c3_mem.1 h1) p.2 (c3_mem.1 h2) c (c3_mem.1 hc)
    obtain ⟨i1, i2⟩ := less_ways l (lessF c p) (fun q hq => hl q (by simp [hq])) (c3_mem.2 t2)
    refine ⟨i1, fun v => ?_⟩
    rw [List.foldl_cons, i2 v]
    have key : ∀ x' y' b1 b2 d : Nat, (b1 = 0 ∨ b1 = 1) → (b2 = 0 ∨ b2 = 1) → (d = 0 ∨ d = 1) →
        (if 2 * x' + b1 < 2 * y' + b2 + d then 1 else 0) = if x' < y' + (if b1 < b2 + d then 1 else 0) then 1 else 0 := by
      intro x' y' b1 b2 d h1 h2 h3
      (repeat' split) <;> omega
    constructor
    · rintro ⟨x', y', d', hf, md', rfl⟩
      obtain ⟨b1, m1, b2, m2, d, md, e9⟩ := t1 d' md'
      subst e9
      exact ⟨2 * x' + b1, 2 * y' + b2, d, fp_cons.2 ⟨b1, m1, b2, m2, x', y', hf, rfl, rfl⟩, md, (key _ _ _ _ _ (waysN_le m1) (waysN_le m2) (waysN_le md)).symm⟩
    · rintro ⟨x, y, d, hf, md, rfl⟩
      obtain ⟨b1, m1, b2, m2, x', y', hf', rfl, rfl⟩ := fp_cons.1 hf
      exact ⟨x', y', _, hf', (t b1 m1 b2 m2 d md).2.2.1, key _ _ _ _ _ (waysN_le m1) (waysN_le m2) (waysN_le md)⟩
theorem same_ways : ∀ (l : List (Nat × Nat)) (c : Nat), P3 l → C3 c → C3 (l.foldl sameF c) ∧
    ∀ v, v ∈ waysN (l.foldl sameF c) ↔ ∃ x y d, Fp l x y ∧ d ∈ waysN c ∧ v = if d = 1 ∨ x ≠ y then 1 else 0
  | [], c, _, hc => by
    refine ⟨hc, fun v => ?_⟩
    show v ∈ waysN c ↔ _
    constructor
    · intro hv
      refine ⟨0, 0, v, fp_nil.2 ⟨rfl, rfl⟩, hv, ?_⟩
      rcases waysN_le hv with e | e <;> subst e <;> rfl
    · rintro ⟨x, y, d, hf, md, rfl⟩
      obtain ⟨rfl, rfl⟩ := fp_nil.1 hf
      rcases waysN_le md with e | e <;> subst e <;> simpa using md
  | p :: l, c, hl, hc => by
    obtain ⟨h1, h2⟩ := hl p (by simp)
    obtain ⟨t, _, _, _, t1, _, _, t2⟩ := way_tab p.1 (c3_mem.1 h1) p.2 (c3_mem.1 h2) c (c3_mem.1 hc)
    obtain ⟨i1, i2⟩ := same_ways l (sameF c p) (fun q hq => hl q (by simp [hq])) (c3_mem.2 t2)
    refine ⟨i1, fun v => ?_⟩
    rw [List.foldl_cons, i2 v]
    have key : ∀ x' y' b1 b2 d : Nat, (b1 = 0 ∨ b1 = 1) → (b2 = 0 ∨ b2 = 1) → (d = 0 ∨ d = 1) →
        (if d = 1 ∨ 2 * x' + b1 ≠ 2 * y' + b2 then 1 else 0) = if (if d = 1 ∨ b1 ≠ b2 then 1 else 0) = 1 ∨ x' ≠ y' then 1 else 0 := by
      intro x' y' b1 b2 d h1 h2 h3
      (repeat' split) <;> omega
    constructor
    · rintro ⟨x', y', d', hf, md', rfl⟩
      obtain ⟨b1, m1, b2, m2, d, md, e9⟩ := t1 d' md'
      subst e9
      exact ⟨2 * x' + b1, 2 * y' + b2, d, fp_cons.2 ⟨b1, m1, b2, m2, x', y', hf, rfl, rfl⟩, md, (key _ _ _ _ _ (waysN_le m1) (waysN_le m2) (waysN_le md)).symm⟩
    · rintro ⟨x, y, d, hf, md, rfl⟩
      obtain ⟨b1, m1, b2, m2, x', y', hf', rfl, rfl⟩ := fp_cons.1 hf
      exact ⟨x', y', _, hf', (t b1 m1 b2 m2 d md).2.2.2, key _ _ _ _ _ (waysN_le m1) (waysN_le m2) (waysN_le md)⟩

/-! ### the bits that all numbers share -/
def bitSg (ms : List Nat) (k : Nat) : Nat := if ∀ m ∈ ms, m / 2 ^ k % 2 = 1 then 49 else if ∀ m ∈ ms, m / 2 ^ k % 2 = 0 then 48 else 120
/-- the highest first -/
def bitsT (ms : List Nat) (w : Nat) : List Nat := ((List.range w).map (bitSg ms)).reverse
theorem bitSg_of {ms : List Nat} {k s : Nat} (hs : C3 s) (h : ∀ v, v ∈ waysN s ↔ ∃ m ∈ ms, v = m / 2 ^ k % 2) : bitSg ms k = s := by
  unfold bitSg
  rcases hs with e | e | e <;> subst e
  · have h0 : ∀ m ∈ ms, m / 2 ^ k % 2 = 0 := fun m hm => by
      have := (h (m / 2 ^ k % 2)).2 ⟨m, hm, rfl⟩
      simpa [waysN] using this
    obtain ⟨m, hm, _⟩ := (h 0).1 (by simp [waysN])
    rw [if_neg fun z => by have := z m hm; have := h0 m hm; omega, if_pos h0]
  · have h0 : ∀ m ∈ ms, m / 2 ^ k % 2 = 1 := fun m hm => by
      have := (h (m / 2 ^ k % 2)).2 ⟨m, hm, rfl⟩
      simpa [waysN] using this
    rw [if_pos h0]
  · obtain ⟨m, hm, e0⟩ := (h 0).1 (by simp [waysN])
    obtain ⟨m', hm', e1⟩ := (h 1).1 (by simp [waysN])
    rw [if_neg fun z => by have := z m hm; omega, if_neg fun z => by have := z m' hm'; omega]
theorem mod_bit {m w k : Nat} (h : k < w) : m % 2 ^ w / 2 ^ k % 2 = m / 2 ^ k % 2 := by
  have e := Nat.testBit_mod_two_pow m w k
  rw [Nat.testBit_eq_decide_div_mod_eq, Nat.testBit_eq_decide_div_mod_eq] at e
  simp only [h, decide_true, Bool.true_and, decide_eq_decide] at e
  omega
/-- what the list of all results holds -/
def dueV (w : Wd) (n x y : Nat) : Nat := match w with
  | .plus => (x + y) % 2 ^ n
  | .same => if x = y then 1 else 0
  | .less => if x < y then 1 else 0
def DueAt (w : Wd) (l : List (Nat × Nat)) (m : Nat) : Prop := ∃ x y, Fp l x y ∧ m = dueV w l.length x y
def lowOp (w : Wd) (l : List (Nat × Nat)) : List Nat := match w with
  | .plus => (l.foldl plusF ([], 48)).1
  | .same => [notB (l.foldl sameF 48)]
  | .less => [l.foldl lessF 48]
/-- how many bits are asked -/
def dueW : Wd → Nat → Nat
  | .plus, n => n
  | _, _ => 1
theorem P3.of {l : List (Nat × Nat)} (h : ∀ p ∈ l, C4 p.1 ∧ C4 p.2) : P3 (l.map rd2) := fun p hp => by
  obtain ⟨q, hq, rfl⟩ := List.mem_map.mp hp
  exact ⟨rd_c3 (h q hq).1, rd_c3 (h q hq).2⟩
theorem fp_rd {l : List (Nat × Nat)} (h : ∀ p ∈ l, C4 p.1 ∧ C4 p.2) (x y : Nat) : Fp (l.map rd2) x y ↔ Fp l x y := by
  have e1 : (l.map rd2).map (·.1) = (l.map (·.1)).map rd := by simp [rd2]
  have e2 : (l.map rd2).map (·.2) = (l.map (·.2)).map rd := by simp [rd2]
  unfold Fp
  rw [e1, e2, fil_rd _ _ fun c hc => ?_, fil_rd _ _ fun c hc => ?_]
  · obtain ⟨q, hq, rfl⟩ := List.mem_map.mp hc
    exact (h q hq).2
  · obtain ⟨q, hq, rfl⟩ := List.mem_map.mp hc
    exact (h q hq).1
theorem due_low (w : Wd) {l : List (Nat × Nat)} {ms : List Nat} (h : ∀ p ∈ l, C4 p.1 ∧ C4 p.2) (hm : ∀ m, m ∈ ms ↔ DueAt w l m) :
    bitsT ms (dueW w l.length) = lowOp w (l.map rd2) := by
  have hp := P3.of h
  have w48 : ∀ d, d ∈ waysN 48 ↔ d = 0 := fun d => by simp [waysN]
  cases w with
  | plus =>
    show bitsT ms l.length = ((l.map rd2).foldl plusF ([], 48)).1
    rw [sumS_fold, List.append_nil]
    unfold bitsT
    congr 1
    apply List.ext_getElem
    · rw [List.length_map, List.length_range, sumS_len, List.length_map]
    · intro k h1 h2
      rw [List.getElem_map, List.getElem_range]
      have hk : k < l.length := by simpa using h1
      refine bitSg_of (sumS_c3 _ _ _ (List.getElem_mem h2)) fun v => ?_
      rw [sum_ways (l.map rd2) 48 k _ hp (.inl rfl) (List.getElem?_eq_getElem h2) v]
      constructor
      · rintro ⟨x, y, d, hf, md, rfl⟩
        have := (w48 d).1 md
        subst this
        exact ⟨(x + y) % 2 ^ l.length, (hm _).2 ⟨x, y, (fp_rd h x y).1 hf, rfl⟩, by rw [mod_bit hk, Nat.add_zero]⟩
      · rintro ⟨m, hmm, rfl⟩
        obtain ⟨x, y, hf, e⟩ := (hm m).1 hmm
        have e : m = (x + y) % 2 ^ l.length := e
        exact ⟨x, y, 0, (fp_rd h x y).2 hf, (w48 0).2 rfl, by rw [e, mod_bit hk, Nat.add_zero]⟩
  | less =>
    obtain ⟨c3, hw⟩ := less_ways (l.map rd2) 48 hp (.inl rfl)
    show bitsT ms 1 = [(l.map rd2).foldl lessF 48]
    show [bitSg ms 0] = _
    rw [bitSg_of c3 fun v => ?_]
    rw [hw v]
    constructor
    · rintro ⟨x, y, d, hf, md, rfl⟩
      have := (w48 d).1 md
      subst this
      refine ⟨if x < y then 1 else 0, (hm _).2 ⟨x, y, (fp_rd h x y).1 hf, rfl⟩, ?_⟩
      rw [Nat.add_zero]
      split <;> simp
    · rintro ⟨m, hmm, rfl⟩
      obtain ⟨x, y, hf, e⟩ := (hm m).1 hmm
      have e : m = if x < y then 1 else 0 := e
      refine ⟨x, y, 0, (fp_rd h x y).2 hf, (w48 0).2 rfl, ?_⟩
      rw [e, Nat.add_zero]
      split <;> simp
  | same =>
    obtain ⟨c3, hw⟩ := same_ways (l.map rd2) 48 hp (.inl rfl)
    show bitsT ms 1 = [notB ((l.map rd2).foldl sameF 48)]
    show [bitSg ms 0] = _
    have nt : ∀ c ∈ [48, 49, 120], notB c ∈ [48, 49, 120] ∧ (∀ v ∈ waysN (notB c), 1 - v ∈ waysN c ∧ v ≤ 1) ∧ ∀ v ∈ waysN c, 1 - v ∈ waysN (notB c) := by decide
    obtain ⟨n1, n2, n3⟩ := nt _ (c3_mem.1 c3)
    rw [bitSg_of (c3_mem.2 n1) fun v => ?_]
    constructor
    · intro hv
      obtain ⟨k1, k2⟩ := n2 v hv
      obtain ⟨x, y, d, hf, md, e⟩ := (hw _).1 k1
      have := (w48 d).1 md
      subst this
      refine ⟨if x = y then 1 else 0, (hm _).2 ⟨x, y, (fp_rd h x y).1 hf, rfl⟩, ?_⟩
      by_cases exy : x = y
      · rw [if_pos exy]
        rw [if_neg (by simp [exy])] at e
        simp; omega
      · rw [if_neg exy]
        rw [if_pos (.inr exy)] at e
        simp; omega
    · rintro ⟨m, hmm, rfl⟩
      obtain ⟨x, y, hf, e⟩ := (hm m).1 hmm
      have e : m = if x = y then 1 else 0 := e
      have k := n3 _ ((hw (if (0 : Nat) = 1 ∨ x ≠ y then 1 else 0)).2 ⟨x, y, 0, (fp_rd h x y).2 hf, (w48 0).2 rfl, rfl⟩)
      by_cases exy : x = y
      · rw [if_neg (by simp [exy])] at k
        rw [e, if_pos exy]
        simpa using k
      · rw [if_pos (.inr exy)] at k
        rw [e, if_neg exy]
        simpa using k

/-- THE SECOND READING -/
theorem due_eq (w : Wd) {a b ms : List Nat} (hl : a.length = b.length) (ha : ∀ c ∈ a, C4 c) (hb : ∀ c ∈ b, C4 c)
    (hm : ∀ m, m ∈ ms ↔ ∃ x y, Fil a.reverse x ∧ Fil b.reverse y ∧ m = dueV w a.length x y) : bitsT ms (dueW w a.length) = opL w (a.map rd) (b.map rd) := by
  have hz := zip_c4 ha hb
  have hlr : a.reverse.length = b.reverse.length := by simpa using hl
  have e1 : (a.reverse.zip b.reverse).map (·.1) = a.reverse := by
    rw [List.map_fst_zip (by omega)]
  have e2 : (a.reverse.zip b.reverse).map (·.2) = b.reverse := by
    rw [List.map_snd_zip (by omega)]
  have el : (a.reverse.zip b.reverse).length = a.length := by
    rw [List.length_zip]
    simp; omega
  have h := due_low w (l := a.reverse.zip b.reverse) (ms := ms) hz fun m => by
    rw [hm m]
    unfold DueAt Fp
    rw [e1, e2, el]
    constructor
    · rintro ⟨x, y, h1, h2, h3⟩; exact ⟨x, y, ⟨h1, h2⟩, h3⟩
    · rintro ⟨x, y, ⟨h1, h2⟩, h3⟩; exact ⟨x, y, h1, h2, h3⟩
  rw [el] at h
  rw [h]
  cases w with
  | plus =>
    show ((List.map rd2 (a.reverse.zip b.reverse)).foldl plusF ([], 48)).1 = plusL (a.map rd) (b.map rd)
    unfold plusL
    rw [zip_rd]
  | less =>
    show [(List.map rd2 (a.reverse.zip b.reverse)).foldl lessF 48] = [lessL (a.map rd) (b.map rd)]
    unfold lessL
    rw [zip_rd]
  | same =>
    show [notB ((List.map rd2 (a.reverse.zip b.reverse)).foldl sameF 48)] = [notB (anyL ((a.map rd).zipWith xorB (b.map rd)))]
    rw [same_low (by simpa using hl) (by simpa using hl), zip_rd]
end Mth
/-! Rules that the layer lacks: zip of two texts, text[::-1], first, *others = list, sum of a tuple, sorted(set(list of ints)). -/
namespace R16
open PySem PySem.Spec PyProof.Rows L2

/-! ### zip of two texts -/
def ItzS (x y : Str) : It :=
  ⟨fun i _ => i < min x.cps.size y.cps.size,
    fun i H v H' => ∃ T c d, v = .ref T ∧ H T = none ∧ H' = upd H T (.tup [.str ⟨#[c]⟩, .str ⟨#[d]⟩]) ∧ x.cps[i]? = some c ∧ y.cps[i]? = some d,
    fun i _ => i = min x.cps.size y.cps.size⟩
theorem turn_zipS {P : Program} {w : World} {K : PySem.W.Frag} {elts : List Expr} {kk : Nat} {tpos : Pos} {x y : Str} {t u : Tok} {z TI TO i1 i2 : Addr} (S : ZipSep2 z TI TO i1 i2 [i1] [i2]) :
    Turn P w K (.Tuple elts kk tpos) (ItzS x y) [z, TI, TO, i1, i2] z
      (fun i h => IsZip h z TI TO .none ∧ IsTupOf2 h TI (.ref i1) (.ref i2) ∧ (∃ a1 a2, IsTupOf2 h TO a1 a2) ∧ h.IsStrIter i1 (strIterType x) x t i ∧ h.IsStrIter i2 (strIterType y) y u i) where
  mem := by simp
  obj := fun i h st c hc => by
    obtain ⟨hz, hTI, ⟨a, b, hTO⟩, ⟨o1, e1, _, d1⟩, ⟨o2, e2, _, d2⟩⟩ := st
    have e' : c = z ∨ c = TI ∨ c = TO ∨ c = i1 ∨ c = i2 := by simpa using hc
    rcases e' with q | q | q | q | q
    · rw [q]; exact ⟨_, hz, fun v q => nomatch q⟩
    · rw [q]; exact ⟨_, hTI, fun v q => nomatch q⟩
    · rw [q]; exact ⟨_, hTO, fun v q => nomatch q⟩
    · rw [q]; exact ⟨o1, e1, fun v q => by rw [d1] at q; cases q⟩
    · rw [q]; exact ⟨o2, e2, fun v q => by rw [d2] at q; cases q⟩
  keep := fun i h h' st k => by
    obtain ⟨hz, hTI, ⟨a, b, hTO⟩, ⟨o1, e1, r1⟩, ⟨o2, e2, r2⟩⟩ := st
    exact ⟨k z (by simp) _ hz, k TI (by simp) _ hTI, ⟨a, b, k TO (by simp) _ hTO⟩, ⟨o1, k i1 (by simp) _ e1, r1⟩, ⟨o2, k i2 (by simp) _ e2, r2⟩⟩
  item := by
    intro X hP hw hK hc i pins s σ H E I hf st hg
    subst hP hw hK
    have hh : X.A.in1.handled = none := I.ok.hd hc
    have W := GoesN.zip2 (prog := X.prog) (w := X.w) (A := X.A) (elts := elts) (x1 := kk) (pos := tpos) S (Draws.text hh i1 x t) (Draws.text hh i2 y u)
    have hlt : ∀ b ∈ [z, TI, TO, i1, i2], b < s.heap.objs.size := fun b hb => by
      obtain ⟨hz, hTI, ⟨a, c, hTO⟩, ⟨o1, e1, _⟩, ⟨o2, e2, _⟩⟩ := st
      have e' : b = z ∨ b = TI ∨ b = TO ∨ b = i1 ∨ b = i2 := by simpa using hb
      rcases e' with q | q | q | q | q
      · rw [q]; exact Heap.lt_size hz
      · rw [q]; exact Heap.lt_size hTI
      · rw [q]; exact Heap.lt_size hTO
      · rw [q]; exact Heap.lt_size e1
      · rw [q]; exact Heap.lt_size e2
    refine W.goes i s _ E hg st fun v h' tk hY st' hk _ => ?_
    obtain ⟨T, v1, v2, rfl, hT, ⟨c, u1, hc1, rfl⟩, ⟨d, u2, hd1, rfl⟩, hIs⟩ := hY
    have hn : H T = none := I.hok.fresh hT
    have new : ObjOk X.prog X.w (upd H T (.tup [.str ⟨#[c]⟩, .str ⟨#[d]⟩])) h' T (.tup [.str ⟨#[c]⟩, .str ⟨#[d]⟩]) :=
      ⟨by show 2 ≤ sizeLine; decide, [.str ⟨#[c]⟩ u1, .str ⟨#[d]⟩ u2], .cons ⟨_, rfl⟩ (.cons ⟨_, rfl⟩ .nil), hIs⟩
    have I1 : Inv X pins σ (upd H T (.tup [.str ⟨#[c]⟩, .str ⟨#[d]⟩])) { s with heap := h', toks := tk } :=
      I.turnedNew (ch := [z, TO, i1, i2]) hk (fun b hb => hf b (by
        have e' : b = z ∨ b = TO ∨ b = i1 ∨ b = i2 := by simpa using hb
        rcases e' with q | q | q | q <;> simp [q])) hT new
    refine ⟨.ref T, _, I1, rfl, ⟨T, c, d, rfl, hn, rfl, hc1, hd1⟩, st', fun b hb => ?_⟩
    rw [upd_ne (Nat.ne_of_lt (Nat.lt_of_lt_of_le (hlt b hb) hT))]
    exact (hf b hb).1
  done := by
    intro X hP hw hK hc i pins s σ H E I hf st hg
    subst hP hw hK
    have hh : X.A.in1.handled = none := I.ok.hd hc
    have W := GoesN.zip2 (prog := X.prog) (w := X.w) (A := X.A) (elts := elts) (x1 := kk) (pos := tpos) S (Draws.text hh i1 x t) (Draws.text hh i2 y u)
    have e : i = min x.cps.size y.cps.size := hg
    subst e
    exact W.stops s (fun s1 => Inv X pins σ H s1) E st fun h' tk hk _ => I.turnedL (ch := [z, TO, i1, i2]) hk fun b hb => hf b (by
      have e' : b = z ∨ b = TO ∨ b = i1 ∨ b = i2 := by simpa using hb
      rcases e' with q | q | q | q <;> simp [q])
  self := fun _ _ _ _ _ st h => wpAny_pyIter_zip st.1 h

def iZipS (ta : TA) : TI := fun σ H R => ta σ H fun vs H1 => ∃ x y, vs = [.str x, .str y] ∧ R (ItzS x y) H1
theorem pi_zipS {X : Cx} {e e2 : Expr} {ta : TA} {p pos tpos : Pos} {elts : List Expr} {kk : Nat} (hg : Gl X "zip") (hm : X.mg "zip" = none) (ha : PA X [e, e2] ta)
    (hs : starEach [e, e2] X.env = (false, eval e X.env) :: starEach [e2] X.env := by rfl) (hpl : (backTo pos (starEach [e2] X.env)).any (·.1) = false := by rfl) :
    PI X (.Tuple elts kk tpos) (.Call (.Name "zip" p) [e, e2] [] pos) (iZipS ta) := by
  refine ⟨fun pins s σ H R I h => ?_⟩
  refine Call_ (ld_blt I hg hm PyProof.Rows.boot_zip (PyProof.Rows.callWith_type1 (thn (ha.run pos pins s σ H _ I h) fun us s1 ⟨vs, H1, I1, r1, q1⟩ => ?_) hs hpl))
  obtain ⟨x, y, ex, q⟩ := q1
  subst ex
  obtain ⟨v1, v2, rfl, ⟨t, rfl⟩, ⟨u, rfl⟩⟩ := vals2 r1
  refine zip_begins2 (begins_text x t) (begins_text y u) trivial trivial fun h' hz hTI hTO h1 h2 hsz hk => wpAny_pyIter_zip hz ?_
  have I2 : Inv X pins σ H1 { s1 with heap := h' } := I1.kept (t' := s1.toks) hk
  refine ⟨s1.heap.objs.size + 4, [s1.heap.objs.size + 4, s1.heap.objs.size + 2, s1.heap.objs.size + 3, s1.heap.objs.size, s1.heap.objs.size + 1], _, _, H1, rfl, I2,
    turn_zipS (x := x) (y := y) (t := t) (u := u) (zip_sep2 (N := s1.heap.objs.size) (fp1 := []) (fp2 := []) (fun _ z => nomatch z) (fun _ z => nomatch z)), ⟨hz, hTI, ⟨_, _, hTO⟩, ⟨_, h1, rfl, rfl⟩, ⟨_, h2, rfl, rfl⟩⟩, fun c hcm => ?_, q⟩
  have e' : c = s1.heap.objs.size + 4 ∨ c = s1.heap.objs.size + 2 ∨ c = s1.heap.objs.size + 3 ∨ c = s1.heap.objs.size ∨ c = s1.heap.objs.size + 1 := by simpa using hcm
  have hle : s1.heap.objs.size ≤ c := by
    rcases e' with z | z | z | z | z
    · rw [z]; exact Nat.le_add_right _ _
    · rw [z]; exact Nat.le_add_right _ _
    · rw [z]; exact Nat.le_add_right _ _
    · rw [z]; exact Nat.le_refl _
    · rw [z]; exact Nat.le_add_right _ _
  exact I1.fpOk hle (I1.hok.fresh hle)
/-- a for over it -/
theorem for_zipS {x y : Str} {g : TG} {tb : TS} {D : Ends} {σ : L2.St} {H : Hp} (hl : x.cps.size = y.cps.size) (Pv : Nat → L2.St → Hp → Prop) (h0 : Pv 0 σ H)
    (hs : ∀ (i c d : Nat) (T : Addr) (σ : L2.St) (H : Hp), x.cps[i]? = some c → y.cps[i]? = some d → Pv i σ H → H T = none →
      g (.ref T) σ (upd H T (.tup [.str ⟨#[c]⟩, .str ⟨#[d]⟩])) fun σ2 H2 => tb { D with nx := Pv (i + 1), ct := Pv (i + 1), bk := D.nx } σ2 H2) (hd : ∀ σ H, Pv x.cps.size σ H → D.nx σ H) :
    ∃ W : Nat → Nat → L2.St → Hp → Prop, (∃ m, W 0 m σ H) ∧ ∀ i m σ H, W i m σ H →
      ((ItzS x y).stop i H ∧ D.nx σ H) ∨ ((ItzS x y).go i H ∧ ∃ N : L2.St → Hp → Prop, (∀ σ' H', N σ' H' → ∃ m', m' < m ∧ W (i + 1) m' σ' H') ∧ ∀ v H', (ItzS x y).yld i H v H' → g v σ H' fun σ2 H2 => tb { D with nx := N, ct := N, bk := D.nx } σ2 H2) := by
  have en : min x.cps.size y.cps.size = x.cps.size := by omega
  refine ⟨fun i m σ H => m = x.cps.size - i ∧ i ≤ x.cps.size ∧ Pv i σ H, ⟨x.cps.size, rfl, Nat.zero_le _, h0⟩, ?_⟩
  rintro i m σ H ⟨rfl, hi, p⟩
  by_cases hlt : i < x.cps.size
  · refine .inr ⟨by show i < min _ _; omega, Pv (i + 1), fun σ' H' p' => ⟨x.cps.size - (i + 1), by omega, rfl, hlt, p'⟩, fun v H' yv => ?_⟩
    obtain ⟨T, c, d, rfl, hT, rfl, f1, f2⟩ := yv
    exact hs i c d T σ H f1 f2 p hT
  · have e : i = x.cps.size := by omega
    subst e
    exact .inl ⟨en.symm, hd σ H p⟩
/-- a comprehension over it -/
theorem lc_zipS {x y : Str} {g : TG} {tt : TT} {te : TE} {vs : List Nat} {σ : L2.St} {H1 : Hp} {D : Addr} {Qd : Hp → Prop} (hl : x.cps.size = y.cps.size) (Pv : Nat → Hp → Prop) (h0 : Pv 0 (upd H1 D (.lst [])))
    (hs : ∀ (i c d : Nat) (T : Addr) (H : Hp), x.cps[i]? = some c → y.cps[i]? = some d → Pv i H → H T = none → g (.ref T) (wipe σ vs) (upd H T (.tup [.str ⟨#[c]⟩, .str ⟨#[d]⟩])) fun σ2 H2 => wipe σ2 vs = wipe σ vs ∧ tt σ2 H2 fun b H3 =>
      if b = true then te σ2 H3 fun y H4 => ∃ acc, H4 D = some (.lst acc) ∧ acc.length < sizeLine ∧ Pv (i + 1) (upd H4 D (.lst (acc ++ [y]))) else Pv (i + 1) H3) (hd : ∀ H, Pv x.cps.size H → Qd H) :
    ∃ W : Nat → Nat → Hp → Prop, (∃ m, W 0 m (upd H1 D (.lst []))) ∧ ∀ i m H, W i m H →
      ((ItzS x y).stop i H ∧ Qd H) ∨ ((ItzS x y).go i H ∧ ∃ Nx : Hp → Prop, (∀ H', Nx H' → ∃ m', m' < m ∧ W (i + 1) m' H') ∧ ∀ x' H', (ItzS x y).yld i H x' H' → g x' (wipe σ vs) H' fun σ2 H2 => wipe σ2 vs = wipe σ vs ∧ tt σ2 H2 fun b H3 =>
        if b = true then te σ2 H3 fun y H4 => ∃ acc, H4 D = some (.lst acc) ∧ acc.length < sizeLine ∧ Nx (upd H4 D (.lst (acc ++ [y]))) else Nx H3) := by
  have en : min x.cps.size y.cps.size = x.cps.size := by omega
  refine ⟨fun i m H => m = x.cps.size - i ∧ i ≤ x.cps.size ∧ Pv i H, ⟨x.cps.size, rfl, Nat.zero_le _, h0⟩, ?_⟩
  rintro i m H ⟨rfl, hi, p⟩
  by_cases hlt : i < x.cps.size
  · refine .inr ⟨by show i < min _ _; omega, Pv (i + 1), fun H' p' => ⟨x.cps.size - (i + 1), by omega, rfl, hlt, p'⟩, fun v H' yv => ?_⟩
    obtain ⟨T, c, d, rfl, hT, rfl, f1, f2⟩ := yv
    exact hs i c d T H f1 f2 p hT
  · have e : i = x.cps.size := by omega
    subst e
    exact .inl ⟨en.symm, hd H p⟩

/-! ### text[::-1] -/
theorem krv_str (z : Str) : (Builtin.Str.strSliceIndices none none (-1) z.length).filterMap (z.cps[·]?) = z.cps.toList.reverse := by
  show (sliceRange ((z.length : Int) - 1) (-1) (-1)).filterMap (z.cps[·]?) = _
  rw [PySem.W.krv_sliceRange, PySem.W.krv_range, List.filterMap_reverse]
  exact congrArg List.reverse (PySem.W.krv_all z.cps)
def tRevS (te : TE) : TE := fun σ H Q => te σ H fun x H1 => ∃ z, x = .str z ∧ z.length ≤ sizeLine ∧ Q (.str ⟨z.cps.toList.reverse.toArray⟩) H1
theorem pe_revS {X : Cx} {e : Expr} {te : TE} {k : Nat} {p1 p2 p3 pos : Pos} (he : PE X e te) : PE X (.Subscript e (.Slice none none (some (.UnaryOp .USub (.Constant (.int 1) k p1) p2)) p3) pos) (tRevS te) := by
  refine ⟨fun pins s σ H Q I h => ?_⟩
  refine Subscript_ (thn (he.run pins s σ H _ I h) fun v s1 ⟨x, H1, I1, r1, q1⟩ => ?_)
  obtain ⟨z, ex, hz, q⟩ := q1
  subst ex
  obtain ⟨t, rfl⟩ := r1
  have hst : PO X (some (.UnaryOp .USub (.Constant (.int 1) k p1) p2)) (tPart (tUn (rU fun i => .int (-i)) (tC (.int 1)))) := po_some (pe_un un_neg pe_int)
  refine wpAny_Slice (thn (po_none.run pins s1 σ H1 (fun o H2 => o = none ∧ H2 = H1) I1 ⟨rfl, rfl⟩) fun vl s2 ⟨l, H2, I2, pl, el, e2⟩ => ?_)
  subst el e2
  refine thn (po_none.run pins s2 σ H2 (fun o H3 => o = none ∧ H3 = H2) I2 ⟨rfl, rfl⟩) fun vu s3 ⟨u, H3, I3, pu, eu, e3⟩ => ?_
  subst eu e3
  refine thn (hst.run pins s3 σ H3 (fun o H4 => o = some (-1) ∧ H4 = H3) I3 ⟨1, rfl, -1, rfl, rfl, rfl⟩) fun vs s4 ⟨o, H4, I4, ps, eo, e4⟩ => ?_
  subst eo e4
  cases pl
  cases pu
  cases ps with
  | int i tk =>
  have I5 : Inv X pins σ H4 { s4 with heap := s4.heap.push { cls := .type "slice", data := .fields #[.none, .none, .int (-1) tk] } } := I4.kept (t' := s4.toks) fun b ob q => Heap.get?_push_of_some _ q
  show wpAny (model X.prog X.w) X.A (subscriptTail e (.Slice none none (some (.UnaryOp .USub (.Constant (.int 1) k p1) p2)) p3) (.str z t) (.ref s4.heap.objs.size)) (EP X pins σ Q) X.xe { s4 with heap := s4.heap.push { cls := .type "slice", data := .fields #[.none, .none, .int (-1) tk] } }
  refine tail_any (ops := [.ref s4.heap.objs.size, .str z t]) (typeIs_str _ _ _) F.slot_str_getitem.lookup ?_ (by with_unfolding_all rfl)
  refine wpAny_getItem_str_slice (l := none) (u := none) (st := some (-1, tk)) ⟨_, Heap.get?_push_size _ rfl, rfl, rfl⟩ rfl ?_
  have eq : (slicePicked z none none (some (-1, tk))).filterMap (z.cps[·]?) = z.cps.toList.reverse := krv_str z
  show Made.post (if ((-1 : Int) == 1 && _) = true then Made.val (.str z t) else Made.str ⟨((slicePicked z none none (some (-1, tk))).filterMap (z.cps[·]?)).toArray⟩) (EP X pins σ Q) _
  rw [if_neg (by rw [show ((-1 : Int) == 1) = false by decide, Bool.false_and]; exact Bool.false_ne_true), eq]
  refine ⟨?_, .str _, H4, I5.tok _, ⟨_, rfl⟩, q⟩
  show (z.cps.toList.reverse.toArray).size ≤ sizeLine
  rw [List.size_toArray, List.length_reverse, Array.length_toList]
  exact hz

/-! ### sum of a tuple of ints -/
def rSumT (K : PySem.W.Frag) : List V → Hp → VK → Prop := fun vs H Q => ∃ (a : Addr) (ns : List Int), vs = [V.ref a] ∧ SqT K H a (ns.map V.int) ∧ Q (.int ns.sum) H
theorem cr_sumT {X : Cx} (hc : X.calm = true) : CallR X (.builtin "sum") (rSumT X.K) := by
  intro pins s σ H vs us Q I r h
  obtain ⟨a, ns, rfl, hs, q⟩ := h
  obtain ⟨its, rv, hl, _⟩ := I.tuple hs
  rw [Vals.ref1 r]
  have hi := rv.ints
  obtain ⟨xs, e⟩ := hi.allInts.items
  have hn : numsOf (intItems xs).toList = ns := by rw [← e]; exact hi.numsOf
  rw [nums_intItems] at hn
  have hl' : s.heap.IsTuple a its.toArray := hl
  rw [e] at hl'
  refine PySem.W.ktm_sumG (I.ok.hd hc) hl' fun h' tk t' hk => ?_
  rw [preSum_eq, List.take_of_length_le (by simp), hn]
  exact ⟨.int _, H, I.kept hk, ⟨_, rfl⟩, q⟩
end R16
namespace R16
open PySem PySem.Spec PyProof.Rows L2

/-! ### set(xs), xs a list of ints: with the table's own facts (as the layer's rule for a tuple, HandS.SetFor) -/
section
variable {P : Program} {w : World} {A : Around} {E : Value → Shared → Prop} {s : Shared}
set_option maxRecDepth 100000 in
set_option maxHeartbeats 3200000 in
theorem call_set_lstI {l : Addr} {items : Array Value} (ns : List Int) {Q : Value → Shared → Prop} (hh : A.handled = none) (hl : s.heap.IsList l items) (hit : IntsAre items.toList ns) (hb : ns.length + 1 < scanBound)
    (h : ∀ (h' : Heap) (tk c : Nat), SetR w h' s.heap.objs.size (fun j => decide (j ∈ ns)) c → c ≤ ns.length → (∀ b o, s.heap.get? b = some o → h'.get? b = some o) → Q (.ref s.heap.objs.size) { s with heap := h', toks := tk }) :
    wpAny (model P w) A (call (.type "set") [.ref l]) Q E s := by
  have hisz : items.size = ns.length := by
    have q := IntsAre.length hit
    rw [Array.length_toList] at q
    exact q
  obtain ⟨c, tl, hmro⟩ := PySem.F.called_set.mro
  have hmade := PySem.F.called_set.made
  have hsub := PySem.F.called_set.sub
  refine wpAny_call (codeAny_of_tree ?_)
  show wpAny _ _ (callAny (.type "set") _) _ _ _
  refine wpAny_pure ⟨Code.quiet_builtin _ (by decide +kernel), codeAny_builtin PySem.F.entry_type_call ?_⟩
  rw [Around.under_plain (weight_type_call_type "set" [.ref l] []) rfl]
  have h1 := PySem.F.called_set.notType
  have h2 := PySem.F.called_set.canCreate
  have hct := PySem.F.typeCall_set_1 (.ref l)
  repeat (any_goals (first | assumption | wp_step))
  refine codeAny_mono (code_set_led1 (.ref l) (E := E) (Q₁ := fun obj s₁ => obj = .ref s.heap.objs.size ∧ s₁ = { s with heap := s.heap.push { cls := .type "set", dict := none, data := .set #[] 0 (.fresh 0 0 (!w.params.followText "set-order")) } }) ⟨rfl, rfl⟩) fun r s₁ hr => ?_
  cases r with
  | error e => exact hr
  | ok fl =>
    cases fl with
    | ret obj =>
      obtain ⟨rfl, rfl⟩ := hr
      have hS : (s.heap.push { cls := .type "set", dict := none, data := .set #[] 0 (.fresh 0 0 (!w.params.followText "set-order")) }).get? s.heap.objs.size = some { cls := .type "set", dict := none, data := .set #[] 0 (.fresh 0 0 (!w.params.followText "set-order")) } := Heap.get?_push_size _ rfl
      have hT : Shared.TypeIs { s with heap := s.heap.push { cls := .type "set", dict := none, data := .set #[] 0 (.fresh 0 0 (!w.params.followText "set-order")) } } (.ref s.heap.objs.size) "set" := ⟨_, hS, rfl⟩
      have hli := PySem.F.called_set.init.lookup
      have hbi := PySem.F.called_set.init.bind (.ref s.heap.objs.size)
      repeat (any_goals (first | assumption | wp_step))
      refine codeAny_mono (codeAny_call_builtin (R := wants (fun r s₂ => r = .none ∧ ∃ h' tk c, s₂ = { s with heap := h', toks := tk } ∧ SetR w h' s.heap.objs.size (fun j => decide (j ∈ ns)) c ∧ c ≤ ns.length ∧
          (∀ b o, s.heap.get? b = some o → h'.get? b = some o)) E) PySem.F.called_set.init.plain PySem.F.entry_set_init (check_set_init_1 hT ?_)) fun r₂ s₂ hr₂ => ?_
      · obtain ⟨ol, hol, hcl, nl, hdl⟩ := hl
        obtain ⟨ocls, odict, odata, oslots⟩ := ol
        simp only at hcl hdl
        subst hcl; subst hdl
        have hol' : (s.heap.push { cls := .type "set", dict := none, data := .set #[] 0 (.fresh 0 0 (!w.params.followText "set-order")) }).get? l = some { cls := .type "list", dict := odict, data := .seq items nl, slots := oslots } := Heap.get?_push_of_some _ hol
        have hsls := PySem.F.sub_list_set
        have hslf := PySem.F.sub_list_frozenset
        have hne : (Value.type "list" == Value.type "dict") = false := by decide
        have hl1 : (s.heap.push { cls := .type "set", dict := none, data := .set #[] 0 (.fresh 0 0 (!w.params.followText "set-order")) }).IsList l items := ⟨_, hol', rfl, nl, rfl⟩
        unfold Builtin.«set.__init__» noKeywords Builtin.Frozenset.updateFrom
        generalize hPI : pyIter = PI
        wp_walk
        subst hPI
        refine wpAny_pyIter_list hl1 ?_
        refine wpAny_bind (wpAny_runValue ?_)
        have hlS : l < s.heap.objs.size := Heap.lt_size hol
        have hh3 : A.in1.in1.in1.handled = none := by simp [hh]
        have hneI : l ≠ (s.heap.push { cls := .type "set", dict := none, data := .set #[] 0 (.fresh 0 0 (!w.params.followText "set-order")) }).objs.size := by
          rw [Heap.size_push]; exact Nat.ne_of_lt (Nat.lt_succ_of_lt hlS)
        have hSf : s.heap.objs.size ∉ [(s.heap.push { cls := .type "set", dict := none, data := .set #[] 0 (.fresh 0 0 (!w.params.followText "set-order")) }).objs.size, l] := by
          rw [Heap.size_push]; simp only [List.mem_cons, List.mem_singleton, List.not_mem_nil, or_false, not_or]
          exact ⟨Nat.ne_of_lt (Nat.lt_succ_self _), Nat.ne_of_gt hlS⟩
        have hval : ∀ (i : Nat) (v : Value), items[i]? = some v → ∃ k t, ns[i]? = some k ∧ v = .int k t := fun i v hv => by
          have hi : i < ns.length := by rw [← hisz]; exact (Array.getElem?_eq_some_iff.mp hv).1
          obtain ⟨t, e⟩ := PyProof.Rows.IntsAre.int_at hit i v (by rw [Array.getElem?_toList]; exact hv)
          refine ⟨ns[i], t, List.getElem?_eq_getElem hi, ?_⟩
          rw [e, List.getD_eq_getElem?_getD, List.getElem?_eq_getElem hi] <;> rfl
        refine set_update_ints ((Walks.list hh3 _ l hneI items).toS) s.heap.objs.size
          hSf ns hisz hb hval (items.size - 0) 0 _ (by omega) (Nat.zero_le _)
          ⟨⟨_, Heap.get?_push_size _ rfl, rfl, rfl⟩, (hl1.push _)⟩ ?hS0 ?hR
        case hS0 =>
          have hget : ((s.heap.push { cls := .type "set", dict := none, data := .set #[] 0 (.fresh 0 0 (!w.params.followText "set-order")) }).push { cls := .type "list_iterator", data := .fields #[.ref l, .int 0 0] }).get? s.heap.objs.size
              = some { cls := .type "set", dict := none, data := .set #[] 0 (.fresh 0 0 (!w.params.followText "set-order")) } := Heap.get?_push_of_some _ hS
          exact ⟨0, Nat.le_refl 0, setR_new_at hget⟩
        case hR =>
          intro s' c' hm hc' hS'
          obtain ⟨h', g2, d', tk', os'⟩ := s'
          have eg : g2 = s.gens := hm.gens
          have ed : d' = s.drawn := hm.drawn
          have eo : os' = s.os := hm.os
          subst eg; subst ed; subst eo
          show wpAny _ _ _ _ _ _
          refine wpAny_pure ?_
          show wpAny _ _ (ret Value.none) _ _ _
          rw [hisz] at hc'
          refine wpAny_pure ⟨rfl, h', tk', c', rfl, hS', hc', fun b o e => ?_⟩
          have hb0 : b < s.heap.objs.size := Heap.lt_size e
          have hb1 : b ≠ s.heap.objs.size := Nat.ne_of_lt hb0
          have hb2 : b ≠ (s.heap.push { cls := .type "set", dict := none, data := .set #[] 0 (.fresh 0 0 (!w.params.followText "set-order")) }).objs.size := by
            rw [Heap.size_push]; exact Nat.ne_of_lt (Nat.lt_succ_of_lt hb0)
          exact hm.heap b o (by simp only [List.mem_cons, List.mem_singleton, List.not_mem_nil, or_false, not_or]; exact ⟨hb1, hb2⟩) (Heap.get?_push_of_some _ (Heap.get?_push_of_some _ e))
      · cases r₂ with
        | error e => exact hr₂
        | ok fl₂ =>
          cases fl₂ with
          | ret r =>
            obtain ⟨rfl, h', tk, c', rfl, hS', hc', hk'⟩ := hr₂
            repeat (any_goals (first | assumption | wp_step))
            exact h _ _ _ hS' hc' hk'
          | _ => exact hr₂.elim
    | _ => exact hr.elim

/-- sorted(S) of a set of ints, any number of them -/
theorem sorted_setAny {a : Addr} {S : Int → Bool} {n : Nat} {Q : Value → Shared → Prop} (R : SetR w s.heap a S n) (hh : A.handled = none)
    (hQ : ∀ s' p (out : List Value) (c : Nat) (ns : List Int), (∀ b o, s.heap.get? b = some o → s'.heap.get? b = some o) → s'.gens = s.gens → s'.os = s.os → s.heap.objs.size ≤ p →
      s'.heap.get? p = some (seqObj "list" out.toArray c) → IntsAre out ns → ns.Pairwise (· < ·) → (∀ k, k ∈ ns ↔ S k = true) → ns.length = n → ns.length ≤ sizeLine → Q (.ref p) s') :
    wpAny (model P w) A (call (.builtin "sorted") [.ref a]) Q E s := by
  obtain ⟨o, es, ep, t, ho, hex, hd, g, nd, hm, hb, hf, hn, hr, hl⟩ := R
  refine Calls.call_function_entry kind_sorted plain_sorted entry_sorted (args_sorted1 _) ?_
  unfold Builtin.«sorted»
  refine wpAny_bind (m := checkCount "sorted" 1 1 _) (wpAny_pure ?_)
  refine wpAny_bind (collect_set (A := A.in1) hh ⟨o, ho, hex.1, hd⟩ hf hb hr hl fun s1 vs k1 hz g1 o1 pm => ?_)
  have hvl : vs.length = n := by rw [pm.length_eq, List.length_map, Array.length_toList]; exact hn
  have hsz : vs.length ≤ sizeLine := by
    rw [hvl, ← hn]
    exact fits_of_scanBound hb
  have hI : IntsAre vs (vs.map Builtin.Re.reRawOf) := ints_of vs fun v hv => by
    obtain ⟨e, he, q⟩ := List.mem_map.mp (pm.mem_iff.mp hv)
    obtain ⟨k, tk, h1, _⟩ := g e he
    exact ⟨k, tk, by rw [← q]; exact h1⟩
  have pk : (vs.map Builtin.Re.reRawOf).Perm (es.toList.map keyOf) := by
    have q := pm.map Builtin.Re.reRawOf
    rw [List.map_map] at q
    exact q
  refine wpAny_bind (wpAny_newList ?_ hsz)
  have hoL : (s1.heap.push (seqObj "list" vs.toArray 0)).get? s1.heap.objs.size = some (seqObj "list" vs.toArray 0) := Heap.get?_push_size _ rfl
  refine wpAny_bind (wpAny_holding (wpAny_call_entry slot_list_sort ⟨_, hoL, rfl⟩ entry_list_sort
    (SrtO.list_sort_ord (s := { s1 with heap := s1.heap.push (seqObj "list" vs.toArray 0) }) SrtO.swo_int hoL hsz (fun h2 => SrtO.ints_sortable hI h2) fun out q1 q2 => ⟨_, rfl, ?_⟩) (args_list_sort _)))
  obtain ⟨a1, a2, a3⟩ := SrtO.ints_out hI q1 q2
  obtain ⟨c, hc⟩ := sortedHeap_at (vs := vs) (out := out.toArray) hoL
  have pn : (out.map SrtO.iv).Perm (es.toList.map keyOf) := a2.trans pk
  have eln : (out.map SrtO.iv).length = n := by rw [pn.length_eq, List.length_map, Array.length_toList]; exact hn
  refine wpAny_pure ⟨_, rfl, hQ _ s1.heap.objs.size out c (out.map SrtO.iv) (fun b u e => ?_) g1 o1 hz hc a1 (lt_of_le_nodup _ a3 (pn.nodup_iff.mpr nd)) (fun k => by rw [pn.mem_iff, ← hm k]) eln (by rw [eln, ← hvl]; exact hsz)⟩
  have q := k1 b u e
  have hlt := Heap.lt_size q
  show (sortedHeap (s1.heap.push (seqObj "list" vs.toArray 0)) s1.heap.objs.size vs out.toArray).get? b = some u
  rw [sortedHeap_old (Nat.ne_of_lt hlt) (by rw [size_push']; exact Nat.lt_succ_of_lt hlt)]
  exact Heap.get?_push_of_some _ q
end

end R16
namespace R16
open PySem PySem.Spec PyProof.Rows L2

def tSortSet (K : PySem.W.Frag) (ta : TE) : TE := fun σ H Q => ta σ H fun x H1 => ∃ (l : Addr) (ns : List Int), x = V.ref l ∧ SqL K H1 l (ns.map V.int) ∧ ns.length ≤ 4000 ∧
  ∀ (p : Addr) (ms : List Int), H1 p = none → ms.Pairwise (· < ·) → (∀ k, k ∈ ms ↔ k ∈ ns) → ms.length ≤ ns.length → Q (.ref p) (upd H1 p (.lst (ms.map V.int)))
theorem pe_sortSet {X : Cx} {a : Expr} {ta : TE} {p p2 q pos : Pos} (hc : X.calm = true) (hg : Gl X "sorted") (hm : X.mg "sorted" = none) (hg2 : Gl X "set") (hm2 : X.mg "set" = none) (ha : PE X a ta)
    (na : starEach [a] X.env = (false, eval a X.env) :: starEach [] X.env := by rfl) : PE X (.Call (.Name "sorted" p) [.Call (.Name "set" p2) [a] [] q] [] pos) (tSortSet X.K ta) := by
  refine ⟨fun pins s σ H Q I h => ?_⟩
  refine Call_ (ld_blt I hg hm (by decide +kernel : bootBuiltins "sorted" = some (.builtin "sorted")) ?_)
  refine PyProof.Rows.callWith_builtin1 (PyProof.Rows.args_cons ?_ rfl) rfl rfl
  refine Call_ (ld_blt I hg2 hm2 PyProof.Rows.boot_set ?_)
  refine PyProof.Rows.callWith_type1 (PyProof.Rows.args_cons (thn (ha.run pins s σ H _ I h) fun v s1 ⟨x, H1, I1, r1, q1⟩ => PyProof.Rows.args_nil ?_) na) na rfl
  obtain ⟨l, ns, rfl, hq, h1, q1⟩ := q1
  cases r1
  obtain ⟨its, r, pl, hz⟩ := I1.list hq
  refine call_set_lstI (w := X.w) ns (I1.ok.hd hc) pl.isList (by simpa using r.ints) (by unfold scanBound; omega) fun h' tk c hS hcl hk => ?_
  refine PyProof.Rows.args_nil ?_
  have I2 : Inv X pins σ H1 { s1 with heap := h', toks := tk } := I1.kept hk
  refine sorted_setAny (s := { s1 with heap := h', toks := tk }) hS (I1.ok.hd hc) fun s' p out c' ms kk hg' ho' hp hob hI hpw hmem hlen hsz => ?_
  have hn : H1 p = none := I2.hok.fresh hp
  obtain ⟨hh, gg, dd, tt, os'⟩ := s'
  have e2 : gg = s1.gens := hg'
  have e4 : os' = s1.os := ho'
  subst e2 e4
  have new : ObjOk X.prog X.w (upd H1 p (.lst (ms.map V.int))) hh p (.lst (ms.map V.int)) := ⟨by rw [List.length_map]; exact hsz, out, c', vals_of_ints hI, hob⟩
  have hok : HOk X.prog X.w (upd H1 p (.lst (ms.map V.int))) hh := I2.hok.laid kk hp new
  have I3 : Inv X pins σ (upd H1 p (.lst (ms.map V.int))) ⟨hh, s1.gens, dd, tt, s1.os⟩ :=
    Inv.call (s := { s1 with heap := h', toks := tk }) (h' := hh) (g' := s1.gens) (d' := dd) (t' := tt) (ch := []) I2 (Un.laid (h := h') (h' := hh) kk hp hn) hok I1.bare (fun b z => absurd z (by simp))
  exact ⟨.ref p, _, I3, rfl, q1 p ms hn hpw (fun k => by rw [hmem k]; simp) (by omega)⟩

/-! ### first, *others = a list -/
section
variable {X : Cx} {pos : Pos}
/-- the last target has a star: it takes a new list of the rest -/
theorem pgs_star {e : Expr} {p : Pos} {t : TG} (h1 : PG X e t) : PGs X [.Starred e p] (gCons t gNil) := by
  refine ⟨fun pins s σ H vs us Q I r h => ?_⟩
  obtain ⟨v, vr, e1, h⟩ := h
  subst e1
  cases r with
  | cons r rr =>
    refine assignInOrder_cons (thn (h1.run pins s σ H _ _ _ I r h) fun _ s1 ⟨σ1, H1, I1, q1⟩ => ?_)
    exact pgs_nil.run pins s1 σ1 H1 _ _ Q I1 rr q1
def gStar1 (K : PySem.W.Frag) (t : TGs) : TG := fun v σ H Q => ∃ a x xs, v = .ref a ∧ SqL K H a (x :: xs) ∧ xs.length ≤ 1000 ∧ ∀ D, H D = none → t [x, .ref D] σ (upd H D (.lst xs)) Q
theorem pg_star1 {e1 e2 : Expr} {k : Nat} {p : Pos} {t : TGs} (hc : X.calm = true) (h : PGs X [e1, .Starred e2 p] t)
    (hn : (assignEach [e1, .Starred e2 p] X.env).length = 2 := by rfl) (hst : (assignEach [e1, .Starred e2 p] X.env).findIdx? (·.1) = some 1 := by rfl) : PG X (.Tuple [e1, .Starred e2 p] k pos) (gStar1 X.K t) := by
  refine ⟨fun pins s σ H v u Q I r hw => ?_⟩
  obtain ⟨a, x, xs, e0, hq, hl, hw⟩ := hw
  subst e0
  cases r
  obtain ⟨its, rv, hpl, hz⟩ := I.list hq
  have hil := hpl.isList
  have hlen : its.toArray.size = xs.length + 1 := by rw [List.size_toArray, ← rv.length]; rfl
  have hne : a ≠ s.heap.objs.size := by obtain ⟨o, ho, _⟩ := hil; exact Nat.ne_of_lt (Heap.lt_size ho)
  rw [assign_Tuple]
  refine wpAny_bind (wpAny_standAt ?_)
  unfold unpack
  rw [hn, hst]
  refine wpAny_bind (wpAny_holding ?_)
  unfold unpackItems
  refine wpAny_bind ?_
  unfold notIterableAtAll
  refine wpAny_bind (wpAny_specialOf hil.typeIs slot_list_iter.lookup ?_)
  refine wpAny_pure ?_
  simp only [Bool.false_eq_true, if_false]
  refine wpAny_bind (wpAny_holding (wpAny_pyIter_list hil ?_))
  refine wpAny_bind (wpAny_holding (PySem.W.kun_draw hne 1 0 _ _ ⟨_, Heap.get?_push_size _ rfl, rfl, rfl⟩ (hil.push _) (by omega) fun h₁ hit₁ hs₁ => ?_))
  have hl₁ : h₁.IsList a its.toArray := (hil.push _).extBut hs₁.extBut hne
  obtain ⟨oi, hoi, _⟩ := id hit₁
  obtain ⟨ol, hol, _⟩ := id hl₁
  rw [List.drop_zero]
  have hfl : (its.toArray.toList.take 1).length = 1 := by
    rw [List.length_take, Array.length_toList]
    omega
  rw [if_neg (show ¬ ((its.toArray.toList.take 1).length < 1) by rw [hfl]; omega)]
  refine wpAny_bind (wpAny_holding (PySem.W.kun_collect (s := { s with heap := h₁ }) (T := "list_iterator") (.inr (.inr (.inl rfl))) (Walks.list (A := X.A.in1) (I.ok.hd hc) s.heap.objs.size a hne its.toArray) (fun j u st => st.1.typeIs) (k := 1) (by omega) ⟨hit₁, hl₁⟩ (Heap.lt_size hoi) (Heap.lt_size hol) (fun h₂ tk hk => ?_) (by rw [hlen]; exact hz)))
  have hrl : (its.toArray.toList.drop 1).length = xs.length := by
    rw [List.length_drop, Array.length_toList]
    omega
  show wpAny _ _ (if (its.toArray.toList.drop 1).length < 0 then _ else _) _ _ _
  rw [if_neg (Nat.not_lt_zero _)]
  show wpAny _ _ (newList ((its.toArray.toList.drop 1).take ((its.toArray.toList.drop 1).length - 0)) >>= fun d => pure (its.toArray.toList.take 1 ++ [d] ++ (its.toArray.toList.drop 1).drop ((its.toArray.toList.drop 1).length - 0))) _ _ _
  rw [Nat.sub_zero, List.take_length, List.drop_length]
  simp only [List.append_nil]
  have ke : ∀ b o, s.heap.get? b = some o → h₂.get? b = some o := fun b o e => hk b o (Nat.ne_of_lt (Heap.lt_size e)) (hs₁.extBut b o (Nat.ne_of_lt (Heap.lt_size e)) (Heap.get?_push_of_some _ e))
  have I2 : Inv X pins σ H { s with heap := h₂, toks := tk } := I.kept ke
  have hsx : xs.length ≤ sizeLine := Nat.le_trans hl (by rw [sizeLine_eq]; decide)
  refine wpAny_bind (wpAny_newList ?_ (by rw [hrl]; exact hsx))
  have hfr : H h₂.objs.size = none := I2.hok.fresh (Nat.le_refl _)
  cases rv with
  | @cons _ u1 _ us r1 rr =>
  have I3 : Inv X pins σ (upd H h₂.objs.size (.lst xs)) { s with heap := h₂.push { cls := .type "list", data := .seq ((u1 :: us).toArray.toList.drop 1).toArray }, toks := tk } :=
    I2.laid (a := h₂.objs.size) (o := .lst xs) (t' := tk) (fun b o e => Heap.get?_push_of_some _ e) (Nat.le_refl _) ⟨hsx, us, 0, rr, Heap.get?_push_size _ rfl⟩
  refine wpAny_pure ?_
  exact h.run pins _ σ _ [x, .ref h₂.objs.size] [u1, .ref h₂.objs.size] Q I3 (.cons r1 (.cons rfl .nil)) (hw _ hfr)
end
end R16
/-! Short words for this walk: texts by their codes, what readings evaluate to. -/
namespace K16
open PySem PySem.Spec PyProof.Rows L2 Evl SX

/-! ### the text by places -/
def top (i : Nat) : Stmt := PySem.Challenge.pw_deltawires_k16_whole_numbers_by_all_fill.main.body.getD i (.Pass ⟨0, 0, 0, 0⟩)
/-- a def of the text, under its name, with these parameters -/
structure Df (K : PySem.W.Frag) (mg : Str → Option Value) (x : Str) (st : Stmt) (ps : List Str) : Prop where
  ex : ∃ f fd, C8.Def K mg x st f fd ∧ Binds K fd ps []
abbrev Cal := C8.Cal
section
variable {P : Program} {w : World} {K : PySem.W.Frag} {mg : Str → Option Value} {base : Heap}
theorem Df.cal {x : Str} {st : Stmt} {N ps : List Str} {k : Nat} {sp : Sp} (F : Df K mg x st ps) (S : FnScope N ps (C8.fnScope st)) (len : ∀ vs H Q E, sp vs H Q E → vs.length = ps.length)
    (hbody : ∀ (f : Addr) (cdv : Value) (A : Around) (outer : List Env) (s : Shared) (H : Hp) (vs : List V) (Q : VK) (E : XK), Room k (A.deeper (envOfC x (C8.fnScope st) s.heap.objs.size f cdv)) → sp vs H Q E →
      ∃ t, PSs (cxOf C8.CX0 P w K mg base N x (C8.fnScope st) f cdv A outer s H E).nox (C8.fnBody st) t ∧ t { nx := fun _ H' => Q .non H', rt := Q } (start N vs) H) : Cal P w K mg base (k + 1) x sp [] := by
  obtain ⟨f, fd, D, b⟩ := F.ex
  exact C8.cal0 D b .nil S len fun cdv A outer s H vs Q E hr h => hbody f cdv A outer s H vs Q E hr h
theorem cal_mono {j k : Nat} {x : Str} {sp : Sp} {dvs : List V} (c : Cal P w K mg base j x sp dvs) (h : j ≤ k) : Cal P w K mg base k x sp dvs := by
  obtain ⟨f, fd, ps, ds, F, r⟩ := c.ex
  exact ⟨f, fd, ps, ds, F.mono h, r⟩
end

/-! ### texts by their codes -/
abbrev tx (l : List Nat) : V := .str ⟨l.toArray⟩
theorem tx_inj {a b : List Nat} (h : tx a = tx b) : a = b := by
  have z := congrArg Str.cps (V.str.inj h)
  simpa using z
theorem tx_dec (a b : List Nat) : decide (tx a = tx b) = decide (a = b) := by
  by_cases e : a = b
  · subst e; simp
  · rw [decide_eq_false e, decide_eq_false fun z => e (tx_inj z)]
theorem sg_dec (a b : Nat) : decide (tx [a] = tx [b]) = decide (a = b) := by
  rw [tx_dec]
  by_cases e : a = b
  · subst e; simp
  · rw [decide_eq_false e, decide_eq_false fun z => e (List.cons.inj z).1]
theorem eqc {s : Str} {c : Nat} (a : Nat) (h : s = ⟨#[c]⟩) : decide (tx [a] = V.str s) = decide (a = c) := by
  subst h
  exact sg_dec a c
theorem tx_of {s : Str} {l : List Nat} (h : s = ⟨l.toArray⟩) : V.str s = tx l := by rw [h]
theorem tx_len (a : List Nat) : (⟨a.toArray⟩ : Str).length = a.length := by simp [Str.length]
theorem tx_size (a : List Nat) : (⟨a.toArray⟩ : Str).cps.size = a.length := by simp
theorem tx_get {a : List Nat} {i c : Nat} (h : (⟨a.toArray⟩ : Str).cps[i]? = some c) : a[i]? = some c := by simpa using h

section
variable {K : PySem.W.Frag} {σ : L2.St} {H H' : Hp} {ta tb te tx' : TE} {t u : TT} {x y z v : V} {r : R2} {D : Ends} {tu tw tz : TS} {g : TG}

theorem et_eq (ha : Ev ta σ H x) (hb : Ev tb σ H y) (h : scal x y = true := by rfl) : EvT (tTest (tOp rEq ta tb)) σ H (decide (x = y)) := et_test (ev_op ha hb (rv_eq h))
theorem ev_eq (ha : Ev ta σ H x) (hb : Ev tb σ H y) (h : scal x y = true := by rfl) : Ev (tOp rEq ta tb) σ H (.bl (decide (x = y))) := ev_op ha hb (rv_eq h)
theorem et_ne (ha : Ev ta σ H x) (hb : Ev tb σ H y) (h : scal x y = true := by rfl) : EvT (tTest (tOp rNe ta tb)) σ H (!decide (x = y)) := et_test (ev_op ha hb (rv_ne h))
theorem ev_ne (ha : Ev ta σ H x) (hb : Ev tb σ H y) (h : scal x y = true := by rfl) : Ev (tOp rNe ta tb) σ H (.bl (!decide (x = y))) := ev_op ha hb (rv_ne h)
/-- text + text -/
def rCatS : R2 := fun x y H Q => ∃ i j, x = .str i ∧ y = .str j ∧ i.length + j.length ≤ sizeLine ∧ Q (.str (i ++ j)) H
theorem op_cats {X : Cx} : OpR X (binaryOp .Add) rCatS := op_add_str
theorem rv_cat {a b : List Nat} (h : a.length + b.length ≤ 100000) : RV rCatS (tx a) (tx b) H (tx (a ++ b)) := fun H1 _ _ q =>
  ⟨⟨a.toArray⟩, ⟨b.toArray⟩, rfl, rfl, by rw [tx_len, tx_len]; exact sz_of h, by
    have e : (⟨a.toArray⟩ : Str) ++ ⟨b.toArray⟩ = ⟨(a ++ b).toArray⟩ := S_cat a b
    rw [e]
    exact q H1 (Ex.refl H1)⟩
theorem ev_cat {a b : List Nat} (ha : Ev ta σ H (tx a)) (hb : Ev tb σ H (tx b)) (h : a.length + b.length ≤ 100000) : Ev (tOp rCatS ta tb) σ H (tx (a ++ b)) := ev_op ha hb (rv_cat h)
theorem ev_rev {a : List Nat} (h : Ev te σ H (tx a)) (hl : a.length ≤ 100000) : Ev (R16.tRevS te) σ H (tx a.reverse) := fun H1 e Q q =>
  h H1 e _ fun H2 e2 => ⟨⟨a.toArray⟩, rfl, by rw [tx_len]; exact sz_of hl, q H2 e2⟩
/-- one sign within a text -/
theorem in_dec {c : Nat} {z : Str} {l : List Nat} (h : z = ⟨l.toArray⟩) : decide (c ∈ z.cps.toList) = decide (c ∈ l) := by rw [h]
def rInS : R2 := fun x y H Q => ∃ (c : Nat) (z : Str), x = .str ⟨#[c]⟩ ∧ y = .str z ∧ Q (.bl (decide (c ∈ z.cps.toList))) H
theorem op_inS {X : Cx} : OpR X (compareOp .In) rInS := op_in_sign
theorem ev_in {c : Nat} {l : List Nat} (ha : Ev ta σ H (tx [c])) (hb : Ev tb σ H (tx l)) : Ev (tOp rInS ta tb) σ H (.bl (decide (c ∈ l))) := ev_op ha hb fun H1 _ Q q =>
  ⟨c, ⟨l.toArray⟩, rfl, rfl, q H1 (Ex.refl H1)⟩
/-- int of a bool -/
def rInt1 : List V → Hp → VK → Prop := fun xs H Q => (∃ i, xs = [.int i] ∧ Q (.int i) H) ∨ ∃ k, xs = [.bl k] ∧ Q (.int (if k then 1 else 0)) H
theorem cr_int1 {X : Cx} : CallR X (.type "int") rInt1 := call_int1
theorem ev_intb {b : Bool} (h : Ev te σ H (.bl b)) : Ev (tCB rInt1 (tCons te tNil)) σ H (.int (if b then 1 else 0)) := ev_cb (ea_cons h ea_nil) fun H1 _ Q q => .inr ⟨b, rfl, q H1 (Ex.refl H1)⟩
theorem ev_add {i j : Int} (ha : Ev ta σ H (.int i)) (hb : Ev tb σ H (.int j)) : Ev (tOp (rI0 fun i j => .int (i + j)) ta tb) σ H (.int (i + j)) := ev_op ha hb rv_I0
theorem ev_sub {i j : Int} (ha : Ev ta σ H (.int i)) (hb : Ev tb σ H (.int j)) : Ev (tOp (rI0 fun i j => .int (i - j)) ta tb) σ H (.int (i - j)) := ev_op ha hb rv_I0
theorem ev_mul {i j : Int} (ha : Ev ta σ H (.int i)) (hb : Ev tb σ H (.int j)) (hc : CMul i j) : Ev (tOp (rI CMul fun i j => .int (i * j)) ta tb) σ H (.int (i * j)) := ev_op ha hb (rv_I hc)
theorem ev_mod {i j : Int} (ha : Ev ta σ H (.int i)) (hb : Ev tb σ H (.int j)) (hc : 0 < j) : Ev (tOp (rI (fun _ j => 0 < j) fun i j => .int (i % j)) ta tb) σ H (.int (i % j)) := ev_op ha hb (rv_I hc)
theorem ev_fdiv {i j : Int} (ha : Ev ta σ H (.int i)) (hb : Ev tb σ H (.int j)) (hc : CDiv i j) : Ev (tOp (rI CDiv fun i j => .int (i / j)) ta tb) σ H (.int (i / j)) := ev_op ha hb (rv_I hc)
theorem ev_lt {i j : Int} (ha : Ev ta σ H (.int i)) (hb : Ev tb σ H (.int j)) : Ev (tOp (rI0 fun i j => .bl (decide (i < j))) ta tb) σ H (.bl (decide (i < j))) := ev_op ha hb rv_I0
theorem ev_gt {i j : Int} (ha : Ev ta σ H (.int i)) (hb : Ev tb σ H (.int j)) : Ev (tOp (rI0 fun i j => .bl (decide (j < i))) ta tb) σ H (.bl (decide (j < i))) := ev_op ha hb rv_I0
/-- a module's constant list or tuple item -/
theorem ev_ixL {p : Addr} {xs : List V} {i : Int} (ha : Ev ta σ H (.ref p)) (hb : Ev tb σ H (.int i)) (h : SqL K H p xs) (hi : atI xs i = some v) : Ev (tOp (rIxL K) ta tb) σ H v := ev_op ha hb (rv_ixL h hi)
theorem ev_ixS {a : List Nat} {i : Int} {c : Nat} (ha : Ev ta σ H (tx a)) (hb : Ev tb σ H (.int i)) (h : a.length ≤ 100000) (hi : atI a i = some c) : Ev (tOp rIxS ta tb) σ H (tx [c]) :=
  ev_op ha hb (rv_ixS (w := ⟨a.toArray⟩) (by rw [tx_len]; exact h) hi)

/-! ### loops over texts -/
/-- for i, j in zip(x, y), two texts -/
theorem q_zipS {ta : TA} {a b : List Nat} {i j : Nat} (h : EvA ta σ H [tx a, tx b]) (hl : a.length = b.length) (Pv : Nat → L2.St → Hp → Prop) (h0 : ∀ H1, Ex H H1 → Pv 0 σ H1)
    (hs : ∀ (k c d : Nat) σ' H', a[k]? = some c → b[k]? = some d → Pv k σ' H' → ∀ H2, Ex H' H2 → tu { D with nx := Pv (k + 1), ct := Pv (k + 1), bk := tz D } ((σ'.set i (some (tx [c]))).set j (some (tx [d]))) H2)
    (hd : ∀ σ' H', Pv a.length σ' H' → tz D σ' H') : tSeq (tFor (R16.iZipS ta) (gTup K 2 (gCons (gName i) (gCons (gName j) gNil))) tu) tz D σ H :=
  h H (Ex.refl H) _ fun H1 e => ⟨⟨a.toArray⟩, ⟨b.toArray⟩, rfl, R16.for_zipS (by simp [hl]) Pv (h0 H1 e)
    (fun k c d T σ' H' hc hd' p hn => ⟨T, [tx [c], tx [d]], rfl, .inl (.inl upd_same), rfl, tx [c], [tx [d]], rfl, tx [d], [], rfl, rfl, hs k c d σ' H' (tx_get hc) (tx_get hd') p _ (Ex.new hn)⟩)
    (fun σ' H' p => hd σ' H' (by simpa using p))⟩
/-- for i in text -/
theorem q_forS {a : List Nat} {i : Nat} (h : Ev te σ H (tx a)) (Pv : Nat → L2.St → Hp → Prop) (h0 : ∀ H1, Ex H H1 → Pv 0 σ H1)
    (hs : ∀ (k c : Nat) σ' H', a[k]? = some c → Pv k σ' H' → tu { D with nx := Pv (k + 1), ct := Pv (k + 1), bk := tz D } (σ'.set i (some (tx [c]))) H')
    (hd : ∀ σ' H', Pv a.length σ' H' → tz D σ' H') : tSeq (tFor (iStr te) (gName i) tu) tz D σ H :=
  h H (Ex.refl H) _ fun H1 e => ⟨⟨a.toArray⟩, rfl, for_it walk_str Pv (h0 H1 e) (fun _ _ _ _ _ => trivial)
    (fun k x' σ' H' H'' hk p y => by
      obtain ⟨rfl, c, hc, rfl⟩ := y
      exact hs k c σ' H'' (tx_get hc) p) (fun σ' H' p => hd σ' H' (by simpa using p))⟩

/-! ### comprehensions over lists, item by item -/
theorem given_all (n : Nat) (v : Nat → V) : given n (fun _ => true) v = (List.range n).map v := by
  unfold given
  rw [List.filter_eq_self.mpr (fun _ _ => rfl)]
theorem range_get {α : Type} (ys : List α) (f : α → V) : (List.range ys.length).map (fun i => (ys.map f).getD i .non) = ys.map f := by
  apply List.ext_getElem
  · simp
  · intro i h1 h2
    have hi : i < ys.length := by simpa using h2
    simp [hi]
theorem et_yes : EvT tYes σ H true := fun H1 _ _ q => q H1 (Ex.refl H1)
theorem el_map {α : Type} {a : Addr} {ys : List α} {gV hV : α → V} {tl : TE} {j : Nat} {vs : List Nat} (h : Ev tl σ H (.ref a)) (hx : SqL K H a (ys.map gV)) (hz : ys.length ≤ 40000) (hw : ∀ x, wipe ((wipe σ vs).set j (some x)) vs = wipe σ vs)
    (he : ∀ y ∈ ys, ∀ H1, Ex H H1 → Ev te ((wipe σ vs).set j (some (gV y))) H1 (hV y)) : EvL (tLc (iList K tl) (gName j) tYes te vs) σ H (ys.map hV) := by
  have q := el_lcL (K := K) (te := te) (tl := tl) (j := j) (vs := vs) (t := tYes) (fun _ => true) (fun i => (ys.map hV).getD i .non) h hx (by simpa using hz) hw (fun i x H1 e _ => et_yes)
    (fun i x H1 e hi _ => by
      rw [List.getElem?_map] at hi
      obtain ⟨y, hy, rfl⟩ := Option.map_eq_some_iff.mp hi
      have e2 : (ys.map hV).getD i .non = hV y := by simp [hy]
      show Ev te _ H1 ((ys.map hV).getD i .non)
      rw [e2]
      exact he y (List.mem_of_getElem? hy) H1 e)
  rw [given_all] at q
  rw [List.length_map, range_get] at q
  exact q
/-- over a list that is made on the way -/
theorem el_mapN {α : Type} {ys : List α} {gV hV : α → V} {tl : TE} {j : Nat} {vs : List Nat} (h : EvL tl σ H (ys.map gV)) (hz : ys.length ≤ 40000) (hw : ∀ x, wipe ((wipe σ vs).set j (some x)) vs = wipe σ vs)
    (he : ∀ y ∈ ys, ∀ H1, Ex H H1 → Ev te ((wipe σ vs).set j (some (gV y))) H1 (hV y)) : EvL (tLc (iList K tl) (gName j) tYes te vs) σ H (ys.map hV) := by
  have q := el_lcNL (K := K) (te := te) (tl := tl) (j := j) (vs := vs) (t := tYes) (fun _ => true) (fun i => (ys.map hV).getD i .non) h (by simpa using hz) hw (fun i x H1 e _ => et_yes)
    (fun i x H1 e hi _ => by
      rw [List.getElem?_map] at hi
      obtain ⟨y, hy, rfl⟩ := Option.map_eq_some_iff.mp hi
      have e2 : (ys.map hV).getD i .non = hV y := by simp [hy]
      show Ev te _ H1 ((ys.map hV).getD i .non)
      rw [e2]
      exact he y (List.mem_of_getElem? hy) H1 e)
  rw [given_all] at q
  rw [List.length_map, range_get] at q
  exact q
end
theorem fold_take {α β : Type} (f : β → α → β) (b : β) (l : List α) {k : Nat} {x : α} (h : l[k]? = some x) : (l.take (k + 1)).foldl f b = f ((l.take k).foldl f b) x := by
  rw [List.take_add_one, h]
  simp
theorem fold_all {α β : Type} (f : β → α → β) (b : β) (l : List α) : (l.take l.length).foldl f b = l.foldl f b := by rw [List.take_length]
theorem zip_get {a b : List Nat} {k c d : Nat} (h1 : a[k]? = some c) (h2 : b[k]? = some d) : (a.zip b)[k]? = some (c, d) := by
  rw [List.getElem?_zip_eq_some]
  exact ⟨h1, h2⟩
end K16
/-! The bit defs. -/
namespace K16
open PySem PySem.Spec PyProof.Rows L2 Evl SX
section
variable {P : Program} {w : World} {K : PySem.W.Frag} {mg : Str → Option Value} {base : Heap}

/-! ### not_bit -/
abbrev sNot : Stmt := top 7
theorem scNot : FnScope ["a"] ["a"] (C8.fnScope sNot) := C8.fnScope_by (by decide +kernel)
def spNot : Sp := fun vs H Q _ => ∃ a : Nat, vs = [tx [a]] ∧ RetV (tx [Mth.notB a]) H Q
theorem v_not {a : Nat} {H : Hp} : SpV spNot [tx [a]] H (tx [Mth.notB a]) := fun _ _ _ q _ => ⟨a, rfl, q⟩
theorem ok_not (F : Df K mg "not_bit" sNot ["a"]) : Cal P w K mg base 1 "not_bit" spNot [] := by
  refine F.cal scNot (fun vs H Q E h => by obtain ⟨a, rfl, _⟩ := h; rfl) fun f cdv A outer s H vs Q E hr h => ?_
  obtain ⟨a, rfl, q⟩ := h
  refine ⟨_, pss_cons (ps_if (pt_cmpR op_eq (pv 0) pe_str (nomark _)) (pss_one (ps_ret pe_str)) pss_nil)
    (pss_one (ps_ret (pe_ifExp (pt_cmpR op_eq (pv 0) pe_str (nomark _)) pe_str pe_str))), ?_⟩
  refine q_when (et_is (et_eq (ev_var rfl) ev_c) (eqc (c := 120) a (by decide +kernel))) (fun hb H1 e1 => ?_) (fun hb H1 e1 => ?_)
  · have e : Mth.notB a = 120 := by simp [Mth.notB, of_decide_eq_true hb]
    rw [e] at q
    exact s_ret ev_c fun H2 e2 => q H2 (e1.trans e2)
  · refine s_ret (v := tx [Mth.notB a]) (ev_if (et_is (et_eq (ev_var rfl) ev_c) (eqc (c := 48) a (by decide +kernel))) (fun h2 => ?_) (fun h2 => ?_)) fun H2 e2 => q H2 (e1.trans e2)
    · have e : Mth.notB a = 49 := by simp [Mth.notB, of_decide_eq_true h2]
      rw [e]
      exact ev_c
    · have e : Mth.notB a = 48 := by simp [Mth.notB, of_decide_eq_false hb, of_decide_eq_false h2]
      rw [e]
      exact ev_c

/-! ### and_bit, or_bit -/
abbrev sAnd : Stmt := top 8
theorem scAnd : FnScope ["a", "b"] ["a", "b"] (C8.fnScope sAnd) := C8.fnScope_by (by decide +kernel)
def spAnd : Sp := fun vs H Q _ => ∃ a b : Nat, vs = [tx [a], tx [b]] ∧ RetV (tx [Mth.andB a b]) H Q
theorem v_and {a b : Nat} {H : Hp} : SpV spAnd [tx [a], tx [b]] H (tx [Mth.andB a b]) := fun _ _ _ q _ => ⟨a, b, rfl, q⟩
theorem ok_and (F : Df K mg "and_bit" sAnd ["a", "b"]) : Cal P w K mg base 1 "and_bit" spAnd [] := by
  refine F.cal scAnd (fun vs H Q E h => by obtain ⟨a, b, rfl, _⟩ := h; rfl) fun f cdv A outer s H vs Q E hr h => ?_
  obtain ⟨a, b, rfl, q⟩ := h
  refine ⟨_, pss_cons (ps_if (PW.pt (pw_or (pt_cmpR op_eq (pv 0) pe_str (nomark _)) (pw_or1 (pt_cmpR op_eq (pv 1) pe_str (nomark _))))) (pss_one (ps_ret pe_str)) pss_nil)
    (pss_one (ps_ret (pe_ifExp (PW.pt (pw_and (pt_cmpR op_eq (pv 0) pe_str (nomark _)) (pw_and1 (pt_cmpR op_eq (pv 1) pe_str (nomark _))))) pe_str pe_str))), ?_⟩
  refine q_when (et_or (et_is (et_eq (ev_var rfl) ev_c) (eqc (c := 48) a (by decide +kernel))) fun _ => et_is (et_eq (ev_var rfl) ev_c) (eqc (c := 48) b (by decide +kernel))) (fun hb H1 e1 => ?_) (fun hb H1 e1 => ?_)
  · have e : Mth.andB a b = 48 := by
      simp at hb
      simp [Mth.andB, hb]
    rw [e] at q
    exact s_ret ev_c fun H2 e2 => q H2 (e1.trans e2)
  · refine s_ret (v := tx [Mth.andB a b]) (ev_if (et_and (et_is (et_eq (ev_var rfl) ev_c) (eqc (c := 49) a (by decide +kernel))) fun _ => et_is (et_eq (ev_var rfl) ev_c) (eqc (c := 49) b (by decide +kernel))) (fun h2 => ?_) (fun h2 => ?_)) fun H2 e2 => q H2 (e1.trans e2)
    · have e : Mth.andB a b = 49 := by
        simp at hb h2
        simp [Mth.andB, hb, h2]
      rw [e]
      exact ev_c
    · have e : Mth.andB a b = 120 := by
        simp at hb h2
        unfold Mth.andB
        rw [if_neg (by simp [hb]), if_neg (by intro z; exact h2 z.1 z.2)]
      rw [e]
      exact ev_c
abbrev sOr : Stmt := top 9
theorem scOr : FnScope ["a", "b"] ["a", "b"] (C8.fnScope sOr) := C8.fnScope_by (by decide +kernel)
def spOr : Sp := fun vs H Q _ => ∃ a b : Nat, vs = [tx [a], tx [b]] ∧ RetV (tx [Mth.orB a b]) H Q
theorem v_or {a b : Nat} {H : Hp} : SpV spOr [tx [a], tx [b]] H (tx [Mth.orB a b]) := fun _ _ _ q _ => ⟨a, b, rfl, q⟩
theorem ok_or (F : Df K mg "or_bit" sOr ["a", "b"]) (cN : Cal P w K mg base 1 "not_bit" spNot []) (cA : Cal P w K mg base 1 "and_bit" spAnd []) : Cal P w K mg base 2 "or_bit" spOr [] := by
  refine F.cal scOr (fun vs H Q E h => by obtain ⟨a, b, rfl, _⟩ := h; rfl) fun f cdv A outer s H vs Q E hr h => ?_
  obtain ⟨a, b, rfl, q⟩ := h
  refine ⟨_, pss_one (ps_ret (C8.pe_c cN hr (by decide) rfl (pa_cons (C8.pe_c cA hr (by decide) rfl (pa_cons (C8.pe_c cN hr (by decide) rfl (pa_cons (pv 0) pa_nil)) (pa_cons (C8.pe_c cN hr (by decide) rfl (pa_cons (pv 1) pa_nil)) pa_nil))) pa_nil))), ?_⟩
  exact s_ret (ev_call (ea_cons (ev_call (ea_cons (ev_call (ea_cons (ev_var rfl) ea_nil) v_not) (ea_cons (ev_call (ea_cons (ev_var rfl) ea_nil) v_not) ea_nil)) v_and) ea_nil) v_not) q

/-! ### xor_bit, most_bit -/
abbrev sXor : Stmt := top 10
theorem scXor : FnScope ["a", "b"] ["a", "b"] (C8.fnScope sXor) := C8.fnScope_by (by decide +kernel)
def spXor : Sp := fun vs H Q _ => ∃ a b : Nat, vs = [tx [a], tx [b]] ∧ RetV (tx [Mth.xorB a b]) H Q
theorem v_xor {a b : Nat} {H : Hp} : SpV spXor [tx [a], tx [b]] H (tx [Mth.xorB a b]) := fun _ _ _ q _ => ⟨a, b, rfl, q⟩
theorem ok_xor (F : Df K mg "xor_bit" sXor ["a", "b"]) : Cal P w K mg base 1 "xor_bit" spXor [] := by
  refine F.cal scXor (fun vs H Q E h => by obtain ⟨a, b, rfl, _⟩ := h; rfl) fun f cdv A outer s H vs Q E hr h => ?_
  obtain ⟨a, b, rfl, q⟩ := h
  refine ⟨_, pss_cons (ps_if (PW.pt (pw_or (pt_cmpR op_eq (pv 0) pe_str (nomark _)) (pw_or1 (pt_cmpR op_eq (pv 1) pe_str (nomark _))))) (pss_one (ps_ret pe_str)) pss_nil)
    (pss_one (ps_ret (pe_ifExp (pt_cmpR op_eq (pv 0) (pv 1) (nomark _)) pe_str pe_str))), ?_⟩
  refine q_when (et_or (et_is (et_eq (ev_var rfl) ev_c) (eqc (c := 120) a (by decide +kernel))) fun _ => et_is (et_eq (ev_var rfl) ev_c) (eqc (c := 120) b (by decide +kernel))) (fun hb H1 e1 => ?_) (fun hb H1 e1 => ?_)
  · have e : Mth.xorB a b = 120 := by
      simp at hb
      simp [Mth.xorB, hb]
    rw [e] at q
    exact s_ret ev_c fun H2 e2 => q H2 (e1.trans e2)
  · refine s_ret (v := tx [Mth.xorB a b]) (ev_if (et_is (et_eq (ev_var rfl) (ev_var rfl)) (sg_dec a b)) (fun h2 => ?_) (fun h2 => ?_)) fun H2 e2 => q H2 (e1.trans e2)
    · have e : Mth.xorB a b = 48 := by
        simp at hb h2
        unfold Mth.xorB
        rw [if_neg (by simp [hb]), if_pos h2]
      rw [e]
      exact ev_c
    · have e : Mth.xorB a b = 49 := by
        simp at hb h2
        unfold Mth.xorB
        rw [if_neg (by simp [hb]), if_neg h2]
      rw [e]
      exact ev_c
abbrev sMost : Stmt := top 11
theorem scMost : FnScope ["a", "b", "c"] ["a", "b", "c"] (C8.fnScope sMost) := C8.fnScope_by (by decide +kernel)
def spMost : Sp := fun vs H Q _ => ∃ a b c : Nat, vs = [tx [a], tx [b], tx [c]] ∧ RetV (tx [Mth.mostB a b c]) H Q
theorem v_most {a b c : Nat} {H : Hp} : SpV spMost [tx [a], tx [b], tx [c]] H (tx [Mth.mostB a b c]) := fun _ _ _ q _ => ⟨a, b, c, rfl, q⟩
theorem ok_most (F : Df K mg "most_bit" sMost ["a", "b", "c"]) : Cal P w K mg base 1 "most_bit" spMost [] := by
  refine F.cal scMost (fun vs H Q E h => by obtain ⟨a, b, c, rfl, _⟩ := h; rfl) fun f cdv A outer s H vs Q E hr h => ?_
  obtain ⟨a, b, c, rfl, q⟩ := h
  refine ⟨_, pss_cons (ps_if (pt_cmpR op_eq (pv 0) (pv 1) (nomark _)) (pss_one (ps_ret (pv 0))) pss_nil)
    (pss_cons (ps_if (pt_cmpR op_eq (pv 1) (pv 2) (nomark _)) (pss_one (ps_ret (pv 1))) pss_nil)
    (pss_one (ps_ret (pe_ifExp (pt_cmpR op_eq (pv 0) (pv 2) (nomark _)) (pv 2) pe_str)))), ?_⟩
  refine q_when (et_is (et_eq (ev_var rfl) (ev_var rfl)) (sg_dec a b)) (fun hb H1 e1 => ?_) (fun hb H1 e1 => ?_)
  · have e : Mth.mostB a b c = a := by
      simp at hb
      simp [Mth.mostB, hb]
    rw [e] at q
    exact s_ret (ev_var rfl) fun H2 e2 => q H2 (e1.trans e2)
  refine q_when (et_is (et_eq (ev_var rfl) (ev_var rfl)) (sg_dec b c)) (fun hc H2 e2 => ?_) (fun hc H2 e2 => ?_)
  · have e : Mth.mostB a b c = b := by
      simp at hb hc
      unfold Mth.mostB
      rw [if_neg hb, if_pos hc]
    rw [e] at q
    exact s_ret (ev_var rfl) fun H3 e3 => q H3 ((e1.trans e2).trans e3)
  · refine s_ret (v := tx [Mth.mostB a b c]) (ev_if (et_is (et_eq (ev_var rfl) (ev_var rfl)) (sg_dec a c)) (fun h2 => ?_) (fun h2 => ?_)) fun H3 e3 => q H3 ((e1.trans e2).trans e3)
    · have e : Mth.mostB a b c = c := by
        simp at hb hc h2
        unfold Mth.mostB
        rw [if_neg hb, if_neg hc, if_pos h2]
      rw [e]
      exact ev_var rfl
    · have e : Mth.mostB a b c = 120 := by
        simp at hb hc h2
        unfold Mth.mostB
        rw [if_neg hb, if_neg hc, if_neg h2]
      rw [e]
      exact ev_c
end
end K16
/-! read, bit_by_bit, plus_bits, less_bit, any_bit, told_by_two, operated. -/
namespace K16
open PySem PySem.Spec PyProof.Rows L2 Evl SX
section
variable {P : Program} {w : World} {K : PySem.W.Frag} {mg : Str → Option Value} {base : Heap}

/-! ### read -/
theorem repl_rd : ∀ l : List Nat, StrLaws.replL [122] [120] l = l.map Mth.rd
  | [] => StrLaws.replL_nil
  | c :: l => by
    have ih := repl_rd l
    by_cases e : c = 122
    · subst e
      rw [StrLaws.replL_hit (by simp) (by simp)]
      show [120] ++ StrLaws.replL [122] [120] ((122 :: l).drop 1) = Mth.rd 122 :: l.map Mth.rd
      rw [List.drop_one, List.tail_cons, ih]
      rfl
    · rw [StrLaws.replL_miss (by simpa using e), ih]
      show c :: l.map Mth.rd = Mth.rd c :: l.map Mth.rd
      unfold Mth.rd
      rw [if_neg e]
theorem repl_txt (a : List Nat) : (Txt.replace ⟨a.toArray⟩ "z" "x" : Str) = ⟨(a.map Mth.rd).toArray⟩ := by
  apply TL.ext_tl
  show (Txt.replace ⟨a.toArray⟩ "z" "x" : Str).cps.toList = a.map Mth.rd
  rw [StrLaws.replace_list (by decide +kernel), ← repl_rd a]
  have e1 : ("z" : Str).cps.toList = [122] := by decide +kernel
  have e2 : ("x" : Str).cps.toList = [120] := by decide +kernel
  rw [e1, e2]
abbrev sRead : Stmt := top 2
theorem scRead : FnScope ["value"] ["value"] (C8.fnScope sRead) := C8.fnScope_by (by decide +kernel)
def spRead : Sp := fun vs H Q _ => ∃ a : List Nat, vs = [tx a] ∧ a.length ≤ 1000 ∧ RetV (tx (a.map Mth.rd)) H Q
theorem v_read {a : List Nat} {H : Hp} (h : a.length ≤ 1000) : SpV spRead [tx a] H (tx (a.map Mth.rd)) := fun _ _ _ q _ => ⟨a, rfl, h, q⟩
theorem ok_read (F : Df K mg "read" sRead ["value"]) : Cal P w K mg base 1 "read" spRead [] := by
  obtain ⟨f, fd, D, b⟩ := F.ex
  obtain ⟨oc, od, dV, kV, doc, pm, an, cdv, ct, osl, rfl, lk, hcd⟩ := D.fn.ex
  refine ⟨f, _, ["value"], [], fn_ofT (CX := C8.CX0) (sp := spRead) lk hcd scRead (by decide +kernel) (by decide) (fun vs H Q E h => by obtain ⟨a, rfl, _⟩ := h; rfl) fun A outer s H vs Q E hr h => ?_, D.mgf, D.kp, b, .nil⟩
  obtain ⟨a, rfl, ha, q⟩ := h
  refine ⟨_, CwR.psst_one (CwR.pst_ret (CwR.pet_replC (pv 0) (by decide +kernel))), ?_⟩
  refine ⟨_, rfl, ⟨a.toArray⟩, rfl, ?_, ?_⟩
  · rw [tx_len]
    have e : ("x" : Str).length = 1 := by decide +kernel
    rw [e]
    omega
  · rw [repl_txt]
    exact q H (Ex.refl H)

/-! ### bit_by_bit, of xor_bit -/
theorem ev_callL {i : Nat} {f : Addr} {sp : Sp} {dvs vs : List V} {E : XK} {ta : TA} {σ : L2.St} {H : Hp} {z : V} (hs : σ[i]? = some (some (.ref f))) (h : EvA ta σ H vs) (hq : SpV sp (vs ++ dvs) H z) : Ev (tCallL i f sp dvs E ta) σ H z := fun H1 e Q q =>
  ⟨hs, h H1 e _ fun H2 e2 => hq H2 (e.trans e2) Q (fun H3 e3 => q H3 (e2.trans e3)) E⟩
theorem el_zipS {ta : TA} {te : TE} {a b : List Nat} {i j : Nat} {vs : List Nat} {σ : L2.St} {H : Hp} (h : EvA ta σ H [tx a, tx b]) (hl : a.length = b.length) (hz : a.length ≤ 40000)
    (hw : ∀ x y, wipe (((wipe σ vs).set i (some x)).set j (some y)) vs = wipe σ vs) (v : Nat → Nat → V) (he : ∀ c d H1, Ex H H1 → Ev te (((wipe σ vs).set i (some (tx [c]))).set j (some (tx [d]))) H1 (v c d)) :
    EvL (tLc (R16.iZipS ta) (gTup K 2 (gCons (gName i) (gCons (gName j) gNil))) tYes te vs) σ H ((a.zip b).map fun p => v p.1 p.2) := fun H0 e Q q => h H0 e _ fun H1 e1 => by
  refine ⟨⟨a.toArray⟩, ⟨b.toArray⟩, rfl, fun Dl hD => ?_⟩
  refine R16.lc_zipS (by simp [hl]) (fun k H' => Ex H1 H' ∧ H' Dl = some (.lst (((a.zip b).take k).map fun p => v p.1 p.2))) ⟨Ex.new hD, upd_same⟩ (fun k c d T H' hc hd p hn => ?_) (fun H' p => ?_)
  · have hc := tx_get hc
    have hd := tx_get hd
    have hk : k < a.length := (List.getElem?_eq_some_iff.mp hc).1
    refine ⟨T, [tx [c], tx [d]], rfl, .inl (.inl upd_same), rfl, tx [c], [tx [d]], rfl, tx [d], [], rfl, rfl, hw _ _, ?_⟩
    show te _ _ _
    have eT : Ex H' (upd H' T (.tup [tx [c], tx [d]])) := Ex.new hn
    refine he c d H1 (e.trans e1) _ (p.1.trans eT) _ fun H4 e4 => ⟨_, e4 Dl _ (eT Dl _ p.2), sz_lt ?_, Ex.mut ((p.1.trans eT).trans e4) hD, ?_⟩
    · rw [List.length_map, List.length_take, List.length_zip]
      omega
    · rw [upd_same, List.take_add_one, zip_get hc hd]
      simp
  · have p2 := p.2
    rw [show (⟨a.toArray⟩ : Str).cps.size = (a.zip b).length by rw [tx_size, List.length_zip]; omega, List.take_length] at p2
    exact q Dl H' (fresh_back e1 hD) (e1.trans p.1) p2
theorem joinL_one : ∀ l : List Nat, TL.joinL [] (l.map fun c => [c]) = l
  | [] => rfl
  | [c] => rfl
  | c :: d :: l => by
    show [c] ++ ([] ++ TL.joinL [] ((d :: l).map fun c => [c])) = c :: d :: l
    rw [joinL_one (d :: l)]
    rfl
def rJoin (K : PySem.W.Frag) : V → List V → Hp → VK → Prop := fun x xs H Q => ∃ a p, ∃ ys : List Str, x = .str a ∧ xs = [.ref p] ∧ (SqL K H p (ys.map V.str) ∨ SqT K H p (ys.map V.str)) ∧
      (ys.map (·.length)).sum + ys.length * a.length ≤ 16777216 ∧ Q (.str (Txt.join a ys)) H
theorem pe_joinJ {X : Cx} {o e : Expr} {to te : TE} {apos pos : Pos} (ho : PE X o to) (he : PE X e te) (hs : starEach [e] X.env = [(false, eval e X.env)] := by rfl) (hbase : attributeBase o "join" X.env (eval o X.env) = eval o X.env := by rfl) (hline : (apos.endLine == pos.line) = true := by rfl) :
    PE X (.Call (.Attribute o "join" apos) [e] [] pos) (tM1 (rJoin X.K) to te) := pe_join ho he hs hbase hline
theorem ev_join {to te : TE} {σ : L2.St} {H : Hp} {s : Str} {l : List Nat} (hs : s = ⟨#[]⟩) (ho : Ev to σ H (.str s)) (h : EvL te σ H (l.map fun c => tx [c])) (hl : l.length ≤ 100000) : Ev (tM1 (rJoin K) to te) σ H (tx l) := fun H1 e Q q =>
  ho H1 e _ fun H2 e2 => ⟨⟨_, rfl⟩, h H2 (e.trans e2) _ fun p H3 _ e3 h3 => ⟨s, p, l.map fun c => ⟨#[c]⟩, rfl, rfl, .inl (.inl (.inl (by rw [h3, List.map_map] <;> rfl))), by
    subst hs
    have e1 : (l.map fun c => (⟨#[c]⟩ : Str)).map (·.length) = List.replicate l.length 1 := by
      rw [List.map_map, List.eq_replicate_iff]
      exact ⟨by simp, fun x hx => by
        obtain ⟨c, _, rfl⟩ := List.mem_map.mp hx
        rfl⟩
    rw [e1, List.sum_replicate_nat]
    show l.length * 1 + _ * 0 ≤ _
    omega, by
    have e1 : Txt.join s (l.map fun c => ⟨#[c]⟩) = ⟨l.toArray⟩ := by
      subst hs
      rw [TL.join_eq]
      apply TL.ext_tl
      rw [TL.tl_join, List.map_map]
      exact joinL_one l
    rw [e1]
    exact q H3 (e2.trans e3)⟩⟩
abbrev sBbb : Stmt := top 12
abbrev nBbb : List Str := ["rule", "a", "b", "one", "other"]
theorem scBbb : FnScope nBbb ["rule", "a", "b"] (C8.fnScope sBbb) := C8.fnScope_by (by decide +kernel)
def spBbb (fx : Addr) : Sp := fun vs H Q _ => ∃ a b : List Nat, vs = [.ref fx, tx a, tx b] ∧ a.length = b.length ∧ a.length ≤ 1000 ∧ RetV (tx (a.zipWith Mth.xorB b)) H Q
theorem v_bbb {fx : Addr} {a b : List Nat} {H : Hp} (h : a.length = b.length) (h2 : a.length ≤ 1000) : SpV (spBbb fx) [.ref fx, tx a, tx b] H (tx (a.zipWith Mth.xorB b)) := fun _ _ _ q _ => ⟨a, b, rfl, h, h2, q⟩
theorem ok_bbb {fx : Addr} (F : Df K mg "bit_by_bit" sBbb ["rule", "a", "b"]) (mz : mg "zip" = none) (cX : C8.CalAt P w K mg base 1 fx spXor) : Cal P w K mg base 2 "bit_by_bit" (spBbb fx) [] := by
  obtain ⟨fdx, psx, FX, kp, bX⟩ := cX.ex
  refine F.cal scBbb (fun vs H Q E h => by obtain ⟨a, b, rfl, _⟩ := h; rfl) fun f cdv A outer s H vs Q E hr h => ?_
  obtain ⟨a, b, rfl, hl, hz, q⟩ := h
  refine ⟨_, pss_one (ps_ret (pe_joinJ pe_str (pe_lc (own := [("one", 3), ("other", 4)]) (g := gTup K 2 (gCons (gName 3) (gCons (gName 4) gNil))) (tt := tYes) rfl scBbb.nd (R16.pi_zipS (by rfl) mz (pa_cons (pv 1) (pa_cons (pv 2) pa_nil)))
    (blkOk_by (own := [("one", 3), ("other", 4)]) (N := nBbb) (sc := C8.fnScope sBbb) (by decide +kernel))
    (fun _ _ _ _ _ => pg_tup rfl (pgs_cons (pg_name (i := 3) scBbb.nd rfl (Or.inl rfl)) (pgs_cons (pg_name (i := 4) scBbb.nd rfl (Or.inl rfl)) pgs_nil))) (fun _ _ _ _ _ => pts_nil)
    (fun _ _ _ _ _ => pe_callL (i := 0) (E := C8.E0) FX hr rfl (Or.inr (Or.inl rfl)) kp bX .nil C8.pass0 (pa_cons (pv 3) (pa_cons (pv 4) pa_nil)))))), ?_⟩
  have e : (a.zip b).map (fun p => tx [Mth.xorB p.1 p.2]) = (a.zipWith Mth.xorB b).map fun c => tx [c] := by
    rw [Mth.zipWith_map, List.map_map]
    rfl
  refine s_ret (ev_join (l := a.zipWith Mth.xorB b) (by decide +kernel) ev_c ?_ (by rw [List.length_zipWith]; omega)) q
  rw [← e]
  exact el_zipS (v := fun c d => tx [Mth.xorB c d]) (ea_cons (ev_var rfl) (ea_cons (ev_var rfl) ea_nil)) hl (by omega) (fun _ _ => rfl) fun c d H1 e1 => ev_callL rfl (ea_cons (ev_var rfl) (ea_cons (ev_var rfl) ea_nil)) v_xor

/-! ### plus_bits, less_bit -/
abbrev sPlus : Stmt := top 13
abbrev nPlus : List Str := ["a", "b", "found", "carried", "one", "other"]
theorem scPlus : FnScope nPlus ["a", "b"] (C8.fnScope sPlus) := C8.fnScope_by (by decide +kernel)
def spPlus : Sp := fun vs H Q _ => ∃ a b : List Nat, vs = [tx a, tx b] ∧ a.length = b.length ∧ a.length ≤ 1000 ∧ RetV (tx (Mth.plusL a b)) H Q
theorem v_plus {a b : List Nat} {H : Hp} (h : a.length = b.length) (h2 : a.length ≤ 1000) : SpV spPlus [tx a, tx b] H (tx (Mth.plusL a b)) := fun _ _ _ q _ => ⟨a, b, rfl, h, h2, q⟩
theorem plus_len : ∀ (l : List (Nat × Nat)) (st : List Nat × Nat), (l.foldl Mth.plusF st).1.length = st.1.length + l.length
  | [], _ => rfl
  | p :: l, st => by
    rw [List.foldl_cons, plus_len l, List.length_cons]
    show (_ :: st.1).length + l.length = _
    rw [List.length_cons]
    omega
theorem ok_plus (F : Df K mg "plus_bits" sPlus ["a", "b"]) (mz : mg "zip" = none) (cX : Cal P w K mg base 1 "xor_bit" spXor []) (cM : Cal P w K mg base 1 "most_bit" spMost []) : Cal P w K mg base 2 "plus_bits" spPlus [] := by
  refine F.cal scPlus (fun vs H Q E h => by obtain ⟨a, b, rfl, _⟩ := h; rfl) fun f cdv A outer s H vs Q E hr h => ?_
  obtain ⟨a, b, rfl, hl, hz, q⟩ := h
  refine ⟨_, pss_cons (ps_set (i := 2) scPlus.nd rfl (.inl rfl) pe_str) (pss_cons (ps_set (i := 3) scPlus.nd rfl (.inl rfl) pe_str)
    (pss_cons (ps_for PassesOwn.never rfl (R16.pi_zipS (by rfl) mz (pa_cons (R16.pe_revS (pv 0)) (pa_cons (R16.pe_revS (pv 1)) pa_nil)))
      (pg_tup rfl (pgs_cons (pg_name (i := 4) scPlus.nd rfl (.inl rfl)) (pgs_cons (pg_name (i := 5) scPlus.nd rfl (.inl rfl)) pgs_nil)))
      (pss_cons (ps_set (i := 2) scPlus.nd rfl (.inl rfl) (pe_op op_cats (C8.pe_c cX hr (by decide) rfl (pa_cons (C8.pe_c cX hr (by decide) rfl (pa_cons (pv 4) (pa_cons (pv 5) pa_nil))) (pa_cons (pv 3) pa_nil))) (pv 2)))
        (pss_one (ps_set (i := 3) scPlus.nd rfl (.inl rfl) (C8.pe_c cM hr (by decide) rfl (pa_cons (pv 4) (pa_cons (pv 5) (pa_cons (pv 3) pa_nil))))))))
    (pss_one (ps_ret (pv 2))))), ?_⟩
  refine q_asg ev_c fun H1 e1 => q_asg ev_c fun H2 e2 => ?_
  refine q_zipS (ea_cons (ev_rev (ev_var rfl) (by omega)) (ea_cons (ev_rev (ev_var rfl) (by omega)) ea_nil)) (by simpa using hl)
    (fun k σ' H' => Ex H H' ∧ ∃ y4 y5, σ' = [some (tx a), some (tx b), some (tx (((a.reverse.zip b.reverse).take k).foldl Mth.plusF ([], 48)).1), some (tx [(((a.reverse.zip b.reverse).take k).foldl Mth.plusF ([], 48)).2]), y4, y5])
    (fun H3 e3 => ⟨(e1.trans e2).trans e3, none, none, ?_⟩) ?_ ?_
  · have t1 : V.str "" = tx [] := tx_of (by decide +kernel)
    have t2 : V.str "0" = tx [48] := tx_of (by decide +kernel)
    show [some (tx a), some (tx b), some (V.str ""), some (V.str "0"), none, none] = _
    rw [t1, t2]
    rfl
  · rintro k c d σ' H' hc hd ⟨eH, y4, y5, rfl⟩ H3 e3
    have hk : k < a.length := by simpa using (List.getElem?_eq_some_iff.mp hc).1
    have hfl := plus_len ((a.reverse.zip b.reverse).take k) ([], 48)
    have hft : ((a.reverse.zip b.reverse).take k).length ≤ k := by rw [List.length_take]; omega
    have st := fold_take Mth.plusF ([], 48) (a.reverse.zip b.reverse) (zip_get hc hd)
    generalize hst : ((a.reverse.zip b.reverse).take k).foldl Mth.plusF ([], 48) = st0 at *
    obtain ⟨fd0, c0⟩ := st0
    have hfl : fd0.length = 0 + ((a.reverse.zip b.reverse).take k).length := hfl
    refine q_asg (v := tx ([Mth.xorB (Mth.xorB c d) c0] ++ fd0)) (ev_cat (ev_call (ea_cons (ev_call (ea_cons (ev_var rfl) (ea_cons (ev_var rfl) ea_nil)) v_xor) (ea_cons (ev_var rfl) ea_nil)) v_xor) (ev_var rfl) (by rw [List.length_singleton]; omega)) fun H4 e4 => ?_
    refine s_asg (v := tx [Mth.mostB c d c0]) (ev_call (ea_cons (ev_var rfl) (ea_cons (ev_var rfl) (ea_cons (ev_var rfl) ea_nil))) v_most) fun H5 e5 => ?_
    refine ⟨((eH.trans e3).trans e4).trans e5, some (tx [c]), some (tx [d]), ?_⟩
    rw [st] <;> rfl
  · rintro σ' H' ⟨eH, y4, y5, rfl⟩
    have e : ((a.reverse.zip b.reverse).take a.reverse.length).foldl Mth.plusF ([], 48) = (a.reverse.zip b.reverse).foldl Mth.plusF ([], 48) := by
      rw [List.take_of_length_le]
      rw [List.length_zip]
      omega
    rw [e]
    exact s_ret (ev_var rfl) fun H4 e4 => q H4 (eH.trans e4)
abbrev sLess : Stmt := top 14
abbrev nLess : List Str := ["a", "b", "borrowed", "one", "other"]
theorem scLess : FnScope nLess ["a", "b"] (C8.fnScope sLess) := C8.fnScope_by (by decide +kernel)
def spLess : Sp := fun vs H Q _ => ∃ a b : List Nat, vs = [tx a, tx b] ∧ a.length = b.length ∧ a.length ≤ 1000 ∧ RetV (tx [Mth.lessL a b]) H Q
theorem v_less {a b : List Nat} {H : Hp} (h : a.length = b.length) (h2 : a.length ≤ 1000) : SpV spLess [tx a, tx b] H (tx [Mth.lessL a b]) := fun _ _ _ q _ => ⟨a, b, rfl, h, h2, q⟩
theorem ok_less (F : Df K mg "less_bit" sLess ["a", "b"]) (mz : mg "zip" = none) (cN : Cal P w K mg base 1 "not_bit" spNot []) (cM : Cal P w K mg base 1 "most_bit" spMost []) : Cal P w K mg base 2 "less_bit" spLess [] := by
  refine F.cal scLess (fun vs H Q E h => by obtain ⟨a, b, rfl, _⟩ := h; rfl) fun f cdv A outer s H vs Q E hr h => ?_
  obtain ⟨a, b, rfl, hl, hz, q⟩ := h
  refine ⟨_, pss_cons (ps_set (i := 2) scLess.nd rfl (.inl rfl) pe_str)
    (pss_cons (ps_for PassesOwn.never rfl (R16.pi_zipS (by rfl) mz (pa_cons (R16.pe_revS (pv 0)) (pa_cons (R16.pe_revS (pv 1)) pa_nil)))
      (pg_tup rfl (pgs_cons (pg_name (i := 3) scLess.nd rfl (.inl rfl)) (pgs_cons (pg_name (i := 4) scLess.nd rfl (.inl rfl)) pgs_nil)))
      (pss_one (ps_set (i := 2) scLess.nd rfl (.inl rfl) (C8.pe_c cM hr (by decide) rfl (pa_cons (C8.pe_c cN hr (by decide) rfl (pa_cons (pv 3) pa_nil)) (pa_cons (pv 4) (pa_cons (pv 2) pa_nil)))))))
    (pss_one (ps_ret (pv 2)))), ?_⟩
  refine q_asg ev_c fun H1 e1 => ?_
  refine q_zipS (ea_cons (ev_rev (ev_var rfl) (by omega)) (ea_cons (ev_rev (ev_var rfl) (by omega)) ea_nil)) (by simpa using hl)
    (fun k σ' H' => Ex H H' ∧ ∃ y4 y5, σ' = [some (tx a), some (tx b), some (tx [((a.reverse.zip b.reverse).take k).foldl Mth.lessF 48]), y4, y5])
    (fun H3 e3 => ⟨e1.trans e3, none, none, ?_⟩) ?_ ?_
  · have t2 : V.str "0" = tx [48] := tx_of (by decide +kernel)
    show [some (tx a), some (tx b), some (V.str "0"), none, none] = _
    rw [t2]
    rfl
  · rintro k c d σ' H' hc hd ⟨eH, y4, y5, rfl⟩ H3 e3
    have st := fold_take Mth.lessF 48 (a.reverse.zip b.reverse) (zip_get hc hd)
    refine s_asg (ev_call (ea_cons (ev_call (ea_cons (ev_var rfl) ea_nil) v_not) (ea_cons (ev_var rfl) (ea_cons (ev_var rfl) ea_nil))) v_most) fun H5 e5 => ?_
    refine ⟨(eH.trans e3).trans e5, some (tx [c]), some (tx [d]), ?_⟩
    rw [st] <;> rfl
  · rintro σ' H' ⟨eH, y4, y5, rfl⟩
    have e : ((a.reverse.zip b.reverse).take a.reverse.length).foldl Mth.lessF 48 = (a.reverse.zip b.reverse).foldl Mth.lessF 48 := by
      rw [List.take_of_length_le]
      rw [List.length_zip]
      omega
    rw [e]
    exact s_ret (ev_var rfl) fun H4 e4 => q H4 (eH.trans e4)

/-! ### any_bit -/
abbrev sAny : Stmt := top 15
abbrev nAny : List Str := ["a", "found", "one"]
theorem scAny : FnScope nAny ["a"] (C8.fnScope sAny) := C8.fnScope_by (by decide +kernel)
def spAny : Sp := fun vs H Q _ => ∃ a : List Nat, vs = [tx a] ∧ RetV (tx [Mth.anyL a]) H Q
theorem v_any {a : List Nat} {H : Hp} : SpV spAny [tx a] H (tx [Mth.anyL a]) := fun _ _ _ q _ => ⟨a, rfl, q⟩
theorem ok_any (F : Df K mg "any_bit" sAny ["a"]) (cO : Cal P w K mg base 2 "or_bit" spOr []) : Cal P w K mg base 3 "any_bit" spAny [] := by
  refine F.cal scAny (fun vs H Q E h => by obtain ⟨a, rfl, _⟩ := h; rfl) fun f cdv A outer s H vs Q E hr h => ?_
  obtain ⟨a, rfl, q⟩ := h
  refine ⟨_, pss_cons (ps_set (i := 1) scAny.nd rfl (.inl rfl) pe_str)
    (pss_cons (ps_for PassesOwn.never rfl (pi_str (pv 0)) (pg_name (i := 2) scAny.nd rfl (.inl rfl))
      (pss_one (ps_set (i := 1) scAny.nd rfl (.inl rfl) (C8.pe_c cO hr (by decide) rfl (pa_cons (pv 1) (pa_cons (pv 2) pa_nil))))))
    (pss_one (ps_ret (pv 1)))), ?_⟩
  refine q_asg ev_c fun H1 e1 => ?_
  refine q_forS (a := a) (ev_var rfl) (fun k σ' H' => Ex H H' ∧ ∃ y, σ' = [some (tx a), some (tx [(a.take k).foldl Mth.orB 48]), y]) (fun H3 e3 => ⟨e1.trans e3, none, ?_⟩) ?_ ?_
  · have t2 : V.str "0" = tx [48] := tx_of (by decide +kernel)
    show [some (tx a), some (V.str "0"), none] = _
    rw [t2]
    rfl
  · rintro k c σ' H' hc ⟨eH, y, rfl⟩
    have st := fold_take Mth.orB 48 a hc
    refine s_asg (ev_call (ea_cons (ev_var rfl) (ea_cons (ev_var rfl) ea_nil)) v_or) fun H5 e5 => ?_
    refine ⟨eH.trans e5, some (tx [c]), ?_⟩
    rw [st] <;> rfl
  · rintro σ' H' ⟨eH, y, rfl⟩
    rw [fold_all]
    exact s_ret (ev_var rfl) fun H4 e4 => q H4 (eH.trans e4)
end
end K16
/-! told_by_two, operated. -/
namespace K16
open PySem PySem.Spec PyProof.Rows L2 Evl SX
def wdS : Mth.Wd → Str
  | .plus => "plus"
  | .same => "same"
  | .less => "less"
abbrev wdV (d : Mth.Wd) : V := .str (wdS d)
section
variable {P : Program} {w : World} {K : PySem.W.Frag} {mg : Str → Option Value} {base : Heap}
abbrev sTwo : Stmt := top 19
abbrev nTwo : List Str := ["word", "a", "b"]
theorem scTwo : FnScope nTwo ["word", "a", "b"] (C8.fnScope sTwo) := C8.fnScope_by (by decide +kernel)
def spTwo : Sp := fun vs H Q _ => ∃ (d : Mth.Wd) (a b : List Nat), vs = [wdV d, tx a, tx b] ∧ a.length = b.length ∧ a.length ≤ 1000 ∧ RetV (tx (Mth.opL d a b)) H Q
theorem v_two {d : Mth.Wd} {a b : List Nat} {H : Hp} (h : a.length = b.length) (h2 : a.length ≤ 1000) : SpV spTwo [wdV d, tx a, tx b] H (tx (Mth.opL d a b)) := fun _ _ _ q _ => ⟨d, a, b, rfl, h, h2, q⟩
theorem wd_dec (d : Mth.Wd) (s : Str) : decide (wdV d = V.str s) = decide (wdS d = s) := by
  by_cases e : wdS d = s
  · rw [decide_eq_true e, decide_eq_true (congrArg V.str e)]
  · rw [decide_eq_false e, decide_eq_false fun z => e (V.str.inj z)]
theorem ok_two {fx : Addr} (F : Df K mg "told_by_two" sTwo nTwo) (hx : mg "xor_bit" = some (.ref fx)) (cP : Cal P w K mg base 2 "plus_bits" spPlus []) (cN : Cal P w K mg base 1 "not_bit" spNot []) (cA : Cal P w K mg base 3 "any_bit" spAny [])
    (cB : Cal P w K mg base 2 "bit_by_bit" (spBbb fx) []) (cL : Cal P w K mg base 2 "less_bit" spLess []) : Cal P w K mg base 4 "told_by_two" spTwo [] := by
  refine F.cal scTwo (fun vs H Q E h => by obtain ⟨d, a, b, rfl, _⟩ := h; rfl) fun f cdv A outer s H vs Q E hr h => ?_
  obtain ⟨d, a, b, rfl, hl, hz, q⟩ := h
  refine ⟨_, pss_cons (ps_if (pt_cmpR op_eq (pv 0) pe_str (nomark _)) (pss_one (ps_ret (C8.pe_c cP hr (by decide) rfl (pa_cons (pv 1) (pa_cons (pv 2) pa_nil))))) pss_nil)
    (pss_cons (ps_if (pt_cmpR op_eq (pv 0) pe_str (nomark _)) (pss_one (ps_ret (C8.pe_c cN hr (by decide) rfl (pa_cons (C8.pe_c cA hr (by decide) rfl (pa_cons (C8.pe_c cB hr (by decide) rfl (pa_cons (pe_glob (v := .ref fx) rfl hx rfl) (pa_cons (pv 1) (pa_cons (pv 2) pa_nil)))) pa_nil)) pa_nil)))) pss_nil)
    (pss_cons (ps_if (pt_cmpR op_eq (pv 0) pe_str (nomark _)) (pss_one (ps_ret (C8.pe_c cL hr (by decide) rfl (pa_cons (pv 1) (pa_cons (pv 2) pa_nil))))) pss_nil)
    pss_never)), ?_⟩
  refine q_when (et_is (et_eq (ev_var rfl) ev_c) (wd_dec d _)) (fun hb H1 e1 => ?_) (fun hb H1 e1 => ?_)
  · have e : d = .plus := by
      cases d
      · rfl
      · exact absurd hb (by decide +kernel)
      · exact absurd hb (by decide +kernel)
    subst e
    exact s_ret (ev_call (ea_cons (ev_var rfl) (ea_cons (ev_var rfl) ea_nil)) (v_plus hl hz)) fun H2 e2 => q H2 (e1.trans e2)
  refine q_when (et_is (et_eq (ev_var rfl) ev_c) (wd_dec d _)) (fun hc H2 e2 => ?_) (fun hc H2 e2 => ?_)
  · have e : d = .same := by
      cases d
      · exact absurd hc (by decide +kernel)
      · rfl
      · exact absurd hc (by decide +kernel)
    subst e
    exact s_ret (ev_call (ea_cons (ev_call (ea_cons (ev_call (ea_cons ev_c (ea_cons (ev_var rfl) (ea_cons (ev_var rfl) ea_nil))) (v_bbb hl hz)) ea_nil) v_any) ea_nil) v_not) fun H3 e3 => q H3 ((e1.trans e2).trans e3)
  refine q_when (et_is (et_eq (ev_var rfl) ev_c) (wd_dec d _)) (fun hd H3 e3 => ?_) (fun hd H3 e3 => ?_)
  · have e : d = .less := by
      cases d
      · exact absurd hd (by decide +kernel)
      · exact absurd hd (by decide +kernel)
      · rfl
    subst e
    exact s_ret (ev_call (ea_cons (ev_var rfl) (ea_cons (ev_var rfl) ea_nil)) (v_less hl hz)) fun H4 e4 => q H4 (((e1.trans e2).trans e3).trans e4)
  · exfalso
    cases d
    · exact absurd hb (by decide +kernel)
    · exact absurd hc (by decide +kernel)
    · exact absurd hd (by decide +kernel)

/-- == of data at any depth -/
theorem rv_eqD {x y : V} {H : Hp} {d e : PyData} (hx : ∀ H1, Ex H H1 → Dp K H1 x d) (hy : ∀ H1, Ex H H1 → Dp K H1 y e) (sd : SeqAt.shaped d = true := by rfl) (se : SeqAt.shaped e = true := by rfl) : RV (rEqD K) x y H (.bl (PyData.eqv d e)) := fun H1 a _ q =>
  ⟨d, e, hx H1 a, hy H1 a, sd, se, q H1 (Ex.refl H1)⟩
theorem rv_neD {x y : V} {H : Hp} {d e : PyData} (hx : ∀ H1, Ex H H1 → Dp K H1 x d) (hy : ∀ H1, Ex H H1 → Dp K H1 y e) (sd : SeqAt.shaped d = true := by rfl) (se : SeqAt.shaped e = true := by rfl) : RV (rNeD K) x y H (.bl (!PyData.eqv d e)) := fun H1 a _ q =>
  ⟨d, e, hx H1 a, hy H1 a, sd, se, q H1 (Ex.refl H1)⟩
/-- first, *others = a new list -/
theorem q_star1 {te : TE} {σ : L2.St} {H : Hp} {D : Ends} {tz : TS} {i j : Nat} {x : V} {xs : List V} (hm : EvL te σ H (x :: xs)) (hl : xs.length ≤ 1000)
    (k : ∀ p H1, Ex H H1 → H1 p = some (.lst xs) → tz D ((σ.set i (some x)).set j (some (.ref p))) H1) : tSeq (tAsg te (R16.gStar1 K (gCons (gName i) (gCons (gName j) gNil)))) tz D σ H :=
  hm H (Ex.refl H) _ fun p H1 hp e1 h1 => ⟨p, x, xs, rfl, .inl (.inl h1), hl, fun D1 hD => ⟨x, [.ref D1], rfl, .ref D1, [], rfl, rfl, k D1 _ (e1.trans (Ex.new hD)) upd_same⟩⟩

/-! ### operated -/
theorem ok4 {a : List Nat} (h : ∀ c ∈ a, Mth.C4 c) : PyData.strOk ⟨a.toArray⟩ = true := by
  unfold PyData.strOk
  simp
  intro c hc
  rcases h c hc with e | e | e | e <;> omega
theorem ok_rd {a : List Nat} (h : ∀ c ∈ a, Mth.C4 c) : ∀ c ∈ a.map Mth.rd, Mth.C4 c := fun c hc => by
  obtain ⟨d, hd, rfl⟩ := List.mem_map.mp hc
  rcases Mth.rd_c3 (h d hd) with e | e | e
  · exact .inl e
  · exact .inr (.inl e)
  · exact .inr (.inr (.inl e))
theorem sh_one {x : Str} (h : PyData.strOk x = true) : SeqAt.shaped (.list [.str x]) = true := by
  simp [SeqAt.shaped, PyData.canLay0, PyData.canLayAll0, PyData.depth, PyData.depthAll, h]
theorem sh_two {x y : Str} (h : PyData.strOk x = true) (h2 : PyData.strOk y = true) : SeqAt.shaped (.list [.str x, .str y]) = true := by
  simp [SeqAt.shaped, PyData.canLay0, PyData.canLayAll0, PyData.depth, PyData.depthAll, h, h2]
theorem sh_nil : SeqAt.shaped (.list []) = true := by
  simp [SeqAt.shaped, PyData.canLay0, PyData.canLayAll0, PyData.depth, PyData.depthAll]
theorem eqv_one {x : PyData} : PyData.eqv (.list [x]) (.list []) = false := by simp [PyData.eqv, PyData.eqvAll]
abbrev sOp : Stmt := top 20
abbrev nOp : List Str := ["word", "values", "high", "low", "first", "others", "value"]
theorem scOp : FnScope nOp ["word", "values", "high", "low"] (C8.fnScope sOp) := C8.fnScope_by (by decide +kernel)
def spOp (K : PySem.W.Frag) : Sp := fun vs H Q _ => ∃ (d : Mth.Wd) (l : Addr) (a b : List Nat) (x y : V), vs = [wdV d, .ref l, x, y] ∧ SqL K H l [tx a, tx b] ∧ a.length = b.length ∧ a.length ≤ 1000 ∧ (∀ c ∈ b, Mth.C4 c) ∧ RetV (tx (Mth.opL d (a.map Mth.rd) (b.map Mth.rd))) H Q
theorem v_op {d : Mth.Wd} {l : Addr} {a b : List Nat} {x y : V} {H : Hp} (hq : SqL K H l [tx a, tx b]) (h : a.length = b.length) (h2 : a.length ≤ 1000) (h3 : ∀ c ∈ b, Mth.C4 c) : SpV (spOp K) [wdV d, .ref l, x, y] H (tx (Mth.opL d (a.map Mth.rd) (b.map Mth.rd))) :=
  fun _ e _ q _ => ⟨d, l, a, b, x, y, rfl, ex_l e hq, h, h2, h3, q⟩
/-- the def, its two keyword-only defaults known -/
structure DfOp (K : PySem.W.Frag) (mg : Str → Option Value) : Prop where
  ex : ∃ f fd ds, C8.Def K mg "operated" sOp f fd ∧ Binds K fd ["word", "values", "high", "low"] ds ∧ Vals [V.int 0, V.int 0] ds
theorem ok_op (F : DfOp K mg) (cR : Cal P w K mg base 1 "read" spRead []) (cT : Cal P w K mg base 4 "told_by_two" spTwo []) : Cal P w K mg base 5 "operated" (spOp K) [.int 0, .int 0] := by
  obtain ⟨f, fd, ds, D, b, dv⟩ := F.ex
  refine C8.cal0 D b dv scOp (fun vs H Q E h => by obtain ⟨d, l, a, b, x, y, rfl, _⟩ := h; rfl) fun cdv A outer s H vs Q E hr h => ?_
  obtain ⟨d, l, a, b, x, y, rfl, hq, hl, hz, h4, q⟩ := h
  have hu : A.deeper (envOfC "operated" (C8.fnScope sOp) s.heap.objs.size f cdv) = A.deeper (envOfC "operated" (C8.fnScope sOp) s.heap.objs.size f cdv) := rfl
  refine ⟨_, pss_cons (ps_asg (pe_lc (own := [("value", 6)]) (g := gName 6) (tt := tYes) rfl scOp.nd (pi_list (pv 1)) (blkOk_by (own := [("value", 6)]) (N := nOp) (sc := C8.fnScope sOp) (by decide +kernel))
      (fun _ _ _ _ _ => pg_name (i := 6) scOp.nd rfl (Or.inl rfl)) (fun _ _ _ _ _ => pts_nil) (fun _ _ _ _ _ => C8.pe_c cR hr (by decide) rfl (pa_cons (pv 6) pa_nil)))
      (R16.pg_star1 rfl (pgs_cons (pg_name (i := 4) scOp.nd rfl (.inl rfl)) (R16.pgs_star (pg_name (i := 5) scOp.nd rfl (.inl rfl))))))
    (pss_cons (ps_if (pt_cmpR (op_eqD hr.units) (pv 5) (pe_lst pa_nil) (nomark _)) pss_never pss_nil)
    (pss_cons (ps_if (pt_cmpR op_eq (pv 0) pe_str (nomark _)) pss_never pss_nil)
    (pss_one (ps_ret (C8.pe_c cT hr (by decide) rfl (pa_cons (pv 0) (pa_cons (pv 4) (pa_cons (pe_ix ix_list (pv 5) pe_int (fun _ _ => rfl)) pa_nil)))))))), ?_⟩
  -- first, *others = [read(value) for value in values]
  have hm : EvL (tLc (iList K (tVar 1)) (gName 6) tYes (tCall spRead [] C8.E0 (tCons (tVar 6) tNil)) [6]) [some (wdV d), some (.ref l), some x, some y, none, none, none] H ([a, b].map fun z => tx (z.map Mth.rd)) :=
    el_map (gV := fun z : List Nat => tx z) (ev_var rfl) hq (by show 2 ≤ 40000; decide) (fun _ => rfl) fun z hzm H1 e1 => ev_call (ea_cons (ev_var rfl) ea_nil) (v_read (by
      have : z = a ∨ z = b := by simpa using hzm
      rcases this with e | e <;> subst e <;> omega))
  refine q_star1 hm (by show 1 ≤ 1000; decide) fun p H1 e1 h1 => ?_
  -- others == []
  refine q_when (b := false) (et_is (et_test (ev_opL (xs := []) (ev_var rfl) (el_lst ea_nil (Nat.zero_le _)) fun p2 H2 h2 e2 => rv_eqD (d := .list [.str _]) (e := .list []) (fun H3 e3 => .lst (.inl (.inl ((e2.trans e3) p _ h1))) (.cons (.str _) .nil)) (fun H3 e3 => .lst (.inl (.inl (e3 p2 _ h2))) .nil) (sh_one (ok4 (ok_rd h4))) sh_nil)) eqv_one)
    (fun z => absurd z Bool.false_ne_true) (fun _ H2 e2 => ?_)
  -- word == 'pick'
  refine q_when (et_is (b := false) (et_eq (ev_var rfl) ev_c) (by rw [wd_dec]; cases d <;> decide +kernel)) (fun z => absurd z Bool.false_ne_true) (fun _ H3 e3 => ?_)
  exact s_ret (ev_call (ea_cons (ev_var rfl) (ea_cons (ev_var rfl) (ea_cons (ev_ixL (ev_var rfl) ev_c (.inl (.inl ((e2.trans e3) p _ h1))) (atI_nat (j := 0) rfl)) ea_nil))) (v_two (by simpa using hl) (by simpa using hz))) fun H4 e4 => q H4 (((e1.trans e2).trans e3).trans e4)
end
end K16
/-! The law's own small defs: _law_ways, _law_triples, _law_sign. -/
namespace K16
open PySem PySem.Spec PyProof.Rows L2 Evl SX

/-! ### sorted(set(..)) as a function -/
theorem sort_ex : ∀ ns : List Int, ∃ ms : List Int, ms.Pairwise (· < ·) ∧ (∀ k, k ∈ ms ↔ k ∈ ns) ∧ ms.length ≤ ns.length
  | [] => ⟨[], .nil, fun _ => Iff.rfl, Nat.le_refl _⟩
  | x :: ns => by
    obtain ⟨ms, hp, hm, hl⟩ := sort_ex ns
    by_cases hx : x ∈ ms
    · refine ⟨ms, hp, fun k => ?_, by rw [List.length_cons]; omega⟩
      rw [List.mem_cons, ← hm k]
      exact ⟨.inr, fun h => h.elim (fun e => e ▸ hx) id⟩
    · refine ⟨ms.filter (fun y => decide (y < x)) ++ x :: ms.filter (fun y => decide (x < y)), ?_, fun k => ?_, ?_⟩
      · rw [List.pairwise_append]
        refine ⟨hp.filter _, List.pairwise_cons.2 ⟨fun y hy => ?_, hp.filter _⟩, fun a ha b hb => ?_⟩
        · exact of_decide_eq_true (List.mem_filter.1 hy).2
        · have h1 : a < x := of_decide_eq_true (List.mem_filter.1 ha).2
          rcases List.mem_cons.1 hb with e | hb
          · rw [e]; exact h1
          · have h2 : x < b := of_decide_eq_true (List.mem_filter.1 hb).2
            omega
      · rw [List.mem_append, List.mem_cons, List.mem_filter, List.mem_filter, List.mem_cons, ← hm k]
        constructor
        · rintro (h | h | h)
          · exact .inr h.1
          · exact .inl h
          · exact .inr h.1
        · rintro (h | h)
          · exact .inr (.inl h)
          · have hne : k ≠ x := fun e => hx (e ▸ h)
            rcases Int.lt_or_gt_of_ne hne with g | g
            · exact .inl ⟨h, decide_eq_true g⟩
            · exact .inr (.inr ⟨h, decide_eq_true g⟩)
      · have h2 : (ms.filter (fun y => decide (y < x))).length + (ms.filter (fun y => decide (x < y))).length ≤ ms.length := by
          clear hp hm hl hx
          induction ms with
          | nil => simp
          | cons y ms ih =>
            rw [List.filter_cons, List.filter_cons]
            by_cases h1 : y < x
            · have h3 : ¬ x < y := by omega
              simp [h1, h3]; omega
            · by_cases h3 : x < y
              · simp [h1, h3]; omega
              · simp [h1, h3]; omega
        rw [List.length_append, List.length_cons, List.length_cons]
        omega
theorem rise_eq : ∀ {l m : List Int}, l.Pairwise (· < ·) → m.Pairwise (· < ·) → (∀ k, k ∈ l ↔ k ∈ m) → l = m
  | [], [], _, _, _ => rfl
  | [], y :: m, _, _, h => absurd ((h y).2 (by simp)) (by simp)
  | x :: l, [], _, _, h => absurd ((h x).1 (by simp)) (by simp)
  | x :: l, y :: m, hl, hm, h => by
    obtain ⟨l1, l2⟩ := List.pairwise_cons.1 hl
    obtain ⟨m1, m2⟩ := List.pairwise_cons.1 hm
    have e : x = y := by
      rcases List.mem_cons.1 ((h x).1 (by simp)) with e | e
      · exact e
      · rcases List.mem_cons.1 ((h y).2 (by simp)) with e' | e'
        · exact e'.symm
        · have := m1 x e
          have := l1 y e'
          omega
    subst e
    refine congrArg (x :: ·) (rise_eq l2 m2 fun k => ⟨fun hk => ?_, fun hk => ?_⟩)
    · rcases List.mem_cons.1 ((h k).1 (List.mem_cons_of_mem _ hk)) with e | e
      · have := l1 k hk
        omega
      · exact e
    · rcases List.mem_cons.1 ((h k).2 (List.mem_cons_of_mem _ hk)) with e | e
      · have := m1 k hk
        omega
      · exact e
noncomputable def sortS (ns : List Int) : List Int := Classical.choose (sort_ex ns)
theorem sortS_rise (ns : List Int) : (sortS ns).Pairwise (· < ·) := (Classical.choose_spec (sort_ex ns)).1
theorem sortS_mem {ns : List Int} {k : Int} : k ∈ sortS ns ↔ k ∈ ns := (Classical.choose_spec (sort_ex ns)).2.1 k
theorem sortS_len (ns : List Int) : (sortS ns).length ≤ ns.length := (Classical.choose_spec (sort_ex ns)).2.2
theorem sortS_eq {ns ms : List Int} (h : ms.Pairwise (· < ·)) (hm : ∀ k, k ∈ ms ↔ k ∈ ns) : ms = sortS ns := rise_eq h (sortS_rise ns) fun k => (hm k).trans sortS_mem.symm
theorem sortS_01 {ns : List Int} (h : ∀ c ∈ ns, c = 0 ∨ c = 1) : sortS ns = Mth.ss ns := Mth.ss_eq h (sortS_rise ns) fun _ => sortS_mem

section
variable {K : PySem.W.Frag} {σ : L2.St} {H H' : Hp} {ta tb te ti tl : TE}
theorem el_sortSet {l : Addr} {ns : List Int} (h : Ev ta σ H (.ref l)) (hx : SqL K H l (ns.map V.int)) (hz : ns.length ≤ 4000) : EvL (R16.tSortSet K ta) σ H ((sortS ns).map V.int) := fun H1 e Q q =>
  h H1 e _ fun H2 e2 => ⟨l, ns, rfl, ex_l (e.trans e2) hx, hz, fun p ms hp hr hm _ => by
    rw [sortS_eq hr hm]
    exact q p _ (fresh_back e2 hp) (e2.trans (Ex.new hp)) upd_same⟩
theorem el_sortSetN {ns : List Int} (h : EvL ta σ H (ns.map V.int)) (hz : ns.length ≤ 4000) : EvL (R16.tSortSet K ta) σ H ((sortS ns).map V.int) := fun H1 e Q q =>
  h H1 e _ fun l H2 _ e2 hl => ⟨l, ns, rfl, .inl (.inl hl), hz, fun p ms hp hr hm _ => by
    rw [sortS_eq hr hm]
    exact q p _ (fresh_back e2 hp) (e2.trans (Ex.new hp)) upd_same⟩
/-- [xs, ys][i], both new -/
theorem el_pick {tA tB : TE} {xs ys zs : List V} {b : Bool} (hA : EvL tA σ H xs) (hB : EvL tB σ H ys) (hi : Ev ti σ H (.int (if b then 1 else 0))) (h0 : b = false → zs = xs) (h1 : b = true → zs = ys) :
    EvL (tOp (rIxL K) (tLst (tCons tA (tCons tB tNil))) ti) σ H zs := fun H1 e Q q =>
  hA H1 e _ fun p H2 hp e2 hx => hB H2 (e.trans e2) _ fun p' H3 hp' e3 hy => ⟨by show 2 ≤ sizeLine; decide, fun l hl => by
    have e4 : Ex H3 (upd H3 l (.lst [.ref p, .ref p'])) := Ex.new hl
    refine hi _ (((e.trans e2).trans e3).trans e4) _ fun H5 e5 => ?_
    have sq : SqL K H5 l [.ref p, .ref p'] := .inl (.inl (e5 l _ upd_same))
    cases b with
    | false =>
      refine ⟨l, [.ref p, .ref p'], 0, .ref p, rfl, rfl, sq, atI_nat (j := 0) rfl, ?_⟩
      rw [h0 rfl] at q
      exact q p H5 hp (((e2.trans e3).trans e4).trans e5) (((e3.trans e4).trans e5) p _ hx)
    | true =>
      refine ⟨l, [.ref p, .ref p'], 1, .ref p', rfl, rfl, sq, atI_nat (j := 1) rfl, ?_⟩
      rw [h1 rfl] at q
      exact q p' H5 (fresh_back e2 hp') (((e2.trans e3).trans e4).trans e5) ((e4.trans e5) p' _ hy)⟩
theorem s_forNLn {D : Ends} {tu : TS} {xs : List V} {tl : TE} {j : Nat} (h : EvL tl σ H xs) (Pv : Addr → Nat → L2.St → Hp → Prop) (h0 : ∀ p H1, H p = none → Ex H H1 → H1 p = some (.lst xs) → Pv p 0 σ H1) (hl : ∀ p i σ' H', i ≤ xs.length → Pv p i σ' H' → SqL K H' p xs)
    (hs : ∀ p i x σ' H', xs[i]? = some x → Pv p i σ' H' → tu { D with nx := Pv p (i + 1), ct := Pv p (i + 1), bk := D.nx } (σ'.set j (some x)) H') (hd : ∀ p σ' H', Pv p xs.length σ' H' → D.nx σ' H') : tFor (iList K tl) (gName j) tu D σ H :=
  s_forNL h Pv h0 hl hs hd
/-- a reference to a tuple of these -/
def TupAt (H : Hp) (v : V) (xs : List V) : Prop := ∃ q, v = .ref q ∧ H q = some (.tup xs)
theorem TupAt.mono (e : Ex H H') {v : V} {xs : List V} (h : TupAt H v xs) : TupAt H' v xs := let ⟨q, h1, h2⟩ := h; ⟨q, h1, e q _ h2⟩
theorem TupAt.mut {p : Addr} {l : List V} {o : HO} (hl : H p = some (.lst l)) {v : V} {xs : List V} (h : TupAt H v xs) : TupAt (upd H p o) v xs := by
  obtain ⟨q, h1, h2⟩ := h
  refine ⟨q, h1, ?_⟩
  rw [upd_ne (ne_of h2 hl (by intro z; cases z))]
  exact h2
abbrev Tups (H : Hp) : List V → List (List V) → Prop := Paired (TupAt H)
theorem Tups.mono (e : Ex H H') {vs : List V} {ts : List (List V)} (h : Tups H vs ts) : Tups H' vs ts := Paired.mapP h fun _ _ => TupAt.mono e
theorem Tups.mut {p : Addr} {l : List V} {o : HO} (hl : H p = some (.lst l)) {vs : List V} {ts : List (List V)} (h : Tups H vs ts) : Tups (upd H p o) vs ts := Paired.mapP h fun _ _ => TupAt.mut hl
theorem Tups.append : ∀ {vs ws : List V} {ts us : List (List V)}, Tups H vs ts → Tups H ws us → Tups H (vs ++ ws) (ts ++ us)
  | _, _, _, _, .nil, s => s
  | _, _, _, _, .cons r t, s => .cons r (Tups.append t s)
/-- [(.., ..) for x in a list of ints], each tuple new -/
theorem ex_tups {a : Addr} {ys : List Int} {f : Int → List V} {j : Nat} {vs : List Nat} (h : Ev tl σ H (.ref a)) (hx : SqL K H a (ys.map V.int)) (hz : ys.length ≤ 40000) (hw : ∀ x, wipe ((wipe σ vs).set j (some x)) vs = wipe σ vs)
    (he : ∀ y ∈ ys, ∀ H1, Ex H H1 → EvU te ((wipe σ vs).set j (some (.int y))) H1 (f y)) :
    ∀ H1, Ex H H1 → ∀ Q : VK, (∀ D H2 refs, H1 D = none → Ex H1 H2 → H2 D = some (.lst refs) → Tups H2 refs (ys.map f) → Q (.ref D) H2) → tLc (iList K tl) (gName j) tYes te vs σ H1 Q := fun H1 e Q q =>
  h H1 e _ fun H2 e2 => ⟨a, rfl, ⟨_, ex_l (e.trans e2) hx⟩, fun D hD =>
    lc_list (K := K) (a := a) (xs := ys.map V.int) (fun i H' => Ex H2 H' ∧ ∃ refs, H' D = some (.lst refs) ∧ refs.length = i ∧ Tups H' refs ((ys.take i).map f)) ⟨Ex.new hD, [], upd_same, rfl, .nil⟩
      (fun i H' _ p => ex_l ((e.trans e2).trans p.1) hx)
      (fun i x H' hi p => by
        obtain ⟨eH, refs, hr, hlen, ht⟩ := p
        rw [List.getElem?_map] at hi
        obtain ⟨y, hy, rfl⟩ := Option.map_eq_some_iff.mp hi
        have hlt : i < ys.length := (List.getElem?_eq_some_iff.mp hy).1
        refine ⟨hw _, ?_⟩
        show te _ _ _
        refine he y (List.mem_of_getElem? hy) H' ((e.trans e2).trans eH) H' (Ex.refl _) _ fun t H4 ht4 e4 hT => ?_
        have hD4 : H4 D = some (.lst refs) := e4 D _ hr
        refine ⟨refs, hD4, sz_lt (by omega), Ex.mut (eH.trans e4) hD, refs ++ [.ref t], upd_same, by rw [List.length_append, hlen] <;> rfl, ?_⟩
        rw [List.take_add_one, hy, List.map_append]
        exact Tups.append (Tups.mut hD4 (Tups.mono e4 ht)) (.cons (TupAt.mut hD4 ⟨t, rfl, hT⟩) .nil))
      (fun H' p => by
        obtain ⟨eH, refs, hr, hlen, ht⟩ := p
        have e5 : (ys.map V.int).length = ys.length := List.length_map ..
        rw [e5, List.take_length] at ht
        exact q D H' refs (fresh_back e2 hD) (e2.trans eH) hr ht)⟩
end
section
variable {P : Program} {w : World} {K : PySem.W.Frag} {mg : Str → Option Value} {base : Heap}
/-! ### _law_ways -/
abbrev sWays : Stmt := top 29
theorem scWays : FnScope ["_law_sign_here"] ["_law_sign_here"] (C8.fnScope sWays) := C8.fnScope_by (by decide +kernel)
def spWays : Sp := fun vs H Q _ => ∃ c : Nat, vs = [tx [c]] ∧ RetL ((Mth.ways c).map V.int) H Q
theorem l_ways {c : Nat} {H : Hp} : SpL spWays [tx [c]] H ((Mth.ways c).map V.int) := fun _ _ _ q _ => ⟨c, rfl, q⟩
theorem el_ways {te : TE} {σ : L2.St} {H : Hp} {c : Nat} {s1 s01 : Str} (e1 : s1 = ⟨#[49]⟩) (e01 : s01 = ⟨#[48, 49]⟩) (h : Ev te σ H (tx [c])) :
    EvL (tOp (rIxL K) (tLst (tCons (tLst (tCons (tC (.int 0)) (tCons (tC (.int 1)) tNil))) (tCons (tLst (tCons (tCB rInt1 (tCons (tOp rEq te (tC (.str s1))) tNil)) tNil)) tNil))) (tCB rInt1 (tCons (tOp rInS te (tC (.str s01))) tNil))) σ H ((Mth.ways c).map V.int) := by
  subst e1 e01
  refine el_pick (b := decide (c ∈ [48, 49])) (xs := [.int 0, .int 1]) (ys := [.int (if decide (c = 49) then 1 else 0)]) (el_lst (ea_cons ev_c (ea_cons ev_c ea_nil)) (by show 2 ≤ 100000; decide))
    (el_lst (ea_cons (ev_intb (ev_is (ev_eq h ev_c) (congrArg V.bl (eqc (c := 49) c rfl)))) ea_nil) (by show 1 ≤ 100000; decide)) (ev_intb (ev_in h ev_c)) (fun hb => ?_) (fun hb => ?_)
  · have hb := of_decide_eq_false hb
    simp at hb
    unfold Mth.ways
    rw [if_neg hb.1, if_neg hb.2]
    rfl
  · have hb := of_decide_eq_true hb
    simp at hb
    rcases hb with e | e <;> subst e <;> rfl
theorem ok_ways (F : Df K mg "_law_ways" sWays ["_law_sign_here"]) (mi : mg "int" = none) : Cal P w K mg base 1 "_law_ways" spWays [] := by
  refine F.cal scWays (fun vs H Q E h => by obtain ⟨c, rfl, _⟩ := h; rfl) fun f cdv A outer s H vs Q E hr h => ?_
  obtain ⟨c, rfl, q⟩ := h
  refine ⟨_, pss_one (ps_ret (pe_ix ix_list
    (pe_lst (pa_cons (pe_lst (pa_cons pe_int (pa_cons pe_int pa_nil))) (pa_cons (pe_lst (pa_cons (pe_callTy cr_int1 (by rfl) mi (by decide +kernel) (pa_cons (pe_cmpR op_eq (pv 0) pe_str (nomark _)) pa_nil)) pa_nil)) pa_nil)))
    (pe_callTy cr_int1 (by rfl) mi (by decide +kernel) (pa_cons (pe_cmpR op_inS (pv 0) pe_str (by rfl)) pa_nil)) (fun _ _ => rfl))), ?_⟩
  exact s_retL (el_ways (by decide +kernel) (by decide +kernel) (ev_var rfl)) q

/-! ### _law_triples -/
def trV (t : Int × Int × Int) : List V := [.int t.1, .int t.2.1, .int t.2.2]
abbrev sTri : Stmt := top 30
abbrev nTri : List Str := ["_law_one", "_law_other", "_law_ahead", "_law_found", "_law_a", "_law_b", "_law_c"]
theorem scTri : FnScope nTri ["_law_one", "_law_other", "_law_ahead"] (C8.fnScope sTri) := C8.fnScope_by (by decide +kernel)
def spTri (K : PySem.W.Frag) : Sp := fun vs H Q _ => ∃ (c d : Nat) (l : Addr) (ah : List Int), vs = [tx [c], tx [d], .ref l] ∧ SqL K H l (ah.map V.int) ∧ ah.length ≤ 100 ∧
  ∀ p H2 refs, H p = none → Ex H H2 → H2 p = some (.lst refs) → Tups H2 refs ((Mth.tri c d ah).map trV) → Q (.ref p) H2
theorem ways_len (c : Nat) : (Mth.ways c).length ≤ 2 := by
  unfold Mth.ways
  split
  · decide
  · split <;> decide
theorem Tups.len {H : Hp} {vs : List V} {ts : List (List V)} (h : Tups H vs ts) : vs.length = ts.length := Paired.length h
theorem inner_len (a : Int) : ∀ (bs ah : List Int), (bs.flatMap fun b => ah.map fun c => (a, b, c)).length = bs.length * ah.length
  | [], ah => by simp
  | b :: bs, ah => by
    rw [List.flatMap_cons, List.length_append, List.length_map, inner_len a bs ah, List.length_cons, Nat.add_mul, Nat.one_mul]
    omega
theorem tri_len : ∀ (as : List Int) (bs ah : List Int), (as.flatMap fun a => bs.flatMap fun b => ah.map fun c => (a, b, c)).length = as.length * (bs.length * ah.length)
  | [], bs, ah => by simp
  | a :: as, bs, ah => by
    rw [List.flatMap_cons, List.length_append, inner_len, tri_len as bs ah, List.length_cons, Nat.add_mul, Nat.one_mul]
    omega
theorem ok_tri (F : Df K mg "_law_triples" sTri ["_law_one", "_law_other", "_law_ahead"]) (cW : Cal P w K mg base 1 "_law_ways" spWays []) : Cal P w K mg base 2 "_law_triples" (spTri K) [] := by
  refine F.cal scTri (fun vs H Q E h => by obtain ⟨c, d, l, ah, rfl, _⟩ := h; rfl) fun f cdv A outer s H vs Q E hr h => ?_
  obtain ⟨c, d, l, ah, rfl, hA, hz, q⟩ := h
  refine ⟨_, pss_cons (ps_set (i := 3) scTri.nd rfl (.inl rfl) (pe_lst pa_nil))
    (pss_cons (ps_for PassesOwn.never rfl (pi_list (C8.pe_c cW hr (by decide) rfl (pa_cons (pv 0) pa_nil))) (pg_name (i := 4) scTri.nd rfl (.inr rfl))
      (pss_one (ps_for PassesOwn.never rfl (pi_list (C8.pe_c cW hr (by decide) rfl (pa_cons (pv 1) pa_nil))) (pg_name (i := 5) scTri.nd rfl (.inr rfl))
        (pss_one (ps_expr (pe_bm PySem.F.plainAttrs_list PySem.F.slot_list_extend PySem.F.type_list_extend mt_extend (pv 3)
          (pa_cons (pe_lc (own := [("_law_c", 6)]) (g := gName 6) (tt := tYes) rfl scTri.nd (pi_list (pv 2)) (blkOk_by (own := [("_law_c", 6)]) (N := nTri) (sc := C8.fnScope sTri) (by decide +kernel))
            (fun _ _ _ _ _ => pg_name (i := 6) scTri.nd rfl (Or.inl rfl)) (fun _ _ _ _ _ => pts_nil) (fun _ _ _ _ _ => pe_tup (pa_cons (pv 4) (pa_cons (pv 5) (pa_cons (pv 6) pa_nil))))) pa_nil)))))))
    (pss_one (ps_ret (pv 3)))), ?_⟩
  refine q_asgL (xs := []) (el_lst ea_nil (Nat.zero_le _)) fun fo H1 hfo e1 h1 => ?_
  have wc := ways_len c
  have wd := ways_len d
  refine q_forNLn (xs := (Mth.ways c).map V.int) (el_call (ea_cons (ev_var rfl) ea_nil) l_ways)
    (fun p i σ' H' => ∃ y4 y5 refs, σ' = [some (tx [c]), some (tx [d]), some (.ref l), some (.ref fo), y4, y5, none] ∧ Ex H H' ∧ H' p = some (.lst ((Mth.ways c).map V.int)) ∧ H' fo = some (.lst refs) ∧ p ≠ fo ∧
      Tups H' refs ((((Mth.ways c).take i).flatMap fun a => (Mth.ways d).flatMap fun b => ah.map fun c => (a, b, c)).map trV))
    (fun p H2 hp e2 h2 => ⟨none, none, [], rfl, e1.trans e2, h2, e2 fo _ h1, (ne_of_none h1 hp).symm, .nil⟩) (fun p i σ' H' hi h => by obtain ⟨_, _, _, _, _, h2, _⟩ := h; exact .inl (.inl h2)) ?_ ?_
  · rintro p i x σ' H' hi ⟨y4, y5, refs, rfl, eH, hp, hf, hne, ht⟩
    rw [List.getElem?_map] at hi
    obtain ⟨a, ha, rfl⟩ := Option.map_eq_some_iff.mp hi
    have hil : i < (Mth.ways c).length := (List.getElem?_eq_some_iff.mp ha).1
    -- for b in ways(other)
    refine s_forNLn (xs := (Mth.ways d).map V.int) (el_call (ea_cons (ev_var rfl) ea_nil) l_ways)
      (fun p2 i2 σ2 H2 => ∃ y5 refs, σ2 = [some (tx [c]), some (tx [d]), some (.ref l), some (.ref fo), some (.int a), y5, none] ∧ Ex H H2 ∧ H2 p = some (.lst ((Mth.ways c).map V.int)) ∧ H2 p2 = some (.lst ((Mth.ways d).map V.int)) ∧ H2 fo = some (.lst refs) ∧ p2 ≠ fo ∧
        Tups H2 refs ((((Mth.ways c).take i).flatMap fun a => (Mth.ways d).flatMap fun b => ah.map fun c => (a, b, c)).map trV ++ (((Mth.ways d).take i2).flatMap fun b => ah.map fun c => (a, b, c)).map trV))
      (fun p2 H2 hp2 e2 h2 => ⟨y5, refs, rfl, eH.trans e2, e2 p _ hp, h2, e2 fo _ hf, (ne_of_none hf hp2).symm, by
        rw [List.take_zero]
        show Tups H2 refs (_ ++ [])
        rw [List.append_nil]
        exact Tups.mono e2 ht⟩) (fun p2 i2 σ2 H2 hi2 h => by obtain ⟨_, _, _, _, _, h2, _⟩ := h; exact .inl (.inl h2)) ?_ ?_
    · rintro p2 i2 x2 σ2 H2 hi2 ⟨y5, refs, rfl, eH2, hp', hp2, hf2, hne2, ht2⟩
      rw [List.getElem?_map] at hi2
      obtain ⟨b, hb, rfl⟩ := Option.map_eq_some_iff.mp hi2
      have hil2 : i2 < (Mth.ways d).length := (List.getElem?_eq_some_iff.mp hb).1
      -- found.extend(..)
      refine ⟨.ref fo, rfl, .inl ⟨rfl, _, .inl (.inl hf2)⟩, ?_⟩
      have hc := ex_tups (K := K) (tl := tVar 2) (te := tTup (tCons (tVar 4) (tCons (tVar 5) (tCons (tVar 6) tNil)))) (f := fun y => trV (a, b, y)) (j := 6) (vs := [6]) (σ := [some (tx [c]), some (tx [d]), some (.ref l), some (.ref fo), some (.int a), some (.int b), none]) (H := H2) (ys := ah)
        (ev_var rfl) (ex_l eH2 hA) (by omega) (fun _ => rfl) (fun y _ H3 _ => eu_tup (ea_cons (ev_var rfl) (ea_cons (ev_var rfl) (ea_cons (ev_var rfl) ea_nil))) (by show 3 ≤ 100000; decide)) H2 (Ex.refl H2)
      refine hc _ fun D H3 nr hD e3 hD3 htD => ?_
      have hl1 := Tups.len ht2
      have hl2 := Tups.len htD
      have hle : refs.length + nr.length ≤ 100000 := by
        rw [hl1, hl2, List.length_append, List.length_map, List.length_map, List.length_map, tri_len, inner_len]
        have b1 : ((Mth.ways c).take i).length ≤ 2 := by rw [List.length_take]; omega
        have b2 : ((Mth.ways d).take i2).length ≤ 2 := by rw [List.length_take]; omega
        have c1 : (Mth.ways d).length * ah.length ≤ 2 * 100 := Nat.mul_le_mul wd hz
        have c2 : ((Mth.ways c).take i).length * ((Mth.ways d).length * ah.length) ≤ 2 * 200 := Nat.mul_le_mul b1 c1
        have c3 : ((Mth.ways d).take i2).length * ah.length ≤ 2 * 100 := Nat.mul_le_mul b2 hz
        omega
      have hf3 : H3 fo = some (.lst refs) := e3 fo _ hf2
      refine ⟨fo, D, refs, nr, rfl, rfl, hf3, hD3, sz_of hle, some (.int b), refs ++ nr, rfl, Ex.mut (eH2.trans e3) hfo, ?_, ?_, upd_same, hne2, ?_⟩
      · rw [upd_ne hne]
        exact e3 p _ hp'
      · rw [upd_ne hne2]
        exact e3 p2 _ hp2
      · refine Tups.mut hf3 ?_
        rw [List.take_add_one, hb, List.flatMap_append, List.map_append, ← List.append_assoc]
        refine Tups.append (Tups.mono e3 ht2) ?_
        show Tups H3 nr ((([b] : List Int).flatMap fun b => ah.map fun c => (a, b, c)).map trV)
        rw [List.flatMap_singleton, List.map_map]
        exact htD
    · rintro p2 σ2 H2 ⟨y5, refs, rfl, eH2, hp', hp2, hf2, hne2, ht2⟩
      refine ⟨some (.int a), y5, refs, rfl, eH2, hp', hf2, hne, ?_⟩
      rw [List.length_map, List.take_length] at ht2
      rw [List.take_add_one, ha, List.flatMap_append, List.map_append]
      show Tups H2 refs (_ ++ ((([a] : List Int).flatMap fun a => (Mth.ways d).flatMap fun b => ah.map fun c => (a, b, c)).map trV))
      rw [List.flatMap_singleton]
      exact ht2
  · rintro p σ' H' ⟨y4, y5, refs, rfl, eH, hp, hf, hne, ht⟩
    rw [List.length_map, List.take_length] at ht
    exact s_ret (ev_var rfl) fun H4 e4 => q fo H4 refs hfo (eH.trans e4) (e4 fo _ hf) (Tups.mono e4 ht)

/-! ### _law_sign -/
abbrev sSign : Stmt := top 31
theorem scSign : FnScope ["_law_some"] ["_law_some"] (C8.fnScope sSign) := C8.fnScope_by (by decide +kernel)
def spSign (K : PySem.W.Frag) : Sp := fun vs H Q _ => ∃ (l : Addr) (ns : List Int), vs = [.ref l] ∧ SqL K H l (ns.map V.int) ∧ ns ≠ [] ∧ (∀ c ∈ ns, c = 0 ∨ c = 1) ∧ ns.length ≤ 4000 ∧ RetV (tx [Mth.sgn ns]) H Q
theorem v_sign {l : Addr} {ns : List Int} {H : Hp} (hs : SqL K H l (ns.map V.int)) (hn : ns ≠ []) (h1 : ∀ c ∈ ns, c = 0 ∨ c = 1) (hz : ns.length ≤ 4000) : SpV (spSign K) [.ref l] H (tx [Mth.sgn ns]) := fun _ e _ q _ => ⟨l, ns, rfl, ex_l e hs, hn, h1, hz, q⟩
def rStr1 : List V → Hp → VK → Prop := fun xs H Q => ∃ i, xs = [.int i] ∧ i.natAbs.log2 < 1920 ∧ Q (.str (toString i)) H
theorem cr_str1 {X : Cx} : CallR X (.type "str") rStr1 := call_str_int
theorem ev_str1 {te : TE} {σ : L2.St} {H : Hp} {i : Int} (h : Ev te σ H (.int i)) (h1 : i = 0 ∨ i = 1) : Ev (tCB rStr1 (tCons te tNil)) σ H (tx [if i = 0 then 48 else 49]) := ev_cb (ea_cons h ea_nil) fun H1 _ Q q => by
  have q := q H1 (Ex.refl H1)
  rcases h1 with e | e <;> subst e
  · exact ⟨0, rfl, by decide, (by decide +kernel : (toString (0 : Int) : String) = "0") ▸ (show Q (.str (Str.ofString "0")) H1 from (tx_of (s := Str.ofString "0") (l := [48]) (by decide +kernel)) ▸ q)⟩
  · exact ⟨1, rfl, by decide, (by decide +kernel : (toString (1 : Int) : String) = "1") ▸ (show Q (.str (Str.ofString "1")) H1 from (tx_of (s := Str.ofString "1") (l := [49]) (by decide +kernel)) ▸ q)⟩
end
end K16
/-! _law_sign, _law_by_bits. -/
namespace K16
open PySem PySem.Spec PyProof.Rows L2 Evl SX
section
variable {K : PySem.W.Frag} {σ : L2.St} {H H' : Hp} {ta tb te ti tl : TE}
theorem dp_ints {a : Addr} {ns : List Int} (h : SqL K H a (ns.map V.int)) : Dp K H (.ref a) (.list (ns.map PyData.int)) := by
  refine .lst h ?_
  clear h
  induction ns with
  | nil => exact .nil
  | cons x r ih => exact .cons (.int x) ih
theorem ss_cases {ns : List Int} (hn : ns ≠ []) (h1 : ∀ c ∈ ns, c = 0 ∨ c = 1) : (Mth.ss ns = [0] ∧ Mth.sgn ns = 48 ∧ ∀ c ∈ ns, c = 0) ∨ (Mth.ss ns = [1] ∧ Mth.sgn ns = 49 ∧ ∀ c ∈ ns, c = 1) ∨ (Mth.ss ns = [0, 1] ∧ Mth.sgn ns = 120) := by
  by_cases a : 0 ∈ ns
  · by_cases b : 1 ∈ ns
    · exact .inr (.inr ⟨by simp [Mth.ss, a, b], by simp [Mth.sgn, a, b]⟩)
    · refine .inl ⟨by simp [Mth.ss, a, b], by simp [Mth.sgn, a, b], fun c hc => ?_⟩
      rcases h1 c hc with e | e
      · exact e
      · exact absurd (e ▸ hc) b
  · by_cases b : 1 ∈ ns
    · refine .inr (.inl ⟨by simp [Mth.ss, a, b], by simp [Mth.sgn, a, b], fun c hc => ?_⟩)
      rcases h1 c hc with e | e
      · exact absurd (e ▸ hc) a
      · exact e
    · exfalso
      cases ns with
      | nil => exact hn rfl
      | cons x r =>
        rcases h1 x (by simp) with e | e
        · exact a (by simp [e])
        · exact b (by simp [e])
/-- f(a new list) -/
theorem ev_callN {sp : Sp} {dvs xs : List V} {E : XK} {z : V} (h : EvL te σ H xs) (hs : ∀ p H1, Ex H H1 → H1 p = some (.lst xs) → SpV sp ([.ref p] ++ dvs) H1 z) : Ev (tCall sp dvs E (tCons te tNil)) σ H z := fun H1 e Q q =>
  h H1 e _ fun p H2 _ e2 hp => hs p H2 (e.trans e2) hp H2 (Ex.refl H2) Q (fun H3 e3 => q H3 (e2.trans e3)) E
theorem ev_sumT {a : Addr} {ns : List Int} (h : Ev te σ H (.ref a)) (hs : SqT K H a (ns.map V.int)) : Ev (tCB (R16.rSumT K) (tCons te tNil)) σ H (.int ns.sum) := ev_cb (ea_cons h ea_nil) fun H1 e Q q => ⟨a, ns, rfl, ex_t e hs, q H1 (Ex.refl H1)⟩
theorem paired_at {α β : Type} {G : α → β → Prop} {l₁ : List α} {l₂ : List β} (h : Paired G l₁ l₂) {i : Nat} {a : α} (ha : l₁[i]? = some a) : ∃ b, l₂[i]? = some b ∧ G a b := paired_get h ha
/-- [.. for t in a list of triples] -/
theorem el_mapT {a : Addr} {refs : List V} {ts : List (Int × Int × Int)} {hV : Int × Int × Int → V} {j : Nat} {vs : List Nat} (h : Ev tl σ H (.ref a)) (hx : SqL K H a refs) (hp : Tups H refs (ts.map trV)) (hz : ts.length ≤ 40000)
    (hw : ∀ x, wipe ((wipe σ vs).set j (some x)) vs = wipe σ vs) (he : ∀ t ∈ ts, ∀ q H1, Ex H H1 → H1 q = some (.tup (trV t)) → Ev te ((wipe σ vs).set j (some (.ref q))) H1 (hV t)) :
    EvL (tLc (iList K tl) (gName j) tYes te vs) σ H (ts.map hV) := by
  have hlen : refs.length = ts.length := by rw [Tups.len hp, List.length_map]
  have q := el_lcL (K := K) (te := te) (tl := tl) (j := j) (vs := vs) (t := tYes) (fun _ => true) (fun i => (ts.map hV).getD i .non) h hx (by omega) hw (fun i x H1 e _ => et_yes)
    (fun i x H1 e hi _ => by
      obtain ⟨tv, htv, ⟨q, rfl, hq⟩⟩ := paired_at hp hi
      rw [List.getElem?_map] at htv
      obtain ⟨t, ht, rfl⟩ := Option.map_eq_some_iff.mp htv
      have e2 : (ts.map hV).getD i .non = hV t := by simp [ht]
      show Ev te _ H1 ((ts.map hV).getD i .non)
      rw [e2]
      exact he t (List.mem_of_getElem? ht) q H1 e (e q _ hq))
  rw [given_all, hlen, range_get] at q
  exact q
/-- [.. for p, q, c in a list of triples] -/
theorem el_mapT3 {a : Addr} {refs : List V} {ts : List (Int × Int × Int)} {hV : Int × Int × Int → V} {i1 i2 i3 : Nat} {vs : List Nat} (h : Ev tl σ H (.ref a)) (hx : SqL K H a refs) (hp : Tups H refs (ts.map trV)) (hz : ts.length ≤ 40000)
    (hw : ∀ x y z, wipe ((((wipe σ vs).set i1 (some x)).set i2 (some y)).set i3 (some z)) vs = wipe σ vs)
    (he : ∀ t ∈ ts, ∀ H1, Ex H H1 → Ev te ((((wipe σ vs).set i1 (some (.int t.1))).set i2 (some (.int t.2.1))).set i3 (some (.int t.2.2))) H1 (hV t)) :
    EvL (tLc (iList K tl) (gTup K 3 (gCons (gName i1) (gCons (gName i2) (gCons (gName i3) gNil)))) tYes te vs) σ H (ts.map hV) := fun H0 e Q q => h H0 e _ fun H1 e1 => ⟨a, rfl, ⟨_, ex_l (e.trans e1) hx⟩, fun D hD => by
  have hlen : refs.length = ts.length := by rw [Tups.len hp, List.length_map]
  refine lc_list (K := K) (a := a) (xs := refs) (fun i H' => Ex H1 H' ∧ H' D = some (.lst ((ts.take i).map hV))) ⟨Ex.new hD, upd_same⟩ (fun i H' _ p => ex_l ((e.trans e1).trans p.1) hx) (fun i x H' hi p => ?_) (fun H' p => ?_)
  · obtain ⟨tv, htv, ⟨t0, rfl, ht0⟩⟩ := paired_at hp hi
    rw [List.getElem?_map] at htv
    obtain ⟨t, ht, rfl⟩ := Option.map_eq_some_iff.mp htv
    have hlt : i < ts.length := (List.getElem?_eq_some_iff.mp ht).1
    refine ⟨t0, trV t, rfl, .inl (.inl ((e.trans (e1.trans p.1)) t0 _ ht0)), rfl, .int t.1, [.int t.2.1, .int t.2.2], rfl, .int t.2.1, [.int t.2.2], rfl, .int t.2.2, [], rfl, rfl, hw _ _ _, ?_⟩
    show te _ _ _
    refine he t (List.mem_of_getElem? ht) H' ((e.trans e1).trans p.1) H' (Ex.refl _) _ fun H4 e4 => ⟨_, e4 D _ p.2, sz_lt ?_, Ex.mut (p.1.trans e4) hD, ?_⟩
    · rw [List.length_map, List.length_take]
      omega
    · rw [upd_same, List.take_add_one, ht]
      simp
  · have p2 := p.2
    rw [hlen, List.take_length] at p2
    exact q D H' (fresh_back e1 hD) (e1.trans p.1) p2⟩
end
section
variable {P : Program} {w : World} {K : PySem.W.Frag} {mg : Str → Option Value} {base : Heap}
theorem ok_sign (F : Df K mg "_law_sign" sSign ["_law_some"]) (ms : mg "sorted" = none) (me : mg "set" = none) (mt : mg "str" = none) : Cal P w K mg base 1 "_law_sign" (spSign K) [] := by
  refine F.cal scSign (fun vs H Q E h => by obtain ⟨l, ns, rfl, _⟩ := h; rfl) fun f cdv A outer s H vs Q E hr h => ?_
  obtain ⟨l, ns, rfl, hs, hn, h1, hz, q⟩ := h
  refine ⟨_, pss_one (ps_ret (pe_ifExp (pt_cmpR (op_eqD hr.units) (R16.pe_sortSet rfl (by rfl) ms (by rfl) me (pv 0)) (pe_lst (pa_cons pe_int (pa_cons pe_int pa_nil))) (nomark _)) pe_str
    (pe_callTy cr_str1 (by rfl) mt (by decide +kernel) (pa_cons (pe_ix ix_list (pv 0) pe_int (fun _ _ => rfl)) pa_nil)))), ?_⟩
  obtain ⟨x, r, rfl⟩ : ∃ x r, ns = x :: r := by
    cases ns with
    | nil => exact absurd rfl hn
    | cons x r => exact ⟨x, r, rfl⟩
  have hx := h1 x (by simp)
  have hd : EvL (R16.tSortSet K (tVar 0)) [some (.ref l)] H ((Mth.ss (x :: r)).map V.int) := by
    rw [← sortS_01 h1]
    exact el_sortSet (ev_var rfl) hs hz
  have hsi : Ev (tOp (rIxL K) (tVar 0) (tC (.int 0))) [some (.ref l)] H (.int x) := ev_ixL (ev_var rfl) ev_c hs (atI_nat (j := 0) rfl)
  have hst := ev_str1 hsi hx
  have goal : ∀ b : Bool, PyData.eqv (.list ((Mth.ss (x :: r)).map PyData.int)) (.list [.int 0, .int 1]) = b → SeqAt.shaped (.list ((Mth.ss (x :: r)).map PyData.int)) = true → (b = true → Mth.sgn (x :: r) = 120) → (b = false → Mth.sgn (x :: r) = if x = 0 then 48 else 49) →
      tRet (tIf (tTest (tOp (rEqD K) (R16.tSortSet K (tVar 0)) (tLst (tCons (tC (.int 0)) (tCons (tC (.int 1)) tNil))))) (tC (.str "x")) (tCB rStr1 (tCons (tOp (rIxL K) (tVar 0) (tC (.int 0))) tNil))) { nx := fun _ H' => Q .non H', rt := Q } [some (.ref l)] H := fun b hb hsh k1 k2 => by
    refine s_ret (v := tx [Mth.sgn (x :: r)]) (ev_if (et_is (b := b) (et_test (ev_opLL (xs := (Mth.ss (x :: r)).map V.int) (ys := [.int 0, .int 1]) hd (el_lst (ea_cons ev_c (ea_cons ev_c ea_nil)) (by show 2 ≤ 100000; decide))
      fun p p2 H2 hp hp2 e2 => rv_eqD (d := .list ((Mth.ss (x :: r)).map PyData.int)) (e := .list [.int 0, .int 1]) (fun H3 e3 => dp_ints (.inl (.inl (e3 p _ hp)))) (fun H3 e3 => dp_ints (ns := [0, 1]) (.inl (.inl (e3 p2 _ hp2)))) hsh (by simp [SeqAt.shaped, PyData.canLay0, PyData.canLayAll0, PyData.depth, PyData.depthAll]))) hb) (fun h2 => ?_) (fun h2 => ?_)) q
    · rw [k1 h2, ← tx_of (s := "x") (l := [120]) (by decide +kernel)]
      exact ev_c
    · rw [k2 h2]
      exact hst
  rcases ss_cases hn h1 with ⟨e, es, ea⟩ | ⟨e, es, ea⟩ | ⟨e, es⟩
  · rw [e] at goal
    exact goal false (by simp [PyData.eqv, PyData.eqvAll]) (by simp [SeqAt.shaped, PyData.canLay0, PyData.canLayAll0, PyData.depth, PyData.depthAll]) (fun z => absurd z Bool.false_ne_true) (fun _ => by rw [es, if_pos (ea x (by simp))])
  · rw [e] at goal
    exact goal false (by simp [PyData.eqv, PyData.eqvAll]) (by simp [SeqAt.shaped, PyData.canLay0, PyData.canLayAll0, PyData.depth, PyData.depthAll]) (fun z => absurd z Bool.false_ne_true) (fun _ => by rw [es, if_neg (by rw [ea x (by simp)]; decide)])
  · rw [e] at goal
    exact goal true (by simp [PyData.eqv, PyData.eqvAll]) (by simp [SeqAt.shaped, PyData.canLay0, PyData.canLayAll0, PyData.depth, PyData.depthAll]) (fun _ => es) (fun z => absurd z (by decide))

/-! ### _law_by_bits -/
theorem bits_inv (d : Mth.Wd) : ∀ (l : List (Nat × Nat)) (st : List Nat × List Int), st.2 ≠ [] → (∀ c ∈ st.2, c = 0 ∨ c = 1) → st.2.length ≤ 2 →
    (l.foldl (Mth.bitsF d) st).2 ≠ [] ∧ (∀ c ∈ (l.foldl (Mth.bitsF d) st).2, c = 0 ∨ c = 1) ∧ (l.foldl (Mth.bitsF d) st).2.length ≤ 2 ∧ (l.foldl (Mth.bitsF d) st).1.length = st.1.length + l.length
  | [], st, h1, h2, h3 => ⟨h1, h2, h3, rfl⟩
  | p :: l, st, h1, h2, h3 => by
    have e : Mth.bitsF d st p = (Mth.sgn ((Mth.tri p.1 p.2 st.2).map Mth.par) :: st.1, Mth.ss ((Mth.tri p.1 p.2 st.2).map (Mth.nxt d))) := rfl
    have hn : ((Mth.tri p.1 p.2 st.2).map (Mth.nxt d)) ≠ [] := by
      intro z
      exact Mth.tri_ne (p := p.1) (q := p.2) h1 (List.map_eq_nil_iff.1 z)
    have h01 : ∀ c ∈ ((Mth.tri p.1 p.2 st.2).map (Mth.nxt d)), c = 0 ∨ c = 1 := fun c hc => by
      obtain ⟨t, ht, rfl⟩ := List.mem_map.1 hc
      exact Mth.nxt_01 d (Mth.tri_01 h2 t ht)
    have hl : (Mth.ss ((Mth.tri p.1 p.2 st.2).map (Mth.nxt d))).length ≤ 2 := by
      unfold Mth.ss
      (repeat' split) <;> decide
    obtain ⟨a1, a2, a3, a4⟩ := bits_inv d l (Mth.bitsF d st p) (by rw [e]; exact Mth.ss_ne hn h01) (by rw [e]; exact Mth.ss_01 _) (by rw [e]; exact hl)
    refine ⟨a1, a2, a3, ?_⟩
    rw [List.foldl_cons, a4, e, List.length_cons, List.length_cons]
    omega
abbrev sByb : Stmt := top 32
abbrev nByb : List Str := ["_law_word", "_law_a", "_law_b", "_law_found", "_law_ahead", "_law_one", "_law_other", "_law_some", "_law_three", "_law_p", "_law_q", "_law_c"]
theorem scByb : FnScope nByb ["_law_word", "_law_a", "_law_b"] (C8.fnScope sByb) := C8.fnScope_by (by decide +kernel)
def spByb : Sp := fun vs H Q _ => ∃ (d : Mth.Wd) (a b : List Nat), vs = [wdV d, tx a, tx b] ∧ a.length = b.length ∧ a.length ≤ 1000 ∧ RetV (tx (Mth.byBits d a b)) H Q
theorem v_byb {d : Mth.Wd} {a b : List Nat} {H : Hp} (h : a.length = b.length) (h2 : a.length ≤ 1000) : SpV spByb [wdV d, tx a, tx b] H (tx (Mth.byBits d a b)) := fun _ _ _ q _ => ⟨d, a, b, rfl, h, h2, q⟩
theorem q_asg_tri {E : XK} {D : Ends} {tz : TS} {ta : TA} {σ : L2.St} {H : Hp} {i c d : Nat} {l : Addr} {ah : List Int} (ha : EvA ta σ H [tx [c], tx [d], .ref l]) (hA : SqL K H l (ah.map V.int)) (hz : ah.length ≤ 100)
    (k : ∀ p H1 refs, Ex H H1 → H1 p = some (.lst refs) → Tups H1 refs ((Mth.tri c d ah).map trV) → tz D (σ.set i (some (.ref p))) H1) : tSeq (tAsg (tCall (spTri K) [] E ta) (gName i)) tz D σ H :=
  ha H (Ex.refl H) _ fun H1 e1 => ⟨c, d, l, ah, rfl, ex_l e1 hA, hz, fun p H2 refs hp e2 h2 ht => k p H2 refs (e1.trans e2) h2 ht⟩
end
end K16
/-! _law_by_bits, walked. -/
namespace K16
open PySem PySem.Spec PyProof.Rows L2 Evl SX
theorem wd_is_plus (d : Mth.Wd) : decide (wdV d = V.str "plus") = decide (d = .plus) := by
  rw [wd_dec]
  cases d <;> decide +kernel
theorem wd_is_less (d : Mth.Wd) : decide (wdV d = V.str "less") = decide (d = .less) := by
  rw [wd_dec]
  cases d <;> decide +kernel
theorem wd_is_same (d : Mth.Wd) : decide (wdV d = V.str "same") = decide (d = .same) := by
  rw [wd_dec]
  cases d <;> decide +kernel
theorem one_if (p : Prop) [Decidable p] : (if decide p then (1 : Int) else 0) = if p then 1 else 0 := by
  by_cases h : p <;> simp [h]
theorem fsum3 (a b c : Int) : [a, b, c].sum = a + b + c := by
  simp [List.sum_cons]
  omega
section
variable {P : Program} {w : World} {K : PySem.W.Frag} {mg : Str → Option Value} {base : Heap}
theorem bits_at (d : Mth.Wd) (l : List (Nat × Nat)) : (l.foldl (Mth.bitsF d) ([], [0])).2 ≠ [] ∧ (∀ c ∈ (l.foldl (Mth.bitsF d) ([], [0])).2, c = 0 ∨ c = 1) ∧ (l.foldl (Mth.bitsF d) ([], [0])).2.length ≤ 2 ∧ (l.foldl (Mth.bitsF d) ([], [0])).1.length = l.length := by
  obtain ⟨a1, a2, a3, a4⟩ := bits_inv d l ([], [0]) (by simp) (by simp) (by simp)
  exact ⟨a1, a2, a3, by rw [a4]; simp⟩
def bybR (d : Mth.Wd) (st : List Nat × List Int) : List Nat := match d with
  | .plus => st.1
  | .less => [Mth.sgn st.2]
  | .same => [Mth.sgn (st.2.map fun c => 1 - c)]
theorem byb_is (d : Mth.Wd) (a b : List Nat) : Mth.byBits d a b = bybR d ((a.reverse.zip b.reverse).foldl (Mth.bitsF d) ([], [0])) := by
  cases d <;> rfl
theorem ok_byb (F : Df K mg "_law_by_bits" sByb ["_law_word", "_law_a", "_law_b"]) (mz : mg "zip" = none) (mu : mg "sum" = none) (mi : mg "int" = none) (mx : mg "max" = none) (ms : mg "sorted" = none) (me : mg "set" = none)
    (cT : Cal P w K mg base 2 "_law_triples" (spTri K) []) (cS : Cal P w K mg base 1 "_law_sign" (spSign K) []) : Cal P w K mg base 3 "_law_by_bits" spByb [] := by
  refine F.cal scByb (fun vs H Q E h => by obtain ⟨d, a, b, rfl, _⟩ := h; rfl) fun f cdv A outer s H vs Q E hr h => ?_
  obtain ⟨d, a, b, rfl, hl, hz, q⟩ := h
  refine ⟨_, pss_cons (ps_set (i := 3) scByb.nd rfl (.inl rfl) pe_str) (pss_cons (ps_set (i := 4) scByb.nd rfl (.inl rfl) (pe_lst (pa_cons pe_int pa_nil)))
    (pss_cons (ps_for PassesOwn.never rfl (R16.pi_zipS (by rfl) mz (pa_cons (R16.pe_revS (pv 1)) (pa_cons (R16.pe_revS (pv 2)) pa_nil)))
      (pg_tup rfl (pgs_cons (pg_name (i := 5) scByb.nd rfl (.inl rfl)) (pgs_cons (pg_name (i := 6) scByb.nd rfl (.inl rfl)) pgs_nil)))
      (pss_cons (ps_set (i := 7) scByb.nd rfl (.inl rfl) (C8.pe_c cT hr (by decide) rfl (pa_cons (pv 5) (pa_cons (pv 6) (pa_cons (pv 4) pa_nil)))))
      (pss_cons (ps_set (i := 3) scByb.nd rfl (.inl rfl) (pe_op op_cats (C8.pe_c cS hr (by decide) rfl (pa_cons
        (pe_lc (own := [("_law_three", 8)]) (g := gName 8) (tt := tYes) rfl scByb.nd (pi_list (pv 7)) (blkOk_by (own := [("_law_three", 8)]) (N := nByb) (sc := C8.fnScope sByb) (by decide +kernel))
            (fun _ _ _ _ _ => pg_name (i := 8) scByb.nd rfl (Or.inl rfl)) (fun _ _ _ _ _ => pts_nil) (fun _ _ _ _ _ => pe_op op_mod (pe_callB (id := "sum") (r := R16.rSumT K) (R16.cr_sumT rfl) (by rfl) mu (by decide +kernel) (pa_cons (pv 8) pa_nil)) pe_int)) pa_nil)) (pv 3)))
      (pss_one (ps_if (pt_cmpR op_eq (pv 0) pe_str (nomark _))
        (pss_one (ps_set (i := 4) scByb.nd rfl (.inl rfl) (R16.pe_sortSet rfl (by rfl) ms (by rfl) me
          (pe_lc (own := [("_law_three", 8)]) (g := gName 8) (tt := tYes) rfl scByb.nd (pi_list (pv 7)) (blkOk_by (own := [("_law_three", 8)]) (N := nByb) (sc := C8.fnScope sByb) (by decide +kernel))
            (fun _ _ _ _ _ => pg_name (i := 8) scByb.nd rfl (Or.inl rfl)) (fun _ _ _ _ _ => pts_nil) (fun _ _ _ _ _ => pe_op op_fdiv (pe_callB (id := "sum") (r := R16.rSumT K) (R16.cr_sumT rfl) (by rfl) mu (by decide +kernel) (pa_cons (pv 8) pa_nil)) pe_int)))))
        (pss_one (ps_if (pt_cmpR op_eq (pv 0) pe_str (nomark _))
          (pss_one (ps_set (i := 4) scByb.nd rfl (.inl rfl) (R16.pe_sortSet rfl (by rfl) ms (by rfl) me
            (pe_lc (own := [("_law_p", 9), ("_law_q", 10), ("_law_c", 11)]) (g := gTup K 3 (gCons (gName 9) (gCons (gName 10) (gCons (gName 11) gNil)))) (tt := tYes) rfl scByb.nd (pi_list (pv 7))
              (blkOk_by (own := [("_law_p", 9), ("_law_q", 10), ("_law_c", 11)]) (N := nByb) (sc := C8.fnScope sByb) (by decide +kernel))
              (fun _ _ _ _ _ => pg_tup rfl (pgs_cons (pg_name (i := 9) scByb.nd rfl (Or.inl rfl)) (pgs_cons (pg_name (i := 10) scByb.nd rfl (Or.inl rfl)) (pgs_cons (pg_name (i := 11) scByb.nd rfl (Or.inl rfl)) pgs_nil)))) (fun _ _ _ _ _ => pts_nil)
              (fun _ _ _ _ _ => pe_callTy cr_int1 (by rfl) mi (by decide +kernel) (pa_cons (pe_cmpR op_lt (pv 9) (pe_op op_add (pv 10) (pv 11)) (nomark _)) pa_nil))))))
          (pss_one (ps_set (i := 4) scByb.nd rfl (.inl rfl) (R16.pe_sortSet rfl (by rfl) ms (by rfl) me
            (pe_lc (own := [("_law_p", 9), ("_law_q", 10), ("_law_c", 11)]) (g := gTup K 3 (gCons (gName 9) (gCons (gName 10) (gCons (gName 11) gNil)))) (tt := tYes) rfl scByb.nd (pi_list (pv 7))
              (blkOk_by (own := [("_law_p", 9), ("_law_q", 10), ("_law_c", 11)]) (N := nByb) (sc := C8.fnScope sByb) (by decide +kernel))
              (fun _ _ _ _ _ => pg_tup rfl (pgs_cons (pg_name (i := 9) scByb.nd rfl (Or.inl rfl)) (pgs_cons (pg_name (i := 10) scByb.nd rfl (Or.inl rfl)) (pgs_cons (pg_name (i := 11) scByb.nd rfl (Or.inl rfl)) pgs_nil)))) (fun _ _ _ _ _ => pts_nil)
              (fun _ _ _ _ _ => pe_callB (r := rMax2) (call_max2 rfl) (by rfl) mx (by decide +kernel) (pa_cons (pv 11) (pa_cons (pe_callTy cr_int1 (by rfl) mi (by decide +kernel) (pa_cons (pe_cmpR op_ne (pv 9) (pv 10) (nomark _)) pa_nil)) pa_nil))))))))))))))
    (pss_cons (ps_if (pt_cmpR op_eq (pv 0) pe_str (nomark _)) (pss_one (ps_ret (pv 3))) pss_nil)
    (pss_one (ps_ret (C8.pe_c cS hr (by decide) rfl (pa_cons
      (pe_lc (own := [("_law_c", 11)]) (g := gName 11) (tt := tYes) rfl scByb.nd (pi_list (pv 4)) (blkOk_by (own := [("_law_c", 11)]) (N := nByb) (sc := C8.fnScope sByb) (by decide +kernel))
            (fun _ _ _ _ _ => pg_name (i := 11) scByb.nd rfl (Or.inl rfl)) (fun _ _ _ _ _ => pts_nil)
            (fun _ _ _ _ _ => pe_ix (r := rIxL K) ix_list (pe_lst (pa_cons (pv 11) (pa_cons (pe_op op_sub pe_int (pv 11)) pa_nil))) (pe_callTy cr_int1 (by rfl) mi (by decide +kernel) (pa_cons (pe_cmpR op_eq (pv 0) pe_str (nomark _)) pa_nil)) (fun _ _ => rfl))) pa_nil))))))), ?_⟩
  refine q_asg ev_c fun H1 e1 => q_asgL (xs := [.int 0]) (el_lst (ea_cons ev_c ea_nil) (by show 1 ≤ 100000; decide)) fun ah H2 hah e2 h2 => ?_
  refine q_zipS (ea_cons (ev_rev (ev_var rfl) (by omega)) (ea_cons (ev_rev (ev_var rfl) (by omega)) ea_nil)) (by simpa using hl)
    (fun k σ' H' => Ex H H' ∧ ∃ l y5 y6 y7, σ' = [some (wdV d), some (tx a), some (tx b), some (tx (((a.reverse.zip b.reverse).take k).foldl (Mth.bitsF d) ([], [0])).1), some (.ref l), y5, y6, y7, none, none, none, none] ∧
      H' l = some (.lst ((((a.reverse.zip b.reverse).take k).foldl (Mth.bitsF d) ([], [0])).2.map V.int)))
    (fun H3 e3 => ⟨(e1.trans e2).trans e3, ah, none, none, none, ?_, e3 ah _ h2⟩) ?_ ?_
  · have t1 : V.str "" = tx [] := tx_of (by decide +kernel)
    show [some (wdV d), some (tx a), some (tx b), some (V.str ""), some (.ref ah), none, none, none, none, none, none, none] = _
    rw [t1]
    rfl
  · rintro k c c' σ' H' hc hd ⟨eH, l, y5, y6, y7, rfl, hl'⟩ H3 e3
    have hk : k < a.length := by simpa using (List.getElem?_eq_some_iff.mp hc).1
    have hft : ((a.reverse.zip b.reverse).take k).length ≤ k := by rw [List.length_take]; omega
    obtain ⟨i1, i2, i3, i4⟩ := bits_at d ((a.reverse.zip b.reverse).take k)
    have st := fold_take (Mth.bitsF d) ([], [0]) (a.reverse.zip b.reverse) (zip_get hc hd)
    generalize hst : ((a.reverse.zip b.reverse).take k).foldl (Mth.bitsF d) ([], [0]) = st0 at *
    obtain ⟨fd0, ns⟩ := st0
    rw [st]
    refine q_asg_tri (c := c) (d := c') (ah := ns) (ea_cons (ev_var rfl) (ea_cons (ev_var rfl) (ea_cons (ev_var rfl) ea_nil))) (.inl (.inl (e3 l _ hl'))) (by have : ns.length ≤ 2 := i3; omega) fun p H4 refs e4 hp ht => ?_
    have tl : (Mth.tri c c' ns).length ≤ 1000 := by
      unfold Mth.tri
      rw [tri_len]
      have b1 := ways_len c
      have b2 := ways_len c'
      have b3 : ns.length ≤ 2 := i3
      have c1 : (Mth.ways c').length * ns.length ≤ 2 * 2 := Nat.mul_le_mul b2 b3
      have c2 : (Mth.ways c).length * ((Mth.ways c').length * ns.length) ≤ 2 * 4 := Nat.mul_le_mul b1 c1
      omega
    have t01 := Mth.tri_01 (p := c) (q := c') (ahead := ns) i2
    refine q_asg (v := tx ([Mth.sgn ((Mth.tri c c' ns).map Mth.par)] ++ fd0)) (ev_cat (ev_callN (xs := ((Mth.tri c c' ns).map Mth.par).map V.int) ?_ fun p5 H5 e5 h5 => v_sign (.inl (.inl h5)) (fun z => Mth.tri_ne (p := c) (q := c') i1 (List.map_eq_nil_iff.1 z)) (fun x hx => by
        obtain ⟨t, _, rfl⟩ := List.mem_map.1 hx
        exact Mth.par_01 t) (by rw [List.length_map]; omega)) (ev_var rfl) (by
        have : fd0.length = _ := i4
        rw [List.length_singleton]; omega)) fun H5 e5 => ?_
    · rw [List.map_map]
      exact el_mapT (ev_var rfl) (.inl (.inl hp)) ht (by omega) (fun _ => rfl) fun t htm q' H6 e6 hq' => by
        refine ev_is (ev_mod (ev_sumT (ns := [t.1, t.2.1, t.2.2]) (ev_var rfl) (.inl (.inl hq'))) ev_c (by decide)) ?_
        rw [fsum3]
        rfl
    have hp5 := e5 p _ hp
    have ht5 := Tups.mono e5 ht
    have eE : Ex H H5 := ((eH.trans e3).trans e4).trans e5
    have fin : ∀ (p6 : Addr) H6, Ex H5 H6 → H6 p6 = some (.lst ((Mth.ss ((Mth.tri c c' ns).map (Mth.nxt d))).map V.int)) →
        (Ex H H6 ∧ ∃ l y5 y6 y7, [some (wdV d), some (tx a), some (tx b), some (tx ([Mth.sgn ((Mth.tri c c' ns).map Mth.par)] ++ fd0)), some (.ref p6), some (tx [c]), some (tx [c']), some (.ref p), none, none, none, none]
            = [some (wdV d), some (tx a), some (tx b), some (tx (Mth.bitsF d (fd0, ns) (c, c')).1), some (.ref l), y5, y6, y7, none, none, none, none] ∧ H6 l = some (.lst ((Mth.bitsF d (fd0, ns) (c, c')).2.map V.int))) :=
      fun p6 H6 e6 h6 => ⟨eE.trans e6, p6, _, _, _, rfl, h6⟩
    have n01 : ∀ x ∈ (Mth.tri c c' ns).map (Mth.nxt d), x = 0 ∨ x = 1 := fun x hx => by
      obtain ⟨t, ht', rfl⟩ := List.mem_map.1 hx
      exact Mth.nxt_01 d (t01 t ht')
    have srt : ∀ {te : TE} {σ : L2.St} {H0 : Hp}, EvL te σ H0 (((Mth.tri c c' ns).map (Mth.nxt d)).map V.int) → EvL (R16.tSortSet K te) σ H0 ((Mth.ss ((Mth.tri c c' ns).map (Mth.nxt d))).map V.int) := fun h => by
      rw [← sortS_01 n01]
      exact el_sortSetN h (by rw [List.length_map]; omega)
    refine s_if (et_is (et_eq (ev_var rfl) ev_c) (wd_is_plus d)) (fun hw H6 e6 => ?_) (fun hw H6 e6 => ?_)
    · have hw := of_decide_eq_true hw
      subst hw
      refine s_asgL (srt ?_) fun p7 H7 _ e7 h7 => fin p7 H7 (e6.trans e7) h7
      rw [List.map_map]
      exact el_mapT (ev_var rfl) (.inl (.inl (e6 p _ hp5))) (Tups.mono e6 ht5) (by omega) (fun _ => rfl) fun t htm q' H8 e8 hq' => by
        refine ev_is (ev_fdiv (ev_sumT (ns := [t.1, t.2.1, t.2.2]) (ev_var rfl) (.inl (.inl hq'))) ev_c (by unfold CDiv; decide)) ?_
        rw [fsum3]
        rfl
    refine s_if (et_is (et_eq (ev_var rfl) ev_c) (wd_is_less d)) (fun hw2 H7 e7 => ?_) (fun hw2 H7 e7 => ?_)
    · have hw2 := of_decide_eq_true hw2
      subst hw2
      refine s_asgL (srt ?_) fun p8 H8 _ e8 h8 => fin p8 H8 ((e6.trans e7).trans e8) h8
      rw [List.map_map]
      exact el_mapT3 (ev_var rfl) (.inl (.inl ((e6.trans e7) p _ hp5))) (Tups.mono (e6.trans e7) ht5) (by omega) (fun _ _ _ => rfl) fun t htm H9 e9 => by
        refine ev_is (ev_intb (ev_lt (ev_var rfl) (ev_add (ev_var rfl) (ev_var rfl)))) ?_
        rw [one_if]
        rfl
    · have hs : d = .same := by
        cases d
        · exact absurd hw (by decide)
        · rfl
        · exact absurd hw2 (by decide)
      subst hs
      refine s_asgL (srt ?_) fun p8 H8 _ e8 h8 => fin p8 H8 ((e6.trans e7).trans e8) h8
      rw [List.map_map]
      exact el_mapT3 (ev_var rfl) (.inl (.inl ((e6.trans e7) p _ hp5))) (Tups.mono (e6.trans e7) ht5) (by omega) (fun _ _ _ => rfl) fun t htm H9 e9 => by
        refine ev_is (ev_max2 (ev_var rfl) (ev_intb (ev_ne (ev_var rfl) (ev_var rfl)))) ?_
        have e : (if (!decide (V.int t.1 = V.int t.2.1)) then (1 : Int) else 0) = if t.1 = t.2.1 then 0 else 1 := by
          by_cases h : t.1 = t.2.1
          · simp [h]
          · simp [h]
        rw [e]
        rfl
  · rintro σ' H' ⟨eH, l, y5, y6, y7, rfl, hl'⟩
    have e : (a.reverse.zip b.reverse).take a.reverse.length = a.reverse.zip b.reverse := by
      rw [List.take_of_length_le]
      rw [List.length_zip]
      omega
    rw [e] at hl' ⊢
    obtain ⟨i1, i2, i3, i4⟩ := bits_at d (a.reverse.zip b.reverse)
    have hby := byb_is d a b
    generalize (a.reverse.zip b.reverse).foldl (Mth.bitsF d) ([], [0]) = st0 at *
    obtain ⟨fd0, ns⟩ := st0
    refine q_when (et_is (et_eq (ev_var rfl) ev_c) (wd_is_plus d)) (fun hw H5 e5 => ?_) (fun hw H5 e5 => ?_)
    · have hw := of_decide_eq_true hw
      subst hw
      rw [hby] at q
      exact s_ret (ev_var rfl) fun H6 e6 => q H6 ((eH.trans e5).trans e6)
    · refine s_ret (v := tx (Mth.byBits d a b)) ?_ fun H6 e6 => q H6 ((eH.trans e5).trans e6)
      have e9 : tx (Mth.byBits d a b) = tx [Mth.sgn (ns.map fun c => if d = .same then 1 - c else c)] := by
        rw [hby]
        cases d
        · exact absurd hw (by decide)
        · rfl
        · have e10 : (ns.map fun c => if Mth.Wd.less = Mth.Wd.same then 1 - c else c) = ns := by simp
          rw [e10]
          rfl
      rw [e9]
      refine ev_callN (xs := (ns.map fun c => if d = .same then 1 - c else c).map V.int) ?_ fun p7 H7 e7 h7 => v_sign (.inl (.inl h7)) (fun z => i1 (List.map_eq_nil_iff.1 z)) (fun x hx => by
        obtain ⟨c, hc, rfl⟩ := List.mem_map.1 hx
        have hc01 : c = 0 ∨ c = 1 := i2 c hc
        split <;> omega) (by
        have : ns.length ≤ 2 := i3
        rw [List.length_map]; omega)
      rw [List.map_map]
      exact el_map (gV := V.int) (ev_var rfl) (.inl (.inl (e5 l _ hl'))) (by have : ns.length ≤ 2 := i3; omega) (fun _ => rfl) fun c hcm H6 e6 => by
        refine ev_opL1 (xs := [.int c, .int (1 - c)]) (el_lst (ea_cons (ev_var rfl) (ea_cons (ev_sub ev_c (ev_var rfl)) ea_nil)) (by show 2 ≤ 100000; decide))
          (fun H7 e7 => ev_intb (ev_is (ev_eq (ev_var rfl) ev_c) (congrArg V.bl (wd_is_same d)))) fun p7 H7 h7 e7 => ?_
        refine rv_ixL (.inl (.inl h7)) ?_
        by_cases hs : d = .same
        · subst hs
          exact atI_nat (j := 1) rfl
        · have e0 : (if decide (d = .same) then (1 : Int) else 0) = ((0 : Nat) : Int) := by simp [hs]
          rw [e0]
          have e1 : ((V.int ∘ fun c : Int => if d = .same then 1 - c else c) c) = .int c := by simp [hs]
          rw [e1]
          exact atI_nat (j := 0) rfl
end
end K16
/-! _law_numbers, walked. -/
namespace K16
open PySem PySem.Spec PyProof.Rows L2 Evl SX
/-- both ways' first and last, apart -/
def wF (c : Nat) : Int := if c = 49 then 1 else 0
def wL (c : Nat) : Int := if c = 48 then 0 else 1
def numF (st : List Int) (c : Nat) : List Int := (st.map fun n => 2 * n + wF c) ++ (st.map fun n => 2 * n + wL c)
def raw (a : List Nat) : List Int := a.foldl numF [0]
theorem ways_ends (c : Nat) : ∃ l, Mth.ways c = l ++ [wL c] ∧ (Mth.ways c)[0]? = some (wF c) := by
  unfold Mth.ways wF wL
  by_cases h : c = 48
  · subst h; exact ⟨[], rfl, rfl⟩
  · by_cases h2 : c = 49
    · subst h2; exact ⟨[], rfl, rfl⟩
    · rw [if_neg h, if_neg h2, if_neg h2, if_neg h]
      exact ⟨[0], rfl, rfl⟩
theorem raw_len : ∀ (a : List Nat) (st : List Int), (a.foldl numF st).length = 2 ^ a.length * st.length
  | [], st => by simp
  | c :: a, st => by
    rw [List.foldl_cons, raw_len a, List.length_cons, Nat.pow_succ]
    unfold numF
    rw [List.length_append, List.length_map, List.length_map, Nat.mul_assoc]
    congr 1
    omega
theorem raw_fil : ∀ (l : List Nat) (m : Int), m ∈ l.foldr (fun c st => numF st c) [0] ↔ ∃ x : Nat, Mth.Fil l x ∧ m = x
  | [], m => by
    show m ∈ [0] ↔ ∃ x : Nat, x = 0 ∧ m = x
    simp
  | c :: l, m => by
    rw [List.foldr_cons]
    have ih := raw_fil l
    generalize l.foldr (fun c st => numF st c) [0] = st at *
    unfold numF
    rw [List.mem_append, List.mem_map, List.mem_map]
    show _ ↔ ∃ x : Nat, (∃ b ∈ Mth.waysN c, ∃ y, Mth.Fil l y ∧ x = 2 * y + b) ∧ m = x
    have hw : ∀ b : Nat, b ∈ Mth.waysN c ↔ (b : Int) = wF c ∨ (b : Int) = wL c := by
      intro b
      unfold Mth.waysN wF wL
      by_cases h : c = 48
      · subst h; simp
      · by_cases h2 : c = 49
        · subst h2; simp; omega
        · simp [h, h2]; omega
    have h01 : (∃ b : Nat, (b : Int) = wF c) ∧ ∃ b : Nat, (b : Int) = wL c := by
      unfold wF wL
      refine ⟨?_, ?_⟩
      · split
        · exact ⟨1, rfl⟩
        · exact ⟨0, rfl⟩
      · split
        · exact ⟨0, rfl⟩
        · exact ⟨1, rfl⟩
    constructor
    · rintro (⟨n, hn, rfl⟩ | ⟨n, hn, rfl⟩)
      · obtain ⟨y, hy, rfl⟩ := (ih n).1 hn
        obtain ⟨b, hb⟩ := h01.1
        exact ⟨2 * y + b, ⟨b, (hw b).2 (.inl hb), y, hy, rfl⟩, by omega⟩
      · obtain ⟨y, hy, rfl⟩ := (ih n).1 hn
        obtain ⟨b, hb⟩ := h01.2
        exact ⟨2 * y + b, ⟨b, (hw b).2 (.inr hb), y, hy, rfl⟩, by omega⟩
    · rintro ⟨x, ⟨b, hb, y, hy, rfl⟩, rfl⟩
      rcases (hw b).1 hb with e | e
      · exact .inl ⟨y, (ih y).2 ⟨y, hy, rfl⟩, by omega⟩
      · exact .inr ⟨y, (ih y).2 ⟨y, hy, rfl⟩, by omega⟩
theorem raw_mem {a : List Nat} {m : Int} : m ∈ raw a ↔ ∃ x : Nat, Mth.Fil a.reverse x ∧ m = x := by
  rw [← raw_fil a.reverse m]
  unfold raw
  rw [List.foldr_reverse]
/-- the numbers, each once -/
noncomputable def nums (a : List Nat) : List Nat := (sortS (raw a)).map Int.toNat
theorem nums_map (a : List Nat) : (nums a).map (fun n : Nat => V.int (n : Int)) = (sortS (raw a)).map V.int := by
  unfold nums
  rw [List.map_map]
  refine List.map_congr_left fun m hm => ?_
  obtain ⟨x, _, rfl⟩ := raw_mem.1 (sortS_mem.1 hm)
  rfl
theorem nums_mem {a : List Nat} {x : Nat} : x ∈ nums a ↔ Mth.Fil a.reverse x := by
  unfold nums
  rw [List.mem_map]
  constructor
  · rintro ⟨m, hm, rfl⟩
    obtain ⟨y, hy, rfl⟩ := raw_mem.1 (sortS_mem.1 hm)
    exact hy
  · intro h
    exact ⟨(x : Int), sortS_mem.2 (raw_mem.2 ⟨x, h, rfl⟩), rfl⟩
theorem raw_le {a : List Nat} (h : a.length ≤ 8) : (raw a).length ≤ 256 := by
  unfold raw
  rw [raw_len]
  have : 2 ^ a.length ≤ 2 ^ 8 := Nat.pow_le_pow_right (by decide) h
  simp
  omega
theorem nums_len {a : List Nat} (h : a.length ≤ 8) : (nums a).length ≤ 256 := by
  unfold nums
  rw [List.length_map]
  exact Nat.le_trans (sortS_len _) (raw_le h)
section
variable {K : PySem.W.Frag} {σ : L2.St} {H H' : Hp} {ta tb te ti tl : TE}
/-- a new list and another -/
theorem el_cat {xs ys : List V} (ha : EvL ta σ H xs) (hb : EvL tb σ H ys) (hz : xs.length + ys.length ≤ 100000) : EvL (tOp rCat ta tb) σ H (xs ++ ys) := fun H1 e Q q =>
  ha H1 e _ fun p H2 hp e2 h2 => hb H2 (e.trans e2) _ fun p' H3 hp' e3 h3 => ⟨p, p', xs, ys, rfl, rfl, e3 p _ h2, h3, sz_of hz, fun l hl =>
    q l _ (fresh_back (e2.trans e3) hl) ((e2.trans e3).trans (Ex.new hl)) upd_same⟩
theorem rise_map (ns : List Int) : ns.map V.int = ns.map V.int := rfl
end
section
variable {P : Program} {w : World} {K : PySem.W.Frag} {mg : Str → Option Value} {base : Heap}
abbrev sNum : Stmt := top 26
abbrev nNum : List Str := ["_law_value_here", "_law_found", "_law_sign_here", "_law_ways_here", "_law_number"]
theorem scNum : FnScope nNum ["_law_value_here"] (C8.fnScope sNum) := C8.fnScope_by (by decide +kernel)
def spNum : Sp := fun vs H Q _ => ∃ a : List Nat, vs = [tx a] ∧ a.length ≤ 8 ∧ RetL ((nums a).map fun n : Nat => V.int (n : Int)) H Q
theorem l_num {a : List Nat} {H : Hp} (h : a.length ≤ 8) : SpL spNum [tx a] H ((nums a).map fun n : Nat => V.int (n : Int)) := fun _ _ _ q _ => ⟨a, rfl, h, q⟩
theorem ok_num (F : Df K mg "_law_numbers" sNum ["_law_value_here"]) (mi : mg "int" = none) (ms : mg "sorted" = none) (me : mg "set" = none) : Cal P w K mg base 1 "_law_numbers" spNum [] := by
  refine F.cal scNum (fun vs H Q E h => by obtain ⟨a, rfl, _⟩ := h; rfl) fun f cdv A outer s H vs Q E hr h => ?_
  obtain ⟨a, rfl, hz, q⟩ := h
  refine ⟨_, pss_cons (ps_set (i := 1) scNum.nd rfl (.inl rfl) (pe_lst (pa_cons pe_int pa_nil)))
    (pss_cons (ps_for PassesOwn.never rfl (pi_str (pv 0)) (pg_name (i := 2) scNum.nd rfl (.inl rfl))
      (pss_cons (ps_set (i := 3) scNum.nd rfl (.inr rfl) (pe_ix ix_list
        (pe_lst (pa_cons (pe_lst (pa_cons pe_int (pa_cons pe_int pa_nil))) (pa_cons (pe_lst (pa_cons (pe_callTy cr_int1 (by rfl) mi (by decide +kernel) (pa_cons (pe_cmpR op_eq (pv 2) pe_str (nomark _)) pa_nil)) pa_nil)) pa_nil)))
        (pe_callTy cr_int1 (by rfl) mi (by decide +kernel) (pa_cons (pe_cmpR op_inS (pv 2) pe_str (by rfl)) pa_nil)) (fun _ _ => rfl)))
      (pss_one (ps_set (i := 1) scNum.nd rfl (.inl rfl) (pe_op op_cat
        (pe_lc (own := [("_law_number", 4)]) (g := gName 4) (tt := tYes) rfl scNum.nd (pi_list (pv 1)) (blkOk_by (own := [("_law_number", 4)]) (N := nNum) (sc := C8.fnScope sNum) (by decide +kernel))
            (fun _ _ _ _ _ => pg_name (i := 4) scNum.nd rfl (Or.inl rfl)) (fun _ _ _ _ _ => pts_nil) (fun _ _ _ _ _ => pe_op op_add (pe_op op_mul pe_int (pv 4)) (pe_ix (r := rIxL K) ix_list (pv 3) pe_int (fun _ _ => rfl))))
        (pe_lc (own := [("_law_number", 4)]) (g := gName 4) (tt := tYes) rfl scNum.nd (pi_list (pv 1)) (blkOk_by (own := [("_law_number", 4)]) (N := nNum) (sc := C8.fnScope sNum) (by decide +kernel))
            (fun _ _ _ _ _ => pg_name (i := 4) scNum.nd rfl (Or.inl rfl)) (fun _ _ _ _ _ => pts_nil) (fun _ _ _ _ _ => pe_op op_add (pe_op op_mul pe_int (pv 4)) (pe_ix (r := rIxL K) ix_list (pv 3) (pe_un un_neg pe_int) (fun _ _ => rfl)))))))))
    (pss_one (ps_ret (R16.pe_sortSet rfl (by rfl) ms (by rfl) me (pv 1))))), ?_⟩
  refine q_asgL (xs := [.int 0]) (el_lst (ea_cons ev_c ea_nil) (by show 1 ≤ 100000; decide)) fun fo H1 hfo e1 h1 => ?_
  refine q_forS (a := a) (ev_var rfl) (fun k σ' H' => Ex H H' ∧ ∃ l y2 y3, σ' = [some (tx a), some (.ref l), y2, y3, none] ∧ H' l = some (.lst ((raw (a.take k)).map V.int)))
    (fun H3 e3 => ⟨e1.trans e3, fo, none, none, rfl, e3 fo _ h1⟩) ?_ ?_
  · rintro k c σ' H' hc ⟨eH, l, y2, y3, rfl, hl⟩
    have hk : k < a.length := (List.getElem?_eq_some_iff.mp hc).1
    have hlen : (raw (a.take k)).length ≤ 256 := raw_le (by rw [List.length_take]; omega)
    have st : raw (a.take (k + 1)) = numF (raw (a.take k)) c := fold_take numF [0] a hc
    obtain ⟨wl, we, wf⟩ := ways_ends c
    refine q_asgL (el_ways (c := c) (by decide +kernel) (by decide +kernel) (ev_var rfl)) fun pw H2 _ e2 h2 => ?_
    have hl2 := e2 l _ hl
    refine s_asgL (xs := ((raw (a.take k)).map fun n => V.int (2 * n + wF c)) ++ ((raw (a.take k)).map fun n => V.int (2 * n + wL c))) (el_cat ?_ ?_ (by rw [List.length_map, List.length_map]; omega)) fun p3 H3 _ e3 h3 => ⟨(eH.trans e2).trans e3, p3, _, _, rfl, ?_⟩
    · exact el_map (gV := V.int) (ev_var rfl) (.inl (.inl hl2)) (by omega) (fun _ => rfl) fun n _ H4 e4 => ev_add (ev_mul ev_c (ev_var rfl) (.inl (by decide))) (ev_ixL (ev_var rfl) ev_c (.inl (.inl (e4 pw _ h2))) (atI_nat (j := 0) (by rw [List.getElem?_map, wf] <;> rfl)))
    · exact el_map (gV := V.int) (ev_var rfl) (.inl (.inl hl2)) (by omega) (fun _ => rfl) fun n _ H4 e4 => ev_add (ev_mul ev_c (ev_var rfl) (.inl (by decide))) (ev_ixL (ev_var rfl) (ev_un ev_c ru_neg) (.inl (.inl (e4 pw _ h2))) (by
        rw [we, List.map_append]
        exact atI_last _ _))
    · rw [h3, st]
      unfold numF
      rw [List.map_append, List.map_map, List.map_map]
      rfl
  · rintro σ' H' ⟨eH, l, y2, y3, rfl, hl⟩
    rw [List.take_length] at hl
    rw [nums_map] at q
    have hlen := raw_le hz
    refine s_retL (el_sortSet (ev_var rfl) (.inl (.inl hl)) (by omega)) fun p H2 hp e2 h2 => q p H2 (fresh_back eH hp) (eH.trans e2) h2
end
end K16
/-! _law_bits, walked. -/
namespace K16
open PySem PySem.Spec PyProof.Rows L2 Evl SX
theorem odd_bit (x k : Nat) : decide (x / 2 ^ k % 2 = 1) = x.testBit k := Nat.testBit_eq_decide_div_mod_eq.symm
theorem ups_bit (k : Nat) : ∀ (l : List Nat) (x : Nat), (l.foldl (fun a b => a &&& b) x).testBit k = (x.testBit k && l.all fun m => m.testBit k)
  | [], x => by simp
  | m :: l, x => by
    rw [List.foldl_cons, ups_bit k l, Nat.testBit_and, List.all_cons, Bool.and_assoc]
theorem downs_bit (k : Nat) : ∀ (l : List Nat) (x : Nat), (l.foldl (fun a b => a ||| b) x).testBit k = (x.testBit k || l.any fun m => m.testBit k)
  | [], x => by simp
  | m :: l, x => by
    rw [List.foldl_cons, downs_bit k l, Nat.testBit_or, List.any_cons, Bool.or_assoc]
def upsN (ms : List Nat) : Nat := ms.foldl (fun a b => a &&& b) (ms.headD 0)
def downsN (ms : List Nat) : Nat := ms.foldl (fun a b => a ||| b) (ms.headD 0)
theorem ups_all {ms : List Nat} (h : ms ≠ []) (k : Nat) : upsN ms / 2 ^ k % 2 = 1 ↔ ∀ m ∈ ms, m / 2 ^ k % 2 = 1 := by
  have e : decide (upsN ms / 2 ^ k % 2 = 1) = decide (∀ m ∈ ms, m / 2 ^ k % 2 = 1) := by
    rw [odd_bit]
    unfold upsN
    rw [ups_bit]
    cases ms with
    | nil => exact absurd rfl h
    | cons x r =>
      rw [Bool.eq_iff_iff]
      simp [Nat.testBit_eq_decide_div_mod_eq]
  simpa using e
theorem downs_all {ms : List Nat} (h : ms ≠ []) (k : Nat) : downsN ms / 2 ^ k % 2 = 0 ↔ ∀ m ∈ ms, m / 2 ^ k % 2 = 0 := by
  have e : decide (downsN ms / 2 ^ k % 2 = 1) = decide (¬ ∀ m ∈ ms, m / 2 ^ k % 2 = 0) := by
    rw [odd_bit]
    unfold downsN
    rw [downs_bit]
    cases ms with
    | nil => exact absurd rfl h
    | cons x r =>
      rw [Bool.eq_iff_iff]
      simp [Nat.testBit_eq_decide_div_mod_eq]
  have e2 : (downsN ms / 2 ^ k % 2 = 1) ↔ ¬ ∀ m ∈ ms, m / 2 ^ k % 2 = 0 := by simpa using e
  constructor
  · intro z
    exact Decidable.byContradiction fun y => by
      have := e2.2 y
      omega
  · intro z
    have : ¬ downsN ms / 2 ^ k % 2 = 1 := fun y => e2.1 y z
    omega
theorem bitSg_is {ms : List Nat} (h : ms ≠ []) (k : Nat) : Mth.bitSg ms k = if upsN ms / 2 ^ k % 2 = 1 then 49 else if downsN ms / 2 ^ k % 2 = 0 then 48 else 120 := by
  unfold Mth.bitSg
  simp only [← ups_all h, ← downs_all h]
theorem bitsT_get {ms : List Nat} {w i : Nat} (h : i < w) : (Mth.bitsT ms w)[i]? = some (Mth.bitSg ms (w - 1 - i)) := by
  unfold Mth.bitsT
  have h1 : i < ((List.range w).map (Mth.bitSg ms)).length := by simpa using h
  have h2 : ((List.range w).map (Mth.bitSg ms)).length = w := by simp
  rw [List.getElem?_reverse h1, h2, List.getElem?_map, List.getElem?_range (by omega)]
  rfl
theorem bitsT_len (ms : List Nat) (w : Nat) : (Mth.bitsT ms w).length = w := by simp [Mth.bitsT]
theorem and_nat {x y : Nat} : Builtin.bitAnd (x : Int) (y : Int) = ((x &&& y : Nat) : Int) := by
  rw [bitAnd_pp (by omega) (by omega)]
  rfl
theorem or_nat {x y : Nat} : Builtin.bitOr (x : Int) (y : Int) = ((x ||| y : Nat) : Int) := by
  rw [Bits.bitOr_pp (by omega) (by omega)]
  rfl
theorem shr_and (x k : Nat) : Builtin.bitAnd ((x : Int) / 2 ^ ((k : Int).toNat)) 1 = ((x / 2 ^ k % 2 : Nat) : Int) := by
  have e : (x : Int) / 2 ^ ((k : Int).toNat) = ((x / 2 ^ k : Nat) : Int) := by simp
  rw [e]
  show Builtin.bitAnd _ ((1 : Nat) : Int) = _
  rw [and_nat, Nat.and_one_is_mod]
section
variable {K : PySem.W.Frag} {σ : L2.St} {H H' : Hp} {ta tb te ti tl : TE} {D : Ends} {tu tz : TS}
theorem q_forR3 {ta : TA} {j : Nat} {lo hi : Int} (h : EvA ta σ H [.int lo, .int hi, .int (-1)]) (hn : -100000 ≤ lo ∧ lo ≤ 100000 ∧ -100000 ≤ hi ∧ hi ≤ 100000) (Pv : Nat → L2.St → Hp → Prop) (h0 : ∀ H1, Ex H H1 → Pv 0 σ H1)
    (hs : ∀ (i : Nat) σ' H', i < (lo - hi).toNat → Pv i σ' H' → tu { D with nx := Pv (i + 1), ct := Pv (i + 1), bk := tz D } (σ'.set j (some (.int (lo - (i : Int))))) H') (hd : ∀ σ' H', Pv (lo - hi).toNat σ' H' → tz D σ' H') : tSeq (tFor (iRng3 ta) (gName j) tu) tz D σ H :=
  h H (Ex.refl H) _ fun H1 e => ⟨lo, hi, -1, (lo - hi).toNat, rfl, RgC.neg (by omega) (by omega) (by omega) (by omega), for_rangeC (D := { D with nx := tz D }) Pv (h0 H1 e) (fun i σ' H' hi' p => by
    show tu _ (σ'.set j (some (.int (lo + (i : Nat) * (-1))))) H'
    rw [show lo + ((i : Nat) : Int) * (-1) = lo - (i : Int) by omega]
    exact hs i σ' H' hi' p) hd⟩
end
section
variable {P : Program} {w : World} {K : PySem.W.Frag} {mg : Str → Option Value} {base : Heap}
abbrev sBits : Stmt := top 27
abbrev nBits : List Str := ["_law_some", "_law_width", "_law_ups", "_law_downs", "_law_number", "_law_found", "_law_k"]
theorem scBits : FnScope nBits ["_law_some", "_law_width"] (C8.fnScope sBits) := C8.fnScope_by (by decide +kernel)
abbrev nV (n : Nat) : V := V.int (n : Int)
def spBits (K : PySem.W.Frag) : Sp := fun vs H Q _ => ∃ (l : Addr) (ms : List Nat) (n : Nat), vs = [.ref l, nV n] ∧ SqL K H l (ms.map nV) ∧ ms ≠ [] ∧ n ≤ 1000 ∧ RetV (tx (Mth.bitsT ms n)) H Q
theorem v_bits {l : Addr} {ms : List Nat} {n : Nat} {H : Hp} (hs : SqL K H l (ms.map nV)) (hm : ms ≠ []) (hn : n ≤ 1000) : SpV (spBits K) [.ref l, nV n] H (tx (Mth.bitsT ms n)) := fun _ e _ q _ => ⟨l, ms, n, rfl, ex_l e hs, hm, hn, q⟩
theorem ok_bits (F : Df K mg "_law_bits" sBits ["_law_some", "_law_width"]) (mr : mg "range" = none) : Cal P w K mg base 1 "_law_bits" (spBits K) [] := by
  refine F.cal scBits (fun vs H Q E h => by obtain ⟨l, ms, n, rfl, _⟩ := h; rfl) fun f cdv A outer s H vs Q E hr h => ?_
  obtain ⟨l, ms, n, rfl, hs, hm, hn, q⟩ := h
  refine ⟨_, pss_cons (ps_set (i := 2) scBits.nd rfl (.inl rfl) (pe_ix ix_list (pv 0) pe_int (fun _ _ => rfl)))
    (pss_cons (ps_set (i := 3) scBits.nd rfl (.inl rfl) (pe_ix ix_list (pv 0) pe_int (fun _ _ => rfl)))
    (pss_cons (ps_for PassesOwn.never rfl (pi_list (pv 0)) (pg_name (i := 4) scBits.nd rfl (.inl rfl))
      (pss_cons (ps_set (i := 2) scBits.nd rfl (.inl rfl) (pe_op op_and (pv 2) (pv 4)))
      (pss_one (ps_set (i := 3) scBits.nd rfl (.inl rfl) (pe_op op_or (pv 3) (pv 4))))))
    (pss_cons (ps_set (i := 5) scBits.nd rfl (.inl rfl) pe_str)
    (pss_cons (ps_for PassesOwn.never rfl (pi_range3 (by rfl) mr (pa_cons (pe_op op_sub (pv 1) pe_int) (pa_cons (pe_un un_neg pe_int) (pa_cons (pe_un un_neg pe_int) pa_nil)))) (pg_name (i := 6) scBits.nd rfl (.inl rfl))
      (pss_one (ps_set (i := 5) scBits.nd rfl (.inl rfl) (pe_op op_cats (pv 5)
        (pe_ifExp (pt_cmpR op_eq (pe_op op_and (pe_op op_shr (pv 2) (pv 6)) pe_int) pe_int (nomark _)) pe_str (pe_ifExp (pt_cmpR op_eq (pe_op op_and (pe_op op_shr (pv 3) (pv 6)) pe_int) pe_int (nomark _)) pe_str pe_str))))))
    (pss_one (ps_ret (pv 5))))))), ?_⟩
  obtain ⟨x, r, rfl⟩ : ∃ x r, ms = x :: r := by
    cases ms with
    | nil => exact absurd rfl hm
    | cons x r => exact ⟨x, r, rfl⟩
  refine q_asg (ev_ixL (ev_var rfl) ev_c hs (atI_nat (j := 0) rfl)) fun H1 e1 => q_asg (ev_ixL (ev_var rfl) ev_c (ex_l e1 hs) (atI_nat (j := 0) rfl)) fun H2 e2 => ?_
  refine q_forLn (xs := (x :: r).map nV) (ev_var rfl) (ex_l (e1.trans e2) hs) (fun i σ' H' => Ex H H' ∧ ∃ y4, σ' = [some (.ref l), some (nV n), some (nV (((x :: r).take i).foldl (fun a b => a &&& b) x)), some (nV (((x :: r).take i).foldl (fun a b => a ||| b) x)), y4, none, none])
    (fun H3 e3 => ⟨(e1.trans e2).trans e3, none, rfl⟩) (fun i σ' H' _ h => ex_l h.1 hs) ?_ ?_
  · rintro i v σ' H' hi ⟨eH, y4, rfl⟩
    rw [List.getElem?_map] at hi
    obtain ⟨m, hmi, rfl⟩ := Option.map_eq_some_iff.mp hi
    refine q_asg (ev_op (ev_var rfl) (ev_var rfl) rv_I0) fun H3 e3 => s_asg (ev_op (ev_var rfl) (ev_var rfl) rv_I0) fun H4 e4 => ?_
    rw [and_nat, or_nat]
    refine ⟨(eH.trans e3).trans e4, some (nV m), ?_⟩
    rw [fold_take (fun a b => a &&& b) x _ hmi, fold_take (fun a b => a ||| b) x _ hmi]
    rfl
  · rintro σ' H' ⟨eH, y4, rfl⟩
    rw [List.length_map, fold_all, fold_all]
    have bs := bitSg_is hm
    have eu : (x :: r).foldl (fun a b => a &&& b) x = upsN (x :: r) := rfl
    have ed : (x :: r).foldl (fun a b => a ||| b) x = downsN (x :: r) := rfl
    rw [eu, ed]
    generalize upsN (x :: r) = up at *
    generalize downsN (x :: r) = dn at *
    have bl := bitsT_len (x :: r) n
    refine q_asg ev_c fun H3 e3 => ?_
    refine q_forR3 (lo := (n : Int) - 1) (hi := -1) (ea_cons (ev_sub (ev_var rfl) ev_c) (ea_cons (ev_un ev_c ru_neg) (ea_cons (ev_un ev_c ru_neg) ea_nil))) (by omega)
      (fun i σ' H' => Ex H H' ∧ ∃ y6, σ' = [some (.ref l), some (nV n), some (nV up), some (nV dn), y4, some (tx ((Mth.bitsT (x :: r) n).take i)), y6]) (fun H4 e4 => ⟨(eH.trans e3).trans e4, none, ?_⟩) ?_ ?_
    · have t1 : V.str "" = tx [] := tx_of (by decide +kernel)
      show [some (.ref l), some (nV n), some (nV up), some (nV dn), y4, some (V.str ""), none] = _
      rw [t1]
      rfl
    · rintro i σ' H' hi ⟨eH2, y6, rfl⟩
      have hin : i < n := by omega
      have ek : (n : Int) - 1 - (i : Int) = ((n - 1 - i : Nat) : Int) := by omega
      rw [ek]
      have b1 : Ev _ _ H' _ := ev_op (ta := tOp _ (tVar 2) (tVar 6)) (tb := tC (.int 1)) (σ := [some (.ref l), some (nV n), some (nV up), some (nV dn), y4, some (tx ((Mth.bitsT (x :: r) n).take i)), some (.int ((n - 1 - i : Nat) : Int))]) (r := rI0 fun i j => .int (Builtin.bitAnd i j))
        (ev_op (r := rI (fun _ j => 0 ≤ j) fun i j => .int (i / 2 ^ j.toNat)) (ev_var rfl) (ev_var rfl) (rv_I (by omega))) ev_c rv_I0
      rw [shr_and] at b1
      have b2 : Ev _ _ H' _ := ev_op (ta := tOp _ (tVar 3) (tVar 6)) (tb := tC (.int 1)) (σ := [some (.ref l), some (nV n), some (nV up), some (nV dn), y4, some (tx ((Mth.bitsT (x :: r) n).take i)), some (.int ((n - 1 - i : Nat) : Int))]) (r := rI0 fun i j => .int (Builtin.bitAnd i j))
        (ev_op (r := rI (fun _ j => 0 ≤ j) fun i j => .int (i / 2 ^ j.toNat)) (ev_var rfl) (ev_var rfl) (rv_I (by omega))) ev_c rv_I0
      rw [shr_and] at b2
      have st : (Mth.bitsT (x :: r) n).take (i + 1) = (Mth.bitsT (x :: r) n).take i ++ [Mth.bitSg (x :: r) (n - 1 - i)] := by
        rw [List.take_add_one, bitsT_get hin]
        rfl
      have dI : ∀ {p : Nat} {j : Nat}, decide (V.int ((p : Nat) : Int) = V.int ((j : Nat) : Int)) = decide (p = j) := fun {p j} => by
        by_cases h : p = j
        · subst h; simp
        · rw [decide_eq_false h, decide_eq_false fun z => h (by have := V.int.inj z; omega)]
      refine s_asg (v := tx ((Mth.bitsT (x :: r) n).take i ++ [Mth.bitSg (x :: r) (n - 1 - i)])) (ev_cat (ev_var rfl) (ev_if (b := decide (up / 2 ^ (n - 1 - i) % 2 = 1)) (et_is (et_eq b1 ev_c) (dI (j := 1))) (fun h => ?_) (fun h => ev_if (b := decide (dn / 2 ^ (n - 1 - i) % 2 = 0)) (et_is (et_eq b2 ev_c) (dI (j := 0))) (fun h2 => ?_) (fun h2 => ?_))) (by rw [List.length_take, List.length_singleton]; omega)) fun H4 e4 => ⟨eH2.trans e4, some (.int ((n - 1 - i : Nat) : Int)), ?_⟩
      · rw [bs, if_pos (of_decide_eq_true h), ← tx_of (s := "1") (l := [49]) (by decide +kernel)]
        exact ev_c
      · rw [bs, if_neg (of_decide_eq_false h), if_pos (of_decide_eq_true h2), ← tx_of (s := "0") (l := [48]) (by decide +kernel)]
        exact ev_c
      · rw [bs, if_neg (of_decide_eq_false h), if_neg (of_decide_eq_false h2), ← tx_of (s := "x") (l := [120]) (by decide +kernel)]
        exact ev_c
      · rw [st]
        rfl
    · rintro σ' H' ⟨eH2, y6, rfl⟩
      have en : ((n : Int) - 1 - -1).toNat = n := by omega
      rw [en, List.take_of_length_le (by omega)]
      exact s_ret (ev_var rfl) fun H4 e4 => q H4 (eH2.trans e4)
end
end K16
/-! _law_due, walked. -/
namespace K16
open PySem PySem.Spec PyProof.Rows L2 Evl SX
section
variable {K : PySem.W.Frag} {σ : L2.St} {H H' : Hp} {ta tb te ti tl : TE} {D : Ends} {tu tz : TS}
/-- xs.extend(a new list) -/
theorem s_ext {l : Addr} {xs ys : List V} (hl : H l = some (.lst xs)) (ha : Ev ta σ H (.ref l)) (h : EvL te σ H ys) (hz : xs.length + ys.length ≤ 100000) (k : ∀ H1, Ex H H1 → D.nx σ (upd H1 l (.lst (xs ++ ys)))) :
    tDrop (tBM K "list" rExtend ta (tCons te tNil)) D σ H := ha H (Ex.refl H) _ fun H1 e1 =>
  ⟨Or.inl ⟨rfl, xs, sq_of (e1 l _ hl)⟩, h H1 e1 _ fun p H2 hp e2 h2 => ⟨l, p, xs, ys, rfl, rfl, e2 l _ (e1 l _ hl), h2, sz_of hz, k H2 (e1.trans e2)⟩⟩
end
section
variable {P : Program} {w : World} {K : PySem.W.Frag} {mg : Str → Option Value} {base : Heap}
abbrev sDue : Stmt := top 28
abbrev nDue : List Str := ["_law_word", "_law_a", "_law_b", "_law_width", "_law_some", "_law_others", "_law_one", "_law_other"]
theorem scDue : FnScope nDue ["_law_word", "_law_a", "_law_b", "_law_width"] (C8.fnScope sDue) := C8.fnScope_by (by decide +kernel)
def spDue : Sp := fun vs H Q _ => ∃ (d : Mth.Wd) (a b : List Nat), vs = [wdV d, tx a, tx b, nV a.length] ∧ a.length = b.length ∧ a.length ≤ 8 ∧ (∀ c ∈ a, Mth.C4 c) ∧ (∀ c ∈ b, Mth.C4 c) ∧ RetV (tx (Mth.opL d (a.map Mth.rd) (b.map Mth.rd))) H Q
theorem v_due {d : Mth.Wd} {a b : List Nat} {n : Nat} {H : Hp} (hn : n = a.length) (h : a.length = b.length) (h2 : a.length ≤ 8) (ha : ∀ c ∈ a, Mth.C4 c) (hb : ∀ c ∈ b, Mth.C4 c) : SpV spDue [wdV d, tx a, tx b, nV n] H (tx (Mth.opL d (a.map Mth.rd) (b.map Mth.rd))) := fun _ _ _ q _ =>
  ⟨d, a, b, by rw [hn], h, h2, ha, hb, q⟩
noncomputable def dues (d : Mth.Wd) (w : Nat) (xs ys : List Nat) : List Nat := xs.flatMap fun x => ys.map fun y => Mth.dueV d w x y
theorem dues_len (d : Mth.Wd) (w : Nat) (ys : List Nat) : ∀ xs : List Nat, (dues d w xs ys).length = xs.length * ys.length
  | [] => by simp [dues]
  | x :: xs => by
    have := dues_len d w ys xs
    unfold dues at this ⊢
    rw [List.flatMap_cons, List.length_append, List.length_map, this, List.length_cons, Nat.add_mul, Nat.one_mul]
    omega
theorem dues_mem {d : Mth.Wd} {a b : List Nat} {w m : Nat} : m ∈ dues d w (nums a) (nums b) ↔ ∃ x y, Mth.Fil a.reverse x ∧ Mth.Fil b.reverse y ∧ m = Mth.dueV d w x y := by
  unfold dues
  simp only [List.mem_flatMap, List.mem_map]
  constructor
  · rintro ⟨x, hx, y, hy, rfl⟩
    exact ⟨x, y, nums_mem.1 hx, nums_mem.1 hy, rfl⟩
  · rintro ⟨x, y, hx, hy, rfl⟩
    exact ⟨x, nums_mem.2 hx, y, nums_mem.2 hy, rfl⟩
theorem nums_ne (a : List Nat) : nums a ≠ [] := by
  obtain ⟨x, hx⟩ := Mth.fil_ex a.reverse
  exact fun z => by
    have := nums_mem.2 hx
    rw [z] at this
    cases this
theorem dues_ne (d : Mth.Wd) (w : Nat) (a b : List Nat) : dues d w (nums a) (nums b) ≠ [] := by
  obtain ⟨x, hx⟩ := Mth.fil_ex a.reverse
  obtain ⟨y, hy⟩ := Mth.fil_ex b.reverse
  intro z
  have := (dues_mem (d := d) (w := w)).2 ⟨x, y, hx, hy, rfl⟩
  rw [z] at this
  cases this
theorem ok_due (F : Df K mg "_law_due" sDue ["_law_word", "_law_a", "_law_b", "_law_width"]) (mi : mg "int" = none) (cN : Cal P w K mg base 1 "_law_numbers" spNum []) (cB : Cal P w K mg base 1 "_law_bits" (spBits K) []) : Cal P w K mg base 2 "_law_due" spDue [] := by
  refine F.cal scDue (fun vs H Q E h => by obtain ⟨d, a, b, rfl, _⟩ := h; rfl) fun f cdv A outer s H vs Q E hr h => ?_
  obtain ⟨d, a, b, rfl, hl, hz, ha, hb, q⟩ := h
  refine ⟨_, pss_cons (ps_set (i := 4) scDue.nd rfl (.inl rfl) (pe_lst pa_nil))
    (pss_cons (ps_set (i := 5) scDue.nd rfl (.inl rfl) (C8.pe_c cN hr (by decide) rfl (pa_cons (pv 2) pa_nil)))
    (pss_cons (ps_for PassesOwn.never rfl (pi_list (C8.pe_c cN hr (by decide) rfl (pa_cons (pv 1) pa_nil))) (pg_name (i := 6) scDue.nd rfl (.inr rfl))
      (pss_one (ps_if (pt_cmpR op_eq (pv 0) pe_str (nomark _))
        (pss_one (ps_expr (pe_bm PySem.F.plainAttrs_list PySem.F.slot_list_extend PySem.F.type_list_extend mt_extend (pv 4)
          (pa_cons (pe_lc (own := [("_law_other", 7)]) (g := gName 7) (tt := tYes) rfl scDue.nd (pi_list (pv 5)) (blkOk_by (own := [("_law_other", 7)]) (N := nDue) (sc := C8.fnScope sDue) (by decide +kernel))
            (fun _ _ _ _ _ => pg_name (i := 7) scDue.nd rfl (Or.inl rfl)) (fun _ _ _ _ _ => pts_nil) (fun _ _ _ _ _ => pe_op op_mod (pe_op op_add (pv 6) (pv 7)) (pe_op op_shl pe_int (pv 3)))) pa_nil))))
        (pss_one (ps_if (pt_cmpR op_eq (pv 0) pe_str (nomark _))
          (pss_one (ps_expr (pe_bm PySem.F.plainAttrs_list PySem.F.slot_list_extend PySem.F.type_list_extend mt_extend (pv 4)
            (pa_cons (pe_lc (own := [("_law_other", 7)]) (g := gName 7) (tt := tYes) rfl scDue.nd (pi_list (pv 5)) (blkOk_by (own := [("_law_other", 7)]) (N := nDue) (sc := C8.fnScope sDue) (by decide +kernel))
              (fun _ _ _ _ _ => pg_name (i := 7) scDue.nd rfl (Or.inl rfl)) (fun _ _ _ _ _ => pts_nil) (fun _ _ _ _ _ => pe_callTy cr_int1 (by rfl) mi (by decide +kernel) (pa_cons (pe_cmpR op_eq (pv 6) (pv 7) (nomark _)) pa_nil))) pa_nil))))
          (pss_one (ps_expr (pe_bm PySem.F.plainAttrs_list PySem.F.slot_list_extend PySem.F.type_list_extend mt_extend (pv 4)
            (pa_cons (pe_lc (own := [("_law_other", 7)]) (g := gName 7) (tt := tYes) rfl scDue.nd (pi_list (pv 5)) (blkOk_by (own := [("_law_other", 7)]) (N := nDue) (sc := C8.fnScope sDue) (by decide +kernel))
              (fun _ _ _ _ _ => pg_name (i := 7) scDue.nd rfl (Or.inl rfl)) (fun _ _ _ _ _ => pts_nil) (fun _ _ _ _ _ => pe_callTy cr_int1 (by rfl) mi (by decide +kernel) (pa_cons (pe_cmpR op_lt (pv 6) (pv 7) (nomark _)) pa_nil))) pa_nil)))))))))
    (pss_one (ps_ret (C8.pe_c cB hr (by decide) rfl (pa_cons (pv 4) (pa_cons (pe_ifExp (pt_cmpR op_eq (pv 0) pe_str (nomark _)) (pv 3) pe_int) pa_nil))))))), ?_⟩
  have na := nums_len hz
  have nb : (nums b).length ≤ 256 := nums_len (by omega)
  refine q_asgL (xs := []) (el_lst ea_nil (Nat.zero_le _)) fun so H1 hso e1 h1 => ?_
  refine q_asgL (xs := (nums b).map nV) (el_call (ea_cons (ev_var rfl) ea_nil) (l_num (by omega))) fun ot H2 hot e2 h2 => ?_
  refine q_forNLn (xs := (nums a).map nV) (el_call (ea_cons (ev_var rfl) ea_nil) (l_num hz))
    (fun p i σ' H' => ∃ y6, σ' = [some (wdV d), some (tx a), some (tx b), some (nV a.length), some (.ref so), some (.ref ot), y6, none] ∧ Ex H H' ∧ H' p = some (.lst ((nums a).map nV)) ∧ H' ot = some (.lst ((nums b).map nV)) ∧
      H' so = some (.lst ((dues d a.length ((nums a).take i) (nums b)).map nV)) ∧ p ≠ so ∧ ot ≠ so)
    (fun p H3 hp e3 h3 => ⟨none, rfl, (e1.trans e2).trans e3, h3, e3 ot _ h2, e3 so _ (e2 so _ h1), (ne_of_none (e2 so _ h1) hp).symm, (ne_of_none h1 hot).symm⟩)
    (fun p i σ' H' hi h => by obtain ⟨_, _, _, h2, _⟩ := h; exact .inl (.inl h2)) ?_ ?_
  · rintro p i v σ' H' hi ⟨y6, rfl, eH, hp, ho, hs, ne1, ne2⟩
    rw [List.getElem?_map] at hi
    obtain ⟨x, hx, rfl⟩ := Option.map_eq_some_iff.mp hi
    have hdl : (dues d a.length ((nums a).take i) (nums b)).length ≤ 256 * 256 := by
      rw [dues_len]
      exact Nat.mul_le_mul (by rw [List.length_take]; omega) nb
    have step : dues d a.length ((nums a).take (i + 1)) (nums b) = dues d a.length ((nums a).take i) (nums b) ++ (nums b).map fun y => Mth.dueV d a.length x y := by
      unfold dues
      rw [List.take_add_one, hx, List.flatMap_append]
      simp
    have fin : ∀ H3, Ex H' H3 → ∀ z, z = ((nums b).map fun y => nV (Mth.dueV d a.length x y)) → (∃ y6, [some (wdV d), some (tx a), some (tx b), some (nV a.length), some (.ref so), some (.ref ot), some (nV x), none] = [some (wdV d), some (tx a), some (tx b), some (nV a.length), some (.ref so), some (.ref ot), y6, none] ∧
        Ex H (upd H3 so (.lst ((dues d a.length ((nums a).take i) (nums b)).map nV ++ z))) ∧ (upd H3 so (.lst ((dues d a.length ((nums a).take i) (nums b)).map nV ++ z))) p = some (.lst ((nums a).map nV)) ∧
        (upd H3 so (.lst ((dues d a.length ((nums a).take i) (nums b)).map nV ++ z))) ot = some (.lst ((nums b).map nV)) ∧
        (upd H3 so (.lst ((dues d a.length ((nums a).take i) (nums b)).map nV ++ z))) so = some (.lst ((dues d a.length ((nums a).take (i + 1)) (nums b)).map nV)) ∧ p ≠ so ∧ ot ≠ so) := fun H3 e3 z hz2 => by
      refine ⟨_, rfl, Ex.mut (eH.trans e3) hso, by rw [upd_ne ne1]; exact e3 p _ hp, by rw [upd_ne ne2]; exact e3 ot _ ho, ?_, ne1, ne2⟩
      rw [upd_same, step, List.map_append, List.map_map, hz2]
      rfl
    have len2 : ∀ g : Nat → V, ((dues d a.length ((nums a).take i) (nums b)).map nV).length + ((nums b).map g).length ≤ 100000 := fun g => by
      rw [List.length_map, List.length_map]
      omega
    have dI : ∀ {p j : Nat}, decide (V.int ((p : Nat) : Int) = V.int ((j : Nat) : Int)) = decide (p = j) := fun {p j} => by
      by_cases h : p = j
      · subst h; simp
      · rw [decide_eq_false h, decide_eq_false fun z => h (by have := V.int.inj z; omega)]
    refine s_if (et_is (et_eq (ev_var rfl) ev_c) (wd_is_plus d)) (fun hw H3 e3 => ?_) (fun hw H3 e3 => ?_)
    · have hw := of_decide_eq_true hw
      subst hw
      refine s_ext (ys := (nums b).map fun y => nV (Mth.dueV .plus a.length x y)) (e3 so _ hs) (ev_var rfl) ?_ (len2 _) fun H4 e4 => fin H4 (e3.trans e4) _ rfl
      refine el_map (gV := nV) (ev_var rfl) (.inl (.inl (e3 ot _ ho))) (by omega) (fun _ => rfl) fun y _ H5 e5 => ?_
      refine ev_is (ev_mod (ev_add (ev_var rfl) (ev_var rfl)) (ev_op ev_c (ev_var rfl) (rv_I (by refine ⟨?_, ?_, ?_⟩ <;> omega))) ?_) ?_
      · have : (0 : Int) < 2 ^ ((a.length : Int).toNat) := Int.pow_pos (by decide)
        omega
      · show V.int (((x : Int) + (y : Int)) % (1 * 2 ^ ((a.length : Int).toNat))) = V.int (((x + y) % 2 ^ a.length : Nat) : Int)
        rw [Int.one_mul]
        simp
    refine s_if (et_is (et_eq (ev_var rfl) ev_c) (wd_is_same d)) (fun hw2 H4 e4 => ?_) (fun hw2 H4 e4 => ?_)
    · have hw2 := of_decide_eq_true hw2
      subst hw2
      refine s_ext (ys := (nums b).map fun y => nV (Mth.dueV .same a.length x y)) (e4 so _ (e3 so _ hs)) (ev_var rfl) ?_ (len2 _) fun H5 e5 => fin H5 ((e3.trans e4).trans e5) _ rfl
      refine el_map (gV := nV) (ev_var rfl) (.inl (.inl (e4 ot _ (e3 ot _ ho)))) (by omega) (fun _ => rfl) fun y _ H5 e5 => ?_
      refine ev_is (ev_intb (ev_is (ev_eq (ev_var rfl) (ev_var rfl)) (congrArg V.bl dI))) ?_
      show V.int (if decide (x = y) = true then 1 else 0) = V.int (((if x = y then 1 else 0 : Nat)) : Int)
      by_cases h : x = y <;> simp [h]
    · have hd : d = .less := by
        cases d
        · exact absurd hw (by decide)
        · exact absurd hw2 (by decide)
        · rfl
      subst hd
      refine s_ext (ys := (nums b).map fun y => nV (Mth.dueV .less a.length x y)) (e4 so _ (e3 so _ hs)) (ev_var rfl) ?_ (len2 _) fun H5 e5 => fin H5 ((e3.trans e4).trans e5) _ rfl
      refine el_map (gV := nV) (ev_var rfl) (.inl (.inl (e4 ot _ (e3 ot _ ho)))) (by omega) (fun _ => rfl) fun y _ H5 e5 => ?_
      refine ev_is (ev_intb (ev_lt (ev_var rfl) (ev_var rfl))) ?_
      show V.int (if decide ((x : Int) < (y : Int)) = true then 1 else 0) = V.int (((if x < y then 1 else 0 : Nat)) : Int)
      by_cases h : x < y
      · have h2 : (x : Int) < (y : Int) := by omega
        simp [h]
      · have h2 : ¬ (x : Int) < (y : Int) := by omega
        simp [h]
  · rintro p σ' H' ⟨y6, rfl, eH, hp, ho, hs, ne1, ne2⟩
    rw [List.length_map, List.take_length] at hs
    have hdue := Mth.due_eq d (ms := dues d a.length (nums a) (nums b)) hl ha hb fun m => dues_mem
    rw [← hdue] at q
    refine s_ret (v := tx (Mth.bitsT (dues d a.length (nums a) (nums b)) (Mth.dueW d a.length))) (ev_call (vs := [.ref so, nV (Mth.dueW d a.length)]) (ea_cons (ev_var rfl) (ea_cons (ev_if (et_is (et_eq (ev_var rfl) ev_c) (wd_is_plus d)) (fun hw => ?_) (fun hw => ?_)) ea_nil)) (v_bits (.inl (.inl hs)) (dues_ne _ _ _ _) ?_)) fun H3 e3 => q H3 (eH.trans e3)
    · rw [of_decide_eq_true hw]
      exact ev_var rfl
    · have e : Mth.dueW d a.length = 1 := by
        cases d
        · exact absurd hw (by decide)
        · rfl
        · rfl
      rw [e]
      exact ev_c
    · have : Mth.dueW d a.length ≤ max a.length 1 := by
        cases d
        · exact Nat.le_max_left _ _
        · exact Nat.le_max_right _ _
        · exact Nat.le_max_right _ _
      omega
end
end K16
/-! _law_right, walked. -/
namespace K16
open PySem PySem.Spec PyProof.Rows L2 Evl SX
section
variable {K : PySem.W.Frag} {σ : L2.St} {H H' : Hp} {ta tb te ti tl txx : TE} {D : Ends} {tu tz : TS} {t : TT}
/-- f(x, a new list) -/
theorem ev_call2N {sp : Sp} {dvs xs : List V} {E : XK} {x z : V} (hx : Ev txx σ H x) (h : EvL te σ H xs) (hs : ∀ p H1, Ex H H1 → H1 p = some (.lst xs) → SpV sp ([x, .ref p] ++ dvs) H1 z) : Ev (tCall sp dvs E (tCons txx (tCons te tNil))) σ H z := fun H1 e Q q =>
  hx H1 e _ fun H2 e2 => h H2 (e.trans e2) _ fun p H3 _ e3 hp => hs p H3 ((e.trans e2).trans e3) hp H3 (Ex.refl H3) Q (fun H4 e4 => q H4 ((e2.trans e3).trans e4)) E
/-- [s for s in text if ..] -/
theorem el_filS {a : List Nat} {j : Nat} {vs : List Nat} (h : Ev tl σ H (tx a)) (hz : a.length ≤ 40000) (hw : ∀ x, wipe ((wipe σ vs).set j (some x)) vs = wipe σ vs) (f : Nat → Bool)
    (ht : ∀ c H1, Ex H H1 → EvT t ((wipe σ vs).set j (some (tx [c]))) H1 (f c)) (he : ∀ c H1, Ex H H1 → Ev te ((wipe σ vs).set j (some (tx [c]))) H1 (tx [c])) :
    EvL (tLc (iStr tl) (gName j) t te vs) σ H ((a.filter f).map fun c => tx [c]) := fun H0 e Q q => h H0 e _ fun H1 e1 => ⟨⟨a.toArray⟩, rfl, fun Dl hD => by
  refine lc_it walk_str (fun i H' => Ex H1 H' ∧ H' Dl = some (.lst (((a.take i).filter f).map fun c => tx [c]))) ⟨Ex.new hD, upd_same⟩ (fun _ _ _ _ => trivial) (fun i x H' H2 hi p y => ?_) (fun H' p => ?_)
  · obtain ⟨rfl, c, hc, rfl⟩ := y
    have hc := tx_get hc
    have st : (a.take (i + 1)).filter f = (a.take i).filter f ++ [c].filter f := by
      rw [List.take_add_one, hc, List.filter_append]
      rfl
    refine ⟨hw _, ?_⟩
    refine ht c H1 (e.trans e1) _ p.1 _ fun H3 e3 => ?_
    have hD3 := e3 Dl _ p.2
    cases hf : f c with
    | true =>
      show te _ _ _
      refine he c H1 (e.trans e1) _ (p.1.trans e3) _ fun H4 e4 => ⟨_, e4 Dl _ hD3, sz_lt ?_, Ex.mut ((p.1.trans e3).trans e4) hD, ?_⟩
      · rw [List.length_map]
        have h1 := List.length_filter_le f (a.take i)
        have h2 : (a.take i).length ≤ a.length := by rw [List.length_take]; omega
        omega
      · rw [upd_same, st, List.map_append]
        simp [hf]
    | false =>
      show _ ∧ _
      refine ⟨p.1.trans e3, ?_⟩
      rw [hD3, st]
      simp [hf]
  · have p2 := p.2
    rw [show (⟨a.toArray⟩ : Str).cps.size = a.length by simp, List.take_length] at p2
    exact q Dl H' (fresh_back e1 hD) (e1.trans p.1) p2⟩
end
def wordsV : List V := [.str "not", .str "and", .str "or", .str "xor", .str "plus", .str "same", .str "less", .str "any", .str "all", .str "pick", .str "join", .str "part"]
theorem wd_in (d : Mth.Wd) : inV (wdV d) wordsV = true := by
  cases d <;> decide +kernel
theorem words_flat : wordsV.all flatV = true := rfl
theorem eqv_two {x y : Str} : PyData.eqv (.list [.str x, .str y]) (.list [.str x, .str y]) = true := by simp [PyData.eqv, PyData.eqvAll]
section
variable {P : Program} {w : World} {K : PySem.W.Frag} {mg : Str → Option Value} {base : Heap}
abbrev sRight : Stmt := top 33
abbrev nRight : List Str := ["_law_word", "_law_a", "_law_b", "_law_width", "_law_handed", "_law_found", "_law_few", "_law_sign_here"]
theorem scRight : FnScope nRight ["_law_word", "_law_a", "_law_b", "_law_width"] (C8.fnScope sRight) := C8.fnScope_by (by decide +kernel)
def spRight : Sp := fun vs H Q _ => ∃ (d : Mth.Wd) (a b : List Nat), vs = [wdV d, tx a, tx b, nV a.length] ∧ a.length = b.length ∧ a.length ≤ 8 ∧ (∀ c ∈ a, Mth.C4 c) ∧ (∀ c ∈ b, Mth.C4 c) ∧ RetV (.bl true) H Q
theorem v_right {d : Mth.Wd} {a b : List Nat} {n : Nat} {H : Hp} (hn : n = a.length) (h : a.length = b.length) (h2 : a.length ≤ 8) (ha : ∀ c ∈ a, Mth.C4 c) (hb : ∀ c ∈ b, Mth.C4 c) : SpV spRight [wdV d, tx a, tx b, nV n] H (.bl true) := fun _ _ _ q _ =>
  ⟨d, a, b, by rw [hn], h, h2, ha, hb, q⟩
theorem ok_right {fw : Addr} (F : Df K mg "_law_right" sRight ["_law_word", "_law_a", "_law_b", "_law_width"]) (hW : mg "WORDS" = some (.ref fw)) (hT : ∀ H, SqT K H fw wordsV) (ml : mg "len" = none)
    (cO : Cal P w K mg base 5 "operated" (spOp K) [.int 0, .int 0]) (cB : Cal P w K mg base 3 "_law_by_bits" spByb []) (cD : Cal P w K mg base 2 "_law_due" spDue []) : Cal P w K mg base 6 "_law_right" spRight [] := by
  refine F.cal scRight (fun vs H Q E h => by obtain ⟨d, a, b, rfl, _⟩ := h; rfl) fun f cdv A outer s H vs Q E hr h => ?_
  obtain ⟨d, a, b, rfl, hl, hz, ha, hb, q⟩ := h
  refine ⟨_, pss_cons (ps_set (i := 4) scRight.nd rfl (.inl rfl) (pe_lst (pa_cons (pv 1) (pa_cons (pv 2) pa_nil))))
    (pss_cons (ps_set (i := 5) scRight.nd rfl (.inl rfl) (C8.pe_c cO hr (by decide) rfl (pa_cons (pv 0) (pa_cons (pv 4) pa_nil))))
    (pss_cons (ps_if (PW.pt (pw_or (pt_cmpR op_notIn_seq (pv 0) (pe_glob (v := .ref fw) rfl hW rfl) (by rfl)) (pw_or (pt_cmpR (op_neD hr.units) (pv 4) (pe_lst (pa_cons (pv 1) (pa_cons (pv 2) pa_nil))) (nomark _))
        (pw_or1 (pt_cmpR op_ne (pv 5) (C8.pe_c cB hr (by decide) rfl (pa_cons (pv 0) (pa_cons (pv 1) (pa_cons (pv 2) pa_nil)))) (nomark _))))))
      (pss_one (ps_ret pe_bl)) pss_nil)
    (pss_cons (ps_set (i := 6) scRight.nd rfl (.inl rfl) (pe_cmpR op_lt (pe_callB (r := rLenS K) call_len_seq (by rfl) ml (by decide +kernel) (pa_cons
        (pe_lc (own := [("_law_sign_here", 7)]) (g := gName 7) (tt := tTest (tOp rInS (tVar 7) (tC (.str "xz")))) rfl scRight.nd (pi_str (pe_op op_cats (pv 1) (pv 2))) (blkOk_by (own := [("_law_sign_here", 7)]) (N := nRight) (sc := C8.fnScope sRight) (by decide +kernel))
            (fun _ _ _ _ _ => pg_name (i := 7) scRight.nd rfl (Or.inl rfl)) (fun _ _ _ _ _ => pts_one (pt_cmpR op_inS (pv 7) pe_str (by rfl))) (fun _ _ _ _ _ => pv 7)) pa_nil)) pe_int (nomark _)))
    (pss_cons (ps_if (PW.pt (pw_and (pt_val (pv 6)) (pw_and1 (pt_cmpR op_ne (pv 5) (C8.pe_c cD hr (by decide) rfl (pa_cons (pv 0) (pa_cons (pv 1) (pa_cons (pv 2) (pa_cons (pv 3) pa_nil))))) (nomark _)))))
      (pss_one (ps_ret pe_bl)) pss_nil)
    (pss_one (ps_ret (pe_cmpR op_eq (C8.pe_c cO hr (by decide) rfl (pa_cons (pv 0) (pa_cons (pe_lst (pa_cons (pv 2) (pa_cons (pv 1) pa_nil))) pa_nil))) (C8.pe_c cB hr (by decide) rfl (pa_cons (pv 0) (pa_cons (pv 2) (pa_cons (pv 1) pa_nil)))) (nomark _)))))))), ?_⟩
  refine q_asgL (xs := [tx a, tx b]) (el_lst (ea_cons (ev_var rfl) (ea_cons (ev_var rfl) ea_nil)) (by show 2 ≤ 100000; decide)) fun hd H1 hhd e1 h1 => ?_
  refine q_asg (ev_call (ea_cons (ev_var rfl) (ea_cons (ev_var rfl) ea_nil)) (v_op (.inl (.inl h1)) hl (by omega) hb)) fun H2 e2 => ?_
  have h2 := e2 hd _ h1
  have eq1 := Mth.byBits_eq d hl ha hb
  have eq2 := Mth.byBits_eq d hl.symm hb ha
  refine q_when (b := false) ?_ (fun z => absurd z Bool.false_ne_true) (fun _ H3 e3 => ?_)
  · refine et_is (et_or (a := false) (et_is (et_test (ev_op (ev_var rfl) ev_c (rv_niT (hT _) rfl words_flat))) (by rw [wd_in] <;> rfl)) fun _ => et_or (a := false) (et_is (et_test (ev_opL (xs := [tx a, tx b]) (ev_var rfl) (el_lst (ea_cons (ev_var rfl) (ea_cons (ev_var rfl) ea_nil)) (by show 2 ≤ 100000; decide)) fun p2 H3 hp2 e3 =>
        rv_neD (d := .list [.str _, .str _]) (e := .list [.str _, .str _]) (fun H4 e4 => .lst (.inl (.inl ((e3.trans e4) hd _ h2))) (.cons (.str _) (.cons (.str _) .nil))) (fun H4 e4 => .lst (.inl (.inl (e4 p2 _ hp2))) (.cons (.str _) (.cons (.str _) .nil))) (sh_two (ok4 ha) (ok4 hb)) (sh_two (ok4 ha) (ok4 hb)))) (by rw [eqv_two] <;> rfl))
        fun _ => et_is (b := false) (et_ne (ev_var rfl) (ev_call (ea_cons (ev_var rfl) (ea_cons (ev_var rfl) (ea_cons (ev_var rfl) ea_nil))) (v_byb hl (by omega)))) (by rw [eq1]; simp)) rfl
  refine q_asg (ev_lt (ev_lenN (el_filS (a := a ++ b) (ev_cat (ev_var rfl) (ev_var rfl) (by omega)) (by rw [List.length_append]; omega) (fun _ => rfl) (fun c => decide (c ∈ [120, 122])) (fun c H4 e4 => by
      rw [tx_of (s := "xz") (l := [120, 122]) (by decide +kernel)]
      exact et_test (ev_in (ev_var rfl) ev_c)) (fun c H4 e4 => ev_var rfl))) ev_c) fun H4 e4 => ?_
  refine q_when (b := false) ?_ (fun z => absurd z Bool.false_ne_true) (fun _ H5 e5 => ?_)
  · refine et_is (et_and (b := false) (et_B (ev_var rfl)) fun _ => et_is (et_ne (ev_var rfl) (ev_call (ea_cons (ev_var rfl) (ea_cons (ev_var rfl) (ea_cons (ev_var rfl) (ea_cons (ev_var rfl) ea_nil)))) (v_due rfl hl hz ha hb))) (by simp)) (by simp)
  refine s_ret (ev_is (ev_eq (x := tx (Mth.opL d (b.map Mth.rd) (a.map Mth.rd))) (ev_call2N (ev_var rfl) (el_lst (ea_cons (ev_var rfl) (ea_cons (ev_var rfl) ea_nil)) (by show 2 ≤ 100000; decide)) fun p H6 e6 hp => v_op (.inl (.inl hp)) hl.symm (by omega) ha)
    (ev_call (ea_cons (ev_var rfl) (ea_cons (ev_var rfl) (ea_cons (ev_var rfl) ea_nil))) (v_byb hl.symm (by omega)))) (by rw [eq2]; simp)) fun H6 e6 => q H6 (((((e1.trans e2).trans e3).trans e4).trans e5).trans e6)
end
end K16
/-! _law_at, _law_pot, _law_take, _law_value, walked. -/
namespace K16
open PySem PySem.Spec PyProof.Rows L2 Evl SX
/-- all that H knows stays, but at S -/
def Exc (S : List Addr) (H H' : Hp) : Prop := ∀ a o, a ∉ S → H a = some o → H' a = some o
theorem Exc.of {S : List Addr} {H H' : Hp} (e : Ex H H') : Exc S H H' := fun a o _ h => e a o h
theorem Exc.trans {S : List Addr} {H H1 H2 : Hp} (a : Exc S H H1) (b : Exc S H1 H2) : Exc S H H2 := fun x o n h => b x o n (a x o n h)
theorem Exc.upd {S : List Addr} {H H' : Hp} {p : Addr} {o : HO} (e : Exc S H H') (h : p ∈ S) : Exc S H (upd H' p o) := fun a u n ha => by
  have : a ≠ p := fun z => n (z ▸ h)
  rw [upd_ne this]
  exact e a u n ha
theorem Exc.mono {S T : List Addr} {H H' : Hp} (e : Exc S H H') (h : ∀ a ∈ S, a ∈ T) : Exc T H H' := fun a o n ha => e a o (fun z => n (h a z)) ha
/-- what is new to H0 may change -/
theorem Exc.ex {S : List Addr} {H0 H H' : Hp} (e0 : Ex H0 H) (e : Exc S H H') (h : ∀ a ∈ S, H0 a = none) : Ex H0 H' := fun a o ha => e a o (fun z => by
  have := h a z
  rw [ha] at this
  cases this) (e0 a o ha)
section
variable {P : Program} {w : World} {K : PySem.W.Frag} {mg : Str → Option Value} {base : Heap}

/-! ### _law_at, _law_pot -/
abbrev sAt : Stmt := top 22
theorem scAt : FnScope ["_law_script", "_law_k"] ["_law_script", "_law_k"] (C8.fnScope sAt) := C8.fnScope_by (by decide +kernel)
def spAt (K : PySem.W.Frag) : Sp := fun vs H Q _ => ∃ (l : Addr) (ns : List Int) (k : Nat), vs = [.ref l, nV k] ∧ SqL K H l (ns.map V.int) ∧ RetV (.int (cellOf ns k)) H Q
theorem v_at {l : Addr} {ns : List Int} {k : Nat} {H : Hp} (h : SqL K H l (ns.map V.int)) : SpV (spAt K) [.ref l, nV k] H (.int (cellOf ns k)) := fun _ e _ q _ => ⟨l, ns, k, rfl, ex_l e h, q⟩
theorem ok_at (F : Df K mg "_law_at" sAt ["_law_script", "_law_k"]) (ml : mg "len" = none) : Cal P w K mg base 1 "_law_at" (spAt K) [] := by
  refine F.cal scAt (fun vs H Q E h => by obtain ⟨l, ns, k, rfl, _⟩ := h; rfl) fun f cdv A outer s H vs Q E hr h => ?_
  obtain ⟨l, ns, k, rfl, hs, q⟩ := h
  refine ⟨_, pss_one (ps_ret (pe_ifExp (pt_cmpR op_lt (pv 1) (pe_callB (r := rLenS K) call_len_seq (by rfl) ml (by decide +kernel) (pa_cons (pv 0) pa_nil)) (nomark _)) (pe_ix ix_list (pv 0) (pv 1) (fun _ _ => rfl)) pe_int)), ?_⟩
  refine s_ret (v := .int (cellOf ns k)) (ev_if (b := decide (k < ns.length)) (et_is (et_test (ev_lt (ev_var rfl) (ev_len (ev_var rfl) hs))) ?_) (fun h => ?_) (fun h => ?_)) q
  · rw [List.length_map]
    by_cases h : k < ns.length
    · rw [decide_eq_true h, decide_eq_true (by omega)]
    · rw [decide_eq_false h, decide_eq_false (by omega)]
  · exact ev_ixL (ev_var rfl) (ev_var rfl) hs (atI_cell (of_decide_eq_true h))
  · rw [cell_out (of_decide_eq_false h)]
    exact ev_c
abbrev sPot : Stmt := top 23
abbrev nPot : List Str := ["_law_script", "_law_k", "_law_cell"]
theorem scPot : FnScope nPot ["_law_script", "_law_k"] (C8.fnScope sPot) := C8.fnScope_by (by decide +kernel)
def potA (c : Int) : Int := if c - 10 ^ 18 > 0 then c - 10 ^ 18 else 0
def potB (c : Int) (k : Nat) : Int := (c % 2147483629 * 48271 + 7919 * (k : Int) + 101) % 2147483647
def spPot (K : PySem.W.Frag) : Sp := fun vs H Q _ => ∃ (l : Addr) (ns : List Int) (k : Nat), vs = [.ref l, nV k] ∧ k ≤ 1000 ∧ SqL K H l (ns.map V.int) ∧ RetL [.int (potA (cellOf ns k)), .int (potB (cellOf ns k) k)] H Q
theorem l_pot {l : Addr} {ns : List Int} {k : Nat} {H : Hp} (hk : k ≤ 1000) (h : SqL K H l (ns.map V.int)) : SpL (spPot K) [.ref l, nV k] H [.int (potA (cellOf ns k)), .int (potB (cellOf ns k) k)] := fun _ e _ q _ => ⟨l, ns, k, rfl, hk, ex_l e h, q⟩
theorem ok_pot (F : Df K mg "_law_pot" sPot ["_law_script", "_law_k"]) (mx : mg "max" = none) (cA : Cal P w K mg base 1 "_law_at" (spAt K) []) : Cal P w K mg base 2 "_law_pot" (spPot K) [] := by
  refine F.cal scPot (fun vs H Q E h => by obtain ⟨l, ns, k, rfl, _⟩ := h; rfl) fun f cdv A outer s H vs Q E hr h => ?_
  obtain ⟨l, ns, k, rfl, hk, hs, q⟩ := h
  refine ⟨_, pss_cons (ps_set (i := 2) scPot.nd rfl (.inl rfl) (C8.pe_c cA hr (by decide) rfl (pa_cons (pv 0) (pa_cons (pv 1) pa_nil))))
    (pss_one (ps_ret (pe_lst (pa_cons (pe_callB (r := rMax2) (call_max2 rfl) (by rfl) mx (by decide +kernel) (pa_cons pe_int (pa_cons (pe_op op_sub (pv 2) (pe_op op_pow pe_int pe_int)) pa_nil)))
      (pa_cons (pe_op op_mod (pe_op op_add (pe_op op_add (pe_op op_mul (pe_op op_mod (pv 2) pe_int) pe_int) (pe_op op_mul pe_int (pv 1))) pe_int) pe_int) pa_nil))))), ?_⟩
  refine q_asg (ev_call (ea_cons (ev_var rfl) (ea_cons (ev_var rfl) ea_nil)) (v_at hs)) fun H1 e1 => ?_
  refine s_retL (el_lst (ea_cons (ev_max2 ev_c (ev_sub (ev_var rfl) (ev_op ev_c ev_c (rv_I (by unfold CPow; decide))))) (ea_cons (ev_mod (ev_add (ev_add (ev_mul (ev_mod (ev_var rfl) ev_c (by decide)) ev_c (.inr (by decide))) (ev_mul ev_c (ev_var rfl) (.inl (by decide)))) ev_c) ev_c (by decide)) ea_nil)) (by show 2 ≤ 100000; decide)) fun p H2 hp e2 h2 => q p H2 (fresh_back e1 hp) (e1.trans e2) h2

/-! ### _law_take -/
abbrev sTake : Stmt := top 24
abbrev nTake : List Str := ["_law_pot_here", "_law_many", "_law_digit"]
theorem scTake : FnScope nTake ["_law_pot_here", "_law_many"] (C8.fnScope sTake) := C8.fnScope_by (by decide +kernel)
def rDm : List V → Hp → VK → Prop := fun xs H Q => ∃ i j, xs = [.int i, .int j] ∧ CDiv i j ∧ ∀ p, H p = none → Q (.ref p) (upd H p (.tup [.int (i / j), .int (i % j)]))
def TakeK (p : Addr) (m : Nat) (H : Hp) (Q : VK) : Prop := ∀ (d : Nat) (x' y' : Int) H', d < m → Exc [p] H H' → H' p = some (.lst [.int x', .int y']) → Q (nV d) H'
def spTake : Sp := fun vs H Q _ => ∃ (p : Addr) (m : Nat) (x y : Int), vs = [.ref p, nV m] ∧ H p = some (.lst [.int x, .int y]) ∧ 1 ≤ m ∧ m ≤ 1000 ∧ TakeK p m H Q
theorem take_go {tp tm : TE} {σ : L2.St} {H : Hp} {E : XK} {Q : VK} {p : Addr} {m : Nat} {x y : Int} (hp : Ev tp σ H (.ref p)) (hm : Ev tm σ H (nV m)) (h : H p = some (.lst [.int x, .int y])) (h1 : 1 ≤ m) (h2 : m ≤ 1000) (k : TakeK p m H Q) :
    tCall spTake [] E (tCons tp (tCons tm tNil)) σ H Q := ea_cons hp (ea_cons hm ea_nil) H (Ex.refl H) _ fun H1 e1 => ⟨p, m, x, y, rfl, e1 p _ h, h1, h2, fun d x' y' H' hd ex hp' => k d x' y' H' hd ((Exc.of e1).trans ex) hp'⟩
theorem q_cb {r : List V → Hp → VK → Prop} {ta : TA} {vs : List V} {σ : L2.St} {H : Hp} {g : TG} {tz : TS} {D : Ends} (h : EvA ta σ H vs) (k : ∀ H1, Ex H H1 → r vs H1 (fun v H2 => g v σ H2 (tz D))) : tSeq (tAsg (tCB r ta) g) tz D σ H := h H (Ex.refl H) _ k
theorem mod_nat {i : Int} {m : Nat} (h : 1 ≤ m) : ∃ d : Nat, i % (m : Int) = (d : Int) ∧ d < m := by
  have h1 : 0 ≤ i % (m : Int) := Int.emod_nonneg _ (by omega)
  have h2 : i % (m : Int) < (m : Int) := Int.emod_lt_of_pos _ (by omega)
  exact ⟨(i % (m : Int)).toNat, by omega, by omega⟩
theorem ok_take (F : Df K mg "_law_take" sTake ["_law_pot_here", "_law_many"]) (md : mg "divmod" = none) : Cal P w K mg base 1 "_law_take" spTake [] := by
  refine F.cal scTake (fun vs H Q E h => by obtain ⟨p, m, x, y, rfl, _⟩ := h; rfl) fun f cdv A outer s H vs Q E hr h => ?_
  obtain ⟨p, m, x, y, rfl, hp, hm1, hm2, q⟩ := h
  refine ⟨_, pss_cons (ps_if (pt_cmpR op_gt (pe_ix ix_list (pv 0) pe_int (fun _ _ => rfl)) pe_int (nomark _))
      (pss_cons (ps_asg (pe_callB (r := rDm) call_divmod (by rfl) md (by decide +kernel) (pa_cons (pe_ix ix_list (pv 0) pe_int (fun _ _ => rfl)) (pa_cons (pv 1) pa_nil)))
          (pg_tup rfl (pgs_cons (pg_sub (pv 0) pe_int set_list) (pgs_cons (pg_name (i := 2) scTake.nd rfl (.inl rfl)) pgs_nil))))
        (pss_one (ps_ret (pv 2)))) pss_nil)
    (pss_cons (ps_asg (pe_op op_mod (pe_op op_add (pe_op op_mul (pe_ix ix_list (pv 0) pe_int (fun _ _ => rfl)) pe_int) pe_int) pe_int) (pg_sub (pv 0) pe_int set_list))
    (pss_one (ps_ret (pe_op op_mod (pe_op op_fdiv (pe_op op_mod (pe_op op_mul (pe_ix ix_list (pv 0) pe_int (fun _ _ => rfl)) (pe_ix ix_list (pv 0) pe_int (fun _ _ => rfl))) pe_int) pe_int) (pv 1))))), ?_⟩
  refine q_when (et_test (ev_gt (ev_ixL (ev_var rfl) ev_c (.inl (.inl hp)) (atI_nat (j := 0) rfl)) ev_c)) (fun hb H1 e1 => ?_) (fun hb H1 e1 => ?_)
  · have hp1 := e1 p _ hp
    refine q_cb (ea_cons (ev_ixL (ev_var rfl) ev_c (.inl (.inl hp1)) (atI_nat (j := 0) rfl)) (ea_cons (ev_var rfl) ea_nil)) fun H2 e2 => ⟨x, m, rfl, ⟨by omega, by omega⟩, fun t ht => ?_⟩
    have e3 : Ex H1 (upd H2 t (.tup [.int (x / m), .int (x % m)])) := e2.trans (Ex.new ht)
    have hp3 := e3 p _ hp1
    obtain ⟨d, hd, hdm⟩ := mod_nat (i := x) hm1
    refine ⟨t, [.int (x / m), .int (x % m)], rfl, .inl (.inl upd_same), rfl, .int (x / m), [.int (x % m)], rfl, .ref p, rfl, ⟨p, [.int x, .int y], 0, 0, rfl, rfl, hp3, ixN_nat (n := 2) (j := 0) (by decide), ?_⟩⟩
    refine ⟨.int (x % m), [], rfl, rfl, ?_⟩
    refine s_ret (v := nV d) (by rw [show nV d = V.int (x % m) by rw [hd]]; exact ev_var rfl) fun H4 e4 => q d (x / m) y H4 hdm ?_ (e4 p _ upd_same)
    exact ((((Exc.of e1).trans (Exc.of e3)).upd (by simp))).trans (Exc.of e4)
  · have hp1 := e1 p _ hp
    refine q_setL (j := 1) (xs := [.int x, .int y]) hp1 (ev_mod (ev_add (ev_mul (ev_ixL (ev_var rfl) ev_c (.inl (.inl hp1)) (atI_nat (j := 1) rfl)) ev_c (.inr (by decide))) ev_c) ev_c (by decide)) (ev_var rfl) ev_c (by show 1 < 2; decide) fun H2 e2 => ?_
    have hp2 : (upd H2 p (.lst (([.int x, .int y] : List V).set 1 (.int ((y * 39373 + 20011) % 2147483629))))) p = some (.lst [.int x, .int ((y * 39373 + 20011) % 2147483629)]) := upd_same
    have hy1 : 0 ≤ (y * 39373 + 20011) % 2147483629 := Int.emod_nonneg _ (by decide)
    have hy2 : (y * 39373 + 20011) % 2147483629 < 2147483629 := Int.emod_lt_of_pos _ (by decide)
    generalize (y * 39373 + 20011) % 2147483629 = z at *
    obtain ⟨d, hd, hdm⟩ := mod_nat (i := z * z % 2147483563 / 11) hm1
    have ez : Ev (tOp (rIxL K) (tVar 0) (tC (.int 1))) [some (.ref p), some (nV m), none] (upd H2 p (.lst (([.int x, .int y] : List V).set 1 (.int z)))) (.int z) := ev_ixL (ev_var rfl) ev_c (.inl (.inl hp2)) (atI_nat (j := 1) rfl)
    refine s_ret (v := nV d) (ev_is (ev_mod (ev_fdiv (ev_mod (ev_mul ez ez (.inl (by omega))) ev_c (by decide)) ev_c (by unfold CDiv; decide)) (ev_var rfl) (by omega)) (by rw [hd])) fun H4 e4 => q d x z H4 hdm ?_ (e4 p _ hp2)
    exact (((Exc.of (e1.trans e2)).upd (by simp))).trans (Exc.of e4)

/-! ### _law_value -/
abbrev sVal : Stmt := top 25
abbrev nVal : List Str := ["_law_pot_here", "_law_width", "_law_room", "_law_found", "_law_k", "_law_sign_here"]
theorem scVal : FnScope nVal ["_law_pot_here", "_law_width", "_law_room"] (C8.fnScope sVal) := C8.fnScope_by (by decide +kernel)
def ValK (p r : Addr) (n : Nat) (H : Hp) (Q : VK) : Prop := ∀ (a : List Nat) (x y z : Int) H', a.length = n → (∀ c ∈ a, Mth.C4 c) → Exc [p, r] H H' → H' p = some (.lst [.int x, .int y]) → H' r = some (.lst [.int z]) → Q (tx a) H'
def spVal : Sp := fun vs H Q _ => ∃ (p r : Addr) (n : Nat) (x y z : Int), vs = [.ref p, nV n, .ref r] ∧ H p = some (.lst [.int x, .int y]) ∧ H r = some (.lst [.int z]) ∧ p ≠ r ∧ n ≤ 1000 ∧ ValK p r n H Q
theorem val_go {tp tn tr : TE} {σ : L2.St} {H : Hp} {E : XK} {Q : VK} {p r : Addr} {n : Nat} {x y z : Int} (h : EvA (tCons tp (tCons tn (tCons tr tNil))) σ H [.ref p, nV n, .ref r]) (hp : H p = some (.lst [.int x, .int y])) (hr : H r = some (.lst [.int z])) (hne : p ≠ r) (hn : n ≤ 1000) (k : ValK p r n H Q) :
    tCall spVal [] E (tCons tp (tCons tn (tCons tr tNil))) σ H Q := h H (Ex.refl H) _ fun H1 e1 => ⟨p, r, n, x, y, z, rfl, e1 p _ hp, e1 r _ hr, hne, hn, fun a x' y' z' H' h1 h2 ex hp' hr' => k a x' y' z' H' h1 h2 ((Exc.of e1).trans ex) hp' hr'⟩
def sgns : List Nat := [48, 49, 120, 122, 48, 49, 120, 122]
theorem sgn_at {s : Str} {l : List Nat} {d : Nat} (h : s = ⟨l.toArray⟩) (hd : d < l.length) (hl : l.length ≤ 1000) {H : Hp} {Q : VK} (k : Q (tx [l[d]]) H) : rIxS (.str s) (nV d) H Q := by
  subst h
  exact ⟨_, d, l[d], rfl, rfl, by rw [tx_len]; exact sz_of (by omega), atI_nat (by simp [hd]), k⟩
theorem sgn4 : ∀ c ∈ sgns, Mth.C4 c := by
  intro c hc
  simp [sgns] at hc
  rcases hc with e | e | e | e | e | e | e | e <;> subst e <;> simp [Mth.C4]
theorem two4 : ∀ c ∈ [48, 49], Mth.C4 c := by
  intro c hc
  simp at hc
  rcases hc with e | e <;> subst e <;> simp [Mth.C4]
theorem s_takeS {tp tm : TE} {σ : L2.St} {H : Hp} {E : XK} {D : Ends} {p : Addr} {m j : Nat} {x y : Int} {s : Str} {l : List Nat} (hp : Ev tp σ H (.ref p)) (hm : Ev tm σ H (nV m)) (h : H p = some (.lst [.int x, .int y])) (hs : s = ⟨l.toArray⟩) (hl : l.length = m) 
    (k : ∀ (d : Nat) (x' y' : Int) H' (hd : d < l.length), Exc [p] H H' → H' p = some (.lst [.int x', .int y']) → D.nx (σ.set j (some (tx [l[d]]))) H') (h1 : 1 ≤ m := by decide) (h2 : m ≤ 1000 := by decide) :
    tAsg (tOp rIxS (tC (.str s)) (tCall spTake [] E (tCons tp (tCons tm tNil)))) (gName j) D σ H := by
  show tCall spTake [] E (tCons tp (tCons tm tNil)) σ H _
  exact take_go hp hm h h1 h2 fun d x' y' H' hd ex hp' => sgn_at hs (by omega) (by omega) (k d x' y' H' (by omega) ex hp')
theorem q_takeS {tp tm : TE} {σ : L2.St} {H : Hp} {E : XK} {D : Ends} {tz : TS} {p : Addr} {m j : Nat} {x y : Int} {s : Str} {l : List Nat} (hp : Ev tp σ H (.ref p)) (hm : Ev tm σ H (nV m)) (h : H p = some (.lst [.int x, .int y])) (hs : s = ⟨l.toArray⟩) (hl : l.length = m) 
    (k : ∀ (d : Nat) (x' y' : Int) H' (hd : d < l.length), Exc [p] H H' → H' p = some (.lst [.int x', .int y']) → tz D (σ.set j (some (tx [l[d]]))) H') (h1 : 1 ≤ m := by decide) (h2 : m ≤ 1000 := by decide) :
    tSeq (tAsg (tOp rIxS (tC (.str s)) (tCall spTake [] E (tCons tp (tCons tm tNil)))) (gName j)) tz D σ H := s_takeS (D := { D with nx := tz D }) hp hm h hs hl k h1 h2
theorem ok_val (F : Df K mg "_law_value" sVal ["_law_pot_here", "_law_width", "_law_room"]) (mi : mg "int" = none) (mr : mg "range" = none) (cT : Cal P w K mg base 1 "_law_take" spTake []) : Cal P w K mg base 2 "_law_value" spVal [] := by
  refine F.cal scVal (fun vs H Q E h => by obtain ⟨p, r, n, x, y, z, rfl, _⟩ := h; rfl) fun f cdv A outer s H vs Q E hr h => ?_
  obtain ⟨p, r, n, x, y, z, rfl, hp, hrm, hne, hn, q⟩ := h
  refine ⟨_, pss_cons (ps_set (i := 3) scVal.nd rfl (.inl rfl) pe_str)
    (pss_cons (ps_for PassesOwn.never rfl (pi_range1 (by rfl) mr (pa_cons (pv 1) pa_nil)) (pg_name (i := 4) scVal.nd rfl (.inl rfl))
      (pss_cons (ps_set (i := 5) scVal.nd rfl (.inl rfl) (pe_ix ix_str pe_str (C8.pe_c cT hr (by decide) rfl (pa_cons (pv 0) (pa_cons pe_int pa_nil))) (fun _ _ => rfl)))
      (pss_cut (ps_if (PW.pt (pw_and (pt_cmpR op_inS (pv 5) pe_str (by rfl)) (pw_and1 (pt_cmpR op_eq (pe_ix ix_list (pv 2) pe_int (fun _ _ => rfl)) pe_int (nomark _)))))
        (pss_one (ps_set (i := 5) scVal.nd rfl (.inl rfl) (pe_ix ix_str pe_str (C8.pe_c cT hr (by decide) rfl (pa_cons (pv 0) (pa_cons pe_int pa_nil))) (fun _ _ => rfl)))) pss_nil)
      (pss_cons (ps_asg (pe_op op_sub (pe_ix ix_list (pv 2) pe_int (fun _ _ => rfl)) (pe_callTy cr_int1 (by rfl) mi (by decide +kernel) (pa_cons (pe_cmpR op_inS (pv 5) pe_str (by rfl)) pa_nil))) (pg_sub (pv 2) pe_int set_list))
      (pss_one (ps_set (i := 3) scVal.nd rfl (.inl rfl) (pe_op op_cats (pv 3) (pv 5))))))))
    (pss_one (ps_ret (pv 3)))), ?_⟩
  refine q_asg ev_c fun H1 e1 => ?_
  refine q_forR1 (n := (n : Int)) (ea_cons (ev_var rfl) ea_nil) (by omega)
    (fun i σ' H' => ∃ y4 y5 a x y z, σ' = [some (.ref p), some (nV n), some (.ref r), some (tx a), y4, y5] ∧ a.length = i ∧ (∀ c ∈ a, Mth.C4 c) ∧ Exc [p, r] H H' ∧ H' p = some (.lst [.int x, .int y]) ∧ H' r = some (.lst [.int z]))
    (fun H2 e2 => ⟨none, none, [], x, y, z, ?_, rfl, by simp, Exc.of (e1.trans e2), (e1.trans e2) p _ hp, (e1.trans e2) r _ hrm⟩) ?_ ?_
  · have t1 : V.str "" = tx [] := tx_of (by decide +kernel)
    show [some (.ref p), some (nV n), some (.ref r), some (V.str ""), none, none] = _
    rw [t1]
  · rintro i σ' H' hi ⟨y4, y5, a, x, y, z, rfl, hlen, h4, ex, hp', hr'⟩
    have xz : V.str "xz" = tx [120, 122] := tx_of (by decide +kernel)
    rw [xz]
    refine q_takeS (s := "01xz01xz") (l := sgns) (ev_var rfl) ev_c hp' (by decide +kernel) (m := 8) rfl fun d x1 y1 H2 hd ex2 hp2 => ?_
    have hc4 : Mth.C4 (sgns[d]) := sgn4 _ (List.getElem_mem hd)
    generalize sgns[d] = c at *
    have hr2 := ex2 r _ (by simp; exact fun z => hne z.symm) hr'
    have exA : Exc [p, r] H H2 := ex.trans (ex2.mono (by simp))
    refine q_cut (M := fun σ2 H3 => ∃ (c : Nat) (x y : Int), σ2 = [some (.ref p), some (nV n), some (.ref r), some (tx a), some (.int (i : Int)), some (tx [c])] ∧ Mth.C4 c ∧ Exc [p, r] H H3 ∧ H3 p = some (.lst [.int x, .int y]) ∧ H3 r = some (.lst [.int z])) ?_ ?_
    · refine s_when (et_and (et_test (ev_in (ev_var rfl) ev_c)) fun _ => et_eq (ev_ixL (ev_var rfl) ev_c (.inl (.inl hr2)) (atI_nat (j := 0) rfl)) ev_c) (fun _ H3 e3 => ?_) (fun _ H3 e3 => ⟨c, x1, y1, rfl, hc4, exA.trans (Exc.of e3), e3 p _ hp2, e3 r _ hr2⟩)
      refine s_takeS (s := "01") (l := [48, 49]) (ev_var rfl) ev_c (e3 p _ hp2) (by decide +kernel) (m := 2) rfl fun d2 x2 y2 H4 hd2 ex4 hp4 => ⟨_, x2, y2, rfl, two4 _ (List.getElem_mem hd2), (exA.trans (Exc.of e3)).trans (ex4.mono (by simp)), hp4, ex4 r _ (by simp; exact fun z => hne z.symm) (e3 r _ hr2)⟩
    · rintro σ2 H3 ⟨c, x2, y2, rfl, hc, ex3, hp3, hr3⟩
      refine q_setL (j := 0) (xs := [.int z]) hr3 (ev_sub (ev_ixL (ev_var rfl) ev_c (.inl (.inl hr3)) (atI_nat (j := 0) rfl)) (ev_intb (ev_in (ev_var rfl) ev_c))) (ev_var rfl) ev_c (by show 0 < 1; decide) fun H4 e4 => ?_
      refine s_asg (ev_cat (ev_var rfl) (ev_var rfl) (by rw [List.length_singleton]; omega)) fun H5 e5 => ⟨some (.int (i : Int)), some (tx [c]), a ++ [c], x2, y2, _, rfl, by simp [hlen], fun c' hc' => ?_, ((ex3.trans (Exc.of e4)).upd (by simp)).trans (Exc.of e5), e5 p _ (by rw [upd_ne hne]; exact e4 p _ hp3), e5 r _ upd_same⟩
      rcases List.mem_append.1 hc' with h | h
      · exact h4 c' h
      · rw [List.mem_singleton.1 h]
        exact hc
  · rintro σ' H' ⟨y4, y5, a, x, y, z, rfl, hlen, h4, ex, hp', hr'⟩
    refine s_ret (ev_var rfl) fun H2 e2 => q a x y z H2 (by rw [hlen]; omega) h4 (ex.trans (Exc.of e2)) (e2 p _ hp') (e2 r _ hr')
end
end K16
/-! law, walked. -/
namespace K16
open PySem PySem.Spec PyProof.Rows L2 Evl SX
section
variable {K : PySem.W.Frag} {σ : L2.St} {H H' : Hp} {ta tb tc te ti tl : TE} {D : Ends} {tu tz : TS} {g : TG} {Q : VK} {r r2 : R2} {x : V}
/-! readings that change the heap, taken apart -/
theorem asg_go (k : te σ H fun x H1 => g x σ H1 (tz D)) : tSeq (tAsg te g) tz D σ H := k
theorem sasg_go (k : te σ H fun x H1 => g x σ H1 D.nx) : tAsg te g D σ H := k
theorem op_go (ha : Ev ta σ H x) (k : ∀ H1, Ex H H1 → tb σ H1 fun y H2 => r x y H2 Q) : tOp r ta tb σ H Q := ha H (Ex.refl H) _ k
theorem opL_go {xs : List V} (ha : EvL ta σ H xs) (k : ∀ p H1, H p = none → Ex H H1 → H1 p = some (.lst xs) → tb σ H1 fun y H2 => r (.ref p) y H2 Q) : tOp r ta tb σ H Q := ha H (Ex.refl H) _ k
theorem op2_go (k : tOp r2 ta tb σ H fun x H1 => tc σ H1 fun y H2 => r x y H2 Q) : tOp r (tOp r2 ta tb) tc σ H Q := k
theorem tup2_go (k : ta σ H fun x H1 => tb σ H1 fun y H2 => [x, y].length ≤ sizeLine ∧ ∀ p, H2 p = none → Q (.ref p) (upd H2 p (.tup [x, y]))) : tTup (tCons ta (tCons tb tNil)) σ H Q := k
theorem lst1_go (k : ta σ H fun x H1 => [x].length ≤ sizeLine ∧ ∀ p, H1 p = none → Q (.ref p) (upd H1 p (.lst [x]))) : tLst (tCons ta tNil) σ H Q := k
theorem opl_go (k : ta σ H fun x H1 => tb σ H1 fun y H2 => r x y H2 Q) : tOp r ta tb σ H Q := k
theorem tk_go {tp tm : TE} {E : XK} {p : Addr} {m : Nat} {x y : Int} {s : Str} {l : List Nat} (hp : Ev tp σ H (.ref p)) (hm : Ev tm σ H (nV m)) (h : H p = some (.lst [.int x, .int y])) (hs : s = ⟨l.toArray⟩) (hl : l.length = m)
    (k : ∀ (d : Nat) (x' y' : Int) H' (hd : d < l.length), Exc [p] H H' → H' p = some (.lst [.int x', .int y']) → Q (tx [l[d]]) H') (h1 : 1 ≤ m := by decide) (h2 : m ≤ 1000 := by decide) :
    tOp rIxS (tC (.str s)) (tCall spTake [] E (tCons tp (tCons tm tNil))) σ H Q := by
  show tCall spTake [] E (tCons tp (tCons tm tNil)) σ H _
  exact take_go hp hm h h1 h2 fun d x' y' H' hd ex hp' => sgn_at hs (by omega) (by omega) (k d x' y' H' (by omega) ex hp')
theorem ev_slT {tl th : TO} {a : List Nat} {lo hi : Option Int} {b : List Nat} (h : Ev te σ H (tx a)) (h1 : EvO tl σ H lo) (h2 : EvO th σ H hi) (hz : a.length ≤ 100000) (hb : Txt.slice (⟨a.toArray⟩ : Str) lo hi = ⟨b.toArray⟩) : Ev (tSl C8.rSlX te tl th) σ H (tx b) := fun H0 e Q q =>
  h H0 e _ fun H1 e1 => h1 H1 (e.trans e1) _ fun H2 e2 => h2 H2 ((e.trans e1).trans e2) _ fun H3 e3 => ⟨⟨a.toArray⟩, rfl, by rw [tx_len]; exact sz_of hz, by
    rw [hb]
    exact q H3 ((e1.trans e2).trans e3)⟩
theorem ev_allN {bs : List Bool} (h : EvL te σ H (bs.map V.bl)) : Ev (tCB (rAll K) (tCons te tNil)) σ H (.bl (bs.all id)) := fun H1 e Q q =>
  h H1 e _ fun p H2 _ e2 hp => ⟨p, bs, rfl, .inl (.inl hp), q H2 e2⟩
def rMin2 : List V → Hp → VK → Prop := fun xs H Q => ∃ i j, xs = [.int i, .int j] ∧ Q (.int (if j < i then j else i)) H
theorem ev_min2 {i j : Int} (ha : Ev ta σ H (.int i)) (hb : Ev tb σ H (.int j)) : Ev (tCB rMin2 (tCons ta (tCons tb tNil))) σ H (.int (if j < i then j else i)) := fun H1 e Q q =>
  ha H1 e _ fun H2 e2 => hb H2 (e.trans e2) _ fun H3 e3 => ⟨i, j, rfl, q H3 (e2.trans e3)⟩
end
section
variable {P : Program} {w : World} {K : PySem.W.Frag} {mg : Str → Option Value} {base : Heap}
abbrev sLaw : Stmt := top 34
abbrev nLaw : List Str := ["_law_script", "_law_k", "_law_pot_here", "_law_width", "_law_room", "_law_a", "_law_b", "_law_spot", "_law_word"]
theorem scLaw : FnScope nLaw ["_law_script"] (C8.fnScope sLaw) := C8.fnScope_by (by decide +kernel)
def spLaw (K : PySem.W.Frag) : Sp := fun vs H Q _ => ∃ (l : Addr) (ns : List Int), vs = [.ref l] ∧ SqL K H l (ns.map V.int) ∧ ns.length ≤ 63 ∧ ∀ H', Q (.bl true) H'
theorem ok_law {fa : Addr} {fd : FuncData} (F : C8.Fun K "law" "law" sLaw fa fd) (mr : mg "range" = none) (mx : mg "max" = none) (mn : mg "min" = none) (ml : mg "len" = none) (mA : mg "all" = none)
    (cP : Cal P w K mg base 2 "_law_pot" (spPot K) []) (cT : Cal P w K mg base 1 "_law_take" spTake []) (cV : Cal P w K mg base 2 "_law_value" spVal []) (cR : Cal P w K mg base 6 "_law_right" spRight []) :
    FnOk P w K mg base C8.CX0 7 fa fd ["_law_script"] (spLaw K) := by
  refine C8.fn0 F scLaw (fun vs H Q E h => by obtain ⟨l, ns, rfl, _⟩ := h; rfl) fun cdv A outer s H vs Q E hr h => ?_
  obtain ⟨l, ns, rfl, hs, hn, q⟩ := h
  refine ⟨_, pss_cons (ps_for PassesOwn.never rfl (pi_range1 (by rfl) mr (pa_cons (pe_callB (r := rMax2) (call_max2 rfl) (by rfl) mx (by decide +kernel) (pa_cons pe_int (pa_cons (pe_callB (r := rMin2) (call_min2 rfl) (by rfl) mn (by decide +kernel)
        (pa_cons pe_int (pa_cons (pe_callB (r := rLenS K) call_len_seq (by rfl) ml (by decide +kernel) (pa_cons (pv 0) pa_nil)) pa_nil))) pa_nil))) pa_nil)) (pg_name (i := 1) scLaw.nd rfl (.inl rfl))
      (pss_cons (ps_set (i := 2) scLaw.nd rfl (.inl rfl) (C8.pe_c cP hr (by decide) rfl (pa_cons (pv 0) (pa_cons (pv 1) pa_nil))))
      (pss_cons (ps_asg (pe_tup (pa_cons (pe_op op_add pe_int (C8.pe_c cT hr (by decide) rfl (pa_cons (pv 2) (pa_cons pe_int pa_nil))))
          (pa_cons (pe_lst (pa_cons (pe_ix ix_list (pe_lst (pa_cons pe_int (pa_cons pe_int pa_nil))) (C8.pe_c cT hr (by decide) rfl (pa_cons (pv 2) (pa_cons pe_int pa_nil))) (fun _ _ => rfl)) pa_nil)) pa_nil)))
          (pg_tup rfl (pgs_cons (pg_name (i := 3) scLaw.nd rfl (.inr rfl)) (pgs_cons (pg_name (i := 4) scLaw.nd rfl (.inl rfl)) pgs_nil))))
      (pss_cons (ps_set (i := 5) scLaw.nd rfl (.inr rfl) (C8.pe_c cV hr (by decide) rfl (pa_cons (pv 2) (pa_cons (pv 3) (pa_cons (pv 4) pa_nil)))))
      (pss_cons (ps_set (i := 6) scLaw.nd rfl (.inr rfl) (C8.pe_c cV hr (by decide) rfl (pa_cons (pv 2) (pa_cons (pv 3) (pa_cons (pv 4) pa_nil)))))
      (pss_cut (ps_if (pt_cmpR op_eq (C8.pe_c cT hr (by decide) rfl (pa_cons (pv 2) (pa_cons pe_int pa_nil))) pe_int (nomark _))
        (pss_cons (ps_set (i := 7) scLaw.nd rfl (.inl rfl) (C8.pe_c cT hr (by decide) rfl (pa_cons (pv 2) (pa_cons (pv 3) pa_nil))))
        (pss_one (ps_set (i := 6) scLaw.nd rfl (.inr rfl) (pe_op op_cats (pe_op op_cats (pe_slice C8.sl_txt (pv 5) po_none (po_some (pv 7))) (pe_ix ix_str pe_str (C8.pe_c cT hr (by decide) rfl (pa_cons (pv 2) (pa_cons pe_int pa_nil))) (fun _ _ => rfl)))
          (pe_slice C8.sl_txt (pv 5) (po_some (pe_op op_add (pv 7) pe_int)) po_none))))) pss_nil)
      (pss_one (ps_if (pt_not (pt_val (pe_callB (r := rAll K) (cr_all rfl) (by rfl) mA (by decide +kernel) (pa_cons
          (pe_lc (own := [("_law_word", 8)]) (g := gName 8) (tt := tYes) rfl scLaw.nd (pi_list (pe_lst (pa_cons pe_str (pa_cons pe_str (pa_cons pe_str pa_nil))))) (blkOk_by (own := [("_law_word", 8)]) (N := nLaw) (sc := C8.fnScope sLaw) (by decide +kernel))
            (fun _ _ _ _ _ => pg_name (i := 8) scLaw.nd rfl (Or.inl rfl)) (fun _ _ _ _ _ => pts_nil) (fun _ _ _ _ _ => C8.pe_c cR hr (by decide) rfl (pa_cons (pv 8) (pa_cons (pv 5) (pa_cons (pv 6) (pa_cons (pv 3) pa_nil)))))) pa_nil))))
        (pss_one (ps_ret pe_bl)) pss_nil))))))))
    (pss_one (ps_ret pe_bl)), ?_⟩
  have hN : ∃ N : Int, N = (if (if ((ns.map V.int).length : Int) < 6 then ((ns.map V.int).length : Int) else 6) > 1 then (if ((ns.map V.int).length : Int) < 6 then ((ns.map V.int).length : Int) else 6) else 1) ∧ 0 ≤ N ∧ N ≤ 6 := ⟨_, rfl, by split <;> split <;> omega, by split <;> split <;> omega⟩
  obtain ⟨N, eN, hN0, hN6⟩ := hN
  have hr1 := ev_max2 (σ := L2.start nLaw [.ref l]) (H := H) (ev_c (v := .int 1)) (ev_min2 (ev_c (v := .int 6)) (ev_len (K := K) (ta := tVar 0) (ev_var rfl) hs))
  rw [← eN] at hr1
  refine q_forR1 (n := N) (ea_cons hr1 ea_nil) (by omega) (fun i σ' H' => Ex H H' ∧ ∃ y1 y2 y3 y4 y5 y6 y7, σ' = [some (.ref l), y1, y2, y3, y4, y5, y6, y7, none]) (fun H1 e1 => ⟨e1, none, none, none, none, none, none, none, rfl⟩) ?_ ?_
  · rintro i σ' H1 hi ⟨e1, y1, y2, y3, y4, y5, y6, y7, rfl⟩
    have hs1 := ex_l e1 hs
    refine q_asgL (el_call (ea_cons (ev_var rfl) (ea_cons (ev_var rfl) ea_nil)) (l_pot (k := i) (by omega) hs1)) fun p H2 hp0 e2 hp2 => ?_
    have e02 : Ex H H2 := e1.trans e2
    have hpH : H p = none := fresh_back e1 hp0
    -- width, room = (1 + take(pot, 8), [[12, 16][take(pot, 2)]])
    refine asg_go (tup2_go (op_go ev_c fun H3 e3 => take_go (m := 8) (ev_var rfl) ev_c (e3 p _ hp2) (by decide) (by decide) fun d x1 y1' H4 hd ex4 hp4 => ⟨1, d, rfl, rfl, lst1_go (opL_go (xs := [.int 12, .int 16]) (el_lst (ea_cons ev_c (ea_cons ev_c ea_nil)) (by show 2 ≤ 100000; decide)) fun u H5 hu e5 h5 =>
      take_go (m := 2) (ev_var rfl) ev_c (e5 p _ hp4) (by decide) (by decide) fun d2 x2 y2' H6 hd2 ex6 hp6 => ?_)⟩))
    have e04 : Ex H H4 := (ex4.ex (e02.trans e3) (by simp; exact hpH))
    have e05 : Ex H H5 := e04.trans e5
    have e06 : Ex H H6 := ex6.ex e05 (by simp; exact hpH)
    have hup : u ≠ p := fun z => by
      rw [z] at hu
      rw [hu] at hp4
      cases hp4
    have hu6 : H6 u = some (.lst [.int 12, .int 16]) := ex6 u _ (by simp; exact hup) h5
    obtain ⟨z, hz⟩ : ∃ z : Int, atI ([.int 12, .int 16] : List V) (d2 : Int) = some (.int z) := by
      match d2, hd2 with
      | 0, _ => exact ⟨12, atI_nat (j := 0) rfl⟩
      | 1, _ => exact ⟨16, atI_nat (j := 1) rfl⟩
    refine ⟨u, [.int 12, .int 16], d2, .int z, rfl, rfl, .inl (.inl hu6), hz, by show 1 ≤ sizeLine; decide, fun rm hrm => ⟨by show 2 ≤ sizeLine; decide, fun t ht => ?_⟩⟩
    refine ⟨t, [.int (1 + (d : Int)), .ref rm], rfl, .inl (.inl upd_same), rfl, .int (1 + (d : Int)), [.ref rm], rfl, .ref rm, [], rfl, rfl, ?_⟩
    have e7 : Ex H6 (upd (upd H6 rm (.lst [.int z])) t (.tup [.int (1 + (d : Int)), .ref rm])) := (Ex.new hrm).trans (Ex.new ht)
    have hrm7 : (upd (upd H6 rm (.lst [.int z])) t (.tup [.int (1 + (d : Int)), .ref rm])) rm = some (.lst [.int z]) := by
      rw [upd_ne (ne_of_none upd_same ht)]
      exact upd_same
    generalize upd (upd H6 rm (.lst [.int z])) t (.tup [.int (1 + (d : Int)), .ref rm]) = H7 at *
    have e07 := e06.trans e7
    have hp7 := e7 p _ hp6
    have hrH : H rm = none := fresh_back e06 hrm
    have hne : p ≠ rm := fun z => by
      rw [z] at hp6
      rw [hrm] at hp6
      cases hp6
    have ew : (1 : Int) + (d : Int) = ((1 + d : Nat) : Int) := by omega
    rw [ew]
    have hw1 : 1 ≤ 1 + d := by omega
    have hw8 : 1 + d ≤ 8 := by omega
    generalize 1 + d = n at *
    show tSeq _ _ _ [some (.ref l), some (nV i), some (.ref p), some (nV n), some (.ref rm), y5, y6, y7, none] H7
    -- a, b
    refine asg_go (val_go (ea_cons (ev_var rfl) (ea_cons (ev_var rfl) (ea_cons (ev_var rfl) ea_nil))) hp7 hrm7 hne (by omega) fun a x3 y3' z3 H8 hal ha4 ex8 hp8 hr8 => ?_)
    have e08 : Ex H H8 := ex8.ex e07 (by simp; exact ⟨hpH, hrH⟩)
    refine asg_go (val_go (ea_cons (ev_var rfl) (ea_cons (ev_var rfl) (ea_cons (ev_var rfl) ea_nil))) hp8 hr8 hne (by omega) fun b x4 y4' z4 H9 hbl hb4 ex9 hp9 hr9 => ?_)
    have e09 : Ex H H9 := ex9.ex e08 (by simp; exact ⟨hpH, hrH⟩)
    show tCut _ _ _ [some (.ref l), some (nV i), some (.ref p), some (nV n), some (.ref rm), some (tx a), some (tx b), y7, none] H9
    refine q_cut (M := fun σ' H' => ∃ b y7, σ' = [some (.ref l), some (nV i), some (.ref p), some (nV n), some (.ref rm), some (tx a), some (tx b), y7, none] ∧ Ex H H' ∧ b.length = n ∧ ∀ c ∈ b, Mth.C4 c) ?_ ?_
    · show tCall spTake [] C8.E0 _ _ H9 _
      refine take_go (m := 3) (ev_var rfl) ev_c hp9 (by decide) (by decide) fun d3 x5 y5' H10 hd3 ex10 hp10 => ⟨rfl, decide (nV d3 = V.int 0), rfl, ?_⟩
      have e10 : Ex H H10 := ex10.ex e09 (by simp; exact hpH)
      cases decide (nV d3 = V.int 0) with
      | false => exact ⟨b, y7, rfl, e10, hbl, hb4⟩
      | true =>
        refine asg_go (take_go (m := n) (ev_var rfl) (ev_var rfl) hp10 hw1 (by omega) fun sp x6 y6' H11 hsp ex11 hp11 => ?_)
        have e11 : Ex H H11 := ex11.ex e10 (by simp; exact hpH)
        show tAsg _ _ _ [some (.ref l), some (nV i), some (.ref p), some (nV n), some (.ref rm), some (tx a), some (tx b), some (nV sp), none] H11
        refine sasg_go (op2_go (op_go (ev_slT (b := a.take sp) (ev_var rfl) eo_none (eo_some (ev_var rfl)) (by omega) (SX.slice_to (by omega))) fun H12 e12 => tk_go (m := 2) (l := [48, 49]) (ev_var rfl) ev_c (e12 p _ hp11) (by decide +kernel) rfl fun d4 x7 y7' H13 hd4 ex13 hp13 => ?_))
        have e13 : Ex H H13 := ex13.ex (e11.trans e12) (by simp; exact hpH)
        have hc4 : Mth.C4 ([48, 49][d4]) := two4 _ (List.getElem_mem hd4)
        generalize [48, 49][d4] = c at *
        refine rv_cat (by rw [List.length_take, List.length_singleton]; omega) H13 (Ex.refl _) _ fun H14 e14 => ?_
        refine ev_slT (b := a.drop (sp + 1)) (ev_var rfl) (eo_some (ev_add (ev_var rfl) ev_c)) eo_none (by omega) (SX.slice_from (by omega)) H14 (Ex.refl _) _ fun H15 e15 => ?_
        refine rv_cat (by rw [List.length_append, List.length_take, List.length_drop, List.length_singleton]; omega) H15 (Ex.refl _) _ fun H16 e16 => ?_
        refine ⟨a.take sp ++ [c] ++ a.drop (sp + 1), some (nV sp), rfl, ((e13.trans e14).trans e15).trans e16, ?_, fun c' hc' => ?_⟩
        · rw [List.length_append, List.length_append, List.length_take, List.length_drop, List.length_singleton]
          omega
        · rcases List.mem_append.1 hc' with h | h
          · rcases List.mem_append.1 h with h | h
            · exact ha4 c' (List.mem_of_mem_take h)
            · rw [List.mem_singleton.1 h]
              exact hc4
          · exact ha4 c' (List.mem_of_mem_drop h)
    · rintro σ' H10 ⟨b, y7, rfl, e10, hbl, hb4⟩
      refine s_when (b := false) (et_is (et_not (et_B (ev_allN (bs := [true, true, true]) (el_mapN (ys := [Mth.Wd.plus, Mth.Wd.same, Mth.Wd.less]) (gV := wdV) (hV := fun _ => V.bl true) (el_lst (ea_cons ev_c (ea_cons ev_c (ea_cons ev_c ea_nil))) (by show 3 ≤ 100000; decide)) (by show 3 ≤ 40000; decide) (fun _ => rfl)
        fun d _ H11 e11 => ev_call (ea_cons (ev_var rfl) (ea_cons (ev_var rfl) (ea_cons (ev_var rfl) (ea_cons (ev_var rfl) ea_nil)))) (v_right hal.symm (by omega) (by omega) ha4 hb4))))) rfl) (fun z => absurd z Bool.false_ne_true) (fun _ H11 e11 => ⟨e10.trans e11, _, _, _, _, _, _, _, rfl⟩)
  · rintro σ' H1 ⟨e1, y1, y2, y3, y4, y5, y6, y7, rfl⟩
    exact s_ret ev_c fun H2 e2 => q H2
end
end K16
/-! The end: what the top has written, the promises joined, the law's head. -/
namespace K16
open PySem PySem.Spec PyProof.Rows L2 Evl SX
section
variable {P : Program} {w : World} {K : PySem.W.Frag} {mg : Str → Option Value} {base : Heap}
/-- what the top has written of a def without defaults -/
theorem df_mk {h : Heap} {x : Str} {st : Stmt} {ps : List Str} {f : Addr} {oc : Value} {od an : Option Addr} {osl : Array (Option Value)} {kV doc pm cdv ct : Value} (X : K.In h) (G : h.Ns mainGlobals mg)
    (a : PySem.W.nsIn K mainGlobals x = some (some (.ref f))) (l : K.lookup f = some ⟨oc, od, .func (PySem.W.fnOf x x (C8.fnArgs st) (C8.fnBody st) (C8.fnScope st) .none kV doc pm an cdv ct), osl⟩) (c : PySem.W.codeIn K cdv x = true) (k : PySem.W.keepIn K (.ref f) = true)
    (b : ∀ us : List Value, us.length = ps.length → bindArgs (PySem.W.fnOf x x (C8.fnArgs st) (C8.fnBody st) (C8.fnScope st) .none kV doc pm an cdv ct) ⟨us, []⟩ = pure (ps.zip us)) : Df K mg x st ps :=
  ⟨f, _, ⟨⟨⟨oc, od, .none, kV, doc, pm, an, cdv, ct, osl, rfl, l, c⟩⟩, PySem.W.mg_of X G a, k⟩, .all b⟩
theorem op_mk {h : Heap} {f D : Addr} {oc : Value} {od an : Option Addr} {osl : Array (Option Value)} {doc pm cdv ct u v : Value} (X : K.In h) (G : h.Ns mainGlobals mg)
    (a : PySem.W.nsIn K mainGlobals "operated" = some (some (.ref f))) (l : K.lookup f = some ⟨oc, od, .func (PySem.W.fnOf "operated" "operated" (C8.fnArgs sOp) (C8.fnBody sOp) (C8.fnScope sOp) .none (.ref D) doc pm an cdv ct), osl⟩) (c : PySem.W.codeIn K cdv "operated" = true) (k : PySem.W.keepIn K (.ref f) = true)
    (d1 : PySem.W.nsIn K D "high" = some (some u)) (d2 : PySem.W.nsIn K D "low" = some (some v)) (r1 : RelV (.int 0) u) (r2 : RelV (.int 0) v) : DfOp K mg := by
  have F : FunD K "operated" "operated" (C8.fnArgs sOp) (C8.fnBody sOp) (C8.fnScope sOp) [] [("high", .int 0), ("low", .int 0)] f (PySem.W.fnOf "operated" "operated" (C8.fnArgs sOp) (C8.fnBody sOp) (C8.fnScope sOp) .none (.ref D) doc pm an cdv ct) :=
    ⟨⟨oc, od, .none, .ref D, doc, pm, an, cdv, ct, osl, rfl, l, c, .inl ⟨rfl, rfl⟩, .inr ⟨D, rfl, fun q hq => by
      simp at hq
      rcases hq with e | e <;> subst e
      · exact ⟨u, d1, r1⟩
      · exact ⟨v, d2, r2⟩⟩⟩, k⟩
  obtain ⟨ds, rv, b⟩ := F.binds0 (ps := ["word", "values", "high", "low"]) 2 (by simp) rfl fun D doc pm an cdv ct us ks h1 h2 => match us, ks, h1, h2 with
    | [_, _], [_, _], _, _ => ⟨_, _, _, _, _, _, rfl, rfl, ⟨_, _, _, _, _, _, rfl, rfl, rfl⟩⟩
  exact ⟨f, _, ds, ⟨⟨⟨oc, od, .none, .ref D, doc, pm, an, cdv, ct, osl, rfl, l, c⟩⟩, PySem.W.mg_of X G a, k⟩, b, rv⟩
theorem words_mk {fw : Addr} {od : Option Addr} {its : Array Value} {n : Nat} {osl : Array (Option Value)} (l : K.lookup fw = some ⟨.type "tuple", od, .seq its n, osl⟩) (r : Vals wordsV its.toList) (H : Hp) : SqT K H fw wordsV :=
  .inr ⟨_, its, n, l, rfl, rfl, by
    have := r.length
    have e : its.size = 12 := by rw [← Array.length_toList, ← this] <;> rfl
    rw [e]
    decide, r⟩
theorem with_df {goal : Prop} {h : Heap} {x : Str} {st : Stmt} {ps : List Str} {f : Addr} {oc : Value} {od an : Option Addr} {osl : Array (Option Value)} {kV doc pm cdv ct : Value} (X : K.In h) (G : h.Ns mainGlobals mg)
    (a : PySem.W.nsIn K mainGlobals x = some (some (.ref f))) (l : K.lookup f = some ⟨oc, od, .func (PySem.W.fnOf x x (C8.fnArgs st) (C8.fnBody st) (C8.fnScope st) .none kV doc pm an cdv ct), osl⟩) (c : PySem.W.codeIn K cdv x = true) (k : PySem.W.keepIn K (.ref f) = true)
    (b : ∀ us : List Value, us.length = ps.length → bindArgs (PySem.W.fnOf x x (C8.fnArgs st) (C8.fnBody st) (C8.fnScope st) .none kV doc pm an cdv ct) ⟨us, []⟩ = pure (ps.zip us)) (g : Df K mg x st ps → goal) : goal := g (df_mk X G a l c k b)
theorem with_op {goal : Prop} {h : Heap} {f D : Addr} {oc : Value} {od an : Option Addr} {osl : Array (Option Value)} {doc pm cdv ct u v : Value} (X : K.In h) (G : h.Ns mainGlobals mg)
    (a : PySem.W.nsIn K mainGlobals "operated" = some (some (.ref f))) (l : K.lookup f = some ⟨oc, od, .func (PySem.W.fnOf "operated" "operated" (C8.fnArgs sOp) (C8.fnBody sOp) (C8.fnScope sOp) .none (.ref D) doc pm an cdv ct), osl⟩) (c : PySem.W.codeIn K cdv "operated" = true) (k : PySem.W.keepIn K (.ref f) = true)
    (d1 : PySem.W.nsIn K D "high" = some (some u)) (d2 : PySem.W.nsIn K D "low" = some (some v)) (r1 : RelV (.int 0) u) (r2 : RelV (.int 0) v) (g : DfOp K mg → goal) : goal := g (op_mk X G a l c k d1 d2 r1 r2)
theorem with_words {goal : Prop} {h : Heap} {fw : Addr} {od : Option Addr} {its : Array Value} {n : Nat} {osl : Array (Option Value)} (X : K.In h) (G : h.Ns mainGlobals mg) (a : PySem.W.nsIn K mainGlobals "WORDS" = some (some (.ref fw))) (l : K.lookup fw = some ⟨.type "tuple", od, .seq its n, osl⟩) (r : Vals wordsV its.toList)
    (g : mg "WORDS" = some (.ref fw) → (∀ H, SqT K H fw wordsV) → goal) : goal := g (PySem.W.mg_of X G a) (words_mk l r)
theorem with_xor {goal : Prop} {h : Heap} {fx : Addr} (X : K.In h) (G : h.Ns mainGlobals mg) (a : PySem.W.nsIn K mainGlobals "xor_bit" = some (some (.ref fx))) (g : mg "xor_bit" = some (.ref fx) → goal) : goal := g (PySem.W.mg_of X G a)
theorem with_none {goal : Prop} {h : Heap} {x : Str} (X : K.In h) (G : h.Ns mainGlobals mg) (a : PySem.W.nsIn K mainGlobals x = some none) (g : mg x = none → goal) : goal := g (PySem.W.mg_none_of X G a)
theorem with_law {fa f : Addr} {h : Heap} {oc : Value} {od an : Option Addr} {osl : Array (Option Value)} {kV doc pm cdv ct : Value} (X : K.In h) (G : h.Ns mainGlobals mg) (hfa : mg "law" = some (.ref fa))
    (a : PySem.W.nsIn K mainGlobals "law" = some (some (.ref f))) (l : K.lookup f = some ⟨oc, od, .func (PySem.W.fnOf "law" "law" (C8.fnArgs sLaw) (C8.fnBody sLaw) (C8.fnScope sLaw) .none kV doc pm an cdv ct), osl⟩) (c : PySem.W.codeIn K cdv "law" = true)
    (g : ∀ fd : FuncData, C8.Fun K "law" "law" sLaw fa fd → ∀ base : Heap, FnOk P w K mg base C8.CX0 7 fa fd ["_law_script"] (spLaw K)) :
    ∃ fd : FuncData, (∀ (s : Shared) (u : Value), BindsTo s fd ⟨[u], []⟩ [("_law_script", u)]) ∧ ∀ base : Heap, K.In base → base.Ns mainGlobals mg → FnOk P w K mg base C8.CX0 7 fa fd ["_law_script"] (spLaw K) := by
  have e := hfa.symm.trans (PySem.W.mg_of X G a)
  cases e
  exact ⟨_, fun s u => .of_eq rfl, fun base _ _ => g _ ⟨⟨oc, od, .none, kV, doc, pm, an, cdv, ct, osl, rfl, l, c⟩⟩ base⟩

theorem join_all {fa fw fx : Addr} {fd : FuncData} (F : C8.Fun K "law" "law" sLaw fa fd) (D_read : Df K mg "read" (top 2) ["value"]) (D_not_bit : Df K mg "not_bit" (top 7) ["a"]) (D_and_bit : Df K mg "and_bit" (top 8) ["a", "b"]) (D_or_bit : Df K mg "or_bit" (top 9) ["a", "b"]) (D_xor_bit : Df K mg "xor_bit" (top 10) ["a", "b"]) (D_most_bit : Df K mg "most_bit" (top 11) ["a", "b", "c"]) (D_bit_by_bit : Df K mg "bit_by_bit" (top 12) ["rule", "a", "b"]) (D_plus_bits : Df K mg "plus_bits" (top 13) ["a", "b"]) (D_less_bit : Df K mg "less_bit" (top 14) ["a", "b"]) (D_any_bit : Df K mg "any_bit" (top 15) ["a"]) (D_told_by_two : Df K mg "told_by_two" (top 19) ["word", "a", "b"]) (D__law_at : Df K mg "_law_at" (top 22) ["_law_script", "_law_k"]) (D__law_pot : Df K mg "_law_pot" (top 23) ["_law_script", "_law_k"]) (D__law_take : Df K mg "_law_take" (top 24) ["_law_pot_here", "_law_many"]) (D__law_value : Df K mg "_law_value" (top 25) ["_law_pot_here", "_law_width", "_law_room"]) (D__law_numbers : Df K mg "_law_numbers" (top 26) ["_law_value_here"]) (D__law_bits : Df K mg "_law_bits" (top 27) ["_law_some", "_law_width"]) (D__law_due : Df K mg "_law_due" (top 28) ["_law_word", "_law_a", "_law_b", "_law_width"]) (D__law_ways : Df K mg "_law_ways" (top 29) ["_law_sign_here"]) (D__law_triples : Df K mg "_law_triples" (top 30) ["_law_one", "_law_other", "_law_ahead"]) (D__law_sign : Df K mg "_law_sign" (top 31) ["_law_some"]) (D__law_by_bits : Df K mg "_law_by_bits" (top 32) ["_law_word", "_law_a", "_law_b"]) (D__law_right : Df K mg "_law_right" (top 33) ["_law_word", "_law_a", "_law_b", "_law_width"]) (DO : DfOp K mg) (hW : mg "WORDS" = some (.ref fw)) (hT : ∀ H, SqT K H fw wordsV) (hx : mg "xor_bit" = some (.ref fx)) (z_zip : mg "zip" = none) (z_len : mg "len" = none) (z_int : mg "int" = none) (z_sorted : mg "sorted" = none) (z_set : mg "set" = none) (z_str : mg "str" = none) (z_max : mg "max" = none) (z_min : mg "min" = none) (z_sum : mg "sum" = none) (z_range : mg "range" = none) (z_divmod : mg "divmod" = none) (z_all : mg "all" = none) :
    FnOk P w K mg base C8.CX0 7 fa fd ["_law_script"] (spLaw K) := by
  have cRead : Cal P w K mg base 1 "read" spRead [] := ok_read D_read
  have cNot : Cal P w K mg base 1 "not_bit" spNot [] := ok_not D_not_bit
  have cAnd : Cal P w K mg base 1 "and_bit" spAnd [] := ok_and D_and_bit
  have cOr : Cal P w K mg base 2 "or_bit" spOr [] := ok_or D_or_bit cNot cAnd
  have cXor : Cal P w K mg base 1 "xor_bit" spXor [] := ok_xor D_xor_bit
  have cMost : Cal P w K mg base 1 "most_bit" spMost [] := ok_most D_most_bit
  have cXat : C8.CalAt P w K mg base 1 fx spXor := by
    obtain ⟨f, fd, D, b⟩ := D_xor_bit.ex
    obtain ⟨f2, fd2, ps, ds, F2, m2, k2, b2, v2⟩ := cXor.ex
    have e := hx.symm.trans m2
    cases e
    cases v2
    exact ⟨fd2, ps, F2, k2, b2⟩
  have cBbb : Cal P w K mg base 2 "bit_by_bit" (spBbb fx) [] := ok_bbb D_bit_by_bit z_zip cXat
  have cPlus : Cal P w K mg base 2 "plus_bits" spPlus [] := ok_plus D_plus_bits z_zip cXor cMost
  have cLess : Cal P w K mg base 2 "less_bit" spLess [] := ok_less D_less_bit z_zip cNot cMost
  have cAny : Cal P w K mg base 3 "any_bit" spAny [] := ok_any D_any_bit cOr
  have cTwo : Cal P w K mg base 4 "told_by_two" spTwo [] := ok_two D_told_by_two hx cPlus cNot cAny cBbb cLess
  have cOp : Cal P w K mg base 5 "operated" (spOp K) [.int 0, .int 0] := ok_op DO cRead cTwo
  have cAt : Cal P w K mg base 1 "_law_at" (spAt K) [] := ok_at D__law_at z_len
  have cPot : Cal P w K mg base 2 "_law_pot" (spPot K) [] := ok_pot D__law_pot z_max cAt
  have cTake : Cal P w K mg base 1 "_law_take" spTake [] := ok_take D__law_take z_divmod
  have cVal : Cal P w K mg base 2 "_law_value" spVal [] := ok_val D__law_value z_int z_range cTake
  have cNum : Cal P w K mg base 1 "_law_numbers" spNum [] := ok_num D__law_numbers z_int z_sorted z_set
  have cBits : Cal P w K mg base 1 "_law_bits" (spBits K) [] := ok_bits D__law_bits z_range
  have cDue : Cal P w K mg base 2 "_law_due" spDue [] := ok_due D__law_due z_int cNum cBits
  have cWays : Cal P w K mg base 1 "_law_ways" spWays [] := ok_ways D__law_ways z_int
  have cTri : Cal P w K mg base 2 "_law_triples" (spTri K) [] := ok_tri D__law_triples cWays
  have cSign : Cal P w K mg base 1 "_law_sign" (spSign K) [] := ok_sign D__law_sign z_sorted z_set z_str
  have cByb : Cal P w K mg base 3 "_law_by_bits" spByb [] := ok_byb D__law_by_bits z_zip z_sum z_int z_max z_sorted z_set cTri cSign
  have cRight : Cal P w K mg base 6 "_law_right" spRight [] := ok_right D__law_right hW hT z_len cOp cByb cDue
  exact ok_law F z_range z_max z_min z_len z_all cPot cTake cVal cRight
end
end K16
open PySem PySem.W PyProof.Rows
set_option maxHeartbeats 0 in
theorem PySem.Challenge.cw_deltawires_k16_whole_numbers_by_all_fill_holds : PySem.Challenge.rw_deltawires_k16_whole_numbers_by_all_fill.Holds := by
  w_on; o_law; k_head; (case hw => w_witness2)
  k_fill
  refine L2.walk_of (l := PySem.Challenge.rw_deltawires_k16_whole_numbers_by_all_fill) (n := 63) (k := 7) (x := "_law_script") (CX := fun _ => L2.CX0) (sp := fun w => K16.spLaw _) rfl (by decide) rfl ⟨rfl, by decide, by decide⟩ (fun w h Y => PySem.W.kIn_of Y) ?F (fun _ _ a ns hl _ hS => ⟨a, ns, rfl, hS, hl, fun _ => rfl⟩) (fun _ _ _ _ _ h => h)
  case F =>
    intro w mg fa h KX G hmg
    refine' K16.with_df (x := "read") (st := K16.top 2) (ps := ["value"]) KX G ?a ?l ?c ?k (fun us hl => match us, hl with | [_], _ => rfl) fun D_read => ?_
    (case a => k_is); (case l => k_is); (case c => k_is); (case k => k_is)
    refine' K16.with_df (x := "not_bit") (st := K16.top 7) (ps := ["a"]) KX G ?a ?l ?c ?k (fun us hl => match us, hl with | [_], _ => rfl) fun D_not_bit => ?_
    (case a => k_is); (case l => k_is); (case c => k_is); (case k => k_is)
    refine' K16.with_df (x := "and_bit") (st := K16.top 8) (ps := ["a", "b"]) KX G ?a ?l ?c ?k (fun us hl => match us, hl with | [_, _], _ => rfl) fun D_and_bit => ?_
    (case a => k_is); (case l => k_is); (case c => k_is); (case k => k_is)
    refine' K16.with_df (x := "or_bit") (st := K16.top 9) (ps := ["a", "b"]) KX G ?a ?l ?c ?k (fun us hl => match us, hl with | [_, _], _ => rfl) fun D_or_bit => ?_
    (case a => k_is); (case l => k_is); (case c => k_is); (case k => k_is)
    refine' K16.with_df (x := "xor_bit") (st := K16.top 10) (ps := ["a", "b"]) KX G ?a ?l ?c ?k (fun us hl => match us, hl with | [_, _], _ => rfl) fun D_xor_bit => ?_
    (case a => k_is); (case l => k_is); (case c => k_is); (case k => k_is)
    refine' K16.with_df (x := "most_bit") (st := K16.top 11) (ps := ["a", "b", "c"]) KX G ?a ?l ?c ?k (fun us hl => match us, hl with | [_, _, _], _ => rfl) fun D_most_bit => ?_
    (case a => k_is); (case l => k_is); (case c => k_is); (case k => k_is)
    refine' K16.with_df (x := "bit_by_bit") (st := K16.top 12) (ps := ["rule", "a", "b"]) KX G ?a ?l ?c ?k (fun us hl => match us, hl with | [_, _, _], _ => rfl) fun D_bit_by_bit => ?_
    (case a => k_is); (case l => k_is); (case c => k_is); (case k => k_is)
    refine' K16.with_df (x := "plus_bits") (st := K16.top 13) (ps := ["a", "b"]) KX G ?a ?l ?c ?k (fun us hl => match us, hl with | [_, _], _ => rfl) fun D_plus_bits => ?_
    (case a => k_is); (case l => k_is); (case c => k_is); (case k => k_is)
    refine' K16.with_df (x := "less_bit") (st := K16.top 14) (ps := ["a", "b"]) KX G ?a ?l ?c ?k (fun us hl => match us, hl with | [_, _], _ => rfl) fun D_less_bit => ?_
    (case a => k_is); (case l => k_is); (case c => k_is); (case k => k_is)
    refine' K16.with_df (x := "any_bit") (st := K16.top 15) (ps := ["a"]) KX G ?a ?l ?c ?k (fun us hl => match us, hl with | [_], _ => rfl) fun D_any_bit => ?_
    (case a => k_is); (case l => k_is); (case c => k_is); (case k => k_is)
    refine' K16.with_df (x := "told_by_two") (st := K16.top 19) (ps := ["word", "a", "b"]) KX G ?a ?l ?c ?k (fun us hl => match us, hl with | [_, _, _], _ => rfl) fun D_told_by_two => ?_
    (case a => k_is); (case l => k_is); (case c => k_is); (case k => k_is)
    refine' K16.with_df (x := "_law_at") (st := K16.top 22) (ps := ["_law_script", "_law_k"]) KX G ?a ?l ?c ?k (fun us hl => match us, hl with | [_, _], _ => rfl) fun D__law_at => ?_
    (case a => k_is); (case l => k_is); (case c => k_is); (case k => k_is)
    refine' K16.with_df (x := "_law_pot") (st := K16.top 23) (ps := ["_law_script", "_law_k"]) KX G ?a ?l ?c ?k (fun us hl => match us, hl with | [_, _], _ => rfl) fun D__law_pot => ?_
    (case a => k_is); (case l => k_is); (case c => k_is); (case k => k_is)
    refine' K16.with_df (x := "_law_take") (st := K16.top 24) (ps := ["_law_pot_here", "_law_many"]) KX G ?a ?l ?c ?k (fun us hl => match us, hl with | [_, _], _ => rfl) fun D__law_take => ?_
    (case a => k_is); (case l => k_is); (case c => k_is); (case k => k_is)
    refine' K16.with_df (x := "_law_value") (st := K16.top 25) (ps := ["_law_pot_here", "_law_width", "_law_room"]) KX G ?a ?l ?c ?k (fun us hl => match us, hl with | [_, _, _], _ => rfl) fun D__law_value => ?_
    (case a => k_is); (case l => k_is); (case c => k_is); (case k => k_is)
    refine' K16.with_df (x := "_law_numbers") (st := K16.top 26) (ps := ["_law_value_here"]) KX G ?a ?l ?c ?k (fun us hl => match us, hl with | [_], _ => rfl) fun D__law_numbers => ?_
    (case a => k_is); (case l => k_is); (case c => k_is); (case k => k_is)
    refine' K16.with_df (x := "_law_bits") (st := K16.top 27) (ps := ["_law_some", "_law_width"]) KX G ?a ?l ?c ?k (fun us hl => match us, hl with | [_, _], _ => rfl) fun D__law_bits => ?_
    (case a => k_is); (case l => k_is); (case c => k_is); (case k => k_is)
    refine' K16.with_df (x := "_law_due") (st := K16.top 28) (ps := ["_law_word", "_law_a", "_law_b", "_law_width"]) KX G ?a ?l ?c ?k (fun us hl => match us, hl with | [_, _, _, _], _ => rfl) fun D__law_due => ?_
    (case a => k_is); (case l => k_is); (case c => k_is); (case k => k_is)
    refine' K16.with_df (x := "_law_ways") (st := K16.top 29) (ps := ["_law_sign_here"]) KX G ?a ?l ?c ?k (fun us hl => match us, hl with | [_], _ => rfl) fun D__law_ways => ?_
    (case a => k_is); (case l => k_is); (case c => k_is); (case k => k_is)
    refine' K16.with_df (x := "_law_triples") (st := K16.top 30) (ps := ["_law_one", "_law_other", "_law_ahead"]) KX G ?a ?l ?c ?k (fun us hl => match us, hl with | [_, _, _], _ => rfl) fun D__law_triples => ?_
    (case a => k_is); (case l => k_is); (case c => k_is); (case k => k_is)
    refine' K16.with_df (x := "_law_sign") (st := K16.top 31) (ps := ["_law_some"]) KX G ?a ?l ?c ?k (fun us hl => match us, hl with | [_], _ => rfl) fun D__law_sign => ?_
    (case a => k_is); (case l => k_is); (case c => k_is); (case k => k_is)
    refine' K16.with_df (x := "_law_by_bits") (st := K16.top 32) (ps := ["_law_word", "_law_a", "_law_b"]) KX G ?a ?l ?c ?k (fun us hl => match us, hl with | [_, _, _], _ => rfl) fun D__law_by_bits => ?_
    (case a => k_is); (case l => k_is); (case c => k_is); (case k => k_is)
    refine' K16.with_df (x := "_law_right") (st := K16.top 33) (ps := ["_law_word", "_law_a", "_law_b", "_law_width"]) KX G ?a ?l ?c ?k (fun us hl => match us, hl with | [_, _, _, _], _ => rfl) fun D__law_right => ?_
    (case a => k_is); (case l => k_is); (case c => k_is); (case k => k_is)
    refine' K16.with_op KX G ?a ?l ?c ?k ?d1 ?d2 ?r1 ?r2 fun DO => ?_
    (case a => k_is); (case l => k_is); (case c => k_is); (case k => k_is); (case d1 => k_is); (case d2 => k_is)
    (case r1 => exact ⟨_, rfl⟩); (case r2 => exact ⟨_, rfl⟩)
    refine' K16.with_words KX G ?a ?l ?r fun hW hT => ?_
    (case a => k_is); (case l => k_is)
    (case r => exact .cons ⟨_, rfl⟩ (.cons ⟨_, rfl⟩ (.cons ⟨_, rfl⟩ (.cons ⟨_, rfl⟩ (.cons ⟨_, rfl⟩ (.cons ⟨_, rfl⟩ (.cons ⟨_, rfl⟩ (.cons ⟨_, rfl⟩ (.cons ⟨_, rfl⟩ (.cons ⟨_, rfl⟩ (.cons ⟨_, rfl⟩ (.cons ⟨_, rfl⟩ .nil))))))))))))
    refine' K16.with_xor KX G ?xa fun hx => ?_
    (case xa => k_is)
    refine' K16.with_none (x := "zip") KX G ?a fun z_zip => ?_
    (case a => k_is)
    refine' K16.with_none (x := "len") KX G ?a fun z_len => ?_
    (case a => k_is)
    refine' K16.with_none (x := "int") KX G ?a fun z_int => ?_
    (case a => k_is)
    refine' K16.with_none (x := "sorted") KX G ?a fun z_sorted => ?_
    (case a => k_is)
    refine' K16.with_none (x := "set") KX G ?a fun z_set => ?_
    (case a => k_is)
    refine' K16.with_none (x := "str") KX G ?a fun z_str => ?_
    (case a => k_is)
    refine' K16.with_none (x := "max") KX G ?a fun z_max => ?_
    (case a => k_is)
    refine' K16.with_none (x := "min") KX G ?a fun z_min => ?_
    (case a => k_is)
    refine' K16.with_none (x := "sum") KX G ?a fun z_sum => ?_
    (case a => k_is)
    refine' K16.with_none (x := "range") KX G ?a fun z_range => ?_
    (case a => k_is)
    refine' K16.with_none (x := "divmod") KX G ?a fun z_divmod => ?_
    (case a => k_is)
    refine' K16.with_none (x := "all") KX G ?a fun z_all => ?_
    (case a => k_is)
    refine' K16.with_law KX G hmg ?a ?l ?c fun fd FL base => ?_
    (case a => k_is); (case l => k_is); (case c => k_is)
    exact K16.join_all FL D_read D_not_bit D_and_bit D_or_bit D_xor_bit D_most_bit D_bit_by_bit D_plus_bits D_less_bit D_any_bit D_told_by_two D__law_at D__law_pot D__law_take D__law_value D__law_numbers D__law_bits D__law_due D__law_ways D__law_triples D__law_sign D__law_by_bits D__law_right DO hW hT hx z_zip z_len z_int z_sorted z_set z_str z_max z_min z_sum z_range z_divmod z_all

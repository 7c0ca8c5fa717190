import PyProof.Rows.All
import Wide.All
import OpenK.AllK
import Wide.FinOn
import HandS.Text
import HandS.ReplaceList
import HandS.ForMost
import HandS.Walk
import HandS.TupAny
import HandS.Star
import HandS.Style
import HandS.Zip
import HandS.IsInst
import HandS.Flow
import HandS.Steps
import HandS.SortInts
import HandS.Conv
import HandS.Head0
import HandS.Head1
import HandS.Head2
import HandS.HeadEnd
import HandS.HeadHook1
import HandS.HeadHook2
import HandS.More
import HandS.Words
import HandS.Defaults
import HandS.FStr
import HandS.SortKw
import HandS.SortRule
import HandS.TupLe
import HandS.DeepEq
import PyProof.MinMaxWalk
import PyProof.WalksMore
import KE.GoesEnum
import KE.GoesNew
import KE.GoesMore
import KE.GoesZip
import PyProof.Rows.SortShellAny
import PyProof.Rows.SortWalk
import KE.KDictPairs
import HandS.Dict
import KE.KExcSuper
import HandS.ExcInit
import HandS.WordsExc
import PyProof.ToksMono
import OpenK.XOpen
import OpenK.ZHead
import PySem.Challenge.RW_cutsmaller_k66_whole_told_as_texts
set_option Elab.async false
section M1x
set_option Elab.async false
set_option linter.all false
/-! Fillings, plain: records, blocks, few limits. -/
namespace CK
/-! ### lists -/
def Desc : List Int → Prop := List.Pairwise (fun a b => b < a)
def Asc : List Int → Prop := List.Pairwise (fun a b => a < b)
theorem asc_rev {l : List Int} (h : Desc l) : Asc l.reverse := List.pairwise_reverse.mpr h
theorem desc_rev {l : List Int} (h : Asc l) : Desc l.reverse := List.pairwise_reverse.mpr h
theorem sorted_unique {a b : List Int} (p : a.Perm b) (ha : a.Pairwise (· ≤ ·)) (hb : b.Pairwise (· ≤ ·)) : a = b :=
  List.Perm.eq_of_pairwise (fun x y _ _ h1 h2 => Int.le_antisymm h1 h2) ha hb p
/-! ### records -/
def recStep (acc : List Int) (x : Int) : List Int := match acc.getLast? with
  | none => acc ++ [x]
  | some y => if x < y then acc ++ [x] else acc
def recs (row : List Int) : List Int := row.foldl recStep []
def recGo : Int → List Int → List Int
  | _, [] => []
  | m, x :: r => if x < m then x :: recGo x r else recGo m r
theorem foldl_rec (acc : List Int) (m : Int) (r : List Int) : r.foldl recStep (acc ++ [m]) = acc ++ m :: recGo m r := by
  induction r generalizing acc m with
  | nil => simp [recGo]
  | cons x r ih =>
    simp only [List.foldl_cons, recGo]
    by_cases h : x < m
    · have : recStep (acc ++ [m]) x = (acc ++ [m]) ++ [x] := by simp [recStep, h]
      rw [this, ih, if_pos h]; simp
    · have : recStep (acc ++ [m]) x = acc ++ [m] := by simp [recStep, h]
      rw [this, ih, if_neg h]
theorem recs_nil : recs [] = [] := rfl
theorem recs_cons (x : Int) (r : List Int) : recs (x :: r) = x :: recGo x r := by
  have := foldl_rec [] x r
  simpa [recs, recStep] using this
theorem recs_snoc (l : List Int) (x : Int) : recs (l ++ [x]) = recStep (recs l) x := by
  simp [recs, List.foldl_append]
theorem recGo_desc (m : Int) (r : List Int) : Desc (recGo m r) ∧ ∀ y ∈ recGo m r, y < m := by
  induction r generalizing m with
  | nil => exact ⟨List.Pairwise.nil, by simp [recGo]⟩
  | cons x r ih =>
    by_cases h : x < m
    · have hx := ih x
      simp only [recGo, if_pos h]
      refine ⟨List.Pairwise.cons hx.2 hx.1, ?_⟩
      intro y hy
      rcases List.mem_cons.mp hy with rfl | hy
      · exact h
      · have := hx.2 y hy; omega
    · simp only [recGo, if_neg h]; exact ih m
theorem recs_desc (row : List Int) : Desc (recs row) := by
  cases row with
  | nil => exact List.Pairwise.nil
  | cons x r => rw [recs_cons]; exact List.Pairwise.cons (recGo_desc x r).2 (recGo_desc x r).1
theorem recGo_mem {m : Int} {r : List Int} {y : Int} (h : y ∈ recGo m r) : y ∈ r := by
  induction r generalizing m with
  | nil => simp [recGo] at h
  | cons x r ih =>
    simp only [recGo] at h
    split at h
    · rcases List.mem_cons.mp h with rfl | h
      · exact List.mem_cons_self
      · exact List.mem_cons_of_mem _ (ih h)
    · exact List.mem_cons_of_mem _ (ih h)
theorem recs_mem {row : List Int} {y : Int} (h : y ∈ recs row) : y ∈ row := by
  cases row with
  | nil => simp [recs_nil] at h
  | cons x r =>
    rw [recs_cons] at h
    rcases List.mem_cons.mp h with rfl | h
    · exact List.mem_cons_self
    · exact List.mem_cons_of_mem _ (recGo_mem h)
theorem recGo_low {m : Int} {r : List Int} {x : Int} (h : x ∈ r) (hm : x < m) : ∃ y ∈ recGo m r, y ≤ x := by
  induction r generalizing m with
  | nil => simp at h
  | cons z r ih =>
    simp only [recGo]
    by_cases hz : z < m
    · rw [if_pos hz]
      rcases List.mem_cons.mp h with rfl | h
      · exact ⟨x, List.mem_cons_self, Int.le_refl _⟩
      · by_cases hx : x < z
        · obtain ⟨y, hy, h1⟩ := ih h hx
          exact ⟨y, List.mem_cons_of_mem _ hy, h1⟩
        · exact ⟨z, List.mem_cons_self, by omega⟩
    · rw [if_neg hz]
      rcases List.mem_cons.mp h with rfl | h
      · exact absurd hm hz
      · exact ih h hm
theorem recs_low {row : List Int} {x : Int} (h : x ∈ row) : ∃ y ∈ recs row, y ≤ x := by
  cases row with
  | nil => simp at h
  | cons z r =>
    rw [recs_cons]
    rcases List.mem_cons.mp h with rfl | h
    · exact ⟨x, List.mem_cons_self, Int.le_refl _⟩
    · by_cases hx : x < z
      · obtain ⟨y, hy, h1⟩ := recGo_low h hx
        exact ⟨y, List.mem_cons_of_mem _ hy, h1⟩
      · exact ⟨z, List.mem_cons_self, by omega⟩
theorem recs_of_desc : ∀ {d : List Int}, Desc d → recs d = d := by
  have go : ∀ (d : List Int) (m : Int), Desc (m :: d) → recGo m d = d := by
    intro d
    induction d with
    | nil => intros; rfl
    | cons x r ih =>
      intro m h
      have h1 : x < m := (List.pairwise_cons.mp h).1 x List.mem_cons_self
      simp only [recGo, if_pos h1]
      rw [ih x (List.pairwise_cons.mp h).2]
  intro d h
  cases d with
  | nil => rfl
  | cons x r => rw [recs_cons, go r x h]
theorem recs_length (row : List Int) : (recs row).length ≤ row.length := by
  have go : ∀ (r : List Int) (m : Int), (recGo m r).length ≤ r.length := by
    intro r
    induction r with
    | nil => intros; simp [recGo]
    | cons x r ih =>
      intro m
      simp only [recGo]
      split
      · have := ih x; simp; omega
      · have := ih m; simp; omega
  cases row with
  | nil => simp [recs_nil]
  | cons x r => rw [recs_cons]; have := go r x; simp; omega
theorem recs_eq_nil {row : List Int} : recs row = [] ↔ row = [] := by
  cases row with
  | nil => simp [recs_nil]
  | cons x r => simp [recs_cons]
/-! ### blocks -/
abbrev Blk := Int × Int
def jn (L a b : Int) : List Int → List Blk
  | [] => [(a, b)]
  | y :: r => if y - b ≤ L then jn L a y r else (a, b) :: jn L y y r
def joinA (L : Int) : List Int → List Blk
  | [] => []
  | x :: r => jn L x x r
/-- the program's own turn -/
def joinStep (L : Int) (acc : List Blk) (p : Blk) : List Blk := match acc.getLast? with
  | none => acc ++ [p]
  | some q => if p.1 - q.2 ≤ L then acc.dropLast ++ [(q.1, p.2)] else acc ++ [p]
def joined (L : Int) (bs : List Blk) : List Blk := bs.foldl (joinStep L) []
theorem foldl_join (L : Int) (acc : List Blk) (a b : Int) (r : List Int) : (r.map fun x => (x, x)).foldl (joinStep L) (acc ++ [(a, b)]) = acc ++ jn L a b r := by
  induction r generalizing acc a b with
  | nil => simp [jn]
  | cons y r ih =>
    simp only [List.map_cons, List.foldl_cons, jn]
    by_cases h : y - b ≤ L
    · have : joinStep L (acc ++ [(a, b)]) (y, y) = acc ++ [(a, y)] := by simp [joinStep, h]
      rw [this, ih, if_pos h]
    · have : joinStep L (acc ++ [(a, b)]) (y, y) = (acc ++ [(a, b)]) ++ [(y, y)] := by simp [joinStep, h]
      rw [this, ih, if_neg h]; simp
theorem joined_eq (L : Int) (xs : List Int) : joined L (xs.map fun x => (x, x)) = joinA L xs := by
  cases xs with
  | nil => rfl
  | cons x r =>
    have := foldl_join L [] x x r
    simpa [joined, joinStep, joinA] using this
/-- blocks as they must be: each from low to high, and more than L apart -/
def Val (L : Int) : List Blk → Prop
  | [] => True
  | [p] => p.1 ≤ p.2
  | p :: q :: r => p.1 ≤ p.2 ∧ p.2 + L < q.1 ∧ Val L (q :: r)
theorem Val.tail {L : Int} {p : Blk} {r : List Blk} (h : Val L (p :: r)) : Val L r := by
  cases r with
  | nil => trivial
  | cons q r => exact h.2.2
theorem Val.head {L : Int} {p : Blk} {r : List Blk} (h : Val L (p :: r)) : p.1 ≤ p.2 := by
  cases r with
  | nil => exact h
  | cons q r => exact h.1
theorem Val.above {L : Int} (hL : 0 ≤ L) {p : Blk} {r : List Blk} (h : Val L (p :: r)) : ∀ q ∈ r, p.2 + L < q.1 := by
  induction r generalizing p with
  | nil => simp
  | cons q r ih =>
    intro z hz
    rcases List.mem_cons.mp hz with rfl | hz
    · exact h.2.1
    · have h1 := ih h.2.2 z hz
      have h2 := h.2.1
      have h3 := h.tail.head
      omega
theorem Val.each {L : Int} {bs : List Blk} (h : Val L bs) : ∀ p ∈ bs, p.1 ≤ p.2 := by
  induction bs with
  | nil => simp
  | cons q r ih =>
    intro p hp
    rcases List.mem_cons.mp hp with rfl | hp
    · exact h.head
    · exact ih h.tail p hp
theorem Val.of {L : Int} {p : Blk} {r : List Blk} (h1 : p.1 ≤ p.2) (h2 : ∀ q ∈ r.head?, p.2 + L < q.1) (h3 : Val L r) : Val L (p :: r) := by
  cases r with
  | nil => exact h1
  | cons q r => exact ⟨h1, h2 q (by simp), h3⟩
def inB (bs : List Blk) (n : Int) : Prop := ∃ p ∈ bs, p.1 ≤ n ∧ n ≤ p.2
theorem inB_cons {p : Blk} {r : List Blk} {n : Int} : inB (p :: r) n ↔ (p.1 ≤ n ∧ n ≤ p.2) ∨ inB r n := by
  simp [inB]
theorem jn_head (L a b : Int) (r : List Int) : ∃ c t, jn L a b r = (a, c) :: t ∧ b ≤ c ∨ ¬ Asc (b :: r) := by
  by_cases h : Asc (b :: r)
  · induction r generalizing b with
    | nil => exact ⟨b, [], .inl ⟨rfl, Int.le_refl _⟩⟩
    | cons y r ih =>
      simp only [jn]
      have hy : b < y := (List.pairwise_cons.mp h).1 y List.mem_cons_self
      have h2 : Asc (y :: r) := (List.pairwise_cons.mp h).2
      split
      · obtain ⟨c, t, e | e⟩ := ih y h2
        · exact ⟨c, t, .inl ⟨e.1, by omega⟩⟩
        · exact absurd h2 e
      · exact ⟨b, _, .inl ⟨rfl, Int.le_refl _⟩⟩
  · exact ⟨0, [], .inr h⟩
theorem jn_first (L a b : Int) (r : List Int) : ∃ c t, jn L a b r = (a, c) :: t := by
  induction r generalizing b with
  | nil => exact ⟨b, [], rfl⟩
  | cons y r ih =>
    simp only [jn]
    split
    · exact ih y
    · exact ⟨b, _, rfl⟩
theorem jn_val {L : Int} (hL : 0 ≤ L) (a b : Int) (r : List Int) (hab : a ≤ b) (h : Asc (b :: r)) : Val L (jn L a b r) := by
  induction r generalizing a b with
  | nil => exact hab
  | cons y r ih =>
    simp only [jn]
    have hy : b < y := (List.pairwise_cons.mp h).1 y List.mem_cons_self
    have h2 : Asc (y :: r) := (List.pairwise_cons.mp h).2
    split
    · exact ih a y (by omega) h2
    · rename_i hg
      refine Val.of hab ?_ (ih y y (Int.le_refl _) h2)
      obtain ⟨c, t, e⟩ := jn_first L y y r
      rw [e]
      intro q hq
      simp at hq
      subst hq
      show b + L < y
      omega
theorem joinA_val {L : Int} (hL : 0 ≤ L) {xs : List Int} (h : Asc xs) : Val L (joinA L xs) := by
  cases xs with
  | nil => trivial
  | cons x r => exact jn_val hL x x r (Int.le_refl _) h
theorem joinA_head (L x : Int) (r : List Int) : ∃ c t, joinA L (x :: r) = (x, c) :: t := jn_first L x x r
theorem jn_ends {L a b : Int} {r : List Int} : ∀ p ∈ jn L a b r, (p.1 = a ∨ p.1 ∈ r) ∧ (p.2 = b ∨ p.2 ∈ r) := by
  induction r generalizing a b with
  | nil => simp [jn]
  | cons y r ih =>
    simp only [jn]
    split
    · intro p hp
      have := ih p hp
      grind
    · intro p hp
      rcases List.mem_cons.mp hp with rfl | hp
      · simp
      · have := ih p hp
        grind
theorem joinA_ends {L : Int} {xs : List Int} : ∀ p ∈ joinA L xs, p.1 ∈ xs ∧ p.2 ∈ xs := by
  cases xs with
  | nil => simp [joinA]
  | cons x r =>
    intro p hp
    have := jn_ends p hp
    grind
/-- a limit is in the blocks -/
theorem jn_in {L a b : Int} {r : List Int} (hab : a ≤ b) (h : Asc (b :: r)) : (∀ n, a ≤ n → n ≤ b → inB (jn L a b r) n) ∧ ∀ x ∈ r, inB (jn L a b r) x := by
  induction r generalizing a b with
  | nil => simp only [jn]; exact ⟨fun n h1 h2 => ⟨(a, b), by simp, h1, h2⟩, by simp⟩
  | cons y r ih =>
    simp only [jn]
    have hy : b < y := (List.pairwise_cons.mp h).1 y List.mem_cons_self
    have h2 : Asc (y :: r) := (List.pairwise_cons.mp h).2
    split
    · obtain ⟨i1, i2⟩ := ih (a := a) (b := y) (by omega) h2
      refine ⟨fun n h1 h2 => i1 n h1 (by omega), fun x hx => ?_⟩
      rcases List.mem_cons.mp hx with rfl | hx
      · exact i1 x (by omega) (Int.le_refl _)
      · exact i2 x hx
    · obtain ⟨i1, i2⟩ := ih (a := y) (b := y) (Int.le_refl _) h2
      refine ⟨fun n h1 h2 => inB_cons.mpr (.inl ⟨h1, h2⟩), fun x hx => inB_cons.mpr (.inr ?_)⟩
      rcases List.mem_cons.mp hx with rfl | hx
      · exact i1 x (Int.le_refl _) (Int.le_refl _)
      · exact i2 x hx
theorem joinA_in {L : Int} {xs : List Int} (h : Asc xs) {x : Int} (hx : x ∈ xs) : inB (joinA L xs) x := by
  cases xs with
  | nil => simp at hx
  | cons z r =>
    obtain ⟨i1, i2⟩ := jn_in (L := L) (Int.le_refl z) h
    rcases List.mem_cons.mp hx with rfl | hx
    · exact i1 x (Int.le_refl _) (Int.le_refl _)
    · exact i2 x hx
/-- a number of the blocks is a limit, or lies between two that are at most L apart -/
theorem jn_out {L a b : Int} {r : List Int} (hab : a ≤ b) (h : Asc (b :: r)) {n : Int} (hn : inB (jn L a b r) n) : (a ≤ n ∧ n ≤ b) ∨ n ∈ r ∨ ∃ v w, (v = b ∨ v ∈ r) ∧ w ∈ r ∧ v < n ∧ n < w ∧ w - v ≤ L := by
  induction r generalizing a b with
  | nil => simp [jn, inB] at hn; exact .inl hn
  | cons y r ih =>
    simp only [jn] at hn
    have hy : b < y := (List.pairwise_cons.mp h).1 y List.mem_cons_self
    have h2 : Asc (y :: r) := (List.pairwise_cons.mp h).2
    split at hn
    · rcases ih (a := a) (b := y) (by omega) h2 hn with q | q | ⟨v, w, q1, q2, q3⟩
      · by_cases h3 : n ≤ b
        · exact .inl ⟨q.1, h3⟩
        · by_cases h4 : n = y
          · exact .inr (.inl (by simp [h4]))
          · exact .inr (.inr ⟨b, y, .inl rfl, by simp, by omega, by omega, by assumption⟩)
      · exact .inr (.inl (List.mem_cons_of_mem _ q))
      · exact .inr (.inr ⟨v, w, by grind, by grind, q3⟩)
    · rcases inB_cons.mp hn with q | hn
      · exact .inl q
      · rcases ih (a := y) (b := y) (Int.le_refl _) h2 hn with q | q | ⟨v, w, q1, q2, q3⟩
        · have e : n = y := by omega
          exact .inr (.inl (by simp [e]))
        · exact .inr (.inl (List.mem_cons_of_mem _ q))
        · exact .inr (.inr ⟨v, w, by grind, by grind, q3⟩)
theorem joinA_out {L : Int} {xs : List Int} (h : Asc xs) {n : Int} (hn : inB (joinA L xs) n) : n ∈ xs ∨ ∃ v w, v ∈ xs ∧ w ∈ xs ∧ v < n ∧ n < w ∧ w - v ≤ L := by
  cases xs with
  | nil => simp [joinA, inB] at hn
  | cons z r =>
    rcases jn_out (Int.le_refl z) h hn with q | q | ⟨v, w, q1, q2, q3⟩
    · have e : n = z := by omega
      exact .inl (by simp [e])
    · exact .inl (List.mem_cons_of_mem _ q)
    · exact .inr ⟨v, w, by grind, by grind, q3⟩
/-- numbers at most L apart: all between are there -/
theorem Val.closed {L : Int} (hL : 0 ≤ L) {bs : List Blk} (h : Val L bs) {n m k : Int} (hn : inB bs n) (hm : inB bs m) (h1 : n ≤ k) (h2 : k ≤ m) (h3 : m - n ≤ L) : inB bs k := by
  induction bs with
  | nil => simp [inB] at hn
  | cons p r ih =>
    have ha := h.above hL
    rcases inB_cons.mp hn with qn | qn
    · rcases inB_cons.mp hm with qm | qm
      · exact inB_cons.mpr (.inl ⟨by omega, by omega⟩)
      · obtain ⟨q, hq, q1, q2⟩ := qm
        have := ha q hq
        omega
    · rcases inB_cons.mp hm with qm | qm
      · obtain ⟨q, hq, q1, q2⟩ := qn
        have := ha q hq
        omega
      · exact inB_cons.mpr (.inr (ih h.tail qn qm))
/-- blocks are told by their numbers -/
theorem Val.unique {L : Int} (hL : 0 < L) : ∀ {as bs : List Blk}, Val L as → Val L bs → (∀ n, inB as n ↔ inB bs n) → as = bs := by
  intro as
  induction as with
  | nil =>
    intro bs _ hb h
    cases bs with
    | nil => rfl
    | cons p r =>
      have : inB [] p.1 := (h p.1).mpr (inB_cons.mpr (.inl ⟨Int.le_refl _, hb.head⟩))
      simp [inB] at this
  | cons p as ih =>
    intro bs ha hb h
    cases bs with
    | nil =>
      have : inB [] p.1 := (h p.1).mp (inB_cons.mpr (.inl ⟨Int.le_refl _, ha.head⟩))
      simp [inB] at this
    | cons q bs =>
      have a1 := ha.above (Int.le_of_lt hL)
      have b1 := hb.above (Int.le_of_lt hL)
      have a2 := ha.head
      have b2 := hb.head
      -- the lows
      have l1 : q.1 ≤ p.1 := by
        rcases inB_cons.mp ((h p.1).mp (inB_cons.mpr (.inl ⟨Int.le_refl _, a2⟩))) with z | ⟨z, hz, z1, z2⟩
        · exact z.1
        · have := b1 z hz; omega
      have l2 : p.1 ≤ q.1 := by
        rcases inB_cons.mp ((h q.1).mpr (inB_cons.mpr (.inl ⟨Int.le_refl _, b2⟩))) with z | ⟨z, hz, z1, z2⟩
        · exact z.1
        · have := a1 z hz; omega
      have l : p.1 = q.1 := by omega
      -- the highs
      have h1 : ¬ q.2 < p.2 := by
        intro lt
        rcases inB_cons.mp ((h (q.2 + 1)).mp (inB_cons.mpr (.inl ⟨by omega, by omega⟩))) with z | ⟨z, hz, z1, z2⟩
        · omega
        · have := b1 z hz; omega
      have h2 : ¬ p.2 < q.2 := by
        intro lt
        rcases inB_cons.mp ((h (p.2 + 1)).mpr (inB_cons.mpr (.inl ⟨by omega, by omega⟩))) with z | ⟨z, hz, z1, z2⟩
        · omega
        · have := a1 z hz; omega
      have e : p = q := Prod.ext l (by omega)
      subst e
      rw [ih ha.tail hb.tail fun n => ?_]
      constructor
      · intro hn
        rcases inB_cons.mp ((h n).mp (inB_cons.mpr (.inr hn))) with z | z
        · obtain ⟨y, hy, y1, y2⟩ := hn
          have := a1 y hy; omega
        · exact z
      · intro hn
        rcases inB_cons.mp ((h n).mpr (inB_cons.mpr (.inr hn))) with z | z
        · obtain ⟨y, hy, y1, y2⟩ := hn
          have := b1 y hy; omega
        · exact z
/-! ### the filling -/
def lone (row : List Int) (L : Int) : Bool := row.any fun l => decide (l < 2 * L)
def fill (row : List Int) (L : Int) : Option (List Blk) := if lone row L = true then none else some (joined L ((recs row).reverse.map fun x => (x, x)))
theorem fill_eq (row : List Int) (L : Int) : fill row L = if lone row L = true then none else some (joinA L (recs row).reverse) := by
  unfold fill; rw [joined_eq]
theorem lone_false {row : List Int} {L : Int} : lone row L = false ↔ ∀ l ∈ row, 2 * L ≤ l := by
  simp [lone, List.any_eq_false]
theorem fill_none {row : List Int} {L : Int} : fill row L = none ↔ lone row L = true := by
  rw [fill_eq]; split <;> simp_all
theorem fill_some {row : List Int} {L : Int} {bs : List Blk} : fill row L = some bs ↔ lone row L = false ∧ joinA L (recs row).reverse = bs := by
  rw [fill_eq]; split <;> simp_all
theorem fill_desc {d : List Int} {L : Int} (h : Desc d) (hl : ∀ l ∈ d, 2 * L ≤ l) : fill d L = some (joinA L d.reverse) := by
  rw [fill_some]; exact ⟨lone_false.mpr hl, by rw [recs_of_desc h]⟩
theorem fill_val {row : List Int} {L : Int} (hL : 0 ≤ L) {bs : List Blk} (h : fill row L = some bs) : Val L bs := by
  rw [fill_some] at h
  rw [← h.2]
  exact joinA_val hL (asc_rev (recs_desc row))
theorem fill_ends {row : List Int} {L : Int} {bs : List Blk} (h : fill row L = some bs) : ∀ p ∈ bs, p.1 ∈ row ∧ p.2 ∈ row := by
  rw [fill_some] at h
  rw [← h.2]
  intro p hp
  have := joinA_ends p hp
  exact ⟨recs_mem (by simpa using this.1), recs_mem (by simpa using this.2)⟩
theorem fill_ge {row : List Int} {L : Int} {bs : List Blk} (h : fill row L = some bs) : ∀ p ∈ bs, 2 * L ≤ p.1 ∧ 2 * L ≤ p.2 := by
  intro p hp
  have e := fill_ends h p hp
  rw [fill_some] at h
  exact ⟨lone_false.mp h.1 _ e.1, lone_false.mp h.1 _ e.2⟩
theorem fill_nil {row : List Int} {L : Int} : fill row L = some [] ↔ row = [] := by
  rw [fill_some]
  constructor
  · intro h
    cases e : (recs row).reverse with
    | nil => exact recs_eq_nil.mp (by simpa using e)
    | cons x r =>
      obtain ⟨c, t, q⟩ := joinA_head L x r
      rw [e, q] at h
      simp at h
  · rintro rfl; exact ⟨rfl, rfl⟩
/-- chains: ascending, neighbours at most L apart -/
def Chn (L : Int) : List Int → Prop
  | [] => True
  | [_] => True
  | a :: b :: r => a < b ∧ b - a ≤ L ∧ Chn L (b :: r)
theorem jn_chain (L : Int) (a b : Int) : ∀ (c : List Int) (rest : List Int) (z : Int), Chn L (b :: c) → (b :: c).getLast? = some z → (∀ y ∈ rest.head?, z + L < y) → jn L a b (c ++ rest) = (a, z) :: joinA L rest := by
  intro c
  induction c generalizing b with
  | nil =>
    intro rest z _ hz hr
    simp at hz
    subst hz
    cases rest with
    | nil => rfl
    | cons y r =>
      have := hr y (by simp)
      simp only [List.nil_append, jn, joinA]
      rw [if_neg (by omega)]
  | cons x c ih =>
    intro rest z h hz hr
    simp only [List.cons_append, jn]
    rw [if_pos h.2.1]
    exact ih x rest z h.2.2 (by simpa [List.getLast?_cons_cons] using hz) hr
theorem joinA_chain (L : Int) {a z : Int} {c rest : List Int} (h : Chn L (a :: c)) (hz : (a :: c).getLast? = some z) (hr : ∀ y ∈ rest.head?, z + L < y) : joinA L ((a :: c) ++ rest) = (a, z) :: joinA L rest := by
  show jn L a a (c ++ rest) = _
  exact jn_chain L a a c rest z h hz hr
/-- the limits behind blocks: chains -/
theorem joinA_parts {L : Int} (hL : 0 ≤ L) : ∀ {xs : List Int} {bs : List Blk}, Asc xs → joinA L xs = bs → ∃ gs : List (List Int), gs.flatten = xs ∧ gs.length = bs.length ∧ ∀ (i : Nat) (p : Blk) (g : List Int), bs[i]? = some p → gs[i]? = some g → Chn L g ∧ g.head? = some p.1 ∧ g.getLast? = some p.2 := by
  have go : ∀ (r pre : List Int) (a b : Int), Chn L (pre ++ [b]) → (pre ++ [b]).head? = some a → Asc (b :: r) → ∃ gs : List (List Int), gs.flatten = (pre ++ [b]) ++ r ∧ gs.length = (jn L a b r).length ∧ ∀ (i : Nat) (p : Blk) (g : List Int), (jn L a b r)[i]? = some p → gs[i]? = some g → Chn L g ∧ g.head? = some p.1 ∧ g.getLast? = some p.2 := by
    intro r
    induction r with
    | nil =>
      intro pre a b hc hh _
      refine ⟨[pre ++ [b]], by simp, by simp [jn], ?_⟩
      intro i p g hp hg
      cases i with
      | zero =>
        simp [jn] at hp hg
        subst hp hg
        exact ⟨hc, hh, by simp⟩
      | succ i => simp at hg
    | cons y r ih =>
      intro pre a b hc hh ha
      have hy : b < y := (List.pairwise_cons.mp ha).1 y List.mem_cons_self
      have h2 : Asc (y :: r) := (List.pairwise_cons.mp ha).2
      simp only [jn]
      by_cases hg : y - b ≤ L
      · rw [if_pos hg]
        have snoc : ∀ (l : List Int), Chn L (l ++ [b]) → Chn L (l ++ [b] ++ [y]) := by
          intro l
          induction l with
          | nil => intro _; exact ⟨hy, hg, trivial⟩
          | cons u l ihl =>
            intro h
            cases l with
            | nil => exact ⟨h.1, h.2.1, hy, hg, trivial⟩
            | cons v l => exact ⟨h.1, h.2.1, ihl h.2.2⟩
        obtain ⟨gs, e1, e2, e3⟩ := ih (pre ++ [b]) a y (snoc pre hc) (by
          cases pre with
          | nil => simpa using hh
          | cons u l => simpa using hh) h2
        exact ⟨gs, by rw [e1]; simp, e2, e3⟩
      · rw [if_neg hg]
        obtain ⟨gs, e1, e2, e3⟩ := ih [] y y trivial rfl h2
        refine ⟨(pre ++ [b]) :: gs, by simp [e1], by simp [e2], ?_⟩
        intro i p g hp hgg
        cases i with
        | zero =>
          simp at hp hgg
          subst hp hgg
          exact ⟨hc, hh, by simp⟩
        | succ i => exact e3 i p g (by simpa using hp) (by simpa using hgg)
  intro xs bs ha hb
  cases xs with
  | nil => subst hb; exact ⟨[], rfl, rfl, by simp [joinA]⟩
  | cons x r =>
    subst hb
    obtain ⟨gs, e1, e2, e3⟩ := go r [] x x trivial rfl ha
    exact ⟨gs, by simpa using e1, e2, e3⟩
end CK
end M1x
section M2x
set_option Elab.async false
set_option linter.all false
/-! Few limits, and what hops make of batches, plain. -/
namespace CK
inductive F2 {α β : Type} (R : α → β → Prop) : List α → List β → Prop
  | nil : F2 R [] []
  | cons {a : α} {b : β} {as : List α} {bs : List β} : R a b → F2 R as bs → F2 R (a :: as) (b :: bs)
/-! ### few limits -/
def minR (row : List Int) : Int := row.foldl min (row.headD 0)
def fewGo : Nat → Int → Int → Int → List Int
  | 0, _, _, h => [h]
  | n + 1, lo, L, h => if lo < h then h :: fewGo n lo L (max lo (h - L)) else [h]
def fewL (lo hi L : Int) : List Int := fewGo (hi - lo).toNat lo L hi
def few (row : List Int) (L : Int) : List Int := match fill row L with
  | none => [minR row]
  | some bs => bs.reverse.flatMap fun p => fewL p.1 p.2 L
/-- the same, ascending, as a chain -/
theorem fewGo_chain {L lo : Int} (hL : 0 < L) : ∀ (n : Nat) (h : Int), lo ≤ h → (h - lo).toNat ≤ n → ∃ c, (fewGo n lo L h).reverse = lo :: c ∧ Chn L (lo :: c) ∧ (lo :: c).getLast? = some h := by
  intro n
  induction n with
  | zero =>
    intro h h1 h2
    have e : h = lo := by omega
    subst e
    exact ⟨[], rfl, trivial, rfl⟩
  | succ n ih =>
    intro h h1 h2
    simp only [fewGo]
    by_cases g : lo < h
    · rw [if_pos g]
      obtain ⟨c, e1, e2, e3⟩ := ih (max lo (h - L)) (by omega) (by omega)
      refine ⟨c ++ [h], by simp [e1], ?_, by simp [List.getLast?_cons]⟩
      have snoc : ∀ (l : List Int) (z : Int), Chn L l → l.getLast? = some z → z < h → h - z ≤ L → Chn L (l ++ [h]) := by
        intro l
        induction l with
        | nil => intros; trivial
        | cons u l ihl =>
          intro z hc hz h3 h4
          cases l with
          | nil =>
            simp at hz
            subst hz
            exact ⟨h3, h4, trivial⟩
          | cons v l => exact ⟨hc.1, hc.2.1, ihl z hc.2.2 (by simpa [List.getLast?_cons_cons] using hz) h3 h4⟩
      exact snoc (lo :: c) _ e2 e3 (by omega) (by omega)
    · rw [if_neg g]
      have e : h = lo := by omega
      subst e
      exact ⟨[], rfl, trivial, rfl⟩
theorem fewL_chain {L lo hi : Int} (hL : 0 < L) (h : lo ≤ hi) : ∃ c, (fewL lo hi L).reverse = lo :: c ∧ Chn L (lo :: c) ∧ (lo :: c).getLast? = some hi := fewGo_chain hL _ hi h (Nat.le_refl _)
theorem Chn.asc {L : Int} : ∀ {c : List Int}, Chn L c → Asc c := by
  intro c
  induction c with
  | nil => intro _; exact List.Pairwise.nil
  | cons a c ih =>
    intro h
    cases c with
    | nil => exact List.pairwise_singleton _ _
    | cons b r =>
      have h2 := ih h.2.2
      refine List.pairwise_cons.mpr ⟨fun z hz => ?_, h2⟩
      rcases List.mem_cons.mp hz with rfl | hz
      · exact h.1
      · have := (List.pairwise_cons.mp h2).1 z hz
        have := h.1
        omega
theorem Chn.bounds {L : Int} {c : List Int} {a z : Int} (h : Chn L c) (ha : c.head? = some a) (hz : c.getLast? = some z) : ∀ x ∈ c, a ≤ x ∧ x ≤ z := by
  induction c generalizing a with
  | nil => simp
  | cons u c ih =>
    intro x hx
    simp at ha
    subst ha
    cases c with
    | nil => simp at hz hx; omega
    | cons v r =>
      have i := ih h.2.2 rfl (by simpa [List.getLast?_cons_cons] using hz)
      have := h.1
      rcases List.mem_cons.mp hx with rfl | hx
      · have := i v List.mem_cons_self; omega
      · have := i x hx; omega
/-- rows built block by block, chain by chain -/
theorem chains_join {L : Int} (hL : 0 < L) : ∀ {bs : List Blk} {gs : List (List Int)}, Val L bs → F2 (fun p g => Chn L g ∧ g.head? = some p.1 ∧ g.getLast? = some p.2) bs gs → Asc gs.flatten ∧ joinA L gs.flatten = bs ∧ gs.flatten.head? = bs.head?.map (·.1) := by
  intro bs
  induction bs with
  | nil =>
    intro gs _ h
    cases h
    exact ⟨List.Pairwise.nil, rfl, rfl⟩
  | cons p bs ih =>
    intro gs hv h
    cases h with
    | cons hg ht =>
      rename_i g gs
      obtain ⟨i1, i2, i3⟩ := ih hv.tail ht
      obtain ⟨h1, h2, h3⟩ := hg
      have hab := hv.above (Int.le_of_lt hL)
      have far : ∀ y ∈ gs.flatten.head?, p.2 + L < y := by
        intro y hy
        rw [i3] at hy
        cases bs with
        | nil => simp at hy
        | cons q bs =>
          simp at hy
          subst hy
          exact hab q List.mem_cons_self
      cases g with
      | nil => simp at h2
      | cons a c =>
        simp at h2
        subst h2
        refine ⟨?_, ?_, by simp⟩
        · rw [List.flatten_cons]
          refine List.pairwise_append.mpr ⟨h1.asc, i1, fun x hx y hy => ?_⟩
          have hx2 := (h1.bounds rfl h3 x hx).2
          cases e : gs.flatten with
          | nil => rw [e] at hy; simp at hy
          | cons u r =>
            rw [e] at hy i1 far
            have hu := far u (by simp)
            rcases List.mem_cons.mp hy with rfl | hy
            · omega
            · have := (List.pairwise_cons.mp i1).1 y hy
              omega
        · rw [List.flatten_cons, joinA_chain L h1 h3 far, i2]
theorem min_fold (r : List Int) (a : Int) : r.foldl min a ≤ a ∧ (∀ x ∈ r, r.foldl min a ≤ x) ∧ (r.foldl min a = a ∨ r.foldl min a ∈ r) := by
  induction r generalizing a with
  | nil => simp
  | cons x r ih =>
    simp only [List.foldl_cons]
    obtain ⟨i1, i2, i3⟩ := ih (min a x)
    refine ⟨by omega, ?_, ?_⟩
    · intro y hy
      rcases List.mem_cons.mp hy with rfl | hy
      · omega
      · exact i2 y hy
    · rcases i3 with e | e
      · by_cases h : a ≤ x
        · left; omega
        · right; rw [e]; simp; omega
      · exact .inr (List.mem_cons_of_mem _ e)
theorem minrow_mem {row : List Int} (h : row ≠ []) : minR row ∈ row ∧ ∀ x ∈ row, minR row ≤ x := by
  unfold minR
  cases row with
  | nil => exact absurd rfl h
  | cons x r =>
    obtain ⟨i1, i2, i3⟩ := min_fold (x :: r) x
    refine ⟨?_, i2⟩
    rcases i3 with e | e
    · show List.foldl min x (x :: r) ∈ _
      rw [e]; simp
    · exact e
theorem few_rev {L : Int} (bs : List Blk) : (bs.reverse.flatMap fun p => fewL p.1 p.2 L).reverse = (bs.map fun p => (fewL p.1 p.2 L).reverse).flatten := by
  induction bs with
  | nil => rfl
  | cons p bs ih => simp [List.flatMap_append, ih]
theorem few_chains {L : Int} (hL : 0 < L) : ∀ {bs : List Blk}, Val L bs → F2 (fun (p : Blk) (g : List Int) => Chn L g ∧ g.head? = some p.1 ∧ g.getLast? = some p.2) bs (bs.map fun p => (fewL p.1 p.2 L).reverse) := by
  intro bs
  induction bs with
  | nil => intro _; exact .nil
  | cons p bs ih =>
    intro h
    obtain ⟨c, e1, e2, e3⟩ := fewL_chain hL h.head
    rw [List.map_cons]
    refine .cons ?_ (ih h.tail)
    show Chn L (fewL p.1 p.2 L).reverse ∧ (fewL p.1 p.2 L).reverse.head? = some p.1 ∧ (fewL p.1 p.2 L).reverse.getLast? = some p.2
    rw [e1]
    exact ⟨e2, rfl, e3⟩
/-- descending rows whose ascending form joins to the blocks -/
theorem fill_of_chains {L : Int} (hL : 0 < L) {bs : List Blk} {gs : List (List Int)} (hv : Val L bs) (hg : ∀ p ∈ bs, 2 * L ≤ p.1) (h : F2 (fun p g => Chn L g ∧ g.head? = some p.1 ∧ g.getLast? = some p.2) bs gs) : fill gs.flatten.reverse L = some bs := by
  obtain ⟨h1, h2, h3⟩ := chains_join hL hv h
  rw [fill_desc (desc_rev h1), List.reverse_reverse, h2]
  intro l hl
  rw [List.mem_reverse] at hl
  cases bs with
  | nil => cases h; simp at hl
  | cons p bs =>
    have hp := hg p List.mem_cons_self
    cases e : gs.flatten with
    | nil => rw [e] at hl; simp at hl
    | cons u r =>
      rw [e] at hl h3 h1
      simp at h3
      rcases List.mem_cons.mp hl with rfl | hl
      · omega
      · have := (List.pairwise_cons.mp h1).1 l hl
        omega
theorem few_fill {L : Int} (hL : 0 < L) (row : List Int) : fill (few row L) L = fill row L := by
  unfold few
  cases e : fill row L with
  | none =>
    rw [fill_none] at e ⊢
    have hne : row ≠ [] := by rintro rfl; simp [lone] at e
    obtain ⟨x, hx, hx2⟩ := List.any_eq_true.mp e
    have hx2 : x < 2 * L := by simpa using hx2
    have := (minrow_mem hne).2 x hx
    simp [lone]
    omega
  | some bs =>
    have hv := fill_val (Int.le_of_lt hL) e
    have := fill_of_chains hL hv (fun p hp => (fill_ge e p hp).1) (few_chains hL hv)
    rw [← few_rev, List.reverse_reverse] at this
    exact this
theorem fewGo_short {L lo : Int} (hL : 0 < L) : ∀ (n : Nat) (h : Int) (c : List Int) (h' : Int), h ≤ h' → lo ≤ h → (h - lo).toNat ≤ n → Chn L c → c.head? = some lo → c.getLast? = some h' → (fewGo n lo L h).length ≤ c.length := by
  intro n
  induction n with
  | zero =>
    intro h c h' h1 h2 h3 hc ha hz
    cases c with
    | nil => simp at ha
    | cons u c => simp [fewGo]
  | succ n ih =>
    intro h c h' h1 h2 h3 hc ha hz
    simp only [fewGo]
    by_cases g : lo < h
    · rw [if_pos g]
      -- c = c' ++ [h'], c' not empty
      have hne : c ≠ [] := by rintro rfl; simp at ha
      obtain ⟨c', e⟩ : ∃ c', c = c' ++ [h'] := by
        refine ⟨c.dropLast, ?_⟩
        have := List.dropLast_concat_getLast hne
        rw [List.getLast?_eq_some_getLast hne] at hz
        simp at hz
        rw [← hz]
        exact this.symm
      subst e
      cases hl : c'.getLast? with
      | none =>
        rw [List.getLast?_eq_none_iff] at hl
        subst hl
        simp at ha
        omega
      | some z =>
        have hc' : ∀ (l : List Int), Chn L (l ++ [h']) → Chn L l ∧ ∀ z, l.getLast? = some z → z < h' ∧ h' - z ≤ L := by
          intro l
          induction l with
          | nil => intro _; exact ⟨trivial, by simp⟩
          | cons u l ihl =>
            intro hh
            cases l with
            | nil =>
              refine ⟨trivial, fun z hz => ?_⟩
              simp at hz
              subst hz
              exact ⟨hh.1, hh.2.1⟩
            | cons v l =>
              obtain ⟨q1, q2⟩ := ihl hh.2.2
              exact ⟨⟨hh.1, hh.2.1, q1⟩, fun z hz => q2 z (by simpa [List.getLast?_cons_cons] using hz)⟩
        obtain ⟨k1, k2⟩ := hc' c' hc
        obtain ⟨k3, k4⟩ := k2 z hl
        have ha' : c'.head? = some lo := by
          cases c' with
          | nil => simp at hl
          | cons u r => simpa using ha
        have lz := (k1.bounds ha' hl) lo (List.mem_of_mem_head? (by rw [ha']; rfl))
        have := ih (max lo (h - L)) c' z (by omega) (by omega) (by omega) k1 ha' hl
        simp
        omega
    · rw [if_neg g]
      cases c with
      | nil => simp at ha
      | cons u c => simp
theorem few_length {L : Int} (hL : 0 < L) (row : List Int) : (few row L).length ≤ row.length := by
  unfold few
  cases e : fill row L with
  | none =>
    rw [fill_none] at e
    have hne : row ≠ [] := by rintro rfl; simp [lone] at e
    cases row with
    | nil => exact absurd rfl hne
    | cons x r => simp
  | some bs =>
    have hv := fill_val (Int.le_of_lt hL) e
    rw [fill_some] at e
    obtain ⟨gs, g1, g2, g3⟩ := joinA_parts (Int.le_of_lt hL) (asc_rev (recs_desc row)) e.2
    have key : ∀ (bs : List Blk) (gs : List (List Int)), gs.length = bs.length → (∀ (i : Nat) (p : Blk) (g : List Int), bs[i]? = some p → gs[i]? = some g → Chn L g ∧ g.head? = some p.1 ∧ g.getLast? = some p.2) → Val L bs →
        (bs.reverse.flatMap fun p => fewL p.1 p.2 L).length ≤ gs.flatten.length := by
      intro bs
      induction bs with
      | nil => intros; simp
      | cons p bs ih =>
        intro gs h1 h2 hv
        cases gs with
        | nil => simp at h1
        | cons g gs =>
          have q := h2 0 p g rfl rfl
          have r := ih gs (by simpa using h1) (fun i p' g' a b => h2 (i + 1) p' g' (by simpa using a) (by simpa using b)) hv.tail
          have s := fewGo_short hL _ p.2 g p.2 (Int.le_refl _) hv.head (Nat.le_refl _) q.1 q.2.1 q.2.2
          simp [List.flatMap_append] at r ⊢
          unfold fewL
          unfold fewL at r
          omega
    have := key bs gs g2 g3 hv
    rw [g1] at this
    have l2 := recs_length row
    simp at this ⊢
    omega
theorem fewGo_mem {L lo : Int} (hL : 0 < L) : ∀ (n : Nat) (h : Int), lo ≤ h → ∀ x ∈ fewGo n lo L h, lo ≤ x ∧ x ≤ h := by
  intro n
  induction n with
  | zero => intro h h1 x hx; simp [fewGo] at hx; omega
  | succ n ih =>
    intro h h1 x hx
    simp only [fewGo] at hx
    split at hx
    · rcases List.mem_cons.mp hx with rfl | hx
      · omega
      · have := ih (max lo (h - L)) (by omega) x hx
        omega
    · simp at hx; omega
/-- the few limits lie within the row's own -/
theorem few_bound {L : Int} (hL : 0 < L) {row : List Int} {a b : Int} (h : ∀ x ∈ row, a ≤ x ∧ x ≤ b) : ∀ x ∈ few row L, a ≤ x ∧ x ≤ b := by
  unfold few
  cases e : fill row L with
  | none =>
    rw [fill_none] at e
    have hne : row ≠ [] := by rintro rfl; simp [lone] at e
    intro x hx
    simp at hx
    subst hx
    exact h _ (minrow_mem hne).1
  | some bs =>
    have hv := fill_val (Int.le_of_lt hL) e
    intro x hx
    simp only [List.mem_flatMap, List.mem_reverse] at hx
    obtain ⟨p, hp, hx⟩ := hx
    have he := fill_ends e p hp
    have := fewGo_mem hL _ p.2 (hv.each p hp) x hx
    have h1 := h _ he.1
    have h2 := h _ he.2
    omega
end CK
end M2x
section M3x
set_option Elab.async false
set_option linter.all false
/-! What hops make of batches, plain. -/
namespace CK
def cutGo (l : Int) : List Int → Int → List Int → List (List Int)
  | cur, _, [] => [cur]
  | cur, t, y :: ys => if l < t + y then cur :: cutGo l [y] y ys else cutGo l (cur ++ [y]) (t + y) ys
def cut1 (l : Int) : List Int → List (List Int)
  | [] => []
  | x :: xs => cutGo l [x] x xs
def partsM (row b : List Int) : List (List Int) := row.foldl (fun ps l => ps.flatMap (cut1 l)) [b]
def passM (row : List Int) (st : List (List Int)) : List (List Int) := st.flatMap (partsM row)
/-- places -/
def hopGo (l t p : Int) : List Int → List Int
  | [] => []
  | y :: ys => if l < t + y then p :: hopGo l y (p + 1) ys else hopGo l (t + y) (p + 1) ys
def endsOf (s : Int) : List (List Int) → List Int
  | [] => []
  | [_] => []
  | p :: q :: r => (s + p.length) :: endsOf (s + p.length) (q :: r)
def segs (s : Int) : List (List Int) → List (Int × Int)
  | [] => []
  | p :: r => (s, s + p.length) :: segs (s + p.length) r
theorem cutGo_flat (l : Int) (xs : List Int) : ∀ cur t, (cutGo l cur t xs).flatten = cur ++ xs := by
  induction xs with
  | nil => intros; simp [cutGo]
  | cons y ys ih =>
    intro cur t
    simp only [cutGo]
    split <;> simp [ih]
theorem cutGo_ne (l : Int) (xs : List Int) : ∀ cur t, cur ≠ [] → ∀ p ∈ cutGo l cur t xs, p ≠ [] := by
  induction xs with
  | nil => intro cur t h p hp; simp [cutGo] at hp; rw [hp]; exact h
  | cons y ys ih =>
    intro cur t h p hp
    simp only [cutGo] at hp
    split at hp
    · rcases List.mem_cons.mp hp with rfl | hp
      · exact h
      · exact ih _ _ (by simp) p hp
    · exact ih _ _ (by simp) p hp
theorem cutGo_some (l : Int) (xs : List Int) : ∀ cur t, cutGo l cur t xs ≠ [] := by
  induction xs with
  | nil => intros; simp [cutGo]
  | cons y ys ih =>
    intro cur t
    simp only [cutGo]
    split
    · simp
    · exact ih _ _
theorem cut1_flat (l : Int) (b : List Int) : (cut1 l b).flatten = b := by
  cases b with
  | nil => rfl
  | cons x xs => exact cutGo_flat l xs [x] x
theorem cut1_ne {l : Int} {b p : List Int} (h : p ∈ cut1 l b) : p ≠ [] := by
  cases b with
  | nil => simp [cut1] at h
  | cons x xs => exact cutGo_ne l xs [x] x (by simp) p h
theorem cut1_some {l : Int} {b : List Int} (h : b ≠ []) : cut1 l b ≠ [] := by
  cases b with
  | nil => exact absurd rfl h
  | cons x xs => exact cutGo_some l xs [x] x
/-- each part is small enough, or one item -/
theorem cutGo_fit (l : Int) (xs : List Int) : ∀ cur t, cur.sum = t → (cur.length = 1 ∨ t ≤ l) → ∀ p ∈ cutGo l cur t xs, p.length = 1 ∨ p.sum ≤ l := by
  induction xs with
  | nil => intro cur t h1 h2 p hp; simp [cutGo] at hp; rw [hp, h1]; exact h2
  | cons y ys ih =>
    intro cur t h1 h2 p hp
    simp only [cutGo] at hp
    split at hp
    · rcases List.mem_cons.mp hp with rfl | hp
      · rw [h1]; exact h2
      · exact ih [y] y (by simp) (.inl rfl) p hp
    · exact ih (cur ++ [y]) (t + y) (by simp [h1]) (.inr (by omega)) p hp
theorem cut1_fit {l : Int} {b p : List Int} (h : p ∈ cut1 l b) : p.length = 1 ∨ p.sum ≤ l := by
  cases b with
  | nil => simp [cut1] at h
  | cons x xs => exact cutGo_fit l xs [x] x (by simp) (.inl rfl) p h
/-- a batch that is small enough is left whole -/
theorem sum_nonneg {l : List Int} (h : ∀ x ∈ l, 0 ≤ x) : 0 ≤ l.sum := by
  induction l with
  | nil => simp
  | cons x r ih =>
    have := ih fun y hy => h y (List.mem_cons_of_mem _ hy)
    have := h x List.mem_cons_self
    simp; omega
theorem cutGo_whole (l : Int) (xs : List Int) (hx : ∀ x ∈ xs, 0 ≤ x) : ∀ cur t, t + xs.sum ≤ l → cutGo l cur t xs = [cur ++ xs] := by
  induction xs with
  | nil => intros; simp [cutGo]
  | cons y ys ih =>
    intro cur t h
    simp only [cutGo]
    have := sum_nonneg (l := ys) fun z hz => hx z (List.mem_cons_of_mem _ hz)
    simp at h
    rw [if_neg (by omega), ih (fun z hz => hx z (List.mem_cons_of_mem _ hz)) _ _ (by omega)]
    simp
theorem cut1_whole {l : Int} {b : List Int} (hb : b ≠ []) (h0 : ∀ x ∈ b, 0 ≤ x) (h : b.length = 1 ∨ b.sum ≤ l) : cut1 l b = [b] := by
  cases b with
  | nil => exact absurd rfl hb
  | cons x xs =>
    rcases h with h | h
    · have : xs = [] := by simpa using h
      subst this
      rfl
    · have := cutGo_whole l xs (fun z hz => h0 z (List.mem_cons_of_mem _ hz)) [x] x (by simpa using h)
      simpa [cut1] using this
/-! ### behind all hops -/
theorem flatMap_flat {α : Type} (f : List α → List (List α)) (hf : ∀ p, (f p).flatten = p) (ps : List (List α)) : (ps.flatMap f).flatten = ps.flatten := by
  induction ps with
  | nil => rfl
  | cons p ps ih => simp [ih, hf]
theorem parts_go (row : List Int) : ∀ ps : List (List Int), (row.foldl (fun ps l => ps.flatMap (cut1 l)) ps).flatten = ps.flatten ∧ ((∀ p ∈ ps, p ≠ []) → ∀ p ∈ row.foldl (fun ps l => ps.flatMap (cut1 l)) ps, p ≠ []) := by
  induction row with
  | nil => intro ps; exact ⟨rfl, fun h => h⟩
  | cons l row ih =>
    intro ps
    simp only [List.foldl_cons]
    obtain ⟨i1, i2⟩ := ih (ps.flatMap (cut1 l))
    refine ⟨i1.trans (flatMap_flat _ (cut1_flat l) ps), fun _ => i2 fun p hp => ?_⟩
    obtain ⟨q, _, hq⟩ := List.mem_flatMap.mp hp
    exact cut1_ne hq
theorem parts_flat (row b : List Int) : (partsM row b).flatten = b := by
  have := (parts_go row [b]).1
  simpa [partsM] using this
theorem parts_ne {row b : List Int} (hb : b ≠ []) : ∀ p ∈ partsM row b, p ≠ [] := (parts_go row [b]).2 (by simpa using hb)
theorem parts_nil {row : List Int} {b : List Int} (hb : b ≠ []) : partsM row b ≠ [] := by
  intro e
  have := parts_flat row b
  rw [e] at this
  exact hb (by simpa using this.symm)
theorem parts_snoc (row : List Int) (l : Int) (b : List Int) : partsM (row ++ [l]) b = (partsM row b).flatMap (cut1 l) := by
  simp [partsM, List.foldl_append]
theorem mem_sum_le {ps : List (List Int)} {p : List Int} (h : p ∈ ps) (h0 : ∀ x ∈ ps.flatten, 0 ≤ x) : p.sum ≤ ps.flatten.sum := by
  induction ps with
  | nil => simp at h
  | cons q ps ih =>
    simp only [List.flatten_cons, List.sum_append]
    have hq := sum_nonneg (l := q) fun x hx => h0 x (by simp [hx])
    have hr := sum_nonneg (l := ps.flatten) fun x hx => h0 x (by simp only [List.flatten_cons, List.mem_append]; exact .inr hx)
    rcases List.mem_cons.mp h with rfl | h
    · omega
    · have := ih h fun x hx => h0 x (by simp only [List.flatten_cons, List.mem_append]; exact .inr hx)
      omega
/-- each part behind the row fits each of its limits -/
theorem parts_fit (row : List Int) : ∀ b : List Int, (∀ x ∈ b, 0 ≤ x) → ∀ p ∈ partsM row b, ∀ l ∈ row, p.length = 1 ∨ p.sum ≤ l := by
  intro b hb
  -- by the row from behind
  have go : ∀ (r : List Int) (n : Nat), r.length = n → ∀ p ∈ partsM r b, ∀ l ∈ r, p.length = 1 ∨ p.sum ≤ l := by
    intro r n
    induction n generalizing r with
    | zero =>
      intro h p _ l hl
      have : r = [] := List.length_eq_zero_iff.mp h
      subst this
      simp at hl
    | succ n ih =>
      intro h p hp l hl
      have hne : r ≠ [] := by rintro rfl; simp at h
      have e := List.dropLast_concat_getLast hne
      rw [← e, parts_snoc] at hp
      obtain ⟨q, hq, hpq⟩ := List.mem_flatMap.mp hp
      rw [← e] at hl
      rcases List.mem_append.mp hl with hl | hl
      · have h2 := ih r.dropLast (by simp [h]) q hq l hl
        have nn : ∀ x ∈ q, 0 ≤ x := fun x hx => hb x (by
          rw [← parts_flat r.dropLast b]
          exact List.mem_flatten.mpr ⟨q, hq, hx⟩)
        rcases h2 with h2 | h2
        · have : cut1 (r.getLast hne) q = [q] := cut1_whole (by rintro rfl; simp at h2) nn (.inl h2)
          rw [this] at hpq
          simp at hpq
          exact .inl (by rw [hpq]; exact h2)
        · have e2 := cut1_flat (r.getLast hne) q
          have := mem_sum_le hpq (by rw [e2]; exact nn)
          rw [e2] at this
          exact .inr (by omega)
      · simp at hl
        subst hl
        exact cut1_fit hpq
  exact go row _ rfl
/-- parts are not cut again -/
theorem parts_again {row b : List Int} (hb : b ≠ []) (h0 : ∀ x ∈ b, 0 ≤ x) : ∀ p ∈ partsM row b, partsM row p = [p] := by
  intro p hp
  have hne := parts_ne hb p hp
  have nn : ∀ x ∈ p, 0 ≤ x := fun x hx => h0 x (by
    rw [← parts_flat row b]
    exact List.mem_flatten.mpr ⟨p, hp, hx⟩)
  have hf := parts_fit row b h0 p hp
  have go : ∀ r : List Int, (∀ l ∈ r, p.length = 1 ∨ p.sum ≤ l) → r.foldl (fun ps l => ps.flatMap (cut1 l)) [p] = [p] := by
    intro r
    induction r with
    | nil => intro _; rfl
    | cons l r ih =>
      intro h
      simp only [List.foldl_cons, List.flatMap_cons, List.flatMap_nil, List.append_nil]
      rw [cut1_whole hne nn (h l List.mem_cons_self)]
      exact ih fun l hl => h l (List.mem_cons_of_mem _ hl)
  exact go row hf
theorem pass_again {row : List Int} {st : List (List Int)} (hb : ∀ b ∈ st, b ≠ [] ∧ ∀ x ∈ b, 0 ≤ x) : passM row (passM row st) = passM row st := by
  have go : ∀ ps : List (List Int), (∀ p ∈ ps, partsM row p = [p]) → passM row ps = ps := by
    intro ps
    induction ps with
    | nil => intro _; rfl
    | cons p ps ih =>
      intro h
      show partsM row p ++ passM row ps = p :: ps
      rw [h p List.mem_cons_self, ih fun q hq => h q (List.mem_cons_of_mem _ hq)]
      rfl
  refine go _ fun p hp => ?_
  obtain ⟨b, hb1, hp⟩ := List.mem_flatMap.mp hp
  exact parts_again (hb b hb1).1 (hb b hb1).2 p hp
/-! ### places and parts -/
theorem hop_ends (l : Int) (xs : List Int) : ∀ (s : Int) (cur : List Int) (t : Int), hopGo l t (s + cur.length) xs = endsOf s (cutGo l cur t xs) := by
  induction xs with
  | nil => intros; simp [hopGo, cutGo, endsOf]
  | cons y ys ih =>
    intro s cur t
    simp only [hopGo, cutGo]
    split
    · have i := ih (s + cur.length) [y] y
      obtain ⟨q, r, e⟩ : ∃ q r, cutGo l [y] y ys = q :: r := by
        cases e : cutGo l [y] y ys with
        | nil => exact absurd e (cutGo_some l ys [y] y)
        | cons q r => exact ⟨q, r, rfl⟩
      rw [e] at i ⊢
      simp only [endsOf]
      rw [← i]
      simp
    · have i := ih s (cur ++ [y]) (t + y)
      rw [← i]
      simp [Int.add_assoc]
/-- a hop's places of the items from s on -/
def hopP (l s : Int) : List Int → List Int
  | [] => []
  | x :: xs => hopGo l x (s + 1) xs
theorem hopP_ends (l s : Int) (b : List Int) : hopP l s b = endsOf s (cut1 l b) := by
  cases b with
  | nil => rfl
  | cons x xs => exact hop_ends l xs s [x] x
theorem endsOf_append (s : Int) : ∀ (a b : List (List Int)), a ≠ [] → b ≠ [] → endsOf s (a ++ b) = endsOf s a ++ (s + a.flatten.length) :: endsOf (s + a.flatten.length) b := by
  intro a
  induction a generalizing s with
  | nil => intro b h; exact absurd rfl h
  | cons p a ih =>
    intro b _ hb
    cases a with
    | nil =>
      cases b with
      | nil => exact absurd rfl hb
      | cons q r => simp [endsOf]
    | cons q a =>
      have := ih (s + p.length) b (by simp) hb
      simp only [List.cons_append] at this ⊢
      simp only [endsOf, this, List.flatten_cons, List.length_append]
      simp only [List.cons_append, List.cons.injEq, true_and]
      have e : s + ↑p.length + ↑(q.length + a.flatten.length) = s + ↑(p.length + (q.length + a.flatten.length)) := by omega
      rw [e]
/-- the new places of a hop -/
def newP (l s : Int) : List (List Int) → List Int
  | [] => []
  | p :: r => hopP l s p ++ newP l (s + p.length) r
theorem newP_perm (l : Int) : ∀ (ps : List (List Int)) (s : Int), (∀ p ∈ ps, p ≠ []) → (endsOf s (ps.flatMap (cut1 l))).Perm (endsOf s ps ++ newP l s ps) := by
  intro ps
  induction ps with
  | nil => intros; exact .refl _
  | cons p ps ih =>
    intro s h
    have hp := h p List.mem_cons_self
    have i := ih (s + p.length) fun q hq => h q (List.mem_cons_of_mem _ hq)
    simp only [List.flatMap_cons, newP, hopP_ends]
    cases ps with
    | nil => simp [endsOf, newP]
    | cons q r =>
      have hq := h q (by simp)
      rw [endsOf_append s (cut1 l p) _ (cut1_some hp) (by
        simp only [List.flatMap_cons]
        intro e
        exact cut1_some hq (List.append_eq_nil_iff.mp e).1), cut1_flat]
      simp only [endsOf]
      refine List.Perm.trans (List.Perm.append_left _ (List.Perm.cons _ i)) ?_
      refine List.perm_append_comm.trans ?_
      simp only [List.cons_append, List.append_assoc]
      exact List.Perm.cons _ (List.Perm.append_left _ List.perm_append_comm)
theorem endsOf_lb : ∀ (ps : List (List Int)) (s : Int), (∀ p ∈ ps, p ≠ []) → ∀ x ∈ endsOf s ps, s < x := by
  intro ps
  induction ps with
  | nil => intro s _ x hx; simp [endsOf] at hx
  | cons p ps ih =>
    intro s h x hx
    cases ps with
    | nil => simp [endsOf] at hx
    | cons q r =>
      have hp : p.length ≠ 0 := fun e => h p List.mem_cons_self (List.length_eq_zero_iff.mp e)
      simp only [endsOf] at hx
      rcases List.mem_cons.mp hx with rfl | hx
      · omega
      · have := ih (s + p.length) (fun q hq => h q (List.mem_cons_of_mem _ hq)) x hx
        omega
theorem endsOf_asc : ∀ (ps : List (List Int)) (s : Int), (∀ p ∈ ps, p ≠ []) → Asc (endsOf s ps) := by
  intro ps
  induction ps with
  | nil => intros; exact List.Pairwise.nil
  | cons p ps ih =>
    intro s h
    cases ps with
    | nil => exact List.Pairwise.nil
    | cons q r =>
      have h2 : ∀ q' ∈ q :: r, q' ≠ [] := fun q' hq => h q' (List.mem_cons_of_mem _ hq)
      simp only [endsOf]
      exact List.pairwise_cons.mpr ⟨fun x hx => endsOf_lb (q :: r) _ h2 x hx, ih _ h2⟩
theorem endsOf_length : ∀ (ps : List (List Int)) (s : Int), (endsOf s ps).length = ps.length - 1 := by
  intro ps
  induction ps with
  | nil => intro s; rfl
  | cons p ps ih =>
    intro s
    cases ps with
    | nil => rfl
    | cons q r => simp only [endsOf, List.length_cons, ih]; simp
/-- the pairs of neighbouring places -/
theorem segs_zip : ∀ (ps : List (List Int)) (s : Int), ps ≠ [] → List.zip (s :: endsOf s ps) (endsOf s ps ++ [s + (ps.flatten.length : Int)]) = segs s ps := by
  intro ps
  induction ps with
  | nil => intro s h; exact absurd rfl h
  | cons p ps ih =>
    intro s _
    cases ps with
    | nil => simp [endsOf, segs]
    | cons q r =>
      have i := ih (s + p.length) (by simp)
      simp only [endsOf, segs, List.cons_append, List.zip_cons_cons]
      refine congrArg _ ?_
      rw [← segs.eq_2, ← i]
      have e : s + ↑p.length + (((q :: r).flatten.length : Nat) : Int) = s + (((p :: q :: r).flatten.length : Nat) : Int) := by
        simp only [List.flatten_cons, List.length_append]; omega
      rw [e]
theorem segs_get : ∀ (ps : List (List Int)) (s : Int) (i : Nat) (p : List Int), ps[i]? = some p → ∃ a : Nat, (segs s ps)[i]? = some (s + a, s + a + p.length) ∧ (ps.flatten.take (a + p.length)).drop a = p ∧ a + p.length ≤ ps.flatten.length := by
  intro ps
  induction ps with
  | nil => intro s i p h; simp at h
  | cons q ps ih =>
    intro s i p h
    cases i with
    | zero =>
      simp at h
      subst h
      refine ⟨0, by simp [segs], by simp, by simp⟩
    | succ i =>
      obtain ⟨a, h1, h2, h3⟩ := ih (s + q.length) i p (by simpa using h)
      refine ⟨q.length + a, ?_, ?_, ?_⟩
      · simp only [segs, List.getElem?_cons_succ, h1]
        simp; omega
      · simp only [List.flatten_cons]
        rw [List.take_append, List.drop_append]
        have e1 : q.length + a + p.length - q.length = a + p.length := by omega
        have e2 : List.drop (q.length + a) (List.take (q.length + a + p.length) q) = [] := by
          apply List.drop_eq_nil_of_le
          simp; omega
        rw [e1, e2, List.take_of_length_le (by omega)]
        simp [h2]
      · simp only [List.flatten_cons, List.length_append]; omega
theorem segs_length (ps : List (List Int)) : ∀ s, (segs s ps).length = ps.length := by
  induction ps with
  | nil => intro s; rfl
  | cons p ps ih => intro s; simp [segs, ih]
end CK
end M3x
section M4x
set_option Elab.async false
set_option linter.all false
/-! Answers: how many parts the tests have, by the filling; items that part two rows. -/
namespace CK
/-! ### how many parts -/
theorem singles_stay (row : List Int) : ∀ ps : List (List Int), (∀ p ∈ ps, p.length = 1) → row.foldl (fun ps l => ps.flatMap (cut1 l)) ps = ps := by
  have one : ∀ (l : Int) (ps : List (List Int)), (∀ p ∈ ps, p.length = 1) → ps.flatMap (cut1 l) = ps := by
    intro l ps
    induction ps with
    | nil => intro _; rfl
    | cons p ps ih =>
      intro h
      obtain ⟨x, rfl⟩ := List.length_eq_one_iff.mp (h p List.mem_cons_self)
      rw [List.flatMap_cons, ih fun q hq => h q (List.mem_cons_of_mem _ hq)]
      rfl
  induction row with
  | nil => intros; rfl
  | cons l row ih =>
    intro ps h
    rw [List.foldl_cons, one l ps h]
    exact ih ps h
theorem parts_two (row : List Int) (a b : Int) : (partsM row [a, b]).length = if row.any (fun l => decide (l < a + b)) then 2 else 1 := by
  unfold partsM
  induction row with
  | nil => rfl
  | cons l row ih =>
    simp only [List.foldl_cons, List.flatMap_cons, List.flatMap_nil, List.append_nil, List.any_cons]
    by_cases h : l < a + b
    · have : cut1 l [a, b] = [[a], [b]] := by simp [cut1, cutGo, h]
      rw [this, singles_stay row _ (by simp)]
      simp [h]
    · have : cut1 l [a, b] = [[a, b]] := by simp [cut1, cutGo, h]
      rw [this, ih]
      simp [h]
theorem cut1_small {L l : Int} (hl : l < 2 * L) : ∀ b : List Int, (∀ x ∈ b, L ≤ x) → cut1 l b = b.map fun x => [x] := by
  have go : ∀ (xs : List Int) (x : Int), L ≤ x → (∀ y ∈ xs, L ≤ y) → cutGo l [x] x xs = (x :: xs).map fun x => [x] := by
    intro xs
    induction xs with
    | nil => intros; rfl
    | cons y ys ih =>
      intro x hx h
      have hy := h y List.mem_cons_self
      simp only [cutGo]
      rw [if_pos (by omega), ih y hy fun z hz => h z (List.mem_cons_of_mem _ hz)]
      rfl
  intro b h
  cases b with
  | nil => rfl
  | cons x xs => exact go xs x (h x List.mem_cons_self) fun y hy => h y (List.mem_cons_of_mem _ hy)
theorem parts_lone {row b : List Int} {L : Int} (hr : lone row L = true) (hb : ∀ x ∈ b, L ≤ x) : partsM row b = b.map fun x => [x] := by
  have go : ∀ (r : List Int) (ps : List (List Int)), lone r L = true → (∀ x ∈ ps.flatten, L ≤ x) → r.foldl (fun ps l => ps.flatMap (cut1 l)) ps = ps.flatten.map fun x => [x] := by
    intro r
    induction r with
    | nil => intro ps h; simp [lone] at h
    | cons l r ih =>
      intro ps h h2
      rw [List.foldl_cons]
      have ef := flatMap_flat _ (cut1_flat l) ps
      by_cases hl : l < 2 * L
      · have : ps.flatMap (cut1 l) = ps.flatten.map fun x => [x] := by
          clear ih ef
          induction ps with
          | nil => rfl
          | cons p ps ih =>
            rw [List.flatMap_cons, cut1_small hl p fun x hx => h2 x (by simp [hx]), ih fun x hx => h2 x (by simp only [List.flatten_cons, List.mem_append]; exact .inr hx)]
            simp
        rw [this, singles_stay]
        intro p hp
        obtain ⟨x, _, rfl⟩ := List.mem_map.mp hp
        rfl
      · have h3 : lone r L = true := by
          simp only [lone, List.any_cons, Bool.or_eq_true, decide_eq_true_eq] at h
          rcases h with h | h
          · exact absurd h hl
          · exact h
        have := ih (ps.flatMap (cut1 l)) h3 (by rw [ef]; exact h2)
        rw [this, ef]
  have := go row [b] hr (by simpa using hb)
  simpa [partsM] using this
def n3 (s L : Int) : List Int → Nat
  | [] => 1
  | l :: r => if l < s then 2 else if l < s + L then (if r.any (fun x => decide (x < s)) then 3 else 2) else n3 s L r
theorem parts_three {row : List Int} {a L : Int} (h : ∀ l ∈ row, 2 * L ≤ l) : (partsM row [a, L, L]).length = n3 (a + L) L row := by
  have A : ∀ r : List Int, (∀ l ∈ r, 2 * L ≤ l) → r.foldl (fun ps l => ps.flatMap (cut1 l)) [[a], [L, L]] = [[a], [L, L]] := by
    intro r
    induction r with
    | nil => intro _; rfl
    | cons l r ih =>
      intro h
      have hl := h l List.mem_cons_self
      have e1 : cut1 l [a] = [[a]] := rfl
      have e2 : cut1 l [L, L] = [[L, L]] := by simp only [cut1, cutGo]; rw [if_neg (by omega)]; rfl
      simp only [List.foldl_cons, List.flatMap_cons, List.flatMap_nil, List.append_nil, e1, e2]
      exact ih fun l hl => h l (List.mem_cons_of_mem _ hl)
  have B : ∀ r : List Int, (r.foldl (fun ps l => ps.flatMap (cut1 l)) [[a, L], [L]]).length = if r.any (fun x => decide (x < a + L)) then 3 else 2 := by
    intro r
    induction r with
    | nil => rfl
    | cons l r ih =>
      have e1 : cut1 l [L] = [[L]] := rfl
      simp only [List.foldl_cons, List.flatMap_cons, List.flatMap_nil, List.append_nil, e1, List.any_cons]
      by_cases hl : l < a + L
      · have e2 : cut1 l [a, L] = [[a], [L]] := by simp [cut1, cutGo, hl]
        rw [e2, singles_stay r _ (by simp)]
        simp [hl]
      · have e2 : cut1 l [a, L] = [[a, L]] := by simp [cut1, cutGo, hl]
        rw [e2]
        simp only [List.cons_append, List.nil_append]
        rw [ih]
        simp [hl]
  unfold partsM
  induction row with
  | nil => rfl
  | cons l row ih =>
    have hl := h l List.mem_cons_self
    have hr := fun x hx => h x (List.mem_cons_of_mem _ hx)
    simp only [List.foldl_cons, List.flatMap_cons, List.flatMap_nil, List.append_nil, n3]
    by_cases c1 : l < a + L
    · have e : cut1 l [a, L, L] = [[a], [L, L]] := by
        simp only [cut1, cutGo]
        rw [if_pos c1, if_neg (by omega)]
        rfl
      rw [e, A row hr, if_pos c1]
      rfl
    · rw [if_neg c1]
      by_cases c2 : l < a + L + L
      · have e : cut1 l [a, L, L] = [[a, L], [L]] := by
          simp only [cut1, cutGo]
          rw [if_neg c1, if_pos c2]
          rfl
        rw [e, B row, if_pos c2]
      · have e : cut1 l [a, L, L] = [[a, L, L]] := by
          simp only [cut1, cutGo]
          rw [if_neg c1, if_neg c2]
          rfl
        rw [e, if_neg c2]
        exact ih hr
theorem mem_recGo (r : List Int) : ∀ (m y : Int), y ∈ recGo m r ↔ y ∈ recs r ∧ y < m := by
  induction r with
  | nil => intro m y; simp [recGo, recs_nil]
  | cons x r ih =>
    intro m y
    rw [recs_cons]
    simp only [recGo]
    split
    · constructor
      · intro h
        refine ⟨h, ?_⟩
        rcases List.mem_cons.mp h with rfl | h
        · assumption
        · have := ((ih x y).mp h).2; omega
      · exact fun h => h.1
    · rw [ih m y, List.mem_cons, ih x y]
      constructor
      · rintro ⟨h1, h2⟩
        exact ⟨.inr ⟨h1, by omega⟩, h2⟩
      · rintro ⟨h1 | h1, h2⟩
        · omega
        · exact ⟨h1.1, h2⟩
theorem n3_three {s L : Int} (hL : 0 < L) (row : List Int) : n3 s L row = 3 ↔ (∃ r ∈ recs row, s ≤ r ∧ r < s + L) ∧ ∃ x ∈ row, x < s := by
  induction row with
  | nil => simp [n3]
  | cons l row ih =>
    simp only [n3]
    rw [recs_cons]
    by_cases c1 : l < s
    · rw [if_pos c1]
      constructor
      · intro h; simp at h
      · rintro ⟨⟨r, hr, h1, h2⟩, _⟩
        rcases List.mem_cons.mp hr with rfl | hr
        · omega
        · have := ((mem_recGo _ _ _).mp hr).2; omega
    · rw [if_neg c1]
      by_cases c2 : l < s + L
      · rw [if_pos c2]
        by_cases c3 : row.any (fun x => decide (x < s)) = true
        · rw [if_pos c3]
          obtain ⟨x, hx, hx2⟩ := List.any_eq_true.mp c3
          simp only [true_iff]
          exact ⟨⟨l, List.mem_cons_self, by omega, c2⟩, x, List.mem_cons_of_mem _ hx, by simpa using hx2⟩
        · rw [if_neg c3]
          constructor
          · intro h; simp at h
          · rintro ⟨_, x, hx, h⟩
            rcases List.mem_cons.mp hx with rfl | hx
            · exact absurd h c1
            · exact absurd (List.any_eq_true.mpr ⟨x, hx, by simpa using h⟩) c3
      · rw [if_neg c2, ih]
        constructor
        · rintro ⟨⟨r, hr, h1, h2⟩, x, hx, h3⟩
          exact ⟨⟨r, List.mem_cons_of_mem _ ((mem_recGo _ _ _).mpr ⟨hr, by omega⟩), h1, h2⟩, x, List.mem_cons_of_mem _ hx, h3⟩
        · rintro ⟨⟨r, hr, h1, h2⟩, x, hx, h3⟩
          refine ⟨⟨r, ?_, h1, h2⟩, x, ?_, h3⟩
          · rcases List.mem_cons.mp hr with rfl | hr
            · omega
            · exact ((mem_recGo _ _ _).mp hr).1
          · rcases List.mem_cons.mp hx with rfl | hx
            · omega
            · exact hx
theorem n3_one {s L : Int} (hL : 0 < L) (row : List Int) : n3 s L row = 1 ↔ ∀ x ∈ row, s + L ≤ x := by
  induction row with
  | nil => simp [n3]
  | cons l row ih =>
    simp only [n3]
    by_cases c1 : l < s
    · rw [if_pos c1]
      simp
      intro h; omega
    · rw [if_neg c1]
      by_cases c2 : l < s + L
      · rw [if_pos c2]
        constructor
        · intro h; split at h <;> simp at h
        · intro h; have := h l List.mem_cons_self; omega
      · rw [if_neg c2, ih]
        simp
        omega
theorem n3_any {s L : Int} (row : List Int) : n3 s L row = 1 ∨ n3 s L row = 2 ∨ n3 s L row = 3 := by
  induction row with
  | nil => simp [n3]
  | cons l row ih =>
    simp only [n3]
    split
    · simp
    · split
      · split <;> simp
      · exact ih
/-! ### by the filling -/
theorem low_fill {row : List Int} {L : Int} {bs : List Blk} (h : fill row L = some bs) (t : Int) : (∃ x ∈ row, x < t) ↔ ∃ n, inB bs n ∧ n < t := by
  rw [fill_some] at h
  have ha := asc_rev (recs_desc row)
  constructor
  · rintro ⟨x, hx, h1⟩
    obtain ⟨y, hy, h2⟩ := recs_low hx
    exact ⟨y, h.2 ▸ joinA_in ha (by simpa using hy), by omega⟩
  · rintro ⟨n, hn, h1⟩
    rw [← h.2] at hn
    rcases joinA_out ha hn with h2 | ⟨v, w, h2, _, h3, _⟩
    · exact ⟨n, recs_mem (by simpa using h2), h1⟩
    · exact ⟨v, recs_mem (by simpa using h2), by omega⟩
theorem win_fill {row : List Int} {L : Int} {bs : List Blk} (h : fill row L = some bs) (s : Int) (hs : ∃ x ∈ row, x < s) : (∃ r ∈ recs row, s ≤ r ∧ r < s + L) ↔ ∃ n, inB bs n ∧ s ≤ n ∧ n < s + L := by
  rw [fill_some] at h
  have ha := asc_rev (recs_desc row)
  constructor
  · rintro ⟨x, hx, h1⟩
    exact ⟨x, h.2 ▸ joinA_in ha (by simpa using hx), h1⟩
  · rintro ⟨n, hn, h1, h2⟩
    rw [← h.2] at hn
    rcases joinA_out ha hn with h3 | ⟨v, w, h3, h4, h5, h6, h7⟩
    · exact ⟨n, by simpa using h3, h1, h2⟩
    · by_cases c : w < s + L
      · exact ⟨w, by simpa using h4, by omega, c⟩
      · exact ⟨v, by simpa using h3, by omega, by omega⟩
/-- three parts, one part of a test of three items, by the numbers -/
theorem three_fill {row : List Int} {L : Int} {bs : List Blk} (hL : 0 < L) (h : fill row L = some bs) (a : Int) : (partsM row [a, L, L]).length = 3 ↔ (∃ n, inB bs n ∧ a + L ≤ n ∧ n < a + L + L) ∧ ∃ n, inB bs n ∧ n < a + L := by
  have hl := lone_false.mp (fill_some.mp h).1
  rw [parts_three hl, n3_three hL]
  constructor
  · rintro ⟨h1, h2⟩
    exact ⟨(win_fill h _ h2).mp h1, (low_fill h _).mp h2⟩
  · rintro ⟨h1, h2⟩
    have h3 := (low_fill h _).mpr h2
    exact ⟨(win_fill h _ h3).mpr h1, h3⟩
theorem one_fill {row : List Int} {L : Int} {bs : List Blk} (hL : 0 < L) (h : fill row L = some bs) (a : Int) : (partsM row [a, L, L]).length = 1 ↔ ∀ n, inB bs n → a + L + L ≤ n := by
  have hl := lone_false.mp (fill_some.mp h).1
  rw [parts_three hl, n3_one hL]
  constructor
  · intro h1 n hn
    have : ¬ n < a + L + L := fun lt => by
      obtain ⟨x, hx, h2⟩ := (low_fill h _).mpr ⟨n, hn, lt⟩
      have := h1 x hx
      omega
    omega
  · intro h1 x hx
    have : ¬ x < a + L + L := fun lt => by
      obtain ⟨n, hn, h2⟩ := (low_fill h _).mp ⟨x, hx, lt⟩
      have := h1 n hn
      omega
    omega
theorem three_any {row : List Int} {L : Int} {bs : List Blk} (h : fill row L = some bs) (a : Int) : (partsM row [a, L, L]).length = 1 ∨ (partsM row [a, L, L]).length = 2 ∨ (partsM row [a, L, L]).length = 3 := by
  have hl := lone_false.mp (fill_some.mp h).1
  rw [parts_three hl]
  exact n3_any row
theorem two_fill {row : List Int} {L : Int} {bs : List Blk} (h : fill row L = some bs) (a b : Int) : (partsM row [a, b]).length = 2 ↔ ∃ n, inB bs n ∧ n < a + b := by
  rw [parts_two, ← low_fill h]
  by_cases c : row.any (fun l => decide (l < a + b)) = true
  · rw [if_pos c]
    obtain ⟨x, hx, hx2⟩ := List.any_eq_true.mp c
    simp only [true_iff]
    exact ⟨x, hx, by simpa using hx2⟩
  · rw [if_neg c]
    constructor
    · intro h; simp at h
    · rintro ⟨x, hx, h⟩
      exact absurd (List.any_eq_true.mpr ⟨x, hx, by simpa using h⟩) c
theorem two_any (row : List Int) (a b : Int) : (partsM row [a, b]).length = 1 ∨ (partsM row [a, b]).length = 2 := by
  rw [parts_two]; split <;> simp
/-- rows of one filling answer the tests alike -/
theorem same_two {row other : List Int} {L a : Int} (hL : 0 < L) (ha : L ≤ a) (h : fill row L = fill other L) : (partsM row [a, L]).length = (partsM other [a, L]).length := by
  cases e : fill row L with
  | none =>
    have e2 := h ▸ e
    rw [fill_none] at e e2
    rw [parts_lone e (by simp; omega), parts_lone e2 (by simp; omega)]
  | some bs =>
    have e2 := h ▸ e
    have p := two_fill e a L
    have q := two_fill e2 a L
    have pq := p.trans q.symm
    have r1 := two_any row a L
    have r2 := two_any other a L
    omega
theorem same_three {row other : List Int} {L a : Int} (hL : 0 < L) (ha : L ≤ a) (h : fill row L = fill other L) : (partsM row [a, L, L]).length = (partsM other [a, L, L]).length := by
  cases e : fill row L with
  | none =>
    have e2 := h ▸ e
    rw [fill_none] at e e2
    rw [parts_lone e (by simp; omega), parts_lone e2 (by simp; omega)]
  | some bs =>
    have e2 := h ▸ e
    have p3 := three_fill hL e a
    have q3 := three_fill hL e2 a
    have p1 := one_fill hL e a
    have q1 := one_fill hL e2 a
    have x3 := p3.trans q3.symm
    have x1 := p1.trans q1.symm
    have r1 := three_any e a
    have r2 := three_any e2 a
    omega
/-! ### items that part two rows -/
def holdsB (bs : List Blk) (n : Int) : Bool := bs.any fun p => decide (p.1 ≤ n) && decide (n ≤ p.2)
theorem holdsB_iff {bs : List Blk} {n : Int} : holdsB bs n = true ↔ inB bs n := by
  simp [holdsB, inB]
def nextAbove (bs : List Blk) (n : Int) : Option Int := ((bs.filter fun p => decide (n < p.2)).map fun p => max p.1 (n + 1)).head?
theorem nextAbove_spec {L : Int} (hL : 0 < L) : ∀ {bs : List Blk}, Val L bs → ∀ n : Int, match nextAbove bs n with
    | none => ∀ k, n < k → ¬ inB bs k
    | some a => inB bs a ∧ n < a ∧ ∀ k, n < k → k < a → ¬ inB bs k := by
  intro bs
  induction bs with
  | nil => intro _ n; simp [nextAbove, inB]
  | cons p bs ih =>
    intro hv n
    have hp := hv.head
    have hab := hv.above (Int.le_of_lt hL)
    by_cases c : n < p.2
    · have e : nextAbove (p :: bs) n = some (max p.1 (n + 1)) := by simp [nextAbove, c]
      rw [e]
      refine ⟨inB_cons.mpr (.inl ⟨by omega, by omega⟩), by omega, fun k h1 h2 h3 => ?_⟩
      rcases inB_cons.mp h3 with z | ⟨q, hq, z1, z2⟩
      · omega
      · have := hab q hq; omega
    · have e : nextAbove (p :: bs) n = nextAbove bs n := by simp [nextAbove, c]
      rw [e]
      have := ih hv.tail n
      cases e2 : nextAbove bs n with
      | none =>
        rw [e2] at this
        intro k hk h3
        rcases inB_cons.mp h3 with z | z
        · omega
        · exact this k hk z
      | some a =>
        rw [e2] at this
        refine ⟨inB_cons.mpr (.inr this.1), this.2.1, fun k h1 h2 h3 => ?_⟩
        rcases inB_cons.mp h3 with z | z
        · omega
        · exact this.2.2 k h1 h2 z
def gaGo : List Blk → List Blk → Int
  | p :: as, q :: bs => if p = q then gaGo as bs else if p.2 ≠ q.2 then max p.2 q.2 else max p.1 q.1 - 1
  | _, _ => 0
def greatestApart (mine its : List Blk) : Int := gaGo mine.reverse its.reverse
theorem Val.pair {L : Int} (hL : 0 < L) : ∀ {bs : List Blk}, Val L bs → bs.Pairwise fun p q => p.2 + 1 < q.1 := by
  intro bs
  induction bs with
  | nil => intro _; exact List.Pairwise.nil
  | cons p bs ih =>
    intro h
    exact List.pairwise_cons.mpr ⟨fun q hq => by have := h.above (Int.le_of_lt hL) q hq; omega, ih h.tail⟩
/-- the last blocks of both are the same, down to the first that differ; both go on -/
theorem gaGo_spec : ∀ (as bs : List Blk), as.Pairwise (fun q p => p.2 + 1 < q.1) → bs.Pairwise (fun q p => p.2 + 1 < q.1) → (∀ p ∈ as, p.1 ≤ p.2) → (∀ p ∈ bs, p.1 ≤ p.2) → as ≠ bs → as ≠ [] → bs ≠ [] →
    (as.getLast?.map (·.1) = bs.getLast?.map (·.1)) →
    ((inB as (gaGo as bs) ∧ ¬ inB bs (gaGo as bs)) ∨ (inB bs (gaGo as bs) ∧ ¬ inB as (gaGo as bs))) ∧ ∀ k, gaGo as bs < k → (inB as k ↔ inB bs k) := by
  intro as
  induction as with
  | nil => intro bs _ _ _ _ _ h; exact absurd rfl h
  | cons p as ih =>
    intro bs ha hb ea eb hne _ hb0 hl
    cases bs with
    | nil => exact absurd rfl hb0
    | cons q bs =>
      have a1 := (List.pairwise_cons.mp ha).1
      have b1 := (List.pairwise_cons.mp hb).1
      have pe := ea p List.mem_cons_self
      have qe := eb q List.mem_cons_self
      simp only [gaGo]
      by_cases c : p = q
      · subst c
        rw [if_pos rfl]
        have hne2 : as ≠ bs := fun e => hne (by rw [e])
        have a0 : as ≠ [] := by
          rintro rfl
          cases bs with
          | nil => exact hne2 rfl
          | cons z bs =>
            obtain ⟨y, hy⟩ : ∃ y, (z :: bs).getLast? = some y := ⟨_, List.getLast?_eq_some_getLast (by simp)⟩
            have hm := List.mem_of_getLast? hy
            rw [List.getLast?_cons_cons, hy] at hl
            have hl : p.1 = y.1 := by simpa using hl
            have := b1 y hm
            have := eb y (List.mem_cons_of_mem _ hm)
            omega
        have b0 : bs ≠ [] := by
          rintro rfl
          cases as with
          | nil => exact hne2 rfl
          | cons z as =>
            obtain ⟨y, hy⟩ : ∃ y, (z :: as).getLast? = some y := ⟨_, List.getLast?_eq_some_getLast (by simp)⟩
            have hm := List.mem_of_getLast? hy
            rw [List.getLast?_cons_cons, hy] at hl
            have hl : y.1 = p.1 := by simpa using hl
            have := a1 y hm
            have := ea y (List.mem_cons_of_mem _ hm)
            omega
        have hl2 : as.getLast?.map (·.1) = bs.getLast?.map (·.1) := by
          cases as with
          | nil => exact absurd rfl a0
          | cons u as =>
            cases bs with
            | nil => exact absurd rfl b0
            | cons v bs => simpa [List.getLast?_cons_cons] using hl
        obtain ⟨i1, i2⟩ := ih bs (List.pairwise_cons.mp ha).2 (List.pairwise_cons.mp hb).2 (fun z hz => ea z (List.mem_cons_of_mem _ hz)) (fun z hz => eb z (List.mem_cons_of_mem _ hz)) hne2 a0 b0 hl2
        have nin : ¬ (p.1 ≤ gaGo as bs ∧ gaGo as bs ≤ p.2) := by
          rintro ⟨h1, h2⟩
          rcases i1 with ⟨⟨z, hz, z1, z2⟩, _⟩ | ⟨⟨z, hz, z1, z2⟩, _⟩
          · have := a1 z hz; omega
          · have := b1 z hz; omega
        simp only [inB_cons]
        refine ⟨?_, fun k hk => ?_⟩
        · rcases i1 with ⟨h1, h2⟩ | ⟨h1, h2⟩
          · exact .inl ⟨.inr h1, fun h => h.elim nin h2⟩
          · exact .inr ⟨.inr h1, fun h => h.elim nin h2⟩
        · rw [i2 k hk]
      · rw [if_neg c]
        have upA : ∀ k, inB (p :: as) k → k ≤ p.2 := by
          intro k hk
          rcases inB_cons.mp hk with z | ⟨z, hz, z1, z2⟩
          · exact z.2
          · have := a1 z hz; omega
        have upB : ∀ k, inB (q :: bs) k → k ≤ q.2 := by
          intro k hk
          rcases inB_cons.mp hk with z | ⟨z, hz, z1, z2⟩
          · exact z.2
          · have := b1 z hz; omega
        by_cases d : p.2 = q.2
        · rw [if_neg (by simp [d])]
          have d1 : p.1 ≠ q.1 := fun e => c (Prod.ext e d)
          have dn : ∀ k, max p.1 q.1 - 1 < k → (inB (p :: as) k ↔ inB (q :: bs) k) := by
            intro k hk
            constructor
            · intro h
              have := upA k h
              exact inB_cons.mpr (.inl ⟨by omega, by omega⟩)
            · intro h
              have := upB k h
              exact inB_cons.mpr (.inl ⟨by omega, by omega⟩)
          refine ⟨?_, dn⟩
          by_cases lt : p.1 < q.1
          · refine .inl ⟨inB_cons.mpr (.inl ⟨by omega, by omega⟩), fun h => ?_⟩
            rcases inB_cons.mp h with z | ⟨z, hz, z1, z2⟩
            · omega
            · have := b1 z hz; omega
          · refine .inr ⟨inB_cons.mpr (.inl ⟨by omega, by omega⟩), fun h => ?_⟩
            rcases inB_cons.mp h with z | ⟨z, hz, z1, z2⟩
            · omega
            · have := a1 z hz; omega
        · rw [if_pos d]
          refine ⟨?_, fun k hk => ?_⟩
          · by_cases lt : p.2 < q.2
            · refine .inr ⟨inB_cons.mpr (.inl ⟨by omega, by omega⟩), fun h => ?_⟩
              have := upA _ h; omega
            · refine .inl ⟨inB_cons.mpr (.inl ⟨by omega, by omega⟩), fun h => ?_⟩
              have := upB _ h; omega
          · constructor
            · intro h; have := upA k h; omega
            · intro h; have := upB k h; omega
theorem inB_rev {bs : List Blk} {n : Int} : inB bs.reverse n ↔ inB bs n := by simp [inB]
theorem ga_spec {L : Int} (hL : 0 < L) {as bs : List Blk} (ha : Val L as) (hb : Val L bs) (hne : as ≠ bs) (a0 : as ≠ []) (b0 : bs ≠ []) (hl : as.head?.map (·.1) = bs.head?.map (·.1)) :
    ((inB as (greatestApart as bs) ∧ ¬ inB bs (greatestApart as bs)) ∨ (inB bs (greatestApart as bs) ∧ ¬ inB as (greatestApart as bs))) ∧ ∀ k, greatestApart as bs < k → (inB as k ↔ inB bs k) := by
  have := gaGo_spec as.reverse bs.reverse (List.pairwise_reverse.mpr (ha.pair hL)) (List.pairwise_reverse.mpr (hb.pair hL)) (fun p hp => ha.each p (by simpa using hp)) (fun p hp => hb.each p (by simpa using hp))
    (fun e => hne (by simpa using congrArg List.reverse e)) (by simpa using a0) (by simpa using b0) (by simpa using hl)
  unfold greatestApart
  simpa only [inB_rev] using this
def totalOf (L n : Int) : Option Int → Int
  | none => n
  | some a => min n (a - L)
def partingB (L : Int) (as bs : List Blk) : List Int :=
  if as = [] ∨ bs = [] then [((as ++ bs).headD (0, 0)).1 + 1 - L, L]
  else if (as.headD (0, 0)).1 ≠ (bs.headD (0, 0)).1 then [max (as.headD (0, 0)).1 (bs.headD (0, 0)).1 - L, L]
  else
    [totalOf L (greatestApart as bs) (nextAbove (if holdsB as (greatestApart as bs) then as else bs) (greatestApart as bs)) - L, L, L]
def partingM (row other : List Int) (L : Int) : Option (List Int) :=
  if fill row L = fill other L then none else match fill row L, fill other L with
    | some as, some bs => some (partingB L as bs)
    | _, _ => some [L, L]
theorem head_low {L : Int} (hL : 0 < L) {p : Blk} {bs : List Blk} (h : Val L (p :: bs)) {n : Int} (hn : inB (p :: bs) n) : p.1 ≤ n := by
  rcases inB_cons.mp hn with z | ⟨q, hq, z1, z2⟩
  · exact z.1
  · have := h.above (Int.le_of_lt hL) q hq
    have := h.head
    omega
/-- the heart: a number that just one of both has, the greatest such -/
theorem apart_three {L m n t : Int} (hL : 0 < L) {A B : List Blk} (va : Val L A) (vb : Val L B) {a : Option Int} (hn : inB A n) (hn2 : ¬ inB B n) (hk : ∀ k, n < k → (inB A k ↔ inB B k))
    (mA : inB A m) (mB : inB B m) (ml : ∀ k, inB A k → m ≤ k) (ha : match a with
      | none => ∀ k, n < k → ¬ inB A k
      | some a => inB A a ∧ n < a ∧ ∀ k, n < k → k < a → ¬ inB A k) (ht : t = totalOf L n a) : (∃ k, inB A k ∧ t ≤ k ∧ k < t + L) ∧ (¬ ∃ k, inB B k ∧ t ≤ k ∧ k < t + L) ∧ m < t := by
  subst ht
  have hmn : m < n := by
    have := ml n hn
    have : m ≠ n := by rintro rfl; exact hn2 mB
    omega
  cases a with
  | none =>
    simp only [totalOf]
    refine ⟨⟨n, hn, by omega, by omega⟩, ?_, hmn⟩
    rintro ⟨k, h1, h2, h3⟩
    by_cases e : k = n
    · subst e; exact hn2 h1
    · exact ha k (by omega) ((hk k (by omega)).mpr h1)
  | some a =>
    obtain ⟨a1, a2, a3⟩ := ha
    have aB : inB B a := (hk a a2).mp a1
    simp only [totalOf]
    have noB : ∀ k, inB B k → a - L ≤ k → k ≤ n → False := by
      intro k h1 h2 h3
      exact hn2 (vb.closed (Int.le_of_lt hL) h1 aB h3 (by omega) (by omega))
    refine ⟨⟨n, hn, by omega, by omega⟩, ?_, ?_⟩
    · rintro ⟨k, h1, h2, h3⟩
      by_cases c : k ≤ n
      · by_cases e : k = n
        · subst e; exact hn2 h1
        · exact noB k h1 (by omega) c
      · exact a3 k (by omega) (by omega) ((hk k (by omega)).mpr h1)
    · by_cases c : a - L ≤ m
      · exact (noB m mB c (by omega)).elim
      · omega
theorem parting_ok {L : Int} (hL : 0 < L) {row other b : List Int} (h : partingM row other L = some b) : b ≠ [] ∧ b.length ≤ 3 ∧ (∀ x ∈ b, L ≤ x) ∧ (partsM row b).length ≠ (partsM other b).length := by
  unfold partingM at h
  by_cases e : fill row L = fill other L
  · rw [if_pos e] at h; cases h
  rw [if_neg e] at h
  have len2 : ∀ (r : List Int) (a : Int), L ≤ a → lone r L = true → (partsM r [a, L]).length = 2 := by
    intro r a ha hr
    rw [parts_lone hr (by simp; omega)]
    rfl
  have low2 : ∀ (r : List Int), lone r L = false → (partsM r [L, L]).length = 1 := by
    intro r hr
    rw [parts_two, if_neg]
    intro c
    obtain ⟨x, hx, hx2⟩ := List.any_eq_true.mp c
    have := lone_false.mp hr x hx
    have hx2 : x < L + L := by simpa using hx2
    omega
  cases e1 : fill row L with
  | none =>
    rw [e1] at h
    have hb : b = [L, L] := by cases e2 : fill other L <;> rw [e2] at h <;> simp at h <;> exact h.symm
    subst hb
    have l2 : lone other L = false := by
      cases q : lone other L with
      | false => rfl
      | true => exact absurd (e1.trans (fill_none.mpr q).symm) e
    refine ⟨by simp, by simp, by simp, ?_⟩
    rw [len2 row L (Int.le_refl _) (fill_none.mp e1), low2 other l2]
    decide
  | some as =>
    cases e2 : fill other L with
    | none =>
      rw [e1, e2] at h
      simp at h
      subst h
      have l2 : lone row L = false := (fill_some.mp e1).1
      refine ⟨by simp, by simp, by simp, ?_⟩
      rw [len2 other L (Int.le_refl _) (fill_none.mp e2), low2 row l2]
      decide
    | some bs =>
      rw [e1, e2] at h
      simp at h
      subst h
      have va := fill_val (Int.le_of_lt hL) e1
      have vb := fill_val (Int.le_of_lt hL) e2
      have ga := fill_ge e1
      have gb := fill_ge e2
      have hne : as ≠ bs := fun q => e (by rw [e1, e2, q])
      unfold partingB
      by_cases c0 : as = [] ∨ bs = []
      · rw [if_pos c0]
        have key : ∀ (r o : List Int) (p : Blk) (ps : List Blk), fill r L = some (p :: ps) → fill o L = some [] → (partsM r [p.1 + 1 - L, L]).length = 2 ∧ (partsM o [p.1 + 1 - L, L]).length = 1 ∧ L ≤ p.1 + 1 - L := by
          intro r o p ps h1 h2
          refine ⟨(two_fill h1 _ _).mpr ⟨p.1, inB_cons.mpr (.inl ⟨Int.le_refl _, (fill_val (Int.le_of_lt hL) h1).head⟩), by omega⟩, ?_, ?_⟩
          · rcases two_any o (p.1 + 1 - L) L with q | q
            · exact q
            · obtain ⟨n, hn, _⟩ := (two_fill h2 _ _).mp q
              simp [inB] at hn
          · have := fill_ge h1 p List.mem_cons_self
            omega
        cases as with
        | nil =>
          cases bs with
          | nil => exact absurd rfl hne
          | cons q bs =>
            obtain ⟨k1, k2, k3⟩ := key other row q bs e2 e1
            refine ⟨by simp, by simp, by simp; omega, ?_⟩
            show (partsM row [q.1 + 1 - L, L]).length ≠ (partsM other [q.1 + 1 - L, L]).length
            rw [k1, k2]; decide
        | cons p as =>
          cases bs with
          | nil =>
            obtain ⟨k1, k2, k3⟩ := key row other p as e1 e2
            refine ⟨by simp, by simp, by simp; omega, ?_⟩
            show (partsM row [p.1 + 1 - L, L]).length ≠ (partsM other [p.1 + 1 - L, L]).length
            rw [k1, k2]; decide
          | cons q bs => simp at c0
      · rw [if_neg c0]
        cases as with
        | nil => simp at c0
        | cons p as =>
        cases bs with
        | nil => simp at c0
        | cons q bs =>
        have gp := ga p List.mem_cons_self
        have gq := gb q List.mem_cons_self
        by_cases c1 : p.1 = q.1
        · rw [if_neg (by simp [c1])]
          obtain ⟨g1, g2⟩ := ga_spec hL va vb hne (by simp) (by simp) (by simp [c1])
          have mA : inB (p :: as) p.1 := inB_cons.mpr (.inl ⟨Int.le_refl _, va.head⟩)
          have mB : inB (q :: bs) p.1 := inB_cons.mpr (.inl ⟨by omega, by have := vb.head; omega⟩)
          generalize hN : greatestApart (p :: as) (q :: bs) = n at g1 g2
          -- three parts for the one, two for the other
          have fin : ∀ (r o : List Int) (A B : List Blk) (t : Int), fill r L = some A → fill o L = some B → (∃ k, inB A k ∧ t ≤ k ∧ k < t + L) → (¬ ∃ k, inB B k ∧ t ≤ k ∧ k < t + L) → inB A p.1 → p.1 < t →
              (partsM r [t - L, L, L]).length ≠ (partsM o [t - L, L, L]).length := by
            intro r o A B t h1 h2 h3 h4 h5 h6
            have i1 := three_fill hL h1 (t - L)
            have i2 := three_fill hL h2 (t - L)
            rw [show t - L + L = t by omega] at i1 i2
            have j1 := i1.mpr ⟨h3, p.1, h5, h6⟩
            rw [j1]
            intro j2
            exact h4 (i2.mp j2.symm).1
          rcases g1 with ⟨g1, g3⟩ | ⟨g1, g3⟩
          · have hh : holdsB (p :: as) n = true := holdsB_iff.mpr g1
            rw [if_pos hh]
            have sp := nextAbove_spec hL va n
            obtain ⟨f1, f2, f3⟩ := apart_three hL va vb (a := nextAbove (p :: as) n) g1 g3 g2 mA mB (fun k hk => head_low hL va hk) sp rfl
            refine ⟨by simp, by simp, ?_, fin row other _ _ _ e1 e2 f1 f2 mA f3⟩
            simp; omega
          · have hh : ¬ holdsB (p :: as) n = true := fun h => g3 (holdsB_iff.mp h)
            rw [if_neg hh]
            have sp := nextAbove_spec hL vb n
            obtain ⟨f1, f2, f3⟩ := apart_three hL vb va (a := nextAbove (q :: bs) n) g1 g3 (fun k hk => (g2 k hk).symm) mB mA (fun k hk => by have := head_low hL vb hk; omega) sp rfl
            refine ⟨by simp, by simp, ?_, (fin other row _ _ _ e2 e1 f1 f2 mB f3).symm⟩
            simp; omega
        · rw [if_pos (by simpa using c1)]
          have two : ∀ (r : List Int) (p : Blk) (ps : List Blk) (t : Int), fill r L = some (p :: ps) → ((partsM r [t - L, L]).length = 2 ↔ p.1 < t) := by
            intro r p ps t h1
            rw [two_fill h1, show t - L + L = t by omega]
            have v1 := fill_val (Int.le_of_lt hL) h1
            constructor
            · rintro ⟨n, hn, h2⟩
              have := head_low hL v1 hn
              omega
            · intro h2
              exact ⟨p.1, inB_cons.mpr (.inl ⟨Int.le_refl _, v1.head⟩), h2⟩
          have t1 := two row p as (max p.1 q.1) e1
          have t2 := two other q bs (max p.1 q.1) e2
          refine ⟨by simp, by simp, by simp; omega, ?_⟩
          show (partsM row [max p.1 q.1 - L, L]).length ≠ (partsM other [max p.1 q.1 - L, L]).length
          intro eq
          rw [eq] at t1
          have := t1.symm.trans t2
          omega
theorem parting_none {L : Int} {row other : List Int} : partingM row other L = none ↔ fill row L = fill other L := by
  unfold partingM
  constructor
  · intro h
    by_cases e : fill row L = fill other L
    · exact e
    · rw [if_neg e] at h
      split at h <;> cases h
  · intro e; rw [if_pos e]
end CK
end M4x
section M5x
set_option Elab.async false
set_option linter.all false
/-! A hidden row: its filling from the answers. -/
namespace CK
def rangeI (a b : Int) : List Int := (List.range (b - a).toNat).map fun (i : Nat) => a + (i : Int)
theorem mem_rangeI {a b x : Int} : x ∈ rangeI a b ↔ a ≤ x ∧ x < b := by
  simp only [rangeI, List.mem_map, List.mem_range]
  constructor
  · rintro ⟨i, h1, h2⟩; omega
  · intro h; exact ⟨(x - a).toNat, by omega, by omega⟩
theorem rangeI_asc (a b : Int) : Asc (rangeI a b) := by
  unfold rangeI Asc
  rw [List.pairwise_map]
  refine List.Pairwise.imp ?_ List.pairwise_lt_range
  intro i j h; omega
theorem rangeI_length (a b : Int) : (rangeI a b).length = (b - a).toNat := by simp [rangeI]
theorem rangeI_get {a b : Int} {i : Nat} (h : i < (b - a).toNat) : (rangeI a b)[i]? = some (a + i) := by
  simp [rangeI, h]
def pairTotals (top L : Int) : List Int := if top < 2 * L then [2 * L] else if top = 2 * L then [top, top + 1] else rangeI (2 * L) (min (3 * L) top + 1)
def windowStarts (top L : Int) : List Int := rangeI (2 * L + 1) (top + 1)
def testsFor (top L : Int) : List (List Int) := ((pairTotals top L).map fun t => [t - L, L]) ++ (windowStarts top L).map fun s => [s - L, L, L]
def cnt (row b : List Int) : Int := ((partsM row b).length : Int)
def answersOf (row : List Int) (tests : List (List Int)) : List Int := tests.map (cnt row)
def singleOf (top L : Int) (answers : List Int) : List Int := (((pairTotals top L).zip answers).filter fun p => decide (p.2 = 1)).map (·.1)
def longerOf (top L : Int) (answers : List Int) : List Int := (((windowStarts top L).zip (answers.drop (pairTotals top L).length)).filter fun p => !decide (p.2 = 1)).map (·.1)
def lowestFrom (top L : Int) (answers : List Int) : Option Int :=
  if (singleOf top L answers).length < (pairTotals top L).length then (singleOf top L answers).getLast? else (longerOf top L answers).head?.map fun x => min top (x + L - 1)
structure NS where
  found : List Int
  run : Int
  first : Bool
def numStep (m L : Int) (s : NS) (p : Int × Int) : NS :=
  if m < p.1 then
    let run := if p.2 = 3 then s.run + 1 else 0
    let first := s.first && decide (p.2 = 3)
    ⟨if 0 < run ∧ (first = true ∨ L ≤ run) then s.found ++ [p.1] else s.found, run, first⟩
  else s
def numbersFrom (m top L : Int) (answers : List Int) : List Int := (((windowStarts top L).zip answers).foldl (numStep m L) ⟨[m], 0, true⟩).found
/-! ### tests and answers -/
theorem pairTotals_ge {top L : Int} (hL : 0 < L) : ∀ t ∈ pairTotals top L, 2 * L ≤ t := by
  unfold pairTotals
  split
  · simp
  · split
    · simp; omega
    · intro t ht; exact (mem_rangeI.mp ht).1
theorem same_answers {row other : List Int} {L : Int} (hL : 0 < L) (h : fill row L = fill other L) (top : Int) : answersOf row (testsFor top L) = answersOf other (testsFor top L) := by
  unfold answersOf testsFor
  rw [List.map_append, List.map_append, List.map_map, List.map_map, List.map_map, List.map_map]
  refine congr (congrArg _ ?_) ?_
  · refine List.map_congr_left fun t ht => ?_
    have := pairTotals_ge hL t ht
    show cnt row [t - L, L] = cnt other [t - L, L]
    unfold cnt
    rw [same_two hL (by omega) h]
  · refine List.map_congr_left fun t ht => ?_
    have := (mem_rangeI.mp ht).1
    show cnt row [t - L, L, L] = cnt other [t - L, L, L]
    unfold cnt
    rw [same_three hL (by omega) h]
theorem pairTotals_first {top L : Int} (hL : 0 < L) : ∃ r, pairTotals top L = (2 * L) :: r := by
  unfold pairTotals
  split
  · exact ⟨[], rfl⟩
  · split
    · rename_i h; exact ⟨[top + 1], by rw [h]⟩
    · have : (min (3 * L) top + 1 - 2 * L).toNat = ((min (3 * L) top - 2 * L).toNat) + 1 := by omega
      unfold rangeI
      rw [this, List.range_succ_eq_map]
      exact ⟨_, by simp; rfl⟩
theorem answers_first {row : List Int} {top L : Int} (hL : 0 < L) : ∃ r, answersOf row (testsFor top L) = (if lone row L = true then 2 else 1) :: r := by
  obtain ⟨r, e⟩ := pairTotals_first (top := top) hL
  unfold answersOf testsFor
  rw [e, List.map_cons, List.cons_append, List.map_cons]
  refine ⟨_, congrArg (fun z => z :: _) ?_⟩
  unfold cnt
  rw [parts_two]
  have : (row.any fun l => decide (l < 2 * L - L + L)) = lone row L := by
    unfold lone; congr 1; funext l; congr 1; apply propext; omega
  rw [this]
  split <;> rfl
theorem zip_map_self {α β : Type} (f : α → β) (l : List α) : l.zip (l.map f) = l.map fun x => (x, f x) := by
  induction l with
  | nil => rfl
  | cons x l ih => simp [ih]
theorem zip_append_left {α β : Type} : ∀ (l : List α) (a b : List β), a.length = l.length → l.zip (a ++ b) = l.zip a := by
  intro l
  induction l with
  | nil => intros; rfl
  | cons x l ih =>
    intro a b h
    cases a with
    | nil => simp at h
    | cons y a => simp [ih a b (by simpa using h)]
theorem filter_map_self {α β : Type} (f : α → β) (q : β → Bool) (l : List α) : ((l.map fun x => (x, f x)).filter fun p => q p.2).map (·.1) = l.filter fun x => q (f x) := by
  induction l with
  | nil => rfl
  | cons x l ih =>
    simp only [List.map_cons, List.filter_cons]
    split <;> simp_all
section
variable {row : List Int} {top L : Int}
theorem single_eq : singleOf top L (answersOf row (testsFor top L)) = (pairTotals top L).filter fun t => decide (cnt row [t - L, L] = 1) := by
  unfold singleOf answersOf testsFor
  rw [List.map_append, zip_append_left _ _ _ (by simp), List.map_map, zip_map_self]
  exact filter_map_self (fun t => cnt row [t - L, L]) (fun c => decide (c = 1)) _
theorem drop_eq : (answersOf row (testsFor top L)).drop (pairTotals top L).length = (windowStarts top L).map fun s => cnt row [s - L, L, L] := by
  unfold answersOf testsFor
  rw [List.map_append, List.drop_append_of_le_length (by simp), List.drop_of_length_le (by simp), List.map_map]
  rfl
theorem longer_eq : longerOf top L (answersOf row (testsFor top L)) = (windowStarts top L).filter fun s => !decide (cnt row [s - L, L, L] = 1) := by
  unfold longerOf
  rw [drop_eq, zip_map_self]
  exact filter_map_self (fun t => cnt row [t - L, L, L]) (fun c => !decide (c = 1)) _
/-- the least limit -/
theorem cnt_two_one {bs : List Blk} (h : fill row L = some bs) (t : Int) : cnt row [t - L, L] = 1 ↔ ∀ n, inB bs n → t ≤ n := by
  have h2 := two_fill h (t - L) L
  rw [show t - L + L = t by omega] at h2
  unfold cnt
  constructor
  · intro e n hn
    have : ¬ n < t := fun lt => by
      have := h2.mpr ⟨n, hn, lt⟩
      omega
    omega
  · intro e
    rcases two_any row (t - L) L with q | q
    · omega
    · obtain ⟨n, hn, lt⟩ := h2.mp q
      have := e n hn
      omega
theorem cnt_three_one {bs : List Blk} (hL : 0 < L) (h : fill row L = some bs) (s : Int) : cnt row [s - L, L, L] = 1 ↔ ∀ n, inB bs n → s + L ≤ n := by
  have h1 := one_fill hL h (s - L)
  rw [show s - L + L = s by omega] at h1
  rw [← h1]
  unfold cnt
  omega
theorem cnt_three_three {bs : List Blk} (hL : 0 < L) (h : fill row L = some bs) (s : Int) : cnt row [s - L, L, L] = 3 ↔ (∃ n, inB bs n ∧ s ≤ n ∧ n < s + L) ∧ ∃ n, inB bs n ∧ n < s := by
  have h1 := three_fill hL h (s - L)
  rw [show s - L + L = s by omega] at h1
  rw [← h1]
  unfold cnt
  omega
theorem filter_all {α : Type} {p : α → Bool} {l : List α} (h : ∀ x ∈ l, p x = true) : l.filter p = l := List.filter_eq_self.mpr h
/-- the row () -/
theorem lowest_nil (hL : 0 < L) : lowestFrom top L (answersOf [] (testsFor top L)) = none := by
  have h : fill [] L = some [] := rfl
  unfold lowestFrom
  rw [single_eq, longer_eq]
  have e1 : ((pairTotals top L).filter fun t => decide (cnt [] [t - L, L] = 1)) = pairTotals top L := filter_all fun t _ => by
    simp only [decide_eq_true_eq]
    exact (cnt_two_one h t).mpr fun n hn => by simp [inB] at hn
  have e2 : ((windowStarts top L).filter fun s => !decide (cnt [] [s - L, L, L] = 1)) = [] := by
    rw [List.filter_eq_nil_iff]
    intro s _
    simp only [Bool.not_eq_true', decide_eq_false_iff_not, Decidable.not_not]
    exact (cnt_three_one hL h s).mpr fun n hn => by simp [inB] at hn
  rw [e1, e2, if_neg (by omega)]
  rfl
theorem head_of_asc {l : List Int} (h : Asc l) {x : Int} (hx : x ∈ l) (hm : ∀ y ∈ l, x ≤ y) : l.head? = some x := by
  cases l with
  | nil => simp at hx
  | cons y l =>
    have := hm y List.mem_cons_self
    rcases List.mem_cons.mp hx with rfl | hx
    · rfl
    · have := (List.pairwise_cons.mp h).1 x hx
      omega
theorem last_of_asc {l : List Int} (h : Asc l) {x : Int} (hx : x ∈ l) (hm : ∀ y ∈ l, y ≤ x) : l.getLast? = some x := by
  rw [List.getLast?_eq_head?_reverse]
  have h2 := desc_rev h
  cases e : l.reverse with
  | nil => rw [List.reverse_eq_nil_iff.mp e] at hx; simp at hx
  | cons y r =>
    have hx2 : x ∈ y :: r := by rw [← e]; simpa using hx
    have hy : y ∈ l := by
      have : y ∈ l.reverse := by rw [e]; exact List.mem_cons_self
      simpa using this
    have := hm y hy
    rcases List.mem_cons.mp hx2 with rfl | hx2
    · rfl
    · rw [e] at h2
      have := (List.pairwise_cons.mp h2).1 x hx2
      omega
theorem pairTotals_asc : Asc (pairTotals top L) := by
  unfold pairTotals
  split
  · exact List.pairwise_singleton _ _
  · split
    · exact List.pairwise_cons.mpr ⟨by simp; omega, List.pairwise_singleton _ _⟩
    · exact rangeI_asc _ _
theorem lowest_some (hL : 0 < L) {p : Blk} {bs : List Blk} (h : fill row L = some (p :: bs)) (ht : ∀ l ∈ row, l ≤ top) : lowestFrom top L (answersOf row (testsFor top L)) = some p.1 ∧ ((singleOf top L (answersOf row (testsFor top L))).length < (pairTotals top L).length → singleOf top L (answersOf row (testsFor top L)) ≠ []) := by
  have hv := fill_val (Int.le_of_lt hL) h
  have low : ∀ n, inB (p :: bs) n → p.1 ≤ n := fun n hn => head_low hL hv hn
  have mp : inB (p :: bs) p.1 := inB_cons.mpr (.inl ⟨Int.le_refl _, hv.head⟩)
  have g1 := (fill_ge h p List.mem_cons_self).1
  have g2 := ht _ (fill_ends h p List.mem_cons_self).1
  have one2 : ∀ t, cnt row [t - L, L] = 1 ↔ t ≤ p.1 := fun t => (cnt_two_one h t).trans ⟨fun q => q _ mp, fun q n hn => by have := low n hn; omega⟩
  have one3 : ∀ s, cnt row [s - L, L, L] = 1 ↔ s + L ≤ p.1 := fun s => (cnt_three_one hL h s).trans ⟨fun q => q _ mp, fun q n hn => by have := low n hn; omega⟩
  unfold lowestFrom
  rw [single_eq, longer_eq]
  have e1 : ((pairTotals top L).filter fun t => decide (cnt row [t - L, L] = 1)) = (pairTotals top L).filter fun t => decide (t ≤ p.1) := List.filter_congr fun t _ => by simp [one2]
  have e2 : ((windowStarts top L).filter fun s => !decide (cnt row [s - L, L, L] = 1)) = (windowStarts top L).filter fun s => !decide (s + L ≤ p.1) := List.filter_congr fun t _ => by simp [one3]
  rw [e1, e2]
  have f1 : 2 * L ∈ (pairTotals top L).filter fun t => decide (t ≤ p.1) := by
    obtain ⟨r, e⟩ := pairTotals_first (top := top) hL
    rw [List.mem_filter, e]
    exact ⟨List.mem_cons_self, by simpa using g1⟩
  refine ⟨?_, fun _ e => by rw [e] at f1; simp at f1⟩
  by_cases c : ((pairTotals top L).filter fun t => decide (t ≤ p.1)).length < (pairTotals top L).length
  · rw [if_pos c]
    -- a total is above the least limit: so the least limit is a total
    have hm : p.1 ∈ pairTotals top L := by
      have : ∃ t ∈ pairTotals top L, ¬ t ≤ p.1 := by
        refine Classical.byContradiction fun hc => ?_
        have : ((pairTotals top L).filter fun t => decide (t ≤ p.1)) = pairTotals top L := filter_all fun t ht => by
          simp only [decide_eq_true_eq]
          exact Classical.byContradiction fun hh => hc ⟨t, ht, hh⟩
        rw [this] at c
        omega
      obtain ⟨t, ht1, ht2⟩ := this
      unfold pairTotals at ht1 ⊢
      split at ht1
      · omega
      · split at ht1
        · rename_i h1 h2
          rw [if_neg h1, if_pos h2]
          have : p.1 = top := by omega
          rw [this]; simp
        · rename_i h1 h2
          rw [if_neg h1, if_neg h2]
          have := mem_rangeI.mp ht1
          exact mem_rangeI.mpr (by omega)
    exact last_of_asc (pairTotals_asc.filter _) (List.mem_filter.mpr ⟨hm, by simp⟩) fun y hy => by simpa using (List.mem_filter.mp hy).2
  · rw [if_neg c]
    -- all totals are at most the least limit
    have hall : ∀ t ∈ pairTotals top L, t ≤ p.1 := by
      have e := List.length_filter_eq_length_iff.mp (Nat.le_antisymm (List.length_filter_le (fun t => decide (t ≤ p.1)) (pairTotals top L)) (Nat.le_of_not_lt c))
      intro t ht
      simpa using e t ht
    have g3 : 2 * L < top := by
      unfold pairTotals at hall
      split at hall
      · omega
      · split at hall
        · have := hall (top + 1) (by simp); omega
        · omega
    have g4 : min (3 * L) top ≤ p.1 := by
      unfold pairTotals at hall
      rw [if_neg (by omega), if_neg (by omega)] at hall
      exact hall _ (mem_rangeI.mpr (by omega))
    have hd : ((windowStarts top L).filter fun s => !decide (s + L ≤ p.1)).head? = some (max (2 * L + 1) (p.1 - L + 1)) := by
      refine head_of_asc ((rangeI_asc _ _).filter _) (List.mem_filter.mpr ⟨mem_rangeI.mpr (by omega), by simp; omega⟩) fun y hy => ?_
      obtain ⟨h1, h2⟩ := List.mem_filter.mp hy
      have h1 := mem_rangeI.mp h1
      have h2 : ¬ y + L ≤ p.1 := by simpa using h2
      omega
    rw [hd]
    simp
    omega
end
/-! ### the numbers -/
/-- the greatest number of the blocks up to x -/
theorem greatest_upto {bs : List Blk} {m x : Int} (hm : inB bs m) (hx : m ≤ x) : ∃ p, inB bs p ∧ m ≤ p ∧ p ≤ x ∧ ∀ q, p < q → q ≤ x → ¬ inB bs q := by
  have go : ∀ (k : Nat) (x : Int), m + k = x → ∃ p, inB bs p ∧ m ≤ p ∧ p ≤ x ∧ ∀ q, p < q → q ≤ x → ¬ inB bs q := by
    intro k
    induction k with
    | zero => intro x h; exact ⟨m, hm, Int.le_refl _, by omega, fun q h1 h2 => by omega⟩
    | succ k ih =>
      intro x h
      by_cases c : inB bs x
      · exact ⟨x, c, by omega, Int.le_refl _, fun q h1 h2 => by omega⟩
      · obtain ⟨p, h1, h2, h3, h4⟩ := ih (x - 1) (by omega)
        refine ⟨p, h1, h2, by omega, fun q h5 h6 => ?_⟩
        by_cases e : q = x
        · rw [e]; exact c
        · exact h4 q h5 (by omega)
  exact go (x - m).toNat x (by omega)
/-- behind a number, a window that holds one: the numbers between are there -/
theorem next_in {L : Int} (hL : 0 < L) {bs : List Blk} (hv : Val L bs) {p x : Int} (hp : inB bs p) (h1 : p < x) (h2 : ∀ q, p < q → q ≤ x → ¬ inB bs q) (hT : ∃ n, inB bs n ∧ p + 1 ≤ n ∧ n < p + 1 + L) : False := by
  obtain ⟨n, hn, h3, h4⟩ := hT
  by_cases c : n ≤ x
  · exact h2 n (by omega) c hn
  · exact h2 x h1 (Int.le_refl _) (hv.closed (Int.le_of_lt hL) hp hn (by omega) (by omega) (by omega))
/-- x is a number exactly if the tests up to it say so -/
theorem num_iff {L m x : Int} {run : Nat} (hL : 0 < L) {bs : List Blk} (hv : Val L bs) (hm : inB bs m) (hmx : m < x) {T : Int → Prop}
    (hT : ∀ y, m < y → (T y ↔ ∃ n, inB bs n ∧ y ≤ n ∧ n < y + L)) (hr1 : ∀ y, x - run < y → y ≤ x → m < y ∧ T y) (hr2 : x - run ≤ m ∨ ¬ T (x - run)) :
    inB bs x ↔ 0 < run ∧ ((∀ y, m < y → y ≤ x → T y) ∨ L ≤ run) := by
  constructor
  · intro hx
    have hTx : T x := (hT x hmx).mpr ⟨x, hx, Int.le_refl _, by omega⟩
    have h0 : 0 < run := by
      refine Nat.pos_of_ne_zero fun e => ?_
      subst e
      rcases hr2 with h | h
      · simp at h; omega
      · simp at h; exact h hTx
    refine ⟨h0, ?_⟩
    by_cases c : ∀ y, m < y → y ≤ x → T y
    · exact .inl c
    · right
      obtain ⟨y, hy⟩ := Classical.not_forall.mp c
      obtain ⟨h1, hy⟩ := Classical.not_imp.mp hy
      obtain ⟨h2, h3⟩ := Classical.not_imp.mp hy
      have hlt : y + L ≤ x := by
        refine Classical.byContradiction fun h => h3 ((hT y h1).mpr ⟨x, hx, h2, by omega⟩)
      refine Classical.byContradiction fun hlt2 => ?_
      rcases hr2 with h | h
      · omega
      · exact h ((hT _ (by omega)).mpr ⟨x, hx, by omega, by omega⟩)
  · rintro ⟨h0, h⟩
    obtain ⟨p, p1, p2, p3, p4⟩ := greatest_upto hm (Int.le_of_lt hmx)
    by_cases e : p = x
    · rw [← e]; exact p1
    · exfalso
      have hpx : p < x := by omega
      rcases h with h | h
      · exact next_in hL hv p1 hpx p4 ((hT _ (by omega)).mp (h (p + 1) (by omega) (by omega)))
      · by_cases c : x - run < p + 1
        · exact next_in hL hv p1 hpx p4 ((hT _ (by omega)).mp (hr1 (p + 1) c (by omega)).2)
        · have t := hr1 (x - L + 1) (by omega) (by omega)
          obtain ⟨n, hn, n1, n2⟩ := (hT _ t.1).mp t.2
          exact p4 n (by omega) (by omega) hn
section
variable {row : List Int} {top L : Int}
/-- the state behind so many starts -/
structure NInv (m L : Int) (bs : List Blk) (T : Int → Prop) (x : Int) (s : NS) : Prop where
  found : ∀ y, y ∈ s.found ↔ y = m ∨ (m < y ∧ y < x ∧ inB bs y)
  asc : Asc s.found
  r0 : 0 ≤ s.run
  r1 : ∀ y, x - 1 - s.run < y → y ≤ x - 1 → m < y ∧ T y
  r2 : x - 1 - s.run ≤ m ∨ ¬ T (x - 1 - s.run)
  fst : s.first = true ↔ ∀ y, m < y → y < x → T y
theorem num_fold {m : Int} (hL : 0 < L) {bs : List Blk} (hv : Val L bs) (hm : inB bs m) (hm2 : 2 * L ≤ m) {f : Int → Int} (hT : ∀ y, m < y → (f y = 3 ↔ ∃ n, inB bs n ∧ y ≤ n ∧ n < y + L)) : ∀ n : Nat,
    NInv m L bs (fun y => f y = 3) (2 * L + 1 + n) (((List.range n).map fun (i : Nat) => ((2 * L + 1 + (i : Int)), f (2 * L + 1 + i))).foldl (numStep m L) ⟨[m], 0, true⟩) := by
  intro n
  induction n with
  | zero =>
    refine ⟨?_, List.pairwise_singleton _ _, Int.le_refl _, ?_, ?_, ?_⟩
    · intro y
      simp
      intro h1 h2; omega
    · intro y h1 h2
      simp at h1 h2
      omega
    · left; simp; omega
    · simp
      intro y h1 h2; omega
  | succ n ih =>
    rw [List.range_succ, List.map_append, List.foldl_append]
    generalize ((List.range n).map fun (i : Nat) => ((2 * L + 1 + (i : Int)), f (2 * L + 1 + i))).foldl (numStep m L) ⟨[m], 0, true⟩ = s at ih
    simp only [List.map_cons, List.map_nil, List.foldl_cons, List.foldl_nil]
    generalize hx : 2 * L + 1 + (n : Int) = x at ih
    have ex : 2 * L + 1 + ((n + 1 : Nat) : Int) = x + 1 := by omega
    rw [ex]
    obtain ⟨i1, i2, i3, i4, i5, i6⟩ := ih
    unfold numStep
    by_cases c : m < x
    · simp only [if_pos c]
      -- the turn's run and first
      have key : inB bs x ↔ 0 < (if f x = 3 then s.run + 1 else 0) ∧ ((s.first && decide (f x = 3)) = true ∨ L ≤ (if f x = 3 then s.run + 1 else 0)) := by
        by_cases t : f x = 3
        · have e1 : (if f x = 3 then s.run + 1 else 0) = s.run + 1 := if_pos t
          have e2 : (s.first && decide (f x = 3)) = s.first := by simp [t]
          rw [e1, e2]
          have := num_iff (run := (s.run + 1).toNat) hL hv hm c hT (fun y h1 h2 => by
            by_cases e : y = x
            · rw [e]; exact ⟨c, t⟩
            · exact i4 y (by omega) (by omega)) (by
            rcases i5 with h | h
            · left; omega
            · right
              rw [show x - (((s.run + 1).toNat : Nat) : Int) = x - 1 - s.run by omega]
              exact h)
          rw [this]
          constructor
          · rintro ⟨h1, h2⟩
            refine ⟨by omega, ?_⟩
            rcases h2 with h2 | h2
            · exact .inl (i6.mpr fun y h3 h4 => h2 y h3 (by omega))
            · right; omega
          · rintro ⟨h1, h2⟩
            refine ⟨by omega, ?_⟩
            rcases h2 with h2 | h2
            · left
              intro y h3 h4
              by_cases e : y = x
              · rw [e]; exact t
              · exact i6.mp h2 y h3 (by omega)
            · right; omega
        · simp only [if_neg t]
          constructor
          · intro h
            exact absurd ((hT x c).mpr ⟨x, h, Int.le_refl _, by omega⟩) t
          · rintro ⟨h, _⟩; omega
      refine ⟨?_, ?_, ?_, ?_, ?_, ?_⟩
      · intro y
        by_cases hb : 0 < (if f x = 3 then s.run + 1 else 0) ∧ ((s.first && decide (f x = 3)) = true ∨ L ≤ (if f x = 3 then s.run + 1 else 0))
        · rw [if_pos hb, List.mem_append, i1]
          have hbx := key.mpr hb
          constructor
          · rintro ((h | h) | h)
            · exact .inl h
            · exact .inr ⟨h.1, by omega, h.2.2⟩
            · simp at h; subst h; exact .inr ⟨c, by omega, hbx⟩
          · rintro (h | ⟨h1, h2, h3⟩)
            · exact .inl (.inl h)
            · by_cases e : y = x
              · right; simp [e]
              · exact .inl (.inr ⟨h1, by omega, h3⟩)
        · rw [if_neg hb, i1]
          have hbx : ¬ inB bs x := fun h => hb (key.mp h)
          constructor
          · rintro (h | h)
            · exact .inl h
            · exact .inr ⟨h.1, by omega, h.2.2⟩
          · rintro (h | ⟨h1, h2, h3⟩)
            · exact .inl h
            · by_cases e : y = x
              · subst e; exact absurd h3 hbx
              · exact .inr ⟨h1, by omega, h3⟩
      · by_cases hb : 0 < (if f x = 3 then s.run + 1 else 0) ∧ ((s.first && decide (f x = 3)) = true ∨ L ≤ (if f x = 3 then s.run + 1 else 0))
        · rw [if_pos hb]
          refine List.pairwise_append.mpr ⟨i2, List.pairwise_singleton _ _, fun a ha b hb => ?_⟩
          simp at hb
          subst hb
          rcases (i1 a).mp ha with h | h <;> omega
        · rw [if_neg hb]
          exact i2
      · show 0 ≤ if f x = 3 then s.run + 1 else 0
        split <;> omega
      · intro y h1 h2
        have h1 : x + 1 - 1 - (if f x = 3 then s.run + 1 else 0) < y := h1
        by_cases t : f x = 3
        · rw [if_pos t] at h1
          by_cases e : y = x
          · rw [e]; exact ⟨c, t⟩
          · exact i4 y (by omega) (by omega)
        · rw [if_neg t] at h1
          omega
      · show x + 1 - 1 - (if f x = 3 then s.run + 1 else 0) ≤ m ∨ ¬ f (x + 1 - 1 - (if f x = 3 then s.run + 1 else 0)) = 3
        by_cases t : f x = 3
        · rw [if_pos t]
          rw [show x + 1 - 1 - (s.run + 1) = x - 1 - s.run by omega]
          exact i5
        · rw [if_neg t]
          right
          rw [show x + 1 - 1 - 0 = x by omega]
          exact t
      · simp only [Bool.and_eq_true, decide_eq_true_eq, i6]
        constructor
        · rintro ⟨h1, h2⟩ y h3 h4
          by_cases e : y = x
          · rw [e]; exact h2
          · exact h1 y h3 (by omega)
        · intro h
          exact ⟨fun y h3 h4 => h y h3 (by omega), h x c (by omega)⟩
    · simp only [if_neg c]
      refine ⟨?_, i2, i3, ?_, ?_, ?_⟩
      · intro y
        rw [i1]
        constructor
        · rintro (h | h)
          · exact .inl h
          · exact .inr ⟨h.1, by omega, h.2.2⟩
        · rintro (h | ⟨h1, h2, h3⟩)
          · exact .inl h
          · omega
      · intro y h1 h2
        by_cases e : s.run = 0
        · rw [e] at h1; omega
        · have := i4 (x - 1) (by omega) (by omega)
          omega
      · left
        have := i3
        omega
      · rw [i6]
        constructor
        · intro h y h1 h2; omega
        · intro h y h1 h2; omega
theorem numbers_spec (hL : 0 < L) {p : Blk} {bs : List Blk} (h : fill row L = some (p :: bs)) (ht : ∀ l ∈ row, l ≤ top) :
    Asc (numbersFrom p.1 top L ((windowStarts top L).map fun s => cnt row [s - L, L, L])) ∧ ∀ y, y ∈ numbersFrom p.1 top L ((windowStarts top L).map fun s => cnt row [s - L, L, L]) ↔ inB (p :: bs) y := by
  have hv := fill_val (Int.le_of_lt hL) h
  have mp : inB (p :: bs) p.1 := inB_cons.mpr (.inl ⟨Int.le_refl _, hv.head⟩)
  have g1 := (fill_ge h p List.mem_cons_self).1
  have key := num_fold hL hv mp g1 (f := fun s => cnt row [s - L, L, L]) (fun y hy => (cnt_three_three hL h y).trans ⟨fun q => q.1, fun q => ⟨q, p.1, mp, hy⟩⟩) (top + 1 - (2 * L + 1)).toNat
  have e : numbersFrom p.1 top L ((windowStarts top L).map fun s => cnt row [s - L, L, L]) = (((List.range (top + 1 - (2 * L + 1)).toNat).map fun (i : Nat) => ((2 * L + 1 + (i : Int)), cnt row [2 * L + 1 + i - L, L, L])).foldl (numStep p.1 L) ⟨[p.1], 0, true⟩).found := by
    unfold numbersFrom
    rw [zip_map_self]
    unfold windowStarts rangeI
    rw [List.map_map]
    rfl
  rw [e]
  refine ⟨key.asc, fun y => (key.found y).trans ?_⟩
  constructor
  · rintro (rfl | h1)
    · exact mp
    · exact h1.2.2
  · intro hy
    have h1 := head_low hL hv hy
    have h2 : y ≤ top := by
      obtain ⟨q, hq, q1, q2⟩ := hy
      have := ht _ (fill_ends h q hq).2
      omega
    by_cases c : y = p.1
    · exact .inl c
    · exact .inr ⟨by omega, by omega, hy⟩
/-- the row that is found has the filling -/
theorem found_fill (hL : 0 < L) {p : Blk} {bs : List Blk} (h : fill row L = some (p :: bs)) {ns : List Int} (ha : Asc ns) (hn : ∀ y, y ∈ ns ↔ inB (p :: bs) y) : fill ns.reverse L = fill row L := by
  have hv := fill_val (Int.le_of_lt hL) h
  rw [h, fill_desc (desc_rev ha), List.reverse_reverse]
  · refine congrArg some (Val.unique hL (joinA_val (Int.le_of_lt hL) ha) hv fun n => ?_)
    constructor
    · intro q
      rcases joinA_out ha q with h1 | ⟨v, w, h1, h2, h3, h4, h5⟩
      · exact (hn n).mp h1
      · exact hv.closed (Int.le_of_lt hL) ((hn v).mp h1) ((hn w).mp h2) (Int.le_of_lt h3) (Int.le_of_lt h4) h5
    · intro q
      exact joinA_in ha ((hn n).mpr q)
  · intro l hl
    obtain ⟨q, hq, q1, q2⟩ := (hn l).mp (by simpa using hl)
    have := (fill_ge h q hq).1
    omega
end
end CK
end M5x
section M6x
set_option Elab.async false
set_option linter.all false
/-! The cheapest limits on offer, plain. -/
namespace CK
/-- pairs in Python's order -/
def pairLt (a b : Int × Int) : Bool := decide (a.1 < b.1) || (decide (a.1 = b.1) && decide (a.2 < b.2))
def minPair : List (Int × Int) → Option (Int × Int)
  | [] => none
  | x :: r => some (r.foldl (fun m y => if pairLt y m = true then y else m) x)
theorem pairLt_irrefl (a : Int × Int) : pairLt a a = false := by simp [pairLt]
theorem pairLt_anti {a b : Int × Int} (h1 : pairLt a b = false) (h2 : pairLt b a = false) : a = b := by
  simp [pairLt] at h1 h2
  have e1 : a.1 = b.1 := by omega
  have := h1.2 e1
  have := h2.2 e1.symm
  exact Prod.ext e1 (by omega)
theorem pairLt_trans {a b c : Int × Int} (h1 : pairLt a b = true) (h2 : pairLt c b = false) : pairLt a c = true := by
  simp [pairLt] at h1 h2 ⊢
  omega
theorem min_go (r : List (Int × Int)) : ∀ x, (r.foldl (fun m y => if pairLt y m = true then y else m) x) ∈ x :: r ∧ ∀ y ∈ x :: r, pairLt y (r.foldl (fun m y => if pairLt y m = true then y else m) x) = false := by
  induction r with
  | nil => intro x; simp [pairLt_irrefl]
  | cons z r ih =>
    intro x
    rw [List.foldl_cons]
    by_cases h : pairLt z x = true
    · rw [if_pos h]
      obtain ⟨i1, i2⟩ := ih z
      refine ⟨List.mem_cons_of_mem _ i1, fun y hy => ?_⟩
      rcases List.mem_cons.mp hy with rfl | hy
      · have i3 := i2 z List.mem_cons_self
        have e : pairLt y z = false := by
          simp [pairLt] at h ⊢
          omega
        generalize List.foldl (fun m y => if pairLt y m = true then y else m) z r = w at i3 ⊢
        simp [pairLt] at h e i3 ⊢
        omega
      · exact i2 y hy
    · rw [if_neg h]
      have h : pairLt z x = false := by simpa using h
      obtain ⟨i1, i2⟩ := ih x
      refine ⟨?_, fun y hy => ?_⟩
      · rcases List.mem_cons.mp i1 with e | e
        · rw [e]; exact List.mem_cons_self
        · exact List.mem_cons_of_mem _ (List.mem_cons_of_mem _ e)
      · rcases List.mem_cons.mp hy with rfl | hy
        · exact i2 y List.mem_cons_self
        · rcases List.mem_cons.mp hy with rfl | hy
          · have i3 := i2 x List.mem_cons_self
            generalize List.foldl (fun m y => if pairLt y m = true then y else m) x r = w at i3 ⊢
            simp [pairLt] at h i3 ⊢
            omega
          · exact i2 y (List.mem_cons_of_mem _ hy)
theorem minPair_spec {l : List (Int × Int)} {m : Int × Int} (h : minPair l = some m) : m ∈ l ∧ ∀ y ∈ l, pairLt y m = false := by
  cases l with
  | nil => cases h
  | cons x r =>
    simp only [minPair, Option.some.injEq] at h
    have := min_go r x
    rw [h] at this
    exact this
theorem minPair_none {l : List (Int × Int)} : minPair l = none ↔ l = [] := by
  cases l <;> simp [minPair]
theorem minPair_is {l : List (Int × Int)} {m : Int × Int} (h1 : m ∈ l) (h2 : ∀ y ∈ l, pairLt y m = false) : minPair l = some m := by
  cases e : minPair l with
  | none => rw [minPair_none.mp e] at h1; simp at h1
  | some w =>
    obtain ⟨s1, s2⟩ := minPair_spec e
    rw [pairLt_anti (h2 w s1) (s2 m h1)]
/-! ### ways -/
abbrev Way := Int × (Int × List Int)
def nearOf (L limit : Int) (found : List Way) : List (Int × Int) := (found.filter fun e => decide (limit - e.1 ≤ L)).map fun e => (e.2.1, e.1)
def wayAt (found : List Way) (k : Int) : Option (Int × List Int) := (found.find? fun e => decide (e.1 = k)).map (·.2)
def wayStep (low high L : Int) (found : List Way) (o : Int × Int) : List Way :=
  if o.1 = low then found ++ [(o.1, (o.2, [o.1]))]
  else if low < o.1 ∧ o.1 ≤ high then match minPair (nearOf L o.1 found) with
    | none => found
    | some m => found ++ [(o.1, (m.1 + o.2, o.1 :: ((wayAt found m.2).getD (0, [])).2))]
  else found
def waysUp (b : Blk) (L : Int) (offers : List (Int × Int)) : List Way := offers.foldl (wayStep b.1 b.2 L) []
def buyGo (L : Int) (offers : List (Int × Int)) : List Blk → Int × List Int → Option (Int × List Int)
  | [], acc => some acc
  | b :: bs, acc => match wayAt (waysUp b L offers) b.2 with
    | none => none
    | some w => buyGo L offers bs (acc.1 + w.1, w.2 ++ acc.2)
def smallOf (L : Int) (offers : List (Int × Int)) : List (Int × Int) := (offers.filter fun o => decide (o.1 < 2 * L)).map fun o => (o.2, o.1)
def cheapest (row : List Int) (L : Int) (offers : List (Int × Int)) : Option (Int × List Int) := match fill row L with
  | none => (minPair (smallOf L offers)).map fun m => (m.1, [m.2])
  | some bs => buyGo L offers bs (0, [])
def priceOf (offers : List (Int × Int)) (x : Int) : Int := ((offers.find? fun o => decide (o.1 = x)).map (·.2)).getD 0
theorem priceOf_mem {offers : List (Int × Int)} (h : Asc (offers.map (·.1))) {o : Int × Int} (ho : o ∈ offers) : priceOf offers o.1 = o.2 := by
  induction offers with
  | nil => simp at ho
  | cons a r ih =>
    simp only [List.map_cons] at h
    unfold priceOf
    rw [List.find?_cons]
    rcases List.mem_cons.mp ho with rfl | ho
    · simp
    · have h1 := (List.pairwise_cons.mp h).1 o.1 (List.mem_map.mpr ⟨o, ho, rfl⟩)
      have : ¬ a.1 = o.1 := by omega
      simp only [this, decide_false]
      exact ih (List.pairwise_cons.mp h).2 ho
theorem Chn.pred {L : Int} : ∀ {a : Int} {c : List Int}, Chn L (a :: c) → ∀ y ∈ c, ∃ v ∈ a :: c, v < y ∧ y - v ≤ L := by
  intro a c
  induction c generalizing a with
  | nil => simp
  | cons b c ih =>
    intro h y hy
    rcases List.mem_cons.mp hy with rfl | hy
    · exact ⟨a, List.mem_cons_self, h.1, h.2.1⟩
    · obtain ⟨v, hv, h1⟩ := ih h.2.2 y hy
      exact ⟨v, List.mem_cons_of_mem _ hv, h1⟩
theorem Chn.snoc {L : Int} {h : Int} : ∀ (l : List Int) (z : Int), Chn L l → l.getLast? = some z → z < h → h - z ≤ L → Chn L (l ++ [h]) := by
  intro l
  induction l with
  | nil => intros; trivial
  | cons u l ihl =>
    intro z hc hz h3 h4
    cases l with
    | nil =>
      simp at hz
      subst hz
      exact ⟨h3, h4, trivial⟩
    | cons v l => exact ⟨hc.1, hc.2.1, ihl z hc.2.2 (by simpa [List.getLast?_cons_cons] using hz) h3 h4⟩
/-- one way: its limits from low up, its price -/
structure WayOk (low L : Int) (all : List (Int × Int)) (pre : List Int) (e : Way) : Prop where
  chain : Chn L e.2.2.reverse
  head : e.2.2.reverse.head? = some low
  last : e.2.2.reverse.getLast? = some e.1
  price : e.2.1 = (e.2.2.map (priceOf all)).sum
  mem : ∀ x ∈ e.2.2, x ∈ pre
structure WInv (low high L : Int) (all : List (Int × Int)) (pre : List Int) (found : List Way) : Prop where
  each : ∀ e ∈ found, WayOk low L all pre e
  keys : ∀ e ∈ found, e.1 ∈ pre
  asc : Asc (found.map (·.1))
  full : ∀ g : List Int, Chn L g → g.head? = some low → (∀ x ∈ g, x ≤ high ∧ x ∈ all.map (·.1)) → ∀ x ∈ g, x ∈ pre → ∃ e ∈ found, e.1 = x
theorem wayAt_some {found : List Way} {k : Int} {w : Int × List Int} (h : wayAt found k = some w) : (k, w) ∈ found := by
  unfold wayAt at h
  obtain ⟨e, h1, h2⟩ := Option.map_eq_some_iff.mp h
  have h3 := List.find?_some h1
  have h4 := List.mem_of_find?_eq_some h1
  simp at h3
  rw [← h3, ← h2]
  exact h4
theorem wayAt_mem {found : List Way} (ha : Asc (found.map (·.1))) {e : Way} (h : e ∈ found) : wayAt found e.1 = some e.2 := by
  induction found with
  | nil => simp at h
  | cons a r ih =>
    simp only [List.map_cons] at ha
    unfold wayAt
    rw [List.find?_cons]
    rcases List.mem_cons.mp h with rfl | h
    · simp
    · have h1 := (List.pairwise_cons.mp ha).1 e.1 (List.mem_map.mpr ⟨e, h, rfl⟩)
      have : ¬ a.1 = e.1 := by omega
      simp only [this, decide_false]
      exact ih (List.pairwise_cons.mp ha).2 h
theorem WayOk.mono {low L : Int} {all : List (Int × Int)} {pre pre' : List Int} {e : Way} (h : WayOk low L all pre e) (hs : ∀ x ∈ pre, x ∈ pre') : WayOk low L all pre' e :=
  ⟨h.chain, h.head, h.last, h.price, fun x hx => hs x (h.mem x hx)⟩
theorem way_step {low high L : Int} (hL : 0 < L) (hlh : low ≤ high) {all : List (Int × Int)} (hall : Asc (all.map (·.1))) {pre : List (Int × Int)} {o : Int × Int} {post : List (Int × Int)} (e : all = pre ++ o :: post) {found : List Way} (h : WInv low high L all (pre.map (·.1)) found) :
    WInv low high L all ((pre ++ [o]).map (·.1)) (wayStep low high L found o) ∧ ∀ x ∈ pre.map (·.1), x < o.1 := by
  have hpre : ∀ x ∈ pre.map (·.1), x < o.1 := by
    rw [e, List.map_append] at hall
    intro x hx
    exact (List.pairwise_append.mp hall).2.2 x hx o.1 (by simp)
  have ho : o ∈ all := by rw [e]; simp
  have po := priceOf_mem hall ho
  have sub : ∀ x ∈ pre.map (·.1), x ∈ (pre ++ [o]).map (·.1) := by intro x hx; rw [List.map_append]; exact List.mem_append_left _ hx
  have oin : o.1 ∈ (pre ++ [o]).map (·.1) := by simp
  refine ⟨?_, hpre⟩
  -- what does not grow
  have same : (∀ g : List Int, Chn L g → g.head? = some low → (∀ x ∈ g, x ≤ high ∧ x ∈ all.map (·.1)) → o.1 ∈ g → False) → WInv low high L all ((pre ++ [o]).map (·.1)) found := by
    intro hno
    refine ⟨fun e' he => (h.each e' he).mono sub, fun e' he => sub _ (h.keys e' he), h.asc, fun g h1 h2 h3 x hx hp => ?_⟩
    rw [List.map_append] at hp
    rcases List.mem_append.mp hp with hp | hp
    · exact h.full g h1 h2 h3 x hx hp
    · simp at hp
      subst hp
      exact (hno g h1 h2 h3 hx).elim
  -- what grows by one way
  have grow : ∀ w : Int × List Int, WayOk low L all ((pre ++ [o]).map (·.1)) (o.1, w) → WInv low high L all ((pre ++ [o]).map (·.1)) (found ++ [(o.1, w)]) := by
    intro w hw
    refine ⟨fun e' he => ?_, fun e' he => ?_, ?_, fun g h1 h2 h3 x hx hp => ?_⟩
    · rcases List.mem_append.mp he with he | he
      · exact (h.each e' he).mono sub
      · simp at he; subst he; exact hw
    · rcases List.mem_append.mp he with he | he
      · exact sub _ (h.keys e' he)
      · simp at he; subst he; exact oin
    · rw [List.map_append]
      refine List.pairwise_append.mpr ⟨h.asc, by simp, fun a ha b hb => ?_⟩
      obtain ⟨e', he, rfl⟩ := List.mem_map.mp ha
      simp at hb
      subst hb
      exact hpre _ (h.keys e' he)
    · rw [List.map_append] at hp
      rcases List.mem_append.mp hp with hp | hp
      · obtain ⟨e', he, h4⟩ := h.full g h1 h2 h3 x hx hp
        exact ⟨e', List.mem_append_left _ he, h4⟩
      · simp at hp
        subst hp
        exact ⟨(o.1, w), by simp, rfl⟩
  unfold wayStep
  by_cases c1 : o.1 = low
  · rw [if_pos c1]
    refine grow _ ⟨trivial, by simp [c1], by simp, by simp [po], by simp⟩
  · rw [if_neg c1]
    by_cases c2 : low < o.1 ∧ o.1 ≤ high
    · rw [if_pos c2]
      cases em : minPair (nearOf L o.1 found) with
      | none =>
        refine same fun g h1 h2 h3 h4 => ?_
        cases g with
        | nil => simp at h4
        | cons a c =>
          simp at h2
          subst h2
          rcases List.mem_cons.mp h4 with h5 | h5
          · exact c1 h5
          · obtain ⟨v, hv, v1, v2⟩ := h1.pred _ h5
            have hv2 : v ∈ pre.map (·.1) := by
              have := (h3 v hv).2
              rw [e, List.map_append] at this
              rcases List.mem_append.mp this with q | q
              · exact q
              · exfalso
                rw [List.map_cons] at q
                rcases List.mem_cons.mp q with q | q
                · omega
                · rw [e, List.map_append, List.map_cons] at hall
                  have := (List.pairwise_cons.mp (List.pairwise_append.mp hall).2.1).1 v q
                  omega
            obtain ⟨e', he, h6⟩ := h.full (a :: c) h1 rfl h3 v hv hv2
            have : (e'.2.1, e'.1) ∈ nearOf L o.1 found := by
              unfold nearOf
              exact List.mem_map.mpr ⟨e', List.mem_filter.mpr ⟨he, by simp; omega⟩, rfl⟩
            rw [minPair_none.mp em] at this
            simp at this
      | some m =>
        obtain ⟨hm, _⟩ := minPair_spec em
        unfold nearOf at hm
        obtain ⟨e', he, h1⟩ := List.mem_map.mp hm
        obtain ⟨he, h2⟩ := List.mem_filter.mp he
        have h2 : o.1 - e'.1 ≤ L := by simpa using h2
        have m2 : m.2 = e'.1 := by rw [← h1]
        have m1 : m.1 = e'.2.1 := by rw [← h1]
        have ew : wayAt found m.2 = some e'.2 := by rw [m2]; exact wayAt_mem h.asc he
        simp only [ew, Option.getD_some]
        have wk := h.each e' he
        have hk := hpre _ (h.keys e' he)
        refine grow _ ⟨?_, ?_, by simp, ?_, ?_⟩
        · show Chn L (o.1 :: e'.2.2).reverse
          rw [List.reverse_cons]
          exact Chn.snoc _ _ wk.chain wk.last hk h2
        · show (o.1 :: e'.2.2).reverse.head? = some low
          rw [List.reverse_cons]
          have := wk.head
          cases q : e'.2.2.reverse with
          | nil => rw [q] at this; simp at this
          | cons u r => rw [q] at this; simpa using this
        · show m.1 + o.2 = ((o.1 :: e'.2.2).map (priceOf all)).sum
          rw [List.map_cons, List.sum_cons, po, ← wk.price, m1]
          omega
        · intro x hx
          rcases List.mem_cons.mp hx with rfl | hx
          · exact oin
          · exact sub _ (wk.mem x hx)
    · rw [if_neg c2]
      refine same fun g h1 h2 h3 h4 => ?_
      have h5 := (h3 _ h4).1
      cases g with
      | nil => simp at h4
      | cons a c =>
        simp at h2
        subst h2
        have := (h1.bounds rfl (List.getLast?_eq_some_getLast (by simp))) _ h4
        omega
theorem ways_inv {low high L : Int} (hL : 0 < L) (hlh : low ≤ high) {all : List (Int × Int)} (hall : Asc (all.map (·.1))) : ∀ (pre post : List (Int × Int)), all = pre ++ post → WInv low high L all (pre.map (·.1)) (pre.foldl (wayStep low high L) []) := by
  intro pre
  -- by the prefix from behind
  have go : ∀ (n : Nat) (pre post : List (Int × Int)), pre.length = n → all = pre ++ post → WInv low high L all (pre.map (·.1)) (pre.foldl (wayStep low high L) []) := by
    intro n
    induction n with
    | zero =>
      intro pre post h _
      have : pre = [] := List.length_eq_zero_iff.mp h
      subst this
      exact ⟨by simp, by simp, List.Pairwise.nil, fun g _ _ _ x _ hx => by simp at hx⟩
    | succ n ih =>
      intro pre post h e
      have hne : pre ≠ [] := by rintro rfl; simp at h
      have ed := List.dropLast_concat_getLast hne
      have e2 : all = pre.dropLast ++ pre.getLast hne :: post := by
        rw [e]
        conv => lhs; rw [← ed]
        simp
      have i := ih pre.dropLast (pre.getLast hne :: post) (by simp [h]) e2
      have := (way_step hL hlh hall e2 i).1
      rw [ed] at this
      have e3 : pre.foldl (wayStep low high L) [] = wayStep low high L (pre.dropLast.foldl (wayStep low high L) []) (pre.getLast hne) := by
        conv => lhs; rw [← ed, List.foldl_append]
        rfl
      rw [e3]
      exact this
  exact fun post e => go _ pre post rfl e
theorem ways_all {b : Blk} {L : Int} (hL : 0 < L) (hb : b.1 ≤ b.2) {offers : List (Int × Int)} (h : Asc (offers.map (·.1))) : WInv b.1 b.2 L offers (offers.map (·.1)) (waysUp b L offers) := ways_inv hL hb h offers [] (by simp)
/-! ### what is bought -/
theorem buy_some {L : Int} (hL : 0 < L) {offers : List (Int × Int)} (h : Asc (offers.map (·.1))) : ∀ (bs : List Blk) (acc r : Int × List Int), (∀ p ∈ bs, p.1 ≤ p.2) → buyGo L offers bs acc = some r →
    ∃ gs : List (List Int), F2 (fun p g => Chn L g ∧ g.head? = some p.1 ∧ g.getLast? = some p.2) bs gs ∧ r.2 = gs.flatten.reverse ++ acc.2 ∧ (∀ x ∈ gs.flatten, x ∈ offers.map (·.1)) ∧ r.1 = acc.1 + (gs.flatten.map (priceOf offers)).sum := by
  intro bs
  induction bs with
  | nil =>
    intro acc r _ hr
    simp only [buyGo, Option.some.injEq] at hr
    subst hr
    exact ⟨[], .nil, by simp, by simp, by simp⟩
  | cons b bs ih =>
    intro acc r hb hr
    simp only [buyGo] at hr
    have wi := ways_all hL (hb b List.mem_cons_self) h
    cases ew : wayAt (waysUp b L offers) b.2 with
    | none => rw [ew] at hr; cases hr
    | some w =>
      rw [ew] at hr
      obtain ⟨gs, g1, g2, g3, g4⟩ := ih _ r (fun p hp => hb p (List.mem_cons_of_mem _ hp)) hr
      have wk := wi.each _ (wayAt_some ew)
      refine ⟨w.2.reverse :: gs, .cons ⟨wk.chain, wk.head, wk.last⟩ g1, ?_, ?_, ?_⟩
      · rw [g2]; simp
      · intro x hx
        rw [List.flatten_cons] at hx
        rcases List.mem_append.mp hx with hx | hx
        · exact wk.mem x (by simpa using hx)
        · exact g3 x hx
      · rw [g4]
        have := wk.price
        simp only [List.flatten_cons, List.map_append, List.sum_append, List.map_reverse, List.sum_reverse]
        simp only at this
        omega
theorem buy_none {L : Int} (hL : 0 < L) {offers : List (Int × Int)} (h : Asc (offers.map (·.1))) : ∀ (bs : List Blk) (acc : Int × List Int), (∀ p ∈ bs, p.1 ≤ p.2) → (∀ p ∈ bs, ∃ g : List Int, Chn L g ∧ g.head? = some p.1 ∧ g.getLast? = some p.2 ∧ ∀ x ∈ g, x ∈ offers.map (·.1)) → buyGo L offers bs acc ≠ none := by
  intro bs
  induction bs with
  | nil => intro acc _ _; simp [buyGo]
  | cons b bs ih =>
    intro acc hb hg
    simp only [buyGo]
    have wi := ways_all hL (hb b List.mem_cons_self) h
    obtain ⟨g, g1, g2, g3, g4⟩ := hg b List.mem_cons_self
    have hin : b.2 ∈ g := List.mem_of_getLast? g3
    obtain ⟨e, he, h2⟩ := wi.full g g1 g2 (fun x hx => ⟨((g1.bounds g2 g3) x hx).2, g4 x hx⟩) b.2 hin (g4 _ hin)
    have := wayAt_mem wi.asc he
    rw [h2] at this
    rw [this]
    exact ih _ (fun p hp => hb p (List.mem_cons_of_mem _ hp)) fun p hp => hg p (List.mem_cons_of_mem _ hp)
theorem cheapest_some {row : List Int} {L : Int} (hL : 0 < L) {offers : List (Int × Int)} (h : Asc (offers.map (·.1))) {r : Int × List Int} (hr : cheapest row L offers = some r) : fill r.2 L = fill row L ∧ (∀ x ∈ r.2, x ∈ offers.map (·.1)) ∧ (r.2.map (priceOf offers)).sum = r.1 := by
  unfold cheapest at hr
  cases e : fill row L with
  | none =>
    rw [e] at hr
    obtain ⟨m, hm, rfl⟩ := Option.map_eq_some_iff.mp hr
    obtain ⟨m1, _⟩ := minPair_spec hm
    unfold smallOf at m1
    obtain ⟨o, ho, rfl⟩ := List.mem_map.mp m1
    obtain ⟨ho, h2⟩ := List.mem_filter.mp ho
    have h2 : o.1 < 2 * L := by simpa using h2
    refine ⟨?_, ?_, ?_⟩
    · rw [fill_none]; simp [lone]; omega
    · simp; exact ⟨o.2, ho⟩
    · simp [priceOf_mem h ho]
  | some bs =>
    rw [e] at hr
    have hv := fill_val (Int.le_of_lt hL) e
    obtain ⟨gs, g1, g2, g3, g4⟩ := buy_some hL h bs (0, []) r hv.each hr
    rw [List.append_nil] at g2
    rw [Int.zero_add] at g4
    refine ⟨?_, ?_, ?_⟩
    · rw [g2]
      exact fill_of_chains hL hv (fun p hp => (fill_ge e p hp).1) g1
    · intro x hx
      rw [g2] at hx
      exact g3 x (List.mem_reverse.mp hx)
    · rw [g2, g4, List.map_reverse, List.sum_reverse]
theorem cheapest_none {row : List Int} {L : Int} (hL : 0 < L) {offers : List (Int × Int)} (h : Asc (offers.map (·.1))) (hr : cheapest row L offers = none) : fill (offers.map (·.1)).reverse L ≠ fill row L := by
  unfold cheapest at hr
  intro eq
  cases e : fill row L with
  | none =>
    rw [e] at hr eq
    simp only [Option.map_eq_none_iff, minPair_none] at hr
    rw [fill_none] at eq
    obtain ⟨x, hx, h2⟩ := List.any_eq_true.mp eq
    have h2 : x < 2 * L := by simpa using h2
    rw [List.mem_reverse] at hx
    obtain ⟨o, ho, rfl⟩ := List.mem_map.mp hx
    have : (o.2, o.1) ∈ smallOf L offers := List.mem_map.mpr ⟨o, List.mem_filter.mpr ⟨ho, by simpa using h2⟩, rfl⟩
    rw [hr] at this
    simp at this
  | some bs =>
    rw [e] at hr eq
    have hv := fill_val (Int.le_of_lt hL) e
    have eq2 := (fill_some.mp eq).2
    rw [recs_of_desc (desc_rev h), List.reverse_reverse] at eq2
    obtain ⟨gs, g1, g2, g3⟩ := joinA_parts (Int.le_of_lt hL) h eq2
    refine buy_none hL h bs (0, []) hv.each (fun p hp => ?_) hr
    obtain ⟨i, hi, hp2⟩ := List.getElem_of_mem hp
    have hi2 : i < gs.length := by omega
    obtain ⟨k1, k2, k3⟩ := g3 i p gs[i] (by rw [List.getElem?_eq_getElem hi, hp2]) (List.getElem?_eq_getElem hi2)
    refine ⟨gs[i], k1, k2, k3, fun x hx => ?_⟩
    rw [← g1]
    exact List.mem_flatten.mpr ⟨gs[i], List.getElem_mem hi2, hx⟩
end CK
end M6x
section M7x
set_option Elab.async false
set_option linter.all false
/-! Texts of rows, fillings, offers, streams. -/
namespace CK
open PySem TL
def nS (n : Int) : Str := Str.ofString (toString n)
def spT : Str := " "
def dsT : Str := "-"
def fdT : Str := "\n"
def coT : Str := ":"
theorem tl_sp : tl spT = [32] := by decide +kernel
theorem tl_ds : tl dsT = [45] := by decide +kernel
theorem tl_fd : tl fdT = [10] := by decide +kernel
theorem tl_co : tl coT = [58] := by decide +kernel
theorem tl_nS {n : Int} (h : 0 ≤ n) : tl (nS n) = numL n.toNat := by
  have e : n = ((n.toNat : Nat) : Int) := by omega
  unfold nS
  rw [e]
  exact tl_num _
theorem nS_free {n : Int} (h : 0 ≤ n) {c : Nat} (hc : c < 48 ∨ 57 < c) : c ∉ tl (nS n) := by
  rw [tl_nS h]
  exact numL_free hc
theorem nS_ne {n : Int} (h : 0 ≤ n) : tl (nS n) ≠ [] := by
  rw [tl_nS h]
  exact numL_ne _
theorem nS_len {n : Int} (h : 0 ≤ n) (hb : n < 10 ^ 20) : (nS n).length ≤ 20 := by
  rw [len_tl, tl_nS h]
  exact numL_len (by decide) (by omega)
theorem nS_pos {n : Int} (h : 0 ≤ n) : 0 < (nS n).length := by
  rw [len_tl]
  exact List.length_pos_iff.mpr (nS_ne h)
theorem nS_int {n : Int} (h : 0 ≤ n) (hb : n < 10 ^ 20) : intText? (nS n) = some n := by
  have e : n = ((n.toNat : Nat) : Int) := by omega
  unfold nS
  rw [e]
  refine int_num ?_
  exact Nat.le_trans (numL_len (k := 20) (by decide) (by omega)) (by decide)
theorem nS_inj {m n : Int} (hm : 0 ≤ m) (hn : 0 ≤ n) (h : nS m = nS n) : m = n := by
  have e := congrArg tl h
  rw [tl_nS hm, tl_nS hn] at e
  have := numL_inj e
  omega
/-- the first sign -/
theorem numL_head : ∀ n : Nat, ∃ c r, numL n = c :: r ∧ 48 ≤ c ∧ c ≤ 57 ∧ (c = 48 → r = [])
  | n => by
    by_cases h : n < 10
    · exact ⟨48 + n, [], numL_lt h, by omega, by omega, fun _ => rfl⟩
    · obtain ⟨c, r, h1, h2, h3, h4⟩ := numL_head (n / 10)
      refine ⟨c, r ++ [48 + n % 10], by rw [numL_step (by omega), h1]; rfl, h2, h3, fun e => ?_⟩
      have e5 : r = [] := h4 e
      subst e
      rw [e5] at h1
      have h6 : (48 : Nat) = 48 + n / 10 ∨ 10 ≤ n / 10 := by
        by_cases h7 : n / 10 < 10
        · rw [numL_lt h7] at h1
          left
          have := List.head_eq_of_cons_eq h1
          omega
        · right; omega
      rcases h6 with h6 | h6
      · omega
      · rw [numL_step h6] at h1
        have e8 := congrArg List.length h1
        have h9 := List.length_pos_iff.mpr (numL_ne (n / 10 / 10))
        rw [List.length_append, List.length_singleton, List.length_singleton] at e8
        omega
  termination_by n => n
  decreasing_by omega
theorem nS_head {n : Int} (h : 0 ≤ n) : ∃ c r, tl (nS n) = c :: r ∧ 48 ≤ c ∧ c ≤ 57 ∧ (c = 48 → r = []) := by
  rw [tl_nS h]
  exact numL_head _
theorem nS_digits {n : Int} (h : 0 ≤ n) : ∀ c ∈ tl (nS n), 48 ≤ c ∧ c ≤ 57 := by
  rw [tl_nS h]
  intro c hc
  exact numL_digits n.toNat c hc
/-! ### numbers in a row -/
def numsS (ns : List Int) : Str := Txt.join spT (ns.map nS)
def NN (ns : List Int) : Prop := ∀ n ∈ ns, 0 ≤ n ∧ n < 10 ^ 20
theorem nums_split {ns : List Int} (hn : NN ns) (h : ns ≠ []) : Txt.split (numsS ns) spT = ns.map nS :=
  split_join (s := 32) (S := []) tl_sp (by decide +kernel) (by simpa using h) fun p hp => by
    obtain ⟨n, hn', rfl⟩ := List.mem_map.mp hp
    exact nS_free (hn n hn').1 (by omega)
theorem tl_joinT (y : Str) (ps : List Str) : tl (Txt.join y ps) = joinL (tl y) (ps.map tl) := by rw [join_eq, tl_join]
theorem joinL_free {S : List Nat} {c : Nat} (hS : c ∉ S) : ∀ {ps : List (List Nat)}, (∀ p ∈ ps, c ∉ p) → c ∉ joinL S ps
  | [], _ => by simp [joinL]
  | [p], h => by simpa [joinL] using h p
  | p :: q :: r, h => by
    have ih := joinL_free hS (ps := q :: r) fun x hx => h x (List.mem_cons_of_mem _ hx)
    show c ∉ p ++ (S ++ joinL S (q :: r)) 
    rw [List.mem_append, List.mem_append]
    rintro (z | z | z)
    · exact h p List.mem_cons_self z
    · exact hS z
    · exact ih z
theorem joinL_head {S : List Nat} {c : Nat} {p r : List Nat} {ps : List (List Nat)} : ∃ t, joinL S ((c :: r) :: ps) = c :: t := by
  cases ps with
  | nil => exact ⟨r, rfl⟩
  | cons q ps => exact ⟨r ++ (S ++ joinL S (q :: ps)), rfl⟩
theorem nums_free {ns : List Int} (hn : NN ns) {c : Nat} (hc : c < 32 ∨ (32 < c ∧ c < 48) ∨ 57 < c) : c ∉ tl (numsS ns) := by
  unfold numsS
  rw [tl_joinT, tl_sp]
  refine joinL_free (by simp; omega) fun p hp => ?_
  obtain ⟨w, hw, rfl⟩ := List.mem_map.mp hp
  obtain ⟨n, h, rfl⟩ := List.mem_map.mp hw
  exact nS_free (hn n h).1 (by omega)
theorem nums_head {ns : List Int} (hn : NN ns) (h : ns ≠ []) : ∃ c r, tl (numsS ns) = c :: r ∧ 48 ≤ c ∧ c ≤ 57 := by
  cases ns with
  | nil => exact absurd rfl h
  | cons n ns =>
    obtain ⟨c, r, e, h1, h2, _⟩ := nS_head (hn n List.mem_cons_self).1
    unfold numsS
    rw [tl_joinT, List.map_cons, List.map_cons, e]
    obtain ⟨t, ht⟩ := joinL_head (S := tl spT) (c := c) (p := []) (r := r) (ps := (ns.map nS).map tl)
    exact ⟨c, t, ht, h1, h2⟩
def rowS (ns : List Int) : Str := if ns = [] then dsT else numsS ns
theorem not_ds {w : Str} (h : ∃ c r, tl w = c :: r ∧ 48 ≤ c ∧ c ≤ 57) : w ≠ dsT := fun e => by
  obtain ⟨c, r, h1, h2, h3⟩ := h
  rw [e, tl_ds] at h1
  have := List.head_eq_of_cons_eq h1
  omega
theorem nums_ds {ns : List Int} (hn : NN ns) (h : ns ≠ []) : numsS ns ≠ dsT := not_ds (nums_head hn h)
/-! ### blocks -/
def blkS (b : Blk) : Str := if b.1 = b.2 then nS b.1 else ((Str.empty ++ nS b.1) ++ dsT) ++ nS b.2
theorem tl_empty : tl Str.empty = [] := by decide +kernel
theorem tl_blk {b : Blk} (h : b.1 ≠ b.2) : tl (blkS b) = tl (nS b.1) ++ 45 :: tl (nS b.2) := by
  unfold blkS
  rw [if_neg h, tl_append, tl_append, tl_append, tl_ds, tl_empty]
  simp
def BN (bs : List Blk) : Prop := ∀ b ∈ bs, (0 ≤ b.1 ∧ b.1 < 10 ^ 20) ∧ 0 ≤ b.2 ∧ b.2 < 10 ^ 20
theorem blk_free {b : Blk} (h1 : 0 ≤ b.1) (h2 : 0 ≤ b.2) {c : Nat} (hc : c < 45 ∨ (45 < c ∧ c < 48) ∨ 57 < c) : c ∉ tl (blkS b) := by
  by_cases h : b.1 = b.2
  · unfold blkS
    rw [if_pos h]
    exact nS_free h1 (by omega)
  · rw [tl_blk h]
    simp only [List.mem_append, List.mem_cons]
    rintro (z | z | z)
    · exact nS_free h1 (by omega) z
    · omega
    · exact nS_free h2 (by omega) z
theorem blk_head {b : Blk} (h1 : 0 ≤ b.1) : ∃ c r, tl (blkS b) = c :: r ∧ 48 ≤ c ∧ c ≤ 57 := by
  obtain ⟨c, r, e, k1, k2, _⟩ := nS_head h1
  by_cases h : b.1 = b.2
  · unfold blkS
    rw [if_pos h]
    exact ⟨c, r, e, k1, k2⟩
  · rw [tl_blk h, e]
    exact ⟨c, _, rfl, k1, k2⟩
theorem blk_len {b : Blk} (h : (0 ≤ b.1 ∧ b.1 < 10 ^ 20) ∧ 0 ≤ b.2 ∧ b.2 < 10 ^ 20) : (blkS b).length ≤ 41 := by
  have l1 := nS_len h.1.1 h.1.2
  have l2 := nS_len h.2.1 h.2.2
  by_cases e : b.1 = b.2
  · unfold blkS
    rw [if_pos e]
    omega
  · rw [len_tl, tl_blk e]
    rw [len_tl] at l1 l2
    rw [List.length_append, List.length_cons]
    omega
/-- the word with its mark made a blank -/
theorem blk_replace {b : Blk} (h1 : 0 ≤ b.1) (h2 : 0 ≤ b.2) : Txt.replace (blkS b) dsT spT = numsS (if b.1 = b.2 then [b.1] else [b.1, b.2]) := by
  refine ext_tl ?_
  show (Txt.replace (blkS b) dsT spT).cps.toList = _
  rw [PySem.StrLaws.replace_list (by decide +kernel)]
  show PySem.StrLaws.replL (tl dsT) (tl spT) (tl (blkS b)) = _
  rw [tl_ds, tl_sp]
  have none : ∀ (p : List Nat), 45 ∉ p → PySem.StrLaws.replL [45] [32] p = p := by
    intro p hp
    have q := PySem.StrLaws.repl_none (y := [45]) (z := [32]) (L := p) (a := 0) fun k _ e => by
      cases hq : p.drop k with
      | nil => rw [hq] at e; cases e
      | cons x r =>
        rw [hq] at e
        have e2 : x = 45 := by simpa using e
        exact hp (List.mem_of_mem_drop (i := k) (by rw [hq, e2]; exact List.mem_cons_self))
    simpa using q
  by_cases h : b.1 = b.2
  · rw [if_pos h]
    unfold blkS
    rw [if_pos h, none _ (nS_free h1 (by omega))]
    unfold numsS
    rw [tl_joinT]
    rfl
  · rw [if_neg h, tl_blk h]
    have step : ∀ (p q : List Nat), 45 ∉ p → PySem.StrLaws.replL [45] [32] (p ++ 45 :: q) = p ++ 32 :: PySem.StrLaws.replL [45] [32] q := by
      intro p
      induction p with
      | nil =>
        intro q _
        have e := PySem.StrLaws.replL_hit (y := [45]) (z := [32]) (c := 45) (r := q) (by simp) (by simp)
        simpa using e
      | cons x p ih =>
        intro q hp
        have e := PySem.StrLaws.replL_miss (y := [45]) (z := [32]) (c := x) (r := p ++ 45 :: q) (by
          intro z
          have : x = 45 := by simpa using z
          exact hp (by rw [this]; exact List.mem_cons_self))
        rw [List.cons_append, e, ih q fun z => hp (List.mem_cons_of_mem _ z)]
        rfl
    rw [step _ _ (nS_free h1 (by omega)), none _ (nS_free h2 (by omega))]
    unfold numsS
    rw [tl_joinT, tl_sp]
    rfl
def alT : Str := "alone"
def blksS (bs : List Blk) : Str := if bs = [] then dsT else Txt.join spT (bs.map blkS)
def fillS : Option (List Blk) → Str
  | none => alT
  | some bs => blksS bs
theorem blks_split {bs : List Blk} (hb : BN bs) (h : bs ≠ []) : Txt.split (Txt.join spT (bs.map blkS)) spT = bs.map blkS :=
  split_join (s := 32) (S := []) tl_sp (by decide +kernel) (by simpa using h) fun p hp => by
    obtain ⟨b, hb', rfl⟩ := List.mem_map.mp hp
    exact blk_free (hb b hb').1.1 (hb b hb').2.1 (by omega)
theorem blks_head {bs : List Blk} (hb : BN bs) (h : bs ≠ []) : ∃ c r, tl (Txt.join spT (bs.map blkS)) = c :: r ∧ 48 ≤ c ∧ c ≤ 57 := by
  cases bs with
  | nil => exact absurd rfl h
  | cons b bs =>
    obtain ⟨c, r, e, h1, h2⟩ := blk_head (b := b) (hb b List.mem_cons_self).1.1
    rw [tl_joinT, List.map_cons, List.map_cons, e]
    obtain ⟨t, ht⟩ := joinL_head (S := tl spT) (c := c) (p := []) (r := r) (ps := (bs.map blkS).map tl)
    exact ⟨c, t, ht, h1, h2⟩
theorem not_al {w : Str} (h : ∃ c r, tl w = c :: r ∧ 48 ≤ c ∧ c ≤ 57) : w ≠ alT := fun e => by
  obtain ⟨c, r, h1, h2, h3⟩ := h
  have e2 : tl alT = [97, 108, 111, 110, 101] := by decide +kernel
  rw [e, e2] at h1
  have := List.head_eq_of_cons_eq h1
  omega
theorem blks_al {bs : List Blk} (hb : BN bs) : blksS bs ≠ alT := by
  unfold blksS
  split
  · decide +kernel
  · rename_i h
    exact not_al (blks_head hb h)
/-! ### offers -/
def offS (o : Int × Int) : Str := ((Str.empty ++ nS o.1) ++ coT) ++ nS o.2
def offsS (os : List (Int × Int)) : Str := if os = [] then dsT else Txt.join spT (os.map offS)
theorem tl_off (o : Int × Int) : tl (offS o) = tl (nS o.1) ++ 58 :: tl (nS o.2) := by
  unfold offS
  rw [tl_append, tl_append, tl_append, tl_co, tl_empty]
  simp
theorem off_free {o : Int × Int} (h1 : 0 ≤ o.1) (h2 : 0 ≤ o.2) {c : Nat} (hc : c < 48 ∨ 58 < c) : c ∉ tl (offS o) := by
  rw [tl_off]
  simp only [List.mem_append, List.mem_cons]
  rintro (z | z | z)
  · exact nS_free h1 (by omega) z
  · omega
  · exact nS_free h2 (by omega) z
theorem off_head {o : Int × Int} (h1 : 0 ≤ o.1) : ∃ c r, tl (offS o) = c :: r ∧ 48 ≤ c ∧ c ≤ 57 := by
  obtain ⟨c, r, e, k1, k2, _⟩ := nS_head h1
  rw [tl_off, e]
  exact ⟨c, _, rfl, k1, k2⟩
theorem off_len {o : Int × Int} (h : (0 ≤ o.1 ∧ o.1 < 10 ^ 20) ∧ 0 ≤ o.2 ∧ o.2 < 10 ^ 20) : (offS o).length ≤ 41 := by
  have l1 := nS_len h.1.1 h.1.2
  have l2 := nS_len h.2.1 h.2.2
  rw [len_tl, tl_off]
  rw [len_tl] at l1 l2
  rw [List.length_append, List.length_cons]
  omega
theorem off_split {o : Int × Int} (h1 : 0 ≤ o.1) (h2 : 0 ≤ o.2) : Txt.split (offS o) coT = [nS o.1, nS o.2] := by
  have e : offS o = Txt.join coT [nS o.1, nS o.2] := ext_tl (by rw [tl_off, tl_joinT, tl_co]; rfl)
  rw [e]
  refine split_join (s := 58) (S := []) tl_co (by decide +kernel) (by simp) fun p hp => ?_
  have hp' : p = nS o.1 ∨ p = nS o.2 := by simpa using hp
  rcases hp' with e | e
  · rw [e]; exact nS_free h1 (by omega)
  · rw [e]; exact nS_free h2 (by omega)
theorem offs_split {os : List (Int × Int)} (hb : BN os) (h : os ≠ []) : Txt.split (Txt.join spT (os.map offS)) spT = os.map offS :=
  split_join (s := 32) (S := []) tl_sp (by decide +kernel) (by simpa using h) fun p hp => by
    obtain ⟨b, hb', rfl⟩ := List.mem_map.mp hp
    exact off_free (hb b hb').1.1 (hb b hb').2.1 (by omega)
theorem offs_head {os : List (Int × Int)} (hb : BN os) (h : os ≠ []) : ∃ c r, tl (Txt.join spT (os.map offS)) = c :: r ∧ 48 ≤ c ∧ c ≤ 57 := by
  cases os with
  | nil => exact absurd rfl h
  | cons b bs =>
    obtain ⟨c, r, e, h1, h2⟩ := off_head (o := b) (hb b List.mem_cons_self).1.1
    rw [tl_joinT, List.map_cons, List.map_cons, e]
    obtain ⟨t, ht⟩ := joinL_head (S := tl spT) (c := c) (p := []) (r := r) (ps := (bs.map offS).map tl)
    exact ⟨c, t, ht, h1, h2⟩
/-! ### streams -/
def strS (st : List (List Int)) : Str := if st = [] then dsT else Txt.join fdT (st.map numsS)
theorem str_split {st : List (List Int)} (hb : ∀ b ∈ st, NN b) (h : st ≠ []) : Txt.split (Txt.join fdT (st.map numsS)) fdT = st.map numsS :=
  split_join (s := 10) (S := []) tl_fd (by decide +kernel) (by simpa using h) fun p hp => by
    obtain ⟨b, hb', rfl⟩ := List.mem_map.mp hp
    exact nums_free (hb b hb') (by omega)
theorem str_head {st : List (List Int)} (hb : ∀ b ∈ st, NN b ∧ b ≠ []) (h : st ≠ []) : ∃ c r, tl (Txt.join fdT (st.map numsS)) = c :: r ∧ 48 ≤ c ∧ c ≤ 57 := by
  cases st with
  | nil => exact absurd rfl h
  | cons b bs =>
    obtain ⟨c, r, e, h1, h2⟩ := nums_head (hb b List.mem_cons_self).1 (hb b List.mem_cons_self).2
    rw [tl_joinT, List.map_cons, List.map_cons, e]
    obtain ⟨t, ht⟩ := joinL_head (S := tl fdT) (c := c) (p := []) (r := r) (ps := (bs.map numsS).map tl)
    exact ⟨c, t, ht, h1, h2⟩
/-- joined lines -/
theorem join_lines (st : List (List Int)) : (if st.map numsS = [] then dsT else Txt.join fdT (st.map numsS)) = strS st := by
  unfold strS
  cases st <;> simp
end CK
end M7x
section W1x
set_option Elab.async false
set_option linter.all false
set_option maxRecDepth 100000
/-! Data in the heap, worlds of what may change, and the slots' data. -/
namespace CW
open PySem PySem.Spec PyProof.Rows L2
/-! ### heaps -/
theorem Same.new {H : Hp} {p : Addr} {o : HO} (h : H p = none) : Same H (upd H p o) := fun b x e => by
  rw [upd_ne (ne_of_none e h)]
  exact e
theorem Same.put {H H' : Hp} {p : Addr} {o : HO} (e : Same H H') (h : H p = none) : Same H (upd H' p o) := fun b x q => by
  rw [upd_ne (ne_of_none q h)]
  exact e b x q
/-- the heap without some addresses -/
def off (ps : List Addr) (H : Hp) : Hp := fun q => if q ∈ ps then none else H q
theorem off_le (ps : List Addr) (H : Hp) : Same (off ps H) H := fun b o e => by
  unfold off at e
  split at e
  · cases e
  · exact e
theorem off_get {ps : List Addr} {H : Hp} {p : Addr} (h : p ∉ ps) : off ps H p = H p := if_neg h
theorem off_free {ps : List Addr} {H : Hp} {p : Addr} (h : H p = none) : off ps H p = none := by
  unfold off
  split
  · rfl
  · exact h
theorem off_upd {ps : List Addr} {H : Hp} {p : Addr} {o : HO} (h : p ∉ ps) : off ps (upd H p o) = upd (off ps H) p o := by
  funext q
  unfold off upd
  by_cases e : q = p
  · subst e
    rw [if_neg h, if_pos rfl, if_pos rfl]
  · rw [if_neg e, if_neg e]
theorem off_in {ps : List Addr} {H : Hp} {p : Addr} {o : HO} (h : p ∈ ps) : off ps (upd H p o) = off ps H := by
  funext q
  unfold off upd
  by_cases e : q = p
  · subst e
    rw [if_pos h, if_pos h]
  · rw [if_neg e]
theorem off_sub {ps qs : List Addr} (h : ∀ p ∈ ps, p ∈ qs) (H : Hp) : Same (off qs H) (off ps H) := fun b o e => by
  unfold off at e ⊢
  by_cases q : b ∈ qs
  · rw [if_pos q] at e; cases e
  · rw [if_neg q] at e
    rw [if_neg fun z => q (h b z)]
    exact e
theorem off_same {ps : List Addr} {H H' : Hp} (h : Same H H') : Same (off ps H) (off ps H') := fun b o e => by
  unfold off at e ⊢
  by_cases q : b ∈ ps
  · rw [if_pos q] at e; cases e
  · rw [if_neg q] at e ⊢
    exact h b o e
theorem off_cons {ps : List Addr} {H : Hp} {p : Addr} (h : H p = none) : off (p :: ps) H = off ps H := by
  funext q
  unfold off
  by_cases e : q = p
  · subst e
    rw [if_pos (List.mem_cons_self), h]
    split <;> rfl
  · have : (q ∈ p :: ps) = (q ∈ ps) := by simp [e]
    simp [this]
theorem off_cons_upd {ps : List Addr} {H : Hp} {p : Addr} {o : HO} (h : H p = none) : off (p :: ps) (upd H p o) = off ps H := by
  rw [off_in List.mem_cons_self, off_cons h]
/-! ### data -/
section
variable {K : PySem.W.Frag} {H H' : Hp}
theorem sqT_mono {a : Addr} {xs : List V} (e : Same H H') (h : SqT K H a xs) : SqT K H' a xs := by
  rcases h with (h | ⟨o, h⟩) | h
  · exact .inl (.inl (e _ _ h))
  · exact .inl (.inr ⟨o, e _ _ h⟩)
  · exact .inr h
end
mutual
inductive Is (K : PySem.W.Frag) (H : Hp) : V → PyData → Prop
  | non : Is K H .non .none
  | bl (b : Bool) : Is K H (.bl b) (.bool b)
  | int (i : Int) : Is K H (.int i) (.int i)
  | str (x : Str) : Is K H (.str x) (.str x)
  | lst {a : Addr} {xs : List V} {ds : List PyData} : SqL K H a xs → IsAll K H xs ds → Is K H (.ref a) (.list ds)
  | tup {a : Addr} {xs : List V} {ds : List PyData} : SqT K H a xs → IsAll K H xs ds → Is K H (.ref a) (.tuple ds)
inductive IsAll (K : PySem.W.Frag) (H : Hp) : List V → List PyData → Prop
  | nil : IsAll K H [] []
  | cons {v : V} {vs : List V} {d : PyData} {ds : List PyData} : Is K H v d → IsAll K H vs ds → IsAll K H (v :: vs) (d :: ds)
end
section
variable {K : PySem.W.Frag} {H H' : Hp}
mutual
theorem Is.mono (e : Same H H') : ∀ {d : PyData} {v : V}, Is K H v d → Is K H' v d
  | _, _, .non => .non
  | _, _, .bl b => .bl b
  | _, _, .int i => .int i
  | _, _, .str x => .str x
  | _, _, .lst h a => .lst (Same.seq e h) (IsAll.mono e a)
  | _, _, .tup h a => .tup (sqT_mono e h) (IsAll.mono e a)
theorem IsAll.mono (e : Same H H') : ∀ {ds : List PyData} {vs : List V}, IsAll K H vs ds → IsAll K H' vs ds
  | _, _, .nil => .nil
  | _, _, .cons h a => .cons (Is.mono e h) (IsAll.mono e a)
end
mutual
theorem Is.dp : ∀ {d : PyData} {v : V}, Is K H v d → Dp K H v d
  | _, _, .non => .non
  | _, _, .bl b => .bl b
  | _, _, .int i => .int i
  | _, _, .str x => .str x
  | _, _, .lst h a => .lst h (IsAll.dp a)
  | _, _, .tup h a => .tup h (IsAll.dp a)
theorem IsAll.dp : ∀ {ds : List PyData} {vs : List V}, IsAll K H vs ds → DpAll K H vs ds
  | _, _, .nil => .nil
  | _, _, .cons h a => .cons (Is.dp h) (IsAll.dp a)
end
theorem IsAll.len : ∀ {ds : List PyData} {vs : List V}, IsAll K H vs ds → vs.length = ds.length
  | _, _, .nil => rfl
  | _, _, .cons _ a => congrArg (· + 1) (IsAll.len a)
theorem IsAll.get : ∀ {ds : List PyData} {vs : List V} {i : Nat} {d : PyData}, IsAll K H vs ds → ds[i]? = some d → ∃ v, vs[i]? = some v ∧ Is K H v d
  | _, _, i, d, .nil, h => by simp at h
  | _, _, 0, d, .cons h _, e => by
    simp at e
    subst e
    exact ⟨_, rfl, h⟩
  | _, _, i + 1, d, .cons _ a, e => by
    obtain ⟨v, h1, h2⟩ := IsAll.get (i := i) (d := d) a (by simpa using e)
    exact ⟨v, by simpa using h1, h2⟩
theorem IsAll.get' {ds : List PyData} {vs : List V} {i : Nat} {v : V} (a : IsAll K H vs ds) (h : vs[i]? = some v) : ∃ d, ds[i]? = some d ∧ Is K H v d := by
  have hl := a.len
  have hi := (List.getElem?_eq_some_iff.mp h).1
  obtain ⟨w, h1, h2⟩ := a.get (i := i) (d := ds[i]'(by omega)) (List.getElem?_eq_getElem _)
  rw [h] at h1
  cases h1
  exact ⟨_, List.getElem?_eq_getElem _, h2⟩
theorem IsAll.append : ∀ {ds es : List PyData} {vs ws : List V}, IsAll K H vs ds → IsAll K H ws es → IsAll K H (vs ++ ws) (ds ++ es)
  | _, _, _, _, .nil, b => b
  | _, _, _, _, .cons h a, b => .cons h (IsAll.append a b)
theorem IsAll.snoc {ds : List PyData} {vs : List V} {v : V} {d : PyData} (a : IsAll K H vs ds) (h : Is K H v d) : IsAll K H (vs ++ [v]) (ds ++ [d]) := a.append (.cons h .nil)
theorem IsAll.take : ∀ {ds : List PyData} {vs : List V} (n : Nat), IsAll K H vs ds → IsAll K H (vs.take n) (ds.take n)
  | _, _, 0, _ => by rw [List.take_zero, List.take_zero]; exact .nil
  | _, _, n + 1, .nil => .nil
  | _, _, n + 1, .cons h a => .cons h (IsAll.take n a)
theorem IsAll.drop : ∀ {ds : List PyData} {vs : List V} (n : Nat), IsAll K H vs ds → IsAll K H (vs.drop n) (ds.drop n)
  | _, _, 0, a => a
  | _, _, n + 1, .nil => .nil
  | _, _, n + 1, .cons _ a => IsAll.drop n a
theorem IsAll.set : ∀ {ds : List PyData} {vs : List V} {v : V} {d : PyData} (n : Nat), IsAll K H vs ds → Is K H v d → IsAll K H (vs.set n v) (ds.set n d)
  | _, _, _, _, _, .nil, _ => .nil
  | _, _, _, _, 0, .cons _ a, h => .cons h a
  | _, _, _, _, n + 1, .cons h1 a, h => .cons h1 (IsAll.set n a h)
theorem IsAll.rev : ∀ {ds : List PyData} {vs : List V}, IsAll K H vs ds → IsAll K H vs.reverse ds.reverse
  | _, _, .nil => .nil
  | _, _, .cons h a => by
    rw [List.reverse_cons, List.reverse_cons]
    exact (IsAll.rev a).snoc h
theorem IsAll.ints : ∀ {ns : List Int} {vs : List V}, IsAll K H vs (ns.map .int) → vs = ns.map V.int
  | [], _, .nil => rfl
  | n :: ns, _, .cons (.int _) a => by rw [IsAll.ints a]; rfl
theorem isAll_ints : ∀ (ns : List Int), IsAll K H (ns.map V.int) (ns.map .int)
  | [] => .nil
  | n :: ns => .cons (.int n) (isAll_ints ns)
theorem IsAll.bls : ∀ {bs : List Bool} {vs : List V}, IsAll K H vs (bs.map .bool) → vs = bs.map V.bl
  | [], _, .nil => rfl
  | n :: ns, _, .cons (.bl _) a => by rw [IsAll.bls a]; rfl
theorem IsAll.strs : ∀ {bs : List Str} {vs : List V}, IsAll K H vs (bs.map .str) → vs = bs.map V.str
  | [], _, .nil => rfl
  | n :: ns, _, .cons (.str _) a => by rw [IsAll.strs a]; rfl
theorem isAll_strs : ∀ (ns : List Str), IsAll K H (ns.map V.str) (ns.map .str)
  | [] => .nil
  | n :: ns => .cons (.str n) (isAll_strs ns)
end
/-! ### slots -/
/-- what is known of a slot: nothing; its data; the address of a thing that changes -/
inductive Sl where
  | no | dat (d : PyData) | at (p : Addr)
/-- a value, as a slot is known -/
def SlOk (K : PySem.W.Frag) (O : Hp) (v : V) : Sl → Prop
  | .no => True
  | .dat d => Is K O v d
  | .at p => v = .ref p
theorem SlOk.mono {K : PySem.W.Frag} {O O' : Hp} {v : V} {s : Sl} (e : Same O O') (h : SlOk K O v s) : SlOk K O' v s := by
  cases s with
  | no => trivial
  | dat d => exact Is.mono e h
  | «at» p => exact h
inductive SlAll (K : PySem.W.Frag) (O : Hp) : List V → List Sl → Prop
  | nil : SlAll K O [] []
  | cons {v : V} {vs : List V} {s : Sl} {ss : List Sl} : SlOk K O v s → SlAll K O vs ss → SlAll K O (v :: vs) (s :: ss)
theorem SlAll.mono {K : PySem.W.Frag} {O O' : Hp} {vs : List V} {ss : List Sl} (e : Same O O') (h : SlAll K O vs ss) : SlAll K O' vs ss := by
  induction h with
  | nil => exact .nil
  | cons h _ ih => exact .cons (h.mono e) ih
theorem SlAll.len {K : PySem.W.Frag} {O : Hp} {vs : List V} {ss : List Sl} (h : SlAll K O vs ss) : vs.length = ss.length := by
  induction h with
  | nil => rfl
  | cons _ _ ih => simp [ih]
theorem SlAll.all {K : PySem.W.Frag} {O : Hp} : ∀ {ds : List PyData} {vs : List V}, SlAll K O vs (ds.map .dat) → IsAll K O vs ds
  | [], _, .nil => .nil
  | d :: ds, _, .cons h t => .cons h (SlAll.all t)
structure Env (K : PySem.W.Frag) (O : Hp) (σ : L2.St) (ρ : List Sl) : Prop where
  len : σ.length = ρ.length
  get : ∀ (i : Nat) (s : Sl), ρ[i]? = some s → s ≠ .no → ∃ v, σ[i]? = some (some v) ∧ SlOk K O v s
section
variable {K : PySem.W.Frag} {O O' : Hp} {σ : L2.St} {ρ : List Sl}
theorem Env.mono (e : Same O O') (h : Env K O σ ρ) : Env K O' σ ρ := ⟨h.len, fun i s q n => let ⟨v, h1, h2⟩ := h.get i s q n; ⟨v, h1, h2.mono e⟩⟩
theorem Env.set {i : Nat} {v : V} {s : Sl} (h : SlOk K O v s) (t : Env K O σ ρ) : Env K O (σ.set i (some v)) (ρ.set i s) := by
  refine ⟨by simp [t.len], fun j s' q n => ?_⟩
  by_cases e : i = j
  · subst e
    have hr : i < ρ.length := by
      refine Nat.lt_of_not_le fun z => ?_
      rw [List.getElem?_eq_none (by simpa using z)] at q
      cases q
    rw [List.getElem?_set_self hr] at q
    cases q
    exact ⟨v, List.getElem?_set_self (by rw [t.len]; exact hr), h⟩
  · rw [List.getElem?_set_ne e] at q ⊢
    exact t.get j s' q n
/-- slots forgotten -/
def wipeR (ρ : List Sl) : List Nat → List Sl
  | [] => ρ
  | v :: vs => (wipeR ρ vs).set v .no
theorem Env.wipe (h : Env K O σ ρ) : ∀ vs : List Nat, Env K O (wipe σ vs) (wipeR ρ vs)
  | [] => h
  | v :: vs => by
    have ih := Env.wipe h vs
    refine ⟨?_, fun j s q n => ?_⟩
    · show ((L2.wipe σ vs).set v none).length = ((wipeR ρ vs).set v .no).length
      rw [List.length_set, List.length_set, ih.len]
    have q' : ((wipeR ρ vs).set v .no)[j]? = some s := q
    by_cases e : v = j
    · subst e
      by_cases hv : v < (wipeR ρ vs).length
      · rw [List.getElem?_set_self hv] at q'
        cases q'
        exact absurd rfl n
      · rw [List.getElem?_eq_none (by simpa using hv)] at q'
        cases q'
    · rw [List.getElem?_set_ne e] at q'
      obtain ⟨w, h1, h2⟩ := ih.get j s q' n
      refine ⟨w, ?_, h2⟩
      show ((L2.wipe σ vs).set v none)[j]? = some (some w)
      rw [List.getElem?_set_ne e]
      exact h1
theorem Env.wipe_at (h : Env K O σ ρ) (vs : List Nat) {ρ' : List Sl} (e : wipeR ρ vs = ρ') : Env K O (L2.wipe σ vs) ρ' := e ▸ h.wipe vs
theorem Env.of_all {vs : List V} {ss : List Sl} (h : SlAll K O vs ss) (m : Nat) : Env K O (vs.map some ++ List.replicate m none) (ss ++ List.replicate m .no) := by
  refine ⟨by simp [h.len], fun i s q n => ?_⟩
  induction h generalizing i with
  | nil =>
    simp only [List.nil_append] at q
    rw [List.getElem?_replicate] at q
    split at q
    · cases q; exact absurd rfl n
    · cases q
  | cons h _ ih =>
    cases i with
    | zero =>
      simp at q
      subst q
      exact ⟨_, rfl, h⟩
    | succ i => exact ih i (by simpa using q)
theorem wipe_get (σ : L2.St) : ∀ (vs : List Nat) (j : Nat), (wipe σ vs)[j]? = if j ∈ vs ∧ j < σ.length then some none else σ[j]?
  | [], j => by simp [wipe]
  | v :: vs, j => by
    show ((wipe σ vs).set v none)[j]? = _
    have ih := wipe_get σ vs j
    have hl := wipe_length σ vs
    by_cases e : v = j
    · subst e
      by_cases hv : v < σ.length
      · rw [List.getElem?_set_self (by omega)]; simp [hv]
      · rw [List.getElem?_eq_none (by simp; omega), List.getElem?_eq_none (by omega), if_neg (by omega)]
    · rw [List.getElem?_set_ne e, ih]
      have : j ≠ v := fun z => e z.symm
      simp [this]
theorem wipe_set {τ : L2.St} {σ : L2.St} {vs : List Nat} (hl : τ.length = σ.length) (h : ∀ j, j ∉ vs → τ[j]? = σ[j]?) : wipe τ vs = wipe σ vs := by
  refine List.ext_getElem? fun j => ?_
  rw [wipe_get, wipe_get, hl]
  by_cases hj : j ∈ vs
  · by_cases hs : j < σ.length
    · simp [hj, hs]
    · rw [if_neg (by simp [hs]), if_neg (by simp [hs]), List.getElem?_eq_none (by omega), List.getElem?_eq_none (by omega)]
  · rw [if_neg (by simp [hj]), if_neg (by simp [hj])]
    exact h j hj
theorem wipe_one {σ : L2.St} {vs : List Nat} {j : Nat} {o : Option V} (hj : j ∈ vs) : wipe ((wipe σ vs).set j o) vs = wipe σ vs := wipe_set (by simp [wipe_length]) fun i hi => by
  have e : j ≠ i := fun z => hi (z ▸ hj)
  rw [List.getElem?_set_ne e, wipe_get, if_neg (by simp [hi])]
theorem wipe_two {σ : L2.St} {vs : List Nat} {j l : Nat} {o u : Option V} (hj : j ∈ vs) (hl : l ∈ vs) : wipe (((wipe σ vs).set j o).set l u) vs = wipe σ vs := wipe_set (by simp [wipe_length]) fun i hi => by
  have e : j ≠ i := fun z => hi (z ▸ hj)
  have e2 : l ≠ i := fun z => hi (z ▸ hl)
  rw [List.getElem?_set_ne e2, List.getElem?_set_ne e, wipe_get, if_neg (by simp [hi])]
end
/-! ### worlds: what may change, and what stays true of it -/
structure Wd where
  ps : List Addr
  I : Nat → Hp → Hp → Prop
  has : ∀ {n H O}, I n H O → ∀ p ∈ ps, H p ≠ none
  loc : ∀ {n H H' O O'}, I n H O → (∀ p ∈ ps, H' p = H p) → Same O O' → I n H' O'
  low : ∀ {n m H O}, m ≤ n → I n H O → I m H O
/-- the rest of the heap -/
abbrev Wd.fr (W : Wd) (H : Hp) : Hp := off W.ps H
def Wd.ok (W : Wd) (n : Nat) (H : Hp) : Prop := W.I n H (off W.ps H)
def Wd.nil : Wd := ⟨[], fun _ _ _ => True, fun _ _ h => absurd h (List.not_mem_nil), fun _ _ _ => trivial, fun _ _ => trivial⟩
theorem Wd.nil_ok {n : Nat} {H : Hp} : Wd.nil.ok n H := trivial
section
variable {W : Wd} {n m : Nat} {H H' : Hp} {p : Addr} {o : HO}
theorem Wd.ok.low (h : W.ok n H) (e : m ≤ n) : W.ok m H := W.low e h
theorem Wd.ok.free (h : W.ok n H) (hp : H p = none) : p ∉ W.ps := fun z => W.has h p z hp
theorem Wd.ok.to (h : W.ok n H) (e : Same H H') : W.ok n H' := W.loc h (fun p hp => by
  cases q : H p with
  | none => exact absurd q (W.has h p hp)
  | some o => exact e p o q) (off_same e)
theorem Wd.ok.new (h : W.ok n H) (hp : H p = none) : W.ok n (upd H p o) := h.to (Same.new hp)
theorem Wd.ok.eq (h : W.ok n H) (hp : H p = none) : W.fr (upd H p o) = upd (W.fr H) p o := off_upd (h.free hp)
theorem Wd.ok.at (h : W.ok n H) (hp : H p = none) : W.fr (upd H p o) p = some o := by rw [h.eq hp]; exact upd_same
theorem fr_to (e : Same H H') : Same (W.fr H) (W.fr H') := off_same e
theorem fr_new (hp : H p = none) : Same (W.fr H) (W.fr (upd H p o)) := off_same (Same.new hp)
theorem fr_le : Same (W.fr H) H := off_le _ _
end
end CW
end W1x
section W2x
set_option Elab.async false
set_option linter.all false
set_option maxRecDepth 100000
/-! What the readings come to, over the slots' data. -/
namespace CW
open PySem PySem.Spec PyProof.Rows L2 StX
/-! ### rules joined -/
section
variable {X : Cx}
theorem opr_or {f : Value → Value → Sem Value} {r r' : R2} (h : OpR X f r) (h' : OpR X f r') : OpR X f (fun x y H Q => r x y H Q ∨ r' x y H Q) := by
  intro pins s σ H x y v u Q I rx ry q
  rcases q with q | q
  · exact h pins s σ H x y v u Q I rx ry q
  · exact h' pins s σ H x y v u Q I rx ry q
def rPlus (K : PySem.W.Frag) : R2 := fun x y H Q => rI0 (fun i j => .int (i + j)) x y H Q ∨ (rCat x y H Q ∨ rCatA K x y H Q)
theorem op_plus : OpR X (binaryOp .Add) (rPlus X.K) := opr_or op_add (opr_or op_cat op_catA)
def rEqX (K : PySem.W.Frag) : R2 := fun x y H Q => rEq x y H Q ∨ rEqD K x y H Q
theorem op_eqX (hu : X.A.units + 64 < cLine) : OpR X (compareOp .Eq) (rEqX X.K) := opr_or op_eq (op_eqD hu)
def rNeX (K : PySem.W.Frag) : R2 := fun x y H Q => rNe x y H Q ∨ rNeD K x y H Q
theorem op_neX (hu : X.A.units + 64 < cLine) : OpR X (compareOp .NotEq) (rNeX X.K) := opr_or op_ne (op_neD hu)
def rSlX (K : PySem.W.Frag) : V → Option Int → Option Int → Hp → VK → Prop := fun x lo hi H Q => rSlL K x lo hi H Q ∨ rSlA K x lo hi H Q
theorem sl_seqX : SlR X (rSlX X.K) := SlR.or sl_list sl_tupA
end
/-! ### the judgements -/
section
variable (K : PySem.W.Frag) (W : Wd)
def Ev (te : TE) (ρ : List Sl) (P : PyData → Prop) : Prop := ∀ (σ : L2.St) (H : Hp) (n : Nat), Env K (W.fr H) σ ρ → W.ok n H → ∀ Q : VK, (∀ v H' d, Same H H' → Is K (W.fr H') v d → P d → Q v H') → te σ H Q
abbrev EvD (te : TE) (ρ : List Sl) (d : PyData) : Prop := Ev K W te ρ fun x => x = d
/-- a new list -/
def EvF (te : TE) (ρ : List Sl) (ds : List PyData) : Prop := ∀ (σ : L2.St) (H : Hp) (n : Nat), Env K (W.fr H) σ ρ → W.ok n H → ∀ Q : VK, (∀ p H' vs, H p = none → Same H H' → H' p = some (.lst vs) → IsAll K (off (p :: W.ps) H') vs ds → Q (.ref p) H') → te σ H Q
def EvT (tt : TT) (ρ : List Sl) (b : Bool) : Prop := ∀ (σ : L2.St) (H : Hp) (n : Nat), Env K (W.fr H) σ ρ → W.ok n H → ∀ Q : Bool → Hp → Prop, (∀ H', Same H H' → Q b H') → tt σ H Q
def EvA (ta : TA) (ρ : List Sl) (ds : List PyData) : Prop := ∀ (σ : L2.St) (H : Hp) (n : Nat), Env K (W.fr H) σ ρ → W.ok n H → ∀ Q : List V → Hp → Prop, (∀ vs H', Same H H' → IsAll K (W.fr H') vs ds → Q vs H') → ta σ H Q
/-- a relation on values, over data -/
def RvD (r : R2) (a b : PyData) (P : PyData → Prop) : Prop := ∀ x y H n, Is K (W.fr H) x a → Is K (W.fr H) y b → W.ok n H → ∀ Q : VK, (∀ v H' d, Same H H' → Is K (W.fr H') v d → P d → Q v H') → r x y H Q
def RcD (r : List V → Hp → VK → Prop) (ds : List PyData) (P : PyData → Prop) : Prop := ∀ vs H n, IsAll K (W.fr H) vs ds → W.ok n H → ∀ Q : VK, (∀ v H' d, Same H H' → Is K (W.fr H') v d → P d → Q v H') → r vs H Q
def RcF (r : List V → Hp → VK → Prop) (ds : List PyData) (es : List PyData) : Prop := ∀ vs H n, IsAll K (W.fr H) vs ds → W.ok n H → ∀ Q : VK, (∀ p H' ws, H p = none → Same H H' → H' p = some (.lst ws) → IsAll K (off (p :: W.ps) H') ws es → Q (.ref p) H') → r vs H Q
end
section
variable {K : PySem.W.Frag} {W : Wd} {ρ : List Sl} {ta tb te : TE} {t u : TT} {a b d : PyData} {i j : Int}
theorem free_back {H H' : Hp} {p : Addr} (e : Same H H') (h : H' p = none) : H p = none := Same.free e h
theorem is_tup {H : Hp} {p : Addr} {n : Nat} {vs : List V} {ds : List PyData} (o : W.ok n H) (hp : H p = none) (dv : IsAll K (W.fr H) vs ds) : Is K (W.fr (upd H p (.tup vs))) (.ref p) (.tuple ds) :=
  .tup (.inl (.inl (o.at hp))) (dv.mono (fr_new hp))
theorem new_off {H : Hp} {p : Addr} {o : HO} {vs : List V} {ds : List PyData} (hp : H p = none) (dv : IsAll K (W.fr H) vs ds) : IsAll K (off (p :: W.ps) (upd H p o)) vs ds := by
  rw [off_cons_upd hp]
  exact dv
theorem EvF.ev {ds : List PyData} (h : EvF K W te ρ ds) : EvD K W te ρ (.list ds) := fun σ H n e o Q q => h σ H n e o Q fun p H' vs hf s hp hv => q _ _ _ s (.lst (.inl (.inl (by show off W.ps H' p = _; rw [off_get (o.free hf)]; exact hp))) (hv.mono (off_sub (fun _ h => List.mem_cons_of_mem _ h) _))) rfl
theorem Ev.is {P : PyData → Prop} (h : EvD K W te ρ d) (hp : P d) : Ev K W te ρ P := fun σ H n e o Q q => h σ H n e o Q fun v H' x s hx ex => q v H' x s hx (ex ▸ hp)
theorem ev_to {P P' : PyData → Prop} (h : Ev K W te ρ P) (hp : ∀ d, P d → P' d) : Ev K W te ρ P' := fun σ H n e o Q q => h σ H n e o Q fun v H' x s hx ex => q v H' x s hx (hp x ex)
theorem evd_to {d d' : PyData} (h : EvD K W te ρ d) (e : d = d') : EvD K W te ρ d' := e ▸ h
theorem evf_to {d d' : List PyData} (h : EvF K W te ρ d) (e : d = d') : EvF K W te ρ d' := e ▸ h
theorem et_to {b b' : Bool} (h : EvT K W t ρ b) (e : b = b') : EvT K W t ρ b' := e ▸ h
theorem ev_var {i : Nat} (h : ρ[i]? = some (.dat d)) : EvD K W (tVar i) ρ d := fun σ H _ e _ Q q =>
  let ⟨v, h1, h2⟩ := e.get i _ h (fun z => by cases z)
  ⟨v, h1, q v H d (Same.refl H) h2 rfl⟩
theorem ev_int (i : Int) : EvD K W (tC (.int i)) ρ (.int i) := fun σ H _ _ _ Q q => q _ _ _ (Same.refl H) (.int i) rfl
theorem ev_str (z : Str) : EvD K W (tC (.str z)) ρ (.str z) := fun σ H _ _ _ Q q => q _ _ _ (Same.refl H) (.str z) rfl
theorem ev_bl (z : Bool) : EvD K W (tC (.bl z)) ρ (.bool z) := fun σ H _ _ _ Q q => q _ _ _ (Same.refl H) (.bl z) rfl
theorem ev_non : EvD K W (tC .non) ρ .none := fun σ H _ _ _ Q q => q _ _ _ (Same.refl H) .non rfl
theorem ev_op {r : R2} {P : PyData → Prop} (ha : EvD K W ta ρ a) (hb : EvD K W tb ρ b) (hr : RvD K W r a b P) : Ev K W (tOp r ta tb) ρ P := fun σ H n e o Q q =>
  ha σ H n e o _ fun x H1 _ s1 dx ex => by
    subst ex
    refine hb σ H1 n (e.mono (fr_to s1)) (o.to s1) _ fun y H2 _ s2 dy ey => ?_
    subst ey
    exact hr x y H2 n (dx.mono (fr_to s2)) dy ((o.to s1).to s2) Q fun v H3 d s3 => q v H3 d ((s1.trans s2).trans s3)
theorem rv_I0 {g : Int → Int → V} {d : PyData} (h : ∀ H, Is K H (g i j) d) : RvD K W (rI0 g) (.int i) (.int j) fun x => x = d := fun x y H n dx dy o Q q => by
  cases dx
  cases dy
  exact ⟨i, j, rfl, rfl, q _ _ _ (Same.refl H) (h _) rfl⟩
theorem rv_I {C : Int → Int → Prop} {g : Int → Int → V} {d : PyData} (hc : C i j) (h : ∀ H, Is K H (g i j) d) : RvD K W (rI C g) (.int i) (.int j) fun x => x = d := fun x y H n dx dy o Q q => by
  cases dx
  cases dy
  exact ⟨i, j, rfl, rfl, hc, q _ _ _ (Same.refl H) (h _) rfl⟩
theorem rv_add : RvD K W (rPlus K) (.int i) (.int j) fun x => x = .int (i + j) := fun x y H n dx dy o Q q => .inl (rv_I0 (fun H => Is.int (i + j)) x y H n dx dy o Q q)
theorem ev_add (ha : EvD K W ta ρ (.int i)) (hb : EvD K W tb ρ (.int j)) : EvD K W (tOp (rPlus K) ta tb) ρ (.int (i + j)) := ev_op ha hb rv_add
theorem ev_sub (ha : EvD K W ta ρ (.int i)) (hb : EvD K W tb ρ (.int j)) : EvD K W (tOp (rI0 fun i j => .int (i - j)) ta tb) ρ (.int (i - j)) := ev_op ha hb (rv_I0 fun _ => .int _)
theorem ev_mul (ha : EvD K W ta ρ (.int i)) (hb : EvD K W tb ρ (.int j)) (hc : CMul i j) : EvD K W (tOp (rI CMul fun i j => .int (i * j)) ta tb) ρ (.int (i * j)) := ev_op ha hb (rv_I hc fun _ => .int _)
theorem ev_mod (ha : EvD K W ta ρ (.int i)) (hb : EvD K W tb ρ (.int j)) (hc : 0 < j) : EvD K W (tOp (rI (fun _ j => 0 < j) fun i j => .int (i % j)) ta tb) ρ (.int (i % j)) := ev_op ha hb (rv_I hc fun _ => .int _)
theorem ev_fdiv (ha : EvD K W ta ρ (.int i)) (hb : EvD K W tb ρ (.int j)) (hc : CDiv i j) : EvD K W (tOp (rI CDiv fun i j => .int (i / j)) ta tb) ρ (.int (i / j)) := ev_op ha hb (rv_I hc fun _ => .int _)
theorem ev_lt (ha : EvD K W ta ρ (.int i)) (hb : EvD K W tb ρ (.int j)) : EvD K W (tOp (rI0 fun i j => .bl (decide (i < j))) ta tb) ρ (.bool (decide (i < j))) := ev_op ha hb (rv_I0 fun _ => .bl _)
theorem ev_le (ha : EvD K W ta ρ (.int i)) (hb : EvD K W tb ρ (.int j)) : EvD K W (tOp (rI0 fun i j => .bl (decide (i ≤ j))) ta tb) ρ (.bool (decide (i ≤ j))) := ev_op ha hb (rv_I0 fun _ => .bl _)
theorem ev_gt (ha : EvD K W ta ρ (.int i)) (hb : EvD K W tb ρ (.int j)) : EvD K W (tOp (rI0 fun i j => .bl (decide (j < i))) ta tb) ρ (.bool (decide (j < i))) := ev_op ha hb (rv_I0 fun _ => .bl _)
theorem ev_ge (ha : EvD K W ta ρ (.int i)) (hb : EvD K W tb ρ (.int j)) : EvD K W (tOp (rI0 fun i j => .bl (decide (j ≤ i))) ta tb) ρ (.bool (decide (j ≤ i))) := ev_op ha hb (rv_I0 fun _ => .bl _)
theorem rv_lt : RvD K W (rI0 fun i j => .bl (decide (i < j))) (.int i) (.int j) fun x => x = .bool (decide (i < j)) := rv_I0 fun _ => .bl _
theorem rv_le : RvD K W (rI0 fun i j => .bl (decide (i ≤ j))) (.int i) (.int j) fun x => x = .bool (decide (i ≤ j)) := rv_I0 fun _ => .bl _
theorem ev_neg (ha : EvD K W ta ρ (.int i)) : EvD K W (tUn (rU fun i => .int (-i)) ta) ρ (.int (-i)) := fun σ H n e o Q q =>
  ha σ H n e o _ fun x H1 _ s1 dx ex => by
    subst ex
    cases dx
    exact ⟨i, rfl, q _ _ _ s1 (.int _) rfl⟩
/-! equality -/
theorem rv_eqD (ha : SeqAt.shaped a = true) (hb : SeqAt.shaped b = true) : RvD K W (rEqX K) a b fun x => x = .bool (PyData.eqv a b) := fun x y H n dx dy o Q q =>
  .inr ⟨a, b, (dx.mono fr_le).dp, (dy.mono fr_le).dp, ha, hb, q _ _ _ (Same.refl H) (.bl _) rfl⟩
theorem rv_neD (ha : SeqAt.shaped a = true) (hb : SeqAt.shaped b = true) : RvD K W (rNeX K) a b fun x => x = .bool (!PyData.eqv a b) := fun x y H n dx dy o Q q =>
  .inr ⟨a, b, (dx.mono fr_le).dp, (dy.mono fr_le).dp, ha, hb, q _ _ _ (Same.refl H) (.bl _) rfl⟩
theorem ev_eqD {c : Bool} (ha : EvD K W ta ρ a) (hb : EvD K W tb ρ b) (sa : SeqAt.shaped a = true) (sb : SeqAt.shaped b = true) (h : PyData.eqv a b = c) : EvD K W (tOp (rEqX K) ta tb) ρ (.bool c) := by
  rw [← h]
  exact ev_op ha hb (rv_eqD sa sb)
theorem ev_neD {c : Bool} (ha : EvD K W ta ρ a) (hb : EvD K W tb ρ b) (sa : SeqAt.shaped a = true) (sb : SeqAt.shaped b = true) (h : PyData.eqv a b = c) : EvD K W (tOp (rNeX K) ta tb) ρ (.bool (!c)) := by
  rw [← h]
  exact ev_op ha hb (rv_neD sa sb)
theorem rv_eqI : RvD K W (rEqX K) (.int i) (.int j) fun x => x = .bool (decide (i = j)) := fun x y H n dx dy o Q q => by
  cases dx
  cases dy
  refine .inl ⟨rfl, ?_⟩
  have e : decide (V.int i = V.int j) = decide (i = j) := by simp
  rw [e]
  exact q _ _ _ (Same.refl H) (.bl _) rfl
theorem ev_eqI (ha : EvD K W ta ρ (.int i)) (hb : EvD K W tb ρ (.int j)) : EvD K W (tOp (rEqX K) ta tb) ρ (.bool (decide (i = j))) := ev_op ha hb rv_eqI
theorem ev_neI (ha : EvD K W ta ρ (.int i)) (hb : EvD K W tb ρ (.int j)) : EvD K W (tOp (rNeX K) ta tb) ρ (.bool (!decide (i = j))) := ev_op ha hb fun x y H n dx dy o Q q => by
  cases dx
  cases dy
  refine .inl ⟨rfl, ?_⟩
  have e : decide (V.int i = V.int j) = decide (i = j) := by simp
  rw [e]
  exact q _ _ _ (Same.refl H) (.bl _) rfl
theorem ev_eqS {x y : Str} (ha : EvD K W ta ρ (.str x)) (hb : EvD K W tb ρ (.str y)) : EvD K W (tOp (rEqX K) ta tb) ρ (.bool (decide (x = y))) := ev_op ha hb fun _ _ H n dx dy o Q q => by
  cases dx
  cases dy
  refine .inl ⟨rfl, ?_⟩
  have e : decide (V.str x = V.str y) = decide (x = y) := by simp
  rw [e]
  exact q _ _ _ (Same.refl H) (.bl _) rfl
theorem ev_neS {x y : Str} (ha : EvD K W ta ρ (.str x)) (hb : EvD K W tb ρ (.str y)) : EvD K W (tOp (rNeX K) ta tb) ρ (.bool (!decide (x = y))) := ev_op ha hb fun _ _ H n dx dy o Q q => by
  cases dx
  cases dy
  refine .inl ⟨rfl, ?_⟩
  have e : decide (V.str x = V.str y) = decide (x = y) := by simp
  rw [e]
  exact q _ _ _ (Same.refl H) (.bl _) rfl
theorem ev_eqB {x y : Bool} (ha : EvD K W ta ρ (.bool x)) (hb : EvD K W tb ρ (.bool y)) : EvD K W (tOp (rEqX K) ta tb) ρ (.bool (x == y)) := ev_op ha hb fun _ _ H n dx dy o Q q => by
  cases dx
  cases dy
  refine .inl ⟨rfl, ?_⟩
  have e : decide (V.bl x = V.bl y) = (x == y) := by cases x <;> cases y <;> rfl
  rw [e]
  exact q _ _ _ (Same.refl H) (.bl _) rfl
theorem ev_neB {x y : Bool} (ha : EvD K W ta ρ (.bool x)) (hb : EvD K W tb ρ (.bool y)) : EvD K W (tOp (rNeX K) ta tb) ρ (.bool (!(x == y))) := ev_op ha hb fun _ _ H n dx dy o Q q => by
  cases dx
  cases dy
  refine .inl ⟨rfl, ?_⟩
  have e : decide (V.bl x = V.bl y) = (x == y) := by cases x <;> cases y <;> rfl
  rw [e]
  exact q _ _ _ (Same.refl H) (.bl _) rfl
/-! is None, is True -/
def isNon : PyData → Bool
  | .none => true
  | _ => false
theorem isNon_v {H : Hp} {x : V} (h : Is K H x d) : decide (x = V.non) = isNon d := by cases h <;> simp [isNon]
theorem ev_isN (ha : EvD K W ta ρ d) : EvD K W (tOp rIsN ta (tC .non)) ρ (.bool (isNon d)) := ev_op ha ev_non fun x y H n dx dy o Q q => by
  cases dy
  refine ⟨rfl, ?_⟩
  rw [isNon_v dx]
  exact q _ _ _ (Same.refl H) (.bl _) rfl
theorem ev_notN (ha : EvD K W ta ρ d) : EvD K W (tOp rNotN ta (tC .non)) ρ (.bool (!isNon d)) := ev_op ha ev_non fun x y H n dx dy o Q q => by
  cases dy
  refine ⟨rfl, ?_⟩
  rw [isNon_v dx]
  exact q _ _ _ (Same.refl H) (.bl _) rfl
theorem ev_isB {x y : Bool} (ha : EvD K W ta ρ (.bool x)) (hb : EvD K W tb ρ (.bool y)) : EvD K W (tOp rIsB ta tb) ρ (.bool (decide (x = y))) := ev_op ha hb fun _ _ H n dx dy o Q q => by
  cases dx
  cases dy
  exact ⟨_, _, rfl, rfl, q _ _ _ (Same.refl H) (.bl _) rfl⟩
theorem ev_notB {x y : Bool} (ha : EvD K W ta ρ (.bool x)) (hb : EvD K W tb ρ (.bool y)) : EvD K W (tOp rNotB ta tb) ρ (.bool (!decide (x = y))) := ev_op ha hb fun _ _ H n dx dy o Q q => by
  cases dx
  cases dy
  exact ⟨_, _, rfl, rfl, q _ _ _ (Same.refl H) (.bl _) rfl⟩
/-! arguments, tuples, lists -/
theorem ea_nil : EvA K W tNil ρ [] := fun σ H _ _ _ Q q => q _ _ (Same.refl H) .nil
theorem ea_cons {tr : TA} {ds : List PyData} (ha : EvD K W ta ρ d) (hr : EvA K W tr ρ ds) : EvA K W (tCons ta tr) ρ (d :: ds) := fun σ H n e o Q q =>
  ha σ H n e o _ fun x H1 _ s1 dx ex => by
    subst ex
    exact hr σ H1 n (e.mono (fr_to s1)) (o.to s1) _ fun vs H2 s2 dv => q _ _ (s1.trans s2) (.cons (dx.mono (fr_to s2)) dv)
theorem ea_starT {tr : TA} {ds es : List PyData} (ha : EvD K W ta ρ (.tuple es)) (hr : EvA K W tr ρ ds) : EvA K W (tStar K ta tr) ρ (es ++ ds) := fun σ H n e o Q q =>
  ha σ H n e o _ fun x H1 _ s1 dx ex => by
    subst ex
    cases dx with
    | tup h1 h2 => exact ⟨_, _, rfl, .inl (sqT_mono fr_le h1), hr σ H1 n (e.mono (fr_to s1)) (o.to s1) _ fun vs H2 s2 dv => q _ _ (s1.trans s2) ((h2.mono (fr_to s2)).append dv)⟩
theorem ea_starL {tr : TA} {ds es : List PyData} (ha : EvD K W ta ρ (.list es)) (hr : EvA K W tr ρ ds) : EvA K W (tStar K ta tr) ρ (es ++ ds) := fun σ H n e o Q q =>
  ha σ H n e o _ fun x H1 _ s1 dx ex => by
    subst ex
    cases dx with
    | lst h1 h2 => exact ⟨_, _, rfl, .inr (Same.seq fr_le h1), hr σ H1 n (e.mono (fr_to s1)) (o.to s1) _ fun vs H2 s2 dv => q _ _ (s1.trans s2) ((h2.mono (fr_to s2)).append dv)⟩
theorem sz {n : Nat} (h : n ≤ 16777216) : n ≤ sizeLine := by rw [sizeLine_eq]; exact h
theorem ev_tup {tr : TA} {ds : List PyData} (h : EvA K W tr ρ ds) (hl : ds.length ≤ 16777216) : EvD K W (tTup tr) ρ (.tuple ds) := fun σ H n e o Q q =>
  h σ H n e o _ fun vs H1 s1 dv => ⟨by rw [dv.len]; exact sz hl, fun p hp => q _ _ _ (Same.put s1 (free_back s1 hp)) (is_tup (o.to s1) hp dv) rfl⟩
theorem ef_lst {tr : TA} {ds : List PyData} (h : EvA K W tr ρ ds) (hl : ds.length ≤ 16777216) : EvF K W (tLst tr) ρ ds := fun σ H n e o Q q =>
  h σ H n e o _ fun vs H1 s1 dv => ⟨by rw [dv.len]; exact sz hl, fun p hp => q _ _ _ (free_back s1 hp) (Same.put s1 (free_back s1 hp)) upd_same (new_off hp dv)⟩
/-! calls -/
theorem ev_cb {r : List V → Hp → VK → Prop} {tr : TA} {ds : List PyData} {P : PyData → Prop} (h : EvA K W tr ρ ds) (hr : RcD K W r ds P) : Ev K W (tCB r tr) ρ P := fun σ H n e o Q q =>
  h σ H n e o _ fun vs H1 s1 dv => hr vs H1 n dv (o.to s1) Q fun v H2 d s2 => q v H2 d (s1.trans s2)
theorem ef_cb {r : List V → Hp → VK → Prop} {tr : TA} {ds es : List PyData} (h : EvA K W tr ρ ds) (hr : RcF K W r ds es) : EvF K W (tCB r tr) ρ es := fun σ H n e o Q q =>
  h σ H n e o _ fun vs H1 s1 dv => hr vs H1 n dv (o.to s1) Q fun p H2 ws hp s2 => q p H2 ws (free_back s1 hp) (s1.trans s2)
/-- a def's promise over data: its arguments' data, what they must be, what the result's data is; in every world -/
def SpD (K : PySem.W.Frag) {α : Type} (As : α → List PyData) (pre : α → Prop) (B : α → PyData → Prop) : Sp := fun vs H Q _ => ∃ (W : Wd) (n : Nat) (a : α), IsAll K (W.fr H) vs (As a) ∧ W.ok n H ∧ pre a ∧ ∀ v H' d, Same H H' → Is K (W.fr H') v d → B a d → Q v H'
theorem ev_call {α : Type} {As : α → List PyData} {pre : α → Prop} {B : α → PyData → Prop} {E : XK} {tr : TA} (a : α) (h : EvA K W tr ρ (As a)) (hp : pre a) : Ev K W (tCall (SpD K As pre B) [] E tr) ρ (B a) := fun σ H n e o Q q =>
  h σ H n e o _ fun vs H1 s1 dv => ⟨W, n, a, by rw [List.append_nil]; exact dv, o.to s1, hp, fun v H2 d s2 => q v H2 d (s1.trans s2)⟩
/-! choices -/
theorem ev_if {P : PyData → Prop} {c : Bool} (h : EvT K W t ρ c) (h1 : c = true → Ev K W ta ρ P) (h2 : c = false → Ev K W tb ρ P) : Ev K W (tIf t ta tb) ρ P := fun σ H n e o Q q =>
  h σ H n e o _ fun H1 s1 => by
    cases c with
    | true => exact h1 rfl σ H1 n (e.mono (fr_to s1)) (o.to s1) Q fun v H2 d s2 => q v H2 d (s1.trans s2)
    | false => exact h2 rfl σ H1 n (e.mono (fr_to s1)) (o.to s1) Q fun v H2 d s2 => q v H2 d (s1.trans s2)
theorem ev_andV {x y : Bool} (ha : EvD K W ta ρ (.bool x)) (hb : x = true → EvD K W tb ρ (.bool y)) : EvD K W (tAndV ta tb) ρ (.bool (x && y)) := fun σ H n e o Q q =>
  ha σ H n e o _ fun v H1 _ s1 dx ex => by
    subst ex
    cases dx
    refine ⟨x, rfl, ?_⟩
    cases x with
    | true => exact hb rfl σ H1 n (e.mono (fr_to s1)) (o.to s1) Q fun v H2 d s2 => q v H2 d (s1.trans s2)
    | false => exact q _ _ _ s1 (.bl false) rfl
theorem ev_orV {x y : Bool} (ha : EvD K W ta ρ (.bool x)) (hb : x = false → EvD K W tb ρ (.bool y)) : EvD K W (tOrV ta tb) ρ (.bool (x || y)) := fun σ H n e o Q q =>
  ha σ H n e o _ fun v H1 _ s1 dx ex => by
    subst ex
    cases dx
    refine ⟨x, rfl, ?_⟩
    cases x with
    | true => exact q _ _ _ s1 (.bl true) rfl
    | false => exact hb rfl σ H1 n (e.mono (fr_to s1)) (o.to s1) Q fun v H2 d s2 => q v H2 d (s1.trans s2)
theorem ev_notV {x : Bool} (ha : EvD K W ta ρ (.bool x)) : EvD K W (tNotV ta) ρ (.bool (!x)) := fun σ H n e o Q q =>
  ha σ H n e o _ fun v H1 _ s1 dx ex => by
    subst ex
    cases dx
    exact ⟨x, rfl, q _ _ _ s1 (.bl _) rfl⟩
theorem et_B {x : Bool} (h : EvD K W te ρ (.bool x)) : EvT K W (tB te) ρ x := fun σ H n e o Q q =>
  h σ H n e o _ fun v H1 _ s1 dx ex => by
    subst ex
    cases dx
    exact ⟨x, rfl, q _ s1⟩
theorem et_and {x y : Bool} (h1 : EvT K W t ρ x) (h2 : x = true → EvT K W u ρ y) : EvT K W (tAnd t u) ρ (x && y) := fun σ H n e o Q q =>
  h1 σ H n e o _ fun H1 s1 => by
    cases x with
    | true => exact h2 rfl σ H1 n (e.mono (fr_to s1)) (o.to s1) Q fun H2 s2 => q H2 (s1.trans s2)
    | false => exact q H1 s1
theorem et_or {x y : Bool} (h1 : EvT K W t ρ x) (h2 : x = false → EvT K W u ρ y) : EvT K W (tOr t u) ρ (x || y) := fun σ H n e o Q q =>
  h1 σ H n e o _ fun H1 s1 => by
    cases x with
    | true => exact q H1 s1
    | false => exact h2 rfl σ H1 n (e.mono (fr_to s1)) (o.to s1) Q fun H2 s2 => q H2 (s1.trans s2)
theorem et_not {x : Bool} (h1 : EvT K W t ρ x) : EvT K W (tNot t) ρ (!x) := fun σ H n e o Q q => h1 σ H n e o _ fun H1 s1 => q H1 s1
theorem et_yes : EvT K W tYes ρ true := fun σ H _ _ _ Q q => q H (Same.refl H)
/-- low < limit <= high -/
theorem ev_chain {tc : TE} {r r' : R2} {x y : Bool} (ha : EvD K W ta ρ a) (hb : EvD K W tb ρ b) (hr : RvD K W r a b fun z => z = .bool x) (hc : EvD K W tc ρ d) (hr' : RvD K W r' b d fun z => z = .bool y) : EvD K W (tChain r r' ta tb tc) ρ (.bool (x && y)) := fun σ H n e o Q q =>
  ha σ H n e o _ fun v H1 _ s1 dx ex => by
    subst ex
    refine hb σ H1 n (e.mono (fr_to s1)) (o.to s1) _ fun w H2 _ s2 dy ey => ?_
    subst ey
    refine hr v w H2 n (dx.mono (fr_to s2)) dy ((o.to s1).to s2) _ fun z H3 _ s3 dz ez => ?_
    subst ez
    cases dz
    refine ⟨x, rfl, ?_⟩
    have s13 := (s1.trans s2).trans s3
    have e3 := e.mono (fr_to (W := W) s13)
    cases x with
    | true =>
      refine hc σ H3 n e3 (o.to s13) _ fun c H4 _ s4 dc ec => ?_
      subst ec
      exact hr' w c H4 n (dy.mono (fr_to (s3.trans s4))) dc ((o.to s13).to s4) Q fun v H5 d s5 => q v H5 d ((s13.trans s4).trans s5)
    | false => exact q _ _ _ s13 (.bl false) rfl
/-! len, max, min, places -/
def rLenX (K : PySem.W.Frag) : List V → Hp → VK → Prop := fun xs H Q => ∃ x n, xs = [x] ∧ LenV K x H n ∧ Q (.int n) H
abbrev tLenK (K : PySem.W.Frag) (ta : TE) : TE := tCB (rLenX K) (tCons ta tNil)
theorem ev_lenT {ds : List PyData} (ha : EvD K W ta ρ (.tuple ds)) : EvD K W (tLenK K ta) ρ (.int ds.length) := ev_cb (ea_cons ha ea_nil) fun vs H n dv o Q q => by
  cases dv with
  | cons h1 h2 =>
    cases h2
    cases h1 with
    | tup h3 h4 => exact ⟨_, ds.length, rfl, .inr ⟨_, sqT_mono fr_le h3, h4.len.symm⟩, q _ _ _ (Same.refl H) (.int _) rfl⟩
theorem ev_lenL {ds : List PyData} (ha : EvD K W ta ρ (.list ds)) : EvD K W (tLenK K ta) ρ (.int ds.length) := ev_cb (ea_cons ha ea_nil) fun vs H n dv o Q q => by
  cases dv with
  | cons h1 h2 =>
    cases h2
    cases h1 with
    | lst h3 h4 => exact ⟨_, ds.length, rfl, .inl ⟨_, Same.seq fr_le h3, h4.len.symm⟩, q _ _ _ (Same.refl H) (.int _) rfl⟩
theorem ev_lenS {z : Str} (ha : EvD K W ta ρ (.str z)) (hz : z.length ≤ 16777216) : EvD K W (tLenK K ta) ρ (.int z.length) := ev_cb (ea_cons ha ea_nil) fun vs H n dv o Q q => by
  cases dv with
  | cons h1 h2 =>
    cases h2
    cases h1
    exact ⟨_, z.length, rfl, ⟨sz hz, rfl⟩, q _ _ _ (Same.refl H) (.int _) rfl⟩
def rMax2 : List V → Hp → VK → Prop := fun xs H Q => ∃ i j, xs = [.int i, .int j] ∧ Q (.int (if j > i then j else i)) H
def rMin2 : List V → Hp → VK → Prop := fun xs H Q => ∃ i j, xs = [.int i, .int j] ∧ Q (.int (if j < i then j else i)) H
theorem rc_max : RcD K W rMax2 [.int i, .int j] fun x => x = .int (max i j) := fun vs H n dv o Q q => by
  cases dv with
  | cons h1 h2 =>
    cases h2 with
    | cons h2 h3 =>
      cases h3
      cases h1
      cases h2
      refine ⟨i, j, rfl, ?_⟩
      have e : (if j > i then j else i) = max i j := by split <;> omega
      rw [e]
      exact q _ _ _ (Same.refl H) (.int _) rfl
theorem rc_min : RcD K W rMin2 [.int i, .int j] fun x => x = .int (min i j) := fun vs H n dv o Q q => by
  cases dv with
  | cons h1 h2 =>
    cases h2 with
    | cons h2 h3 =>
      cases h3
      cases h1
      cases h2
      refine ⟨i, j, rfl, ?_⟩
      have e : (if j < i then j else i) = min i j := by split <;> omega
      rw [e]
      exact q _ _ _ (Same.refl H) (.int _) rfl
theorem ev_max (ha : EvD K W ta ρ (.int i)) (hb : EvD K W tb ρ (.int j)) : EvD K W (tCB rMax2 (tCons ta (tCons tb tNil))) ρ (.int (max i j)) := ev_cb (ea_cons ha (ea_cons hb ea_nil)) rc_max
theorem ev_min (ha : EvD K W ta ρ (.int i)) (hb : EvD K W tb ρ (.int j)) : EvD K W (tCB rMin2 (tCons ta (tCons tb tNil))) ρ (.int (min i j)) := ev_cb (ea_cons ha (ea_cons hb ea_nil)) rc_min
theorem IsAll.atI {H : Hp} {ds : List PyData} {vs : List V} {k : Int} {d : PyData} (h : IsAll K H vs ds) (e : L2.atI ds k = some d) : ∃ v, L2.atI vs k = some v ∧ Is K H v d := by
  unfold L2.atI at e ⊢
  rw [← h.len] at e
  cases q : ixN vs.length k with
  | none => rw [q] at e; cases e
  | some n =>
    rw [q] at e
    obtain ⟨v, h1, h2⟩ := h.get (i := n) (d := d) e
    exact ⟨v, h1, h2⟩
theorem rv_ixT {ds : List PyData} {k : Int} (h : L2.atI ds k = some d) : RvD K W (rIx K) (.tuple ds) (.int k) fun x => x = d := fun x y H n dx dy o Q q => by
  cases dy
  cases dx with
  | tup h1 h2 =>
    obtain ⟨v, h3, h4⟩ := h2.atI h
    exact .inr (.inl ⟨_, _, k, v, rfl, rfl, sqT_mono fr_le h1, h3, q _ _ _ (Same.refl H) h4 rfl⟩)
theorem rv_ixL {ds : List PyData} {k : Int} (h : L2.atI ds k = some d) : RvD K W (rIx K) (.list ds) (.int k) fun x => x = d := fun x y H n dx dy o Q q => by
  cases dy
  cases dx with
  | lst h1 h2 =>
    obtain ⟨v, h3, h4⟩ := h2.atI h
    exact .inl ⟨_, _, k, v, rfl, rfl, Same.seq fr_le h1, h3, q _ _ _ (Same.refl H) h4 rfl⟩
theorem ev_ixT {ds : List PyData} {k : Int} (ha : EvD K W ta ρ (.tuple ds)) (hb : EvD K W tb ρ (.int k)) (h : L2.atI ds k = some d) : EvD K W (tOp (rIx K) ta tb) ρ d := ev_op ha hb (rv_ixT h)
theorem ev_ixL {ds : List PyData} {k : Int} (ha : EvD K W ta ρ (.list ds)) (hb : EvD K W tb ρ (.int k)) (h : L2.atI ds k = some d) : EvD K W (tOp (rIx K) ta tb) ρ d := ev_op ha hb (rv_ixL h)
theorem ev_ixS {z : Str} {k : Int} {c : Nat} (ha : EvD K W ta ρ (.str z)) (hb : EvD K W tb ρ (.int k)) (hz : z.length ≤ 16777216) (h : L2.atI z.cps.toList k = some c) : EvD K W (tOp (rIx K) ta tb) ρ (.str ⟨#[c]⟩) := ev_op ha hb fun x y H n dx dy o Q q => by
  cases dy
  cases dx
  exact .inr (.inr ⟨z, k, c, rfl, rfl, sz hz, h, q _ _ _ (Same.refl H) (.str _) rfl⟩)
/-! slices -/
def EvO (K : PySem.W.Frag) (W : Wd) (to : TO) (ρ : List Sl) (o : Option Int) : Prop := ∀ (σ : L2.St) (H : Hp) (n : Nat), Env K (W.fr H) σ ρ → W.ok n H → ∀ Q : Option Int → Hp → Prop, (∀ H', Same H H' → Q o H') → to σ H Q
theorem eo_none : EvO K W tNoPart ρ none := fun σ H _ _ _ Q q => q H (Same.refl H)
theorem eo_some (h : EvD K W te ρ (.int i)) : EvO K W (tPart te) ρ (some i) := fun σ H n e o Q q =>
  h σ H n e o _ fun v H1 _ s1 dx ex => by
    subst ex
    cases dx
    exact ⟨i, rfl, q _ s1⟩
/-- a part of a list of data -/
def cutD {α : Type} (xs : List α) (lo hi : Option Int) : List α := (xs.drop (HT.sIx xs.length 0 lo)).take (HT.sIx xs.length xs.length hi - HT.sIx xs.length 0 lo)
theorem IsAll.cut {H : Hp} {ds : List PyData} {vs : List V} (h : IsAll K H vs ds) (lo hi : Option Int) : IsAll K H (cutV vs lo hi) (cutD ds lo hi) := by
  unfold cutV cutD
  rw [h.len]
  exact (h.drop _).take _
theorem ev_slT {tl th : TO} {ds : List PyData} {lo hi : Option Int} (ha : EvD K W ta ρ (.tuple ds)) (h1 : EvO K W tl ρ lo) (h2 : EvO K W th ρ hi) : EvD K W (tSl (rSlX K) ta tl th) ρ (.tuple (cutD ds lo hi)) := fun σ H n e o Q q =>
  ha σ H n e o _ fun v H1 _ s1 dx ex => by
    subst ex
    refine h1 σ H1 n (e.mono (fr_to s1)) (o.to s1) _ fun H2 s2 => h2 σ H2 n (e.mono (fr_to (s1.trans s2))) (o.to (s1.trans s2)) _ fun H3 s3 => ?_
    cases dx with
    | tup h3 h4 =>
      have s13 := s2.trans s3
      have h3' := sqT_mono (fr_to (W := W) s13) h3
      have h4' := h4.mono (fr_to (W := W) s13)
      refine .inr ⟨_, _, rfl, sqT_mono fr_le h3', fun hw => ?_, fun _ p hp => ?_⟩
      · refine q _ _ _ (s1.trans s13) (.tup h3' ?_) rfl
        have hc := h4'.cut lo hi
        rename_i a xs
        have e : cutV xs lo hi = xs := by unfold cutV; rw [hw.1, hw.2]; simp
        rw [e] at hc
        exact hc
      · exact q _ _ _ (Same.put (s1.trans s13) (free_back (s1.trans s13) hp)) (is_tup (o.to (s1.trans s13)) hp (h4'.cut lo hi)) rfl
theorem ef_slL {tl th : TO} {ds : List PyData} {lo hi : Option Int} (ha : EvD K W ta ρ (.list ds)) (h1 : EvO K W tl ρ lo) (h2 : EvO K W th ρ hi) : EvF K W (tSl (rSlX K) ta tl th) ρ (cutD ds lo hi) := fun σ H n e o Q q =>
  ha σ H n e o _ fun v H1 _ s1 dx ex => by
    subst ex
    refine h1 σ H1 n (e.mono (fr_to s1)) (o.to s1) _ fun H2 s2 => h2 σ H2 n (e.mono (fr_to (s1.trans s2))) (o.to (s1.trans s2)) _ fun H3 s3 => ?_
    cases dx with
    | lst h3 h4 =>
      have s13 := s2.trans s3
      have h4' := h4.mono (fr_to (W := W) s13)
      exact .inl ⟨_, _, rfl, Same.seq s13 (Same.seq fr_le h3), fun p hp => q _ _ _ (free_back (s1.trans s13) hp) (Same.put (s1.trans s13) (free_back (s1.trans s13) hp)) upd_same (new_off hp (h4'.cut lo hi))⟩
/-! tuple(..), list(..), sum, all, sorted -/
def rTupX (K : PySem.W.Frag) : List V → Hp → VK → Prop := fun xs H Q => ∃ p ys, xs = [.ref p] ∧ ((SqL K H p ys ∧ ∀ l, H l = none → Q (.ref l) (upd H l (.tup ys))) ∨ (SqT K H p ys ∧ Q (.ref p) H))
abbrev tTupK (K : PySem.W.Frag) (ta : TE) : TE := tCB (rTupX K) (tCons ta tNil)
theorem ev_tupL {ds : List PyData} (ha : EvD K W ta ρ (.list ds)) : EvD K W (tTupK K ta) ρ (.tuple ds) := ev_cb (ea_cons ha ea_nil) fun vs H n dv o Q q => by
  cases dv with
  | cons h1 h2 =>
    cases h2
    cases h1 with
    | lst h3 h4 => exact ⟨_, _, rfl, .inl ⟨Same.seq fr_le h3, fun l hl => q _ _ _ (Same.new hl) (is_tup o hl h4) rfl⟩⟩
theorem ev_tupT {ds : List PyData} (ha : EvD K W ta ρ (.tuple ds)) : EvD K W (tTupK K ta) ρ (.tuple ds) := ev_cb (ea_cons ha ea_nil) fun vs H n dv o Q q => by
  cases dv with
  | cons h1 h2 =>
    cases h2
    cases h1 with
    | tup h3 h4 => exact ⟨_, _, rfl, .inr ⟨sqT_mono fr_le h3, q _ _ _ (Same.refl H) (.tup h3 h4) rfl⟩⟩
def rListX (K : PySem.W.Frag) : List V → Hp → VK → Prop := fun xs H Q => ∃ p ys, xs = [.ref p] ∧ (SqL K H p ys ∨ SqT K H p ys) ∧ ∀ l, H l = none → Q (.ref l) (upd H l (.lst ys))
abbrev tListK (K : PySem.W.Frag) (ta : TE) : TE := tCB (rListX K) (tCons ta tNil)
theorem ef_list {ds : List PyData} (ha : EvD K W ta ρ (.tuple ds)) : EvF K W (tListK K ta) ρ ds := ef_cb (ea_cons ha ea_nil) fun vs H n dv o Q q => by
  cases dv with
  | cons h1 h2 =>
    cases h2
    cases h1 with
    | tup h3 h4 => exact ⟨_, _, rfl, .inr (sqT_mono fr_le h3), fun l hl => q _ _ _ hl (Same.new hl) upd_same (new_off hl h4)⟩
theorem ef_listL {ds : List PyData} (ha : EvD K W ta ρ (.list ds)) : EvF K W (tListK K ta) ρ ds := ef_cb (ea_cons ha ea_nil) fun vs H n dv o Q q => by
  cases dv with
  | cons h1 h2 =>
    cases h2
    cases h1 with
    | lst h3 h4 => exact ⟨_, _, rfl, .inl (Same.seq fr_le h3), fun l hl => q _ _ _ hl (Same.new hl) upd_same (new_off hl h4)⟩
theorem ev_all {bs : List Bool} (ha : EvD K W ta ρ (.list (bs.map .bool))) : EvD K W (tCB (rAll K) (tCons ta tNil)) ρ (.bool (bs.all id)) := ev_cb (ea_cons ha ea_nil) fun vs H n dv o Q q => by
  cases dv with
  | cons h1 h2 =>
    cases h2
    cases h1 with
    | lst h3 h4 => exact ⟨_, bs, rfl, by rw [← h4.bls]; exact Same.seq fr_le h3, q _ _ _ (Same.refl H) (.bl _) rfl⟩
theorem ev_any {bs : List Bool} (ha : EvD K W ta ρ (.list (bs.map .bool))) : EvD K W (tCB (rAny K) (tCons ta tNil)) ρ (.bool (bs.any id)) := ev_cb (ea_cons ha ea_nil) fun vs H n dv o Q q => by
  cases dv with
  | cons h1 h2 =>
    cases h2
    cases h1 with
    | lst h3 h4 => exact ⟨_, bs, rfl, by rw [← h4.bls]; exact Same.seq fr_le h3, q _ _ _ (Same.refl H) (.bl _) rfl⟩
theorem ev_sum {ns : List Int} (ha : EvD K W ta ρ (.list (ns.map .int))) : EvD K W (tCB (rSum K) (tCons ta tNil)) ρ (.int ns.sum) := ev_cb (ea_cons ha ea_nil) fun vs H n dv o Q q => by
  cases dv with
  | cons h1 h2 =>
    cases h2
    cases h1 with
    | lst h3 h4 => exact ⟨_, ns, rfl, by rw [← h4.ints]; exact Same.seq fr_le h3, q _ _ _ (Same.refl H) (.int _) rfl⟩
theorem ef_sorted {ns ms : List Int} (ha : EvD K W ta ρ (.list (ns.map .int))) (hp : ms.Perm ns) (hs : ms.Pairwise (· ≤ ·)) : EvF K W (tCB (rSortedI K) (tCons ta tNil)) ρ (ms.map .int) := ef_cb (ea_cons ha ea_nil) fun vs H n dv o Q q => by
  cases dv with
  | cons h1 h2 =>
    cases h2
    cases h1 with
    | lst h3 h4 =>
      refine ⟨_, ns, rfl, by rw [← h4.ints]; exact Same.seq fr_le h3, fun ns' p pp ps hp' => ?_⟩
      have e : ns' = ms := List.Perm.eq_of_pairwise (fun x y _ _ h1 h2 => Int.le_antisymm h1 h2) ps hs (pp.trans hp.symm)
      subst e
      exact q _ _ _ hp' (Same.new hp') upd_same (isAll_ints _)
/-- list(range(a, b)) -/
theorem ef_rangeL (ha : EvD K W ta ρ (.int i)) (hb : EvD K W tb ρ (.int j)) (hr : RgOk i j) : EvF K W (tLstRg (tRg2 ta tb)) ρ ((List.range (j - i).toNat).map fun (k : Nat) => .int (i + (k : Int))) := fun σ H n e o Q q =>
  ha σ H n e o _ fun x H1 _ s1 dx ex => by
    subst ex
    refine hb σ H1 n (e.mono (fr_to s1)) (o.to s1) _ fun y H2 _ s2 dy ey => ?_
    subst ey
    cases dx
    cases dy
    refine ⟨i, j, rfl, rfl, hr, fun p hp => q _ _ _ (free_back (s1.trans s2) hp) (Same.put (s1.trans s2) (free_back (s1.trans s2) hp)) upd_same ?_⟩
    have e1 : rgV i j = ((List.range (j - i).toNat).map fun (k : Nat) => i + (k : Int)).map V.int := by unfold rgV; rw [List.map_map]; rfl
    have e2 : ((List.range (j - i).toNat).map fun (k : Nat) => PyData.int (i + (k : Int))) = ((List.range (j - i).toNat).map fun (k : Nat) => i + (k : Int)).map .int := by rw [List.map_map]; rfl
    rw [e1, e2]
    exact isAll_ints _
end
end CW
end W2x
section W3x
set_option Elab.async false
set_option linter.all false
set_option maxRecDepth 100000
/-! Things that change, walks, comprehensions. -/
namespace CW
open PySem PySem.Spec PyProof.Rows L2 StX RZ
/-! ### a thing that changes -/
inductive MO where
  | lst (ds : List PyData) | dct (kvs : List (Key × PyData))
def MOk (K : PySem.W.Frag) (H O : Hp) (p : Addr) : MO → Prop
  | .lst ds => ∃ vs, H p = some (.lst vs) ∧ IsAll K O vs ds
  | .dct kvs => ∃ ws : List (Key × V), H p = some (.dK ws) ∧ ws.map Prod.fst = kvs.map Prod.fst ∧ IsAll K O (ws.map Prod.snd) (kvs.map Prod.snd)
theorem MOk.has {K : PySem.W.Frag} {H O : Hp} {p : Addr} {m : MO} (h : MOk K H O p m) : H p ≠ none := by
  cases m with
  | lst ds => obtain ⟨vs, h, _⟩ := h; rw [h]; simp
  | dct ds => obtain ⟨vs, h, _⟩ := h; rw [h]; simp
theorem MOk.to {K : PySem.W.Frag} {H H' O O' : Hp} {p : Addr} {m : MO} (h : MOk K H O p m) (e : H' p = H p) (s : Same O O') : MOk K H' O' p m := by
  cases m with
  | lst ds => obtain ⟨vs, h, h2⟩ := h; exact ⟨vs, e.trans h, h2.mono s⟩
  | dct ds => obtain ⟨vs, h, h1, h2⟩ := h; exact ⟨vs, e.trans h, h1, h2.mono s⟩
def Wd.push (K : PySem.W.Frag) (W : Wd) (p : Addr) (m : MO) : Wd where
  ps := p :: W.ps
  I := fun n H O => p ∉ W.ps ∧ W.I n H O ∧ MOk K H O p m
  has := fun h q hq => by
    rcases List.mem_cons.mp hq with e | e
    · rw [e]; exact h.2.2.has
    · exact W.has h.2.1 q e
  loc := fun h e s => ⟨h.1, W.loc h.2.1 (fun q hq => e q (List.mem_cons_of_mem _ hq)) s, h.2.2.to (e _ List.mem_cons_self) s⟩
  low := fun l h => ⟨h.1, W.low l h.2.1, h.2.2⟩
/-- the world W' is W and more -/
structure Ext (B W : Wd) : Prop where
  ps : ∀ p ∈ B.ps, p ∈ W.ps
  I : ∀ n H O, W.I n H O → B.I n H O
theorem Ext.refl (W : Wd) : Ext W W := ⟨fun _ h => h, fun _ _ _ h => h⟩
theorem Ext.trans {A B C : Wd} (h : Ext A B) (k : Ext B C) : Ext A C := ⟨fun p q => k.ps p (h.ps p q), fun n H O q => h.I n H O (k.I n H O q)⟩
section
variable {K : PySem.W.Frag} {B W : Wd} {n : Nat} {H H' : Hp} {p : Addr}
theorem Ext.push {m : MO} : Ext W (W.push K p m) := ⟨fun _ h => List.mem_cons_of_mem _ h, fun _ _ _ h => h.2.1⟩
theorem Ext.fr (e : Ext B W) (H : Hp) : Same (W.fr H) (B.fr H) := off_sub e.ps H
theorem Ext.ok (e : Ext B W) (h : W.ok n H) : B.ok n H := B.loc (e.I _ _ _ h) (fun _ _ => rfl) (e.fr H)
/-- a new list that is to change -/
theorem fr_push (o : W.ok n H) (hp : H p = none) (s : Same H H') : Same (W.fr H) (off (p :: W.ps) H') := fun b x e => by
  have hb : b ≠ p := fun z => by
    rw [z] at e
    have e' : off W.ps H p = some x := e
    rw [off_free hp] at e'
    cases e'
  have q : off W.ps H' b = some x := fr_to (W := W) s b x e
  unfold off at q ⊢
  have hm : (b ∈ p :: W.ps) = (b ∈ W.ps) := by simp [hb]
  simp only [hm]
  exact q
theorem push_new {m : MO} (o : W.ok n H) (hp : H p = none) (s : Same H H') (h : MOk K H' (off (p :: W.ps) H') p m) : (W.push K p m).ok n H' :=
  ⟨o.free hp, W.loc o (fun q hq => by
    cases e : H q with
    | none => exact absurd e (W.has o q hq)
    | some x => exact s q x e) (fr_push o hp s), h⟩
/-- a list of the world -/
structure Mu (K : PySem.W.Frag) (W : Wd) (p : Addr) (ds : List PyData) (nxt : List PyData → Wd) : Prop where
  mem : p ∈ W.ps
  get : ∀ n H O, W.I n H O → ∃ vs, H p = some (.lst vs) ∧ IsAll K O vs ds
  ps : ∀ ds', (nxt ds').ps = W.ps
  put : ∀ n H O vs' ds', W.I n H O → IsAll K O vs' ds' → (nxt ds').I n (upd H p (.lst vs')) O
theorem Mu.here {ds : List PyData} : Mu K (W.push K p (.lst ds)) p ds fun ds' => W.push K p (.lst ds') :=
  ⟨List.mem_cons_self, fun n H O h => h.2.2, fun _ => rfl, fun n H O vs' ds' h hv => ⟨h.1, W.loc h.2.1 (fun q hq => upd_ne fun z => h.1 (z ▸ hq)) (Same.refl _), vs', upd_same, hv⟩⟩
theorem Mu.up {ds : List PyData} {nxt : List PyData → Wd} {q : Addr} {m : MO} (h : Mu K W p ds nxt) : Mu K (W.push K q m) p ds fun ds' => (nxt ds').push K q m :=
  ⟨List.mem_cons_of_mem _ h.mem, fun n H O e => h.get n H O e.2.1, fun ds' => by show q :: (nxt ds').ps = q :: W.ps; rw [h.ps], fun n H O vs' ds' e hv => by
    have hq : q ≠ p := fun z => e.1 (z ▸ h.mem)
    exact ⟨by rw [h.ps]; exact e.1, h.put n H O vs' ds' e.2.1 hv, e.2.2.to (upd_ne hq) (Same.refl _)⟩⟩
theorem Mu.ok {ds ds' : List PyData} {nxt : List PyData → Wd} {vs' : List V} (h : Mu K W p ds nxt) (o : W.ok n H) (hv : IsAll K (W.fr H) vs' ds') : (nxt ds').ok n (upd H p (.lst vs')) ∧ (nxt ds').fr (upd H p (.lst vs')) = W.fr H := by
  have e : (nxt ds').fr (upd H p (.lst vs')) = W.fr H := by
    show off (nxt ds').ps _ = off W.ps H
    rw [h.ps, off_in h.mem]
  refine ⟨?_, e⟩
  show (nxt ds').I n _ ((nxt ds').fr (upd H p (.lst vs')))
  rw [e]
  exact h.put n H _ vs' ds' o hv
/-- a dict of the world -/
structure Md (K : PySem.W.Frag) (W : Wd) (p : Addr) (kvs : List (Key × PyData)) (nxt : List (Key × PyData) → Wd) : Prop where
  mem : p ∈ W.ps
  get : ∀ n H O, W.I n H O → ∃ ws : List (Key × V), H p = some (.dK ws) ∧ ws.map Prod.fst = kvs.map Prod.fst ∧ IsAll K O (ws.map Prod.snd) (kvs.map Prod.snd)
  ps : ∀ ds', (nxt ds').ps = W.ps
  put : ∀ n H O (ws : List (Key × V)) kvs', W.I n H O → ws.map Prod.fst = kvs'.map Prod.fst → IsAll K O (ws.map Prod.snd) (kvs'.map Prod.snd) → (nxt kvs').I n (upd H p (.dK ws)) O
theorem Md.here {ds : List (Key × PyData)} : Md K (W.push K p (.dct ds)) p ds fun ds' => W.push K p (.dct ds') :=
  ⟨List.mem_cons_self, fun n H O h => h.2.2, fun _ => rfl, fun n H O vs' ds' h h1 hv => ⟨h.1, W.loc h.2.1 (fun q hq => upd_ne fun z => h.1 (z ▸ hq)) (Same.refl _), vs', upd_same, h1, hv⟩⟩
theorem Md.ok {ds ds' : List (Key × PyData)} {nxt : List (Key × PyData) → Wd} {vs' : List (Key × V)} (h : Md K W p ds nxt) (o : W.ok n H) (h1 : vs'.map Prod.fst = ds'.map Prod.fst) (hv : IsAll K (W.fr H) (vs'.map Prod.snd) (ds'.map Prod.snd)) : (nxt ds').ok n (upd H p (.dK vs')) ∧ (nxt ds').fr (upd H p (.dK vs')) = W.fr H := by
  have e : (nxt ds').fr (upd H p (.dK vs')) = W.fr H := by
    show off (nxt ds').ps _ = off W.ps H
    rw [h.ps, off_in h.mem]
  refine ⟨?_, e⟩
  show (nxt ds').I n _ ((nxt ds').fr (upd H p (.dK vs')))
  rw [e]
  exact h.put n H _ vs' ds' o h1 hv
end
/-! ### walks -/
structure Wk (K : PySem.W.Frag) (F : Hp) (J : It) (ds : List PyData) : Prop where
  goes : ∀ i H, i < ds.length → Same F H → J.go i H
  stops : ∀ H, Same F H → J.stop ds.length H
  yields : ∀ (W : Wd) n i H x H', i < ds.length → Same F (W.fr H) → W.ok n H → J.yld i H x H' → Same H H' ∧ ∃ d, ds[i]? = some d ∧ Is K (W.fr H') x d
def EvI (K : PySem.W.Frag) (W : Wd) (wi : TI) (ρ : List Sl) (ds : List PyData) : Prop := ∀ (σ : L2.St) (H : Hp) (n : Nat), Env K (W.fr H) σ ρ → W.ok n H → ∀ R : It → Hp → Prop, (∀ J H', Same H H' → Wk K (W.fr H') J ds → R J H') → wi σ H R
section
variable {K : PySem.W.Frag} {W : Wd} {ρ : List Sl} {ta tb te : TE} {t u : TT} {a b d : PyData} {i j : Int} {ds es : List PyData} {F : Hp}
theorem wk_list {p : Addr} {xs : List V} (h : SqL K F p xs) (hv : IsAll K F xs ds) : Wk K F (Itl K p) ds := by
  have hl := hv.len
  refine ⟨fun i H hi s => ?_, fun H s => ?_, fun W n i H x H' hi s o y => ?_⟩
  · rw [← hl] at hi
    exact (walk_list (K := K) (a := p) (xs := xs)).goes i H hi (Same.seq s h)
  · rw [← hl]
    exact (walk_list (K := K) (a := p) (xs := xs)).stops H (Same.seq s h)
  · rw [← hl] at hi
    obtain ⟨e, q⟩ := (walk_list (K := K) (a := p) (xs := xs)).yields i H x H' hi (Same.seq (Same.trans s fr_le) h) y
    subst e
    obtain ⟨d, h1, h2⟩ := hv.get' q
    exact ⟨Same.refl _, d, h1, h2.mono s⟩
theorem wk_tup {p : Addr} {xs : List V} (h : SqT K F p xs) (hv : IsAll K F xs ds) : Wk K F (Itt K p) ds := by
  have hl := hv.len
  refine ⟨fun i H hi s => ?_, fun H s => ?_, fun W n i H x H' hi s o y => ?_⟩
  · rw [← hl] at hi
    exact (walk_tup (K := K) (a := p) (xs := xs)).goes i H hi (sqT_mono s h)
  · rw [← hl]
    exact (walk_tup (K := K) (a := p) (xs := xs)).stops H (sqT_mono s h)
  · rw [← hl] at hi
    obtain ⟨e, q⟩ := (walk_tup (K := K) (a := p) (xs := xs)).yields i H x H' hi (sqT_mono (Same.trans s fr_le) h) y
    subst e
    obtain ⟨d, h1, h2⟩ := hv.get' q
    exact ⟨Same.refl _, d, h1, h2.mono s⟩
theorem ei_list (h : EvD K W te ρ (.list ds)) : EvI K W (iList K te) ρ ds := fun σ H n e o R q =>
  h σ H n e o _ fun v H1 _ s1 dx ex => by
    subst ex
    cases dx with
    | lst h1 h2 => exact ⟨_, rfl, ⟨_, Same.seq fr_le h1⟩, q _ _ s1 (wk_list h1 h2)⟩
theorem ei_tup (h : EvD K W te ρ (.tuple ds)) : EvI K W (iTup K te) ρ ds := fun σ H n e o R q =>
  h σ H n e o _ fun v H1 _ s1 dx ex => by
    subst ex
    cases dx with
    | tup h1 h2 => exact ⟨_, rfl, ⟨_, sqT_mono fr_le h1⟩, q _ _ s1 (wk_tup h1 h2)⟩
/-- the ints from lo -/
def rangeD (lo : Int) (n : Nat) : List PyData := (List.range n).map fun (k : Nat) => .int (lo + (k : Int))
theorem rangeD_len (lo : Int) (n : Nat) : (rangeD lo n).length = n := by simp [rangeD]
theorem rangeD_get {lo : Int} {n i : Nat} (h : i < n) : (rangeD lo n)[i]? = some (.int (lo + (i : Int))) := by simp [rangeD, h]
theorem wk_range {lo : Int} {n : Nat} : Wk K F (Itr lo n) (rangeD lo n) := by
  refine ⟨fun i H hi s => ?_, fun H s => ?_, fun W m i H x H' hi s o y => ?_⟩
  · rw [rangeD_len] at hi; exact hi
  · rw [rangeD_len]; exact Nat.le_refl _
  · rw [rangeD_len] at hi
    obtain ⟨e, q⟩ := y
    subst e q
    exact ⟨Same.refl _, _, rangeD_get hi, .int _⟩
theorem ei_range1 (h : EvD K W te ρ (.int j)) (hj : -(2 ^ 62) ≤ j ∧ j < 2 ^ 62) : EvI K W (iRng1 (tCons te tNil)) ρ (rangeD 0 j.toNat) := fun σ H n e o R q =>
  h σ H n e o _ fun v H1 _ s1 dx ex => by
    subst ex
    cases dx
    exact ⟨j, rfl, hj.1, hj.2, q _ _ s1 wk_range⟩
theorem ei_range2 (h : EvD K W ta ρ (.int i)) (h' : EvD K W tb ρ (.int j)) (hj : -(2 ^ 62) ≤ i ∧ i < 2 ^ 62 ∧ -(2 ^ 62) ≤ j ∧ j < 2 ^ 62) : EvI K W (iRng2 (tCons ta (tCons tb tNil))) ρ (rangeD i (j - i).toNat) := fun σ H n e o R q =>
  h σ H n e o _ fun v H1 _ s1 dx ex => by
    subst ex
    refine h' σ H1 n (e.mono (fr_to s1)) (o.to s1) _ fun w H2 _ s2 dy ey => ?_
    subst ey
    cases dx
    cases dy
    exact ⟨i, j, rfl, hj, q _ _ (s1.trans s2) wk_range⟩
theorem ei_str {z : Str} (h : EvD K W te ρ (.str z)) : EvI K W (iStr te) ρ (z.cps.toList.map fun c => .str ⟨#[c]⟩) := fun σ H n e o R q =>
  h σ H n e o _ fun v H1 _ s1 dx ex => by
    subst ex
    cases dx
    refine ⟨z, rfl, q _ _ s1 ⟨fun i H hi s => ?_, fun H s => ?_, fun W m i H x H' hi s o y => ?_⟩⟩
    · show i < z.cps.size
      simpa using hi
    · show z.cps.size ≤ _
      simp
    · obtain ⟨e1, c, hc, ev⟩ := y
      subst e1 ev
      exact ⟨Same.refl _, .str ⟨#[c]⟩, by simpa using hc, .str _⟩
theorem is_pair {H : Hp} {T : Addr} {n : Nat} {x y : V} (o : W.ok n H) (hT : H T = none) (hx : Is K (W.fr H) x a) (hy : Is K (W.fr H) y b) : Is K (W.fr (upd H T (.tup [x, y]))) (.ref T) (.tuple [a, b]) := is_tup o hT (.cons hx (.cons hy .nil))
/-- the pairs of two lists -/
def zipD (ds es : List PyData) : List PyData := List.zipWith (fun a b => .tuple [a, b]) ds es
theorem zipD_len (ds es : List PyData) : (zipD ds es).length = min ds.length es.length := by simp [zipD]
theorem zipD_get {i : Nat} {a b : PyData} (h1 : ds[i]? = some a) (h2 : es[i]? = some b) : (zipD ds es)[i]? = some (.tuple [a, b]) := by
  simp [zipD, List.getElem?_zipWith, h1, h2]
/-- the places and the items -/
def enumD (ds : List PyData) : List PyData := zipD (rangeD 0 ds.length) ds
theorem wk_zipL {p r : Addr} {xs ys : List V} (h : SqL K F p xs) (hv : IsAll K F xs ds) (h' : SqL K F r ys) (hv' : IsAll K F ys es) : Wk K F (Itz K p r) (zipD ds es) := by
  have hl := hv.len
  have hl' := hv'.len
  have w := walk_zip (K := K) (a := p) (b := r) (xs := xs) (ys := ys) rfl
  have hn : min xs.length ys.length = (zipD ds es).length := by rw [zipD_len, hl, hl']
  rw [hn] at w
  refine ⟨fun i H hi s => w.goes i H hi ⟨Same.seq s h, Same.seq s h'⟩, fun H s => w.stops H ⟨Same.seq s h, Same.seq s h'⟩, fun W n i H x H' hi s o y => ?_⟩
  have s2 := Same.trans s (fr_le (W := W))
  obtain ⟨T, x1, y1, e1, hT, e2, q1, q2⟩ := w.yields i H x H' hi ⟨Same.seq s2 h, Same.seq s2 h'⟩ y
  subst e1 e2
  obtain ⟨d1, k1, k2⟩ := hv.get' q1
  obtain ⟨d2, k3, k4⟩ := hv'.get' q2
  exact ⟨Same.new hT, _, zipD_get k1 k3, is_pair o hT (k2.mono s) (k4.mono s)⟩
theorem wk_zipT {p r : Addr} {xs ys : List V} (h : SqT K F p xs) (hv : IsAll K F xs ds) (h' : SqT K F r ys) (hv' : IsAll K F ys es) : Wk K F (ItzT K p r) (zipD ds es) := by
  have hl := hv.len
  have hl' := hv'.len
  refine ⟨fun i H hi s => ?_, fun H s => ?_, fun W n i H x H' hi s o y => ?_⟩
  · rw [zipD_len, ← hl, ← hl'] at hi
    exact ⟨xs, ys, xs[i]'(by omega), ys[i]'(by omega), sqT_mono s h, sqT_mono s h', List.getElem?_eq_getElem _, List.getElem?_eq_getElem _⟩
  · rw [zipD_len, ← hl, ← hl']
    exact ⟨xs, ys, sqT_mono s h, sqT_mono s h', by omega⟩
  · obtain ⟨T, x1, y1, e1, hT, e2, q1, q2⟩ := y
    subst e1 e2
    have s2 := Same.trans s (fr_le (W := W))
    obtain ⟨d1, k1, k2⟩ := hv.get' (q1 xs (sqT_mono s2 h))
    obtain ⟨d2, k3, k4⟩ := hv'.get' (q2 ys (sqT_mono s2 h'))
    exact ⟨Same.new hT, _, zipD_get k1 k3, is_pair o hT (k2.mono s) (k4.mono s)⟩
theorem ei_zipL (h : EvD K W ta ρ (.list ds)) (h' : EvD K W tb ρ (.list es)) : EvI K W (iZipA K (tCons ta (tCons tb tNil))) ρ (zipD ds es) := fun σ H n e o R q =>
  h σ H n e o _ fun v H1 _ s1 dx ex => by
    subst ex
    refine h' σ H1 n (e.mono (fr_to s1)) (o.to s1) _ fun w H2 _ s2 dy ey => ?_
    subst ey
    cases dx with
    | lst h1 h2 =>
      cases dy with
      | lst h3 h4 => exact ⟨_, _, _, _, rfl, .inl ⟨Same.seq s2 (Same.seq fr_le h1), Same.seq fr_le h3, q _ _ (s1.trans s2) (wk_zipL (Same.seq (fr_to s2) h1) (h2.mono (fr_to s2)) h3 h4)⟩⟩
theorem ei_zipT (h : EvD K W ta ρ (.tuple ds)) (h' : EvD K W tb ρ (.tuple es)) : EvI K W (iZipA K (tCons ta (tCons tb tNil))) ρ (zipD ds es) := fun σ H n e o R q =>
  h σ H n e o _ fun v H1 _ s1 dx ex => by
    subst ex
    refine h' σ H1 n (e.mono (fr_to s1)) (o.to s1) _ fun w H2 _ s2 dy ey => ?_
    subst ey
    cases dx with
    | tup h1 h2 =>
      cases dy with
      | tup h3 h4 => exact ⟨_, _, _, _, rfl, .inr ⟨sqT_mono s2 (sqT_mono fr_le h1), sqT_mono fr_le h3, q _ _ (s1.trans s2) (wk_zipT (sqT_mono (fr_to s2) h1) (h2.mono (fr_to s2)) h3 h4)⟩⟩
theorem ei_enumL (h : EvD K W ta ρ (.list ds)) : EvI K W (iEnum K (tCons ta tNil)) ρ (enumD ds) := fun σ H n e o R q =>
  h σ H n e o _ fun v H1 _ s1 dx ex => by
    subst ex
    cases dx with
    | lst h1 h2 =>
      rename_i p xs
      refine ⟨_, _, rfl, Same.seq fr_le h1, q _ _ s1 ?_⟩
      have hl := h2.len
      have w := walk_enum (K := K) (a := p) (xs := xs)
      have hn : xs.length = (enumD ds).length := by rw [enumD, zipD_len, rangeD_len, hl]; omega
      rw [hn] at w
      refine ⟨fun i H hi s => w.goes i H hi (Same.seq s h1), fun H s => w.stops H (Same.seq s h1), fun W' n i H x H' hi s o y => ?_⟩
      have s2 := Same.trans s (fr_le (W := W'))
      obtain ⟨T, x1, y1, e1, hT, e2, q1, q2⟩ := w.yields i H x H' hi (Same.seq s2 h1) y
      subst e1 e2
      obtain ⟨d2, k3, k4⟩ := h2.get' q2
      cases q1
      have hi' : i < ds.length := by
        have := (List.getElem?_eq_some_iff.mp k3).1
        exact this
      refine ⟨Same.new hT, _, zipD_get (rangeD_get hi') k3, is_pair o hT ?_ (k4.mono s)⟩
      have e0 : ((0 : Int) + (i : Int)) = (i : Int) := by omega
      rw [e0]
      exact .int _
end
/-! ### targets -/
def EvG (K : PySem.W.Frag) (g : TG) (ρ : List Sl) (d : PyData) (ρ' : List Sl) (js : List Nat) : Prop := ∀ (v : V) (σ : L2.St) (O H : Hp), Env K O σ ρ → Same O H → Is K O v d → ∀ Q : L2.St → Hp → Prop, (∀ σ', σ'.length = σ.length → Env K O σ' ρ' → (∀ l, l ∉ js → σ'[l]? = σ[l]?) → Q σ' H) → g v σ H Q
section
variable {K : PySem.W.Frag} {W : Wd} {ρ ρ' : List Sl} {d a b : PyData} {i j : Nat}
theorem eg_name : EvG K (gName j) ρ d (ρ.set j (.dat d)) [j] := fun v σ O H e _ hv Q q => q _ (by simp) (e.set (s := .dat d) hv) fun l hl => List.getElem?_set_ne fun z => hl (by simp [z])
theorem eg_pair : EvG K (gTup K 2 (gCons (gName i) (gCons (gName j) gNil))) ρ (.tuple [a, b]) ((ρ.set i (.dat a)).set j (.dat b)) [i, j] := fun v σ O H e s hv Q q => by
  cases hv with
  | tup h1 h2 =>
    cases h2 with
    | cons k1 k2 =>
      cases k2 with
      | cons k2 k3 =>
        cases k3
        refine ⟨_, _, rfl, sqT_mono s h1, rfl, _, _, rfl, _, _, rfl, rfl, ?_⟩
        refine q _ (by simp) ((e.set (s := .dat a) k1).set (s := .dat b) k2) fun l hl => ?_
        have hl1 : l ≠ i := fun z => hl (by simp [z])
        have hl2 : l ≠ j := fun z => hl (by simp [z])
        rw [List.getElem?_set_ne (Ne.symm hl2), List.getElem?_set_ne (Ne.symm hl1)]
end
end CW
end W3x
section W4x
set_option Elab.async false
set_option linter.all false
set_option maxRecDepth 100000
/-! Comprehensions and statements over data. -/
namespace CW
open PySem PySem.Spec PyProof.Rows L2 StX RZ
section
variable {K : PySem.W.Frag} {W B : Wd} {ρ : List Sl} {te : TE} {tt : TT} {ds : List PyData} {wi : TI} {g : TG} {vs js : List Nat}
theorem js_wipe {σ σ2 : L2.St} (hl : σ2.length = σ.length) (h : ∀ j ∈ js, j ∈ vs) (e : ∀ l, l ∉ js → σ2[l]? = (wipe σ vs)[l]?) : wipe σ2 vs = wipe σ vs := wipe_set hl fun j hj => by
  rw [e j fun z => hj (h j z), wipe_get, if_neg fun z => hj z.1]
theorem mo_to {H H' : Hp} {D : Addr} {ds : List PyData} (h : MOk K H (off (D :: W.ps) H) D (.lst ds)) (s : Same H H') : MOk K H' (off (D :: W.ps) H') D (.lst ds) := by
  obtain ⟨vs, h1, h2⟩ := h
  exact ⟨vs, s _ _ h1, h2.mono (off_same s)⟩
def outD (f : PyData → Bool) (h : PyData → PyData) (ds : List PyData) (i : Nat) : List PyData := ((ds.take i).filter f).map h
theorem outD_len (f : PyData → Bool) (h : PyData → PyData) (ds : List PyData) (i : Nat) : (outD f h ds i).length ≤ i := by
  unfold outD
  rw [List.length_map]
  exact Nat.le_trans (List.length_filter_le _ _) (by simp; omega)
theorem outD_succ {f : PyData → Bool} {h : PyData → PyData} {ds : List PyData} {i : Nat} {d : PyData} (e : ds[i]? = some d) : outD f h ds (i + 1) = if f d then outD f h ds i ++ [h d] else outD f h ds i := by
  unfold outD
  rw [List.take_add_one, e]
  simp only [Option.toList_some, List.filter_append, List.map_append]
  by_cases q : f d = true
  · simp [q]
  · have q' : f d = false := by simpa using q
    simp [q']
/-- [e for x in .. if ..] -/
theorem ef_lc (hi : EvI K W wi ρ ds) (f : PyData → Bool) (h : PyData → PyData) (ρd : PyData → List Sl) (hjs : ∀ j ∈ js, j ∈ vs)
    (hg : ∀ d ∈ ds, EvG K g (wipeR ρ vs) d (ρd d) js)
    (ht : ∀ D acc, ∀ d ∈ ds, EvT K (W.push K D (.lst acc)) tt (ρd d) (f d))
    (he : ∀ D acc, ∀ d ∈ ds, f d = true → EvD K (W.push K D (.lst acc)) te (ρd d) (h d)) (hz : ds.length < 16777216) :
    EvF K W (tLc wi g tt te vs) ρ ((ds.filter f).map h) := fun σ H n e o Q q => by
  refine hi σ H n e o _ fun J H1 s1 wk D hD => ?_
  have o1 := o.to s1
  have e1 := e.mono (fr_to (W := W) s1)
  let Pv : Nat → Hp → Prop := fun i H2 => Same H1 H2 ∧ MOk K H2 (off (D :: W.ps) H2) D (.lst (outD f h ds i))
  refine ⟨fun i m H2 => m = ds.length - i ∧ i ≤ ds.length ∧ Pv i H2, ⟨ds.length, by simp, Nat.zero_le _, Same.new hD, [], upd_same, .nil⟩, ?_⟩
  rintro i m H2 ⟨rfl, hle, s2, mo⟩
  have fr2 := fr_push o1 hD s2
  have ok2 : (W.push K D (.lst (outD f h ds i))).ok n H2 := push_new o1 hD s2 mo
  by_cases hlt : i < ds.length
  · refine .inr ⟨wk.goes i H2 hlt (Same.trans fr2 (off_le _ _)), Pv (i + 1), fun H' p => ⟨ds.length - (i + 1), by omega, rfl, hlt, p⟩, fun x H3 y => ?_⟩
    obtain ⟨s3, d, hd, ix⟩ := wk.yields _ n i H2 x H3 hlt fr2 ok2 y
    have hm := List.mem_of_getElem? hd
    have ok3 := ok2.to s3
    have fr3 : Same (W.fr H1) ((W.push K D (.lst (outD f h ds i))).fr H3) := Same.trans fr2 (off_same s3)
    refine hg d hm x (wipe σ vs) _ H3 ((e1.mono fr3).wipe vs) (off_le _ _) ix _ fun σ2 l2 e2 hs => ?_
    refine ⟨js_wipe (by rw [l2, wipe_length]) hjs hs, ?_⟩
    refine ht D _ d hm σ2 H3 n e2 ok3 _ fun H4 s4 => ?_
    cases hf : f d with
    | true =>
      rw [if_pos rfl]
      refine he D _ d hm hf σ2 H4 n (e2.mono (off_same s4)) (ok3.to s4) _ fun y H5 _ s5 iy ey => ?_
      subst ey
      obtain ⟨vs5, h5, a5⟩ := mo_to (W := W) (mo_to (W := W) (mo_to (W := W) mo s3) s4) s5
      refine ⟨vs5, h5, ?_, ?_, ?_⟩
      · have := outD_len f h ds i
        rw [a5.len, sizeLine_eq]
        omega
      · exact Same.put (((s2.trans s3).trans s4).trans s5) hD
      · refine ⟨_, upd_same, ?_⟩
        rw [off_in List.mem_cons_self, outD_succ hd, if_pos hf]
        exact a5.snoc iy
    | false =>
      rw [if_neg (by decide)]
      refine ⟨(s2.trans s3).trans s4, ?_⟩
      have e6 := mo_to (W := W) (mo_to (W := W) mo s3) s4
      rw [outD_succ hd, hf]
      exact e6
  · have ei : i = ds.length := by omega
    subst ei
    refine .inl ⟨wk.stops H2 (Same.trans fr2 (off_le _ _)), ?_⟩
    obtain ⟨vs2, h2, a2⟩ := mo
    have e3 : outD f h ds ds.length = (ds.filter f).map h := by simp [outD]
    rw [e3] at a2
    exact q D H2 vs2 (free_back s1 hD) (s1.trans s2) h2 a2
/-- [e for x in .. for y in ..] -/
theorem ef_lc2 {wi1 : TI} {g1 : TG} {vs1 js1 : List Nat} (hi : EvI K W wi ρ ds) (es : PyData → List PyData) (h : PyData → PyData → PyData) (ρd : PyData → List Sl) (ρe : PyData → PyData → List Sl) (hjs : ∀ j ∈ js, j ∈ vs) (hjs1 : ∀ j ∈ js1, j ∈ vs1)
    (hg : ∀ d ∈ ds, EvG K g (wipeR ρ vs) d (ρd d) js)
    (hi1 : ∀ D acc, ∀ d ∈ ds, EvI K (W.push K D (.lst acc)) wi1 (ρd d) (es d))
    (hg1 : ∀ d ∈ ds, ∀ b ∈ es d, EvG K g1 (wipeR (ρd d) vs1) b (ρe d b) js1)
    (he : ∀ D acc, ∀ d ∈ ds, ∀ b ∈ es d, EvD K (W.push K D (.lst acc)) te (ρe d b) (h d b)) (hz : (ds.flatMap es).length < 16777216) :
    EvF K W (tLc2 wi g tYes wi1 g1 tYes te vs vs1) ρ (ds.flatMap fun d => (es d).map (h d)) := fun σ H n e o Q q => by
  refine hi σ H n e o _ fun J H1 s1 wk D hD => ?_
  have o1 := o.to s1
  have e1 := e.mono (fr_to (W := W) s1)
  let out : Nat → List PyData := fun i => (ds.take i).flatMap fun d => (es d).map (h d)
  have out_succ : ∀ i d, ds[i]? = some d → out (i + 1) = out i ++ (es d).map (h d) := fun i d e => by
    show (ds.take (i + 1)).flatMap _ = _
    rw [List.take_add_one, e]
    simp [out]
  have out_len : ∀ i d, ds[i]? = some d → (out i).length + (es d).length ≤ (ds.flatMap es).length := fun i d e => by
    have hi' := (List.getElem?_eq_some_iff.mp e)
    obtain ⟨hlt, hd⟩ := hi'
    have e2 : ds = ds.take i ++ d :: ds.drop (i + 1) := by
      rw [← hd, ← List.drop_eq_getElem_cons hlt, List.take_append_drop]
    have e3 : (ds.flatMap es).length = ((ds.take i).flatMap es).length + ((es d).length + ((ds.drop (i + 1)).flatMap es).length) := by
      conv => lhs; rw [e2]
      simp only [List.flatMap_append, List.flatMap_cons, List.length_append]
    have e4 : (out i).length = ((ds.take i).flatMap es).length := by simp [out, List.length_flatMap]
    omega
  let Pv : Nat → Hp → Prop := fun i H2 => Same H1 H2 ∧ MOk K H2 (off (D :: W.ps) H2) D (.lst (out i))
  refine ⟨fun i m H2 => m = ds.length - i ∧ i ≤ ds.length ∧ Pv i H2, ⟨ds.length, by simp, Nat.zero_le _, Same.new hD, [], upd_same, .nil⟩, ?_⟩
  rintro i m H2 ⟨rfl, hle, s2, mo⟩
  have fr2 := fr_push o1 hD s2
  have ok2 : (W.push K D (.lst (out i))).ok n H2 := push_new o1 hD s2 mo
  by_cases hlt : i < ds.length
  · refine .inr ⟨wk.goes i H2 hlt (Same.trans fr2 (off_le _ _)), Pv (i + 1), fun H' p => ⟨ds.length - (i + 1), by omega, rfl, hlt, p⟩, fun x H3 y => ?_⟩
    obtain ⟨s3, d, hd, ix⟩ := wk.yields _ n i H2 x H3 hlt fr2 ok2 y
    have hm := List.mem_of_getElem? hd
    have ok3 := ok2.to s3
    have fr3 : Same (W.fr H1) ((W.push K D (.lst (out i))).fr H3) := Same.trans fr2 (off_same s3)
    refine hg d hm x (wipe σ vs) _ H3 ((e1.mono fr3).wipe vs) (off_le _ _) ix _ fun σ2 l2 e2 hs => ?_
    refine ⟨js_wipe (by rw [l2, wipe_length]) hjs hs, ?_⟩
    simp only [tYes, ↓reduceIte]
    refine hi1 D _ d hm σ2 H3 n e2 ok3 _ fun J1 H4 s4 wk1 => ?_
    have ok4 := ok3.to s4
    have hd4 : MOk K H4 (off (D :: W.ps) H4) D (.lst (out i)) := mo_to (W := W) (mo_to (W := W) mo s3) s4
    let F4 : Hp := (W.push K D (.lst (out i))).fr H4
    let Pw : Nat → Hp → Prop := fun j H5 => Same H1 H5 ∧ Same F4 (off (D :: W.ps) H5) ∧ MOk K H5 (off (D :: W.ps) H5) D (.lst (out i ++ ((es d).take j).map (h d)))
    refine ⟨fun j m H5 => m = (es d).length - j ∧ j ≤ (es d).length ∧ Pw j H5, ⟨(es d).length, by simp, Nat.zero_le _, (s2.trans s3).trans s4, Same.refl _, by simpa using hd4⟩, ?_⟩
    rintro j m H5 ⟨rfl, hle5, s5, f5, mo5⟩
    have ok5 : (W.push K D (.lst (out i ++ ((es d).take j).map (h d)))).ok n H5 := push_new o1 hD s5 mo5
    by_cases hj : j < (es d).length
    · refine .inr ⟨wk1.goes j H5 hj (Same.trans f5 (off_le _ _)), Pw (j + 1), fun H' p => ⟨(es d).length - (j + 1), by omega, rfl, hj, p⟩, fun x5 H6 y5 => ?_⟩
      obtain ⟨s6, b, hb, ix5⟩ := wk1.yields _ n j H5 x5 H6 hj f5 ok5 y5
      have hmb := List.mem_of_getElem? hb
      have f6 : Same F4 (off (D :: W.ps) H6) := Same.trans f5 (off_same s6)
      have e4 : Env K F4 σ2 (ρd d) := e2.mono (off_same s4)
      refine hg1 d hm b hmb x5 (wipe σ2 vs1) _ H6 ((e4.mono f6).wipe vs1) (off_le _ _) ix5 _ fun σ3 l3 e3 hs3 => ?_
      refine ⟨js_wipe (by rw [l3, wipe_length]) hjs1 hs3, ?_⟩
      refine he D _ d hm b hmb σ3 H6 n e3 (ok5.to s6) _ fun y7 H7 _ s7 iy ey => ?_
      subst ey
      obtain ⟨vs7, h7, a7⟩ := mo_to (W := W) (mo_to (W := W) mo5 s6) s7
      refine ⟨vs7, h7, ?_, Same.put ((s5.trans s6).trans s7) hD, ?_, vs7 ++ [y7], upd_same, ?_⟩
      · have h8 := out_len i d hd
        have h9 : (((es d).take j).map (h d)).length ≤ j := by simp; omega
        rw [a7.len, sizeLine_eq, List.length_append]
        omega
      · rw [off_in List.mem_cons_self]
        exact Same.trans f6 (off_same s7)
      · rw [off_in List.mem_cons_self, List.take_add_one, hb]
        simp only [Option.toList_some, List.map_append, List.map_cons, List.map_nil]
        rw [← List.append_assoc]
        exact a7.snoc iy
    · have ej : j = (es d).length := by omega
      subst ej
      refine .inl ⟨wk1.stops H5 (Same.trans f5 (off_le _ _)), s5, ?_⟩
      rw [out_succ i d hd]
      rw [List.take_length] at mo5
      exact mo5
  · have ei : i = ds.length := by omega
    subst ei
    refine .inl ⟨wk.stops H2 (Same.trans fr2 (off_le _ _)), ?_⟩
    obtain ⟨vs2, h2, a2⟩ := mo
    have e3 : out ds.length = ds.flatMap fun d => (es d).map (h d) := by simp [out]
    rw [e3] at a2
    exact q D H2 vs2 (free_back s1 hD) (s1.trans s2) h2 a2
end
/-! ### evaluation that may change the world -/
section
variable (K : PySem.W.Frag) (W : Wd)
/-- to a slot, in a world; k of the budget -/
def EvS (k : Nat) (te : TE) (ρ : List Sl) (T : Wd → Sl → Prop) : Prop := ∀ (σ : L2.St) (H : Hp) (n : Nat), Env K (W.fr H) σ ρ → W.ok (n + k) H → ∀ Q : VK, (∀ v H' W' s, Ext W W' → Same (W.fr H) (W'.fr H') → W'.ok n H' → SlOk K (W'.fr H') v s → T W' s → Q v H') → te σ H Q
/-- in the same world -/
def EvK (k : Nat) (te : TE) (ρ : List Sl) (P : Sl → Prop) : Prop := ∀ (σ : L2.St) (H : Hp) (n : Nat), Env K (W.fr H) σ ρ → W.ok (n + k) H → ∀ Q : VK, (∀ v H' s, Same (W.fr H) (W.fr H') → W.ok n H' → SlOk K (W.fr H') v s → P s → Q v H') → te σ H Q
def EvAK (k : Nat) (ta : TA) (ρ : List Sl) (P : List Sl → Prop) : Prop := ∀ (σ : L2.St) (H : Hp) (n : Nat), Env K (W.fr H) σ ρ → W.ok (n + k) H → ∀ Q : List V → Hp → Prop, (∀ vs H' ss, Same (W.fr H) (W.fr H') → W.ok n H' → SlAll K (W.fr H') vs ss → P ss → Q vs H') → ta σ H Q
end
def isD (P : PyData → Prop) (s : Sl) : Prop := ∃ d, s = .dat d ∧ P d
section
variable {K : PySem.W.Frag} {W : Wd} {ρ : List Sl} {te ta tb : TE} {k k1 k2 : Nat}
theorem ek_ev {P : PyData → Prop} (h : Ev K W te ρ P) : EvK K W 0 te ρ (isD P) := fun σ H n e o Q q => h σ H n e o Q fun v H' d s hv hp => q v H' (.dat d) (fr_to s) (o.to s) hv ⟨d, rfl, hp⟩
theorem ek_at {i : Nat} {p : Addr} (h : ρ[i]? = some (.at p)) : EvK K W 0 (tVar i) ρ fun s => s = .at p := fun σ H n e o Q q =>
  let ⟨v, h1, h2⟩ := e.get i _ h (fun z => by cases z)
  ⟨v, h1, q v H (.at p) (Same.refl _) o h2 rfl⟩
theorem ek_to {P P' : Sl → Prop} (h : EvK K W k te ρ P) (hp : ∀ s, P s → P' s) : EvK K W k te ρ P' := fun σ H n e o Q q => h σ H n e o Q fun v H' s e' o' v' p => q v H' s e' o' v' (hp s p)
theorem ek_low {P : Sl → Prop} (h : EvK K W k te ρ P) (hk : k ≤ k1) : EvK K W k1 te ρ P := fun σ H n e o Q q => h σ H n e (o.low (by omega)) Q q
theorem es_k {P : Sl → Prop} (h : EvK K W k te ρ P) : EvS K W k te ρ fun W' s => W' = W ∧ P s := fun σ H n e o Q q => h σ H n e o Q fun v H' s f o' hv hp => q v H' W s (Ext.refl W) f o' hv ⟨rfl, hp⟩
theorem es_new {ds : List PyData} (h : EvF K W te ρ ds) : EvS K W 0 te ρ fun W' s => ∃ p, W' = W.push K p (.lst ds) ∧ s = .at p := fun σ H n e o Q q =>
  h σ H n e o Q fun p H' vs hp s h1 h2 => q _ _ (W.push K p (.lst ds)) (.at p) Ext.push (fr_push o hp s) (push_new o hp s ⟨vs, h1, h2⟩) rfl ⟨p, rfl, rfl⟩
theorem eak_nil : EvAK K W 0 tNil ρ fun ss => ss = [] := fun σ H n e o Q q => q _ _ _ (Same.refl _) o .nil rfl
theorem eak_cons {tr : TA} {P : Sl → Prop} {P2 : Sl → List Sl → Prop} (h : EvK K W k1 te ρ P) (hr : ∀ s, P s → EvAK K W k2 tr ρ (P2 s)) : EvAK K W (k1 + k2) (tCons te tr) ρ fun ss => ∃ s r, ss = s :: r ∧ P s ∧ P2 s r := fun σ H n e o Q q =>
  h σ H (n + k2) e (o.low (by omega)) _ fun x H1 s f1 o1 hx hp => hr s hp σ H1 n (e.mono f1) o1 _ fun vs H2 ss f2 o2 hv hp2 => q _ _ _ (Same.trans f1 f2) o2 (.cons (hx.mono f2) hv) ⟨s, ss, rfl, hp, hp2⟩
theorem eak_to {ta : TA} {P P' : List Sl → Prop} (h : EvAK K W k ta ρ P) (hp : ∀ s, P s → P' s) : EvAK K W k ta ρ P' := fun σ H n e o Q q => h σ H n e o Q fun v H' s e' o' v' p => q v H' s e' o' v' (hp s p)
/-- a def that uses what changes: slots, budget -/
def SpB (K : PySem.W.Frag) {α : Type} (As : α → List Sl) (pre : Wd → α → Prop) (k : Nat) (B : α → PyData → Prop) : Sp := fun vs H Q _ => ∃ (W : Wd) (n : Nat) (a : α), SlAll K (W.fr H) vs (As a) ∧ W.ok (n + k) H ∧ pre W a ∧ ∀ v H' d, Same (W.fr H) (W.fr H') → W.ok n H' → Is K (W.fr H') v d → B a d → Q v H'
theorem ek_call {α : Type} {As : α → List Sl} {pre : Wd → α → Prop} {B : α → PyData → Prop} {E : XK} {tr : TA} {P : List Sl → Prop} {R : PyData → Prop} (h : EvAK K W k1 tr ρ P) (hp : ∀ ss, P ss → ∃ a, ss = As a ∧ pre W a ∧ ∀ d, B a d → R d) :
    EvK K W (k1 + k2) (tCall (SpB K As pre k2 B) [] E tr) ρ (isD R) := fun σ H n e o Q q =>
  h σ H (n + k2) e (o.low (by omega)) _ fun vs H1 ss f1 o1 hv hp1 => by
    obtain ⟨a, rfl, h2, h3⟩ := hp ss hp1
    exact ⟨W, n, a, by rw [List.append_nil]; exact hv, o1, h2, fun v H2 d f2 o2 iv bd => q v H2 (.dat d) (Same.trans f1 f2) o2 iv ⟨d, rfl, h3 d bd⟩⟩
/-- a pure def, over arguments that are not -/
theorem ek_callD {α : Type} {As : α → List PyData} {pre : α → Prop} {B : α → PyData → Prop} {E : XK} {tr : TA} {P : List Sl → Prop} {R : PyData → Prop} (h : EvAK K W k tr ρ P) (hp : ∀ ss, P ss → ∃ a, ss = (As a).map .dat ∧ pre a ∧ ∀ d, B a d → R d) :
    EvK K W k (tCall (SpD K As pre B) [] E tr) ρ (isD R) := fun σ H n e o Q q =>
  h σ H n e o _ fun vs H1 ss f1 o1 hv hp1 => by
    obtain ⟨a, rfl, h2, h3⟩ := hp ss hp1
    exact ⟨W, n, a, by rw [List.append_nil]; exact hv.all, o1, h2, fun v H2 d s2 iv bd => q v H2 (.dat d) (Same.trans f1 (fr_to s2)) (o1.to s2) iv ⟨d, rfl, h3 d bd⟩⟩
theorem ek_op {r : R2} {Pa Pb R : PyData → Prop} (ha : EvK K W k1 ta ρ (isD Pa)) (hb : EvK K W k2 tb ρ (isD Pb)) (hr : ∀ a b, Pa a → Pb b → ∃ P, RvD K W r a b P ∧ ∀ d, P d → R d) : EvK K W (k1 + k2) (tOp r ta tb) ρ (isD R) := fun σ H n e o Q q =>
  ha σ H (n + k2) e (o.low (by omega)) _ fun x H1 sa f1 o1 hx pa => by
    obtain ⟨a, rfl, pa⟩ := pa
    refine hb σ H1 n (e.mono f1) o1 _ fun y H2 sb f2 o2 hy pb => ?_
    obtain ⟨b, rfl, pb⟩ := pb
    obtain ⟨P, h1, h2⟩ := hr a b pa pb
    exact h1 x y H2 n (Is.mono f2 hx) hy o2 Q fun v H3 d s3 iv pd => q v H3 (.dat d) (Same.trans (Same.trans f1 f2) (fr_to s3)) (o2.to s3) iv ⟨d, rfl, h2 d pd⟩
theorem ek_cb {r : List V → Hp → VK → Prop} {tr : TA} {P : List Sl → Prop} {R : PyData → Prop} (h : EvAK K W k tr ρ P) (hr : ∀ ss, P ss → ∃ ds P', ss = ds.map .dat ∧ RcD K W r ds P' ∧ ∀ d, P' d → R d) : EvK K W k (tCB r tr) ρ (isD R) := fun σ H n e o Q q =>
  h σ H n e o _ fun vs H1 ss f1 o1 hv hp => by
    obtain ⟨ds, P', rfl, h1, h2⟩ := hr ss hp
    exact h1 vs H1 n hv.all o1 Q fun v H2 d s2 iv pd => q v H2 (.dat d) (Same.trans f1 (fr_to s2)) (o1.to s2) iv ⟨d, rfl, h2 d pd⟩
theorem ek_tup {tr : TA} {P : List Sl → Prop} {R : PyData → Prop} (h : EvAK K W k tr ρ P) (hr : ∀ ss, P ss → ∃ ds, ss = ds.map .dat ∧ ds.length ≤ 16777216 ∧ R (.tuple ds)) : EvK K W k (tTup tr) ρ (isD R) := fun σ H n e o Q q =>
  h σ H n e o _ fun vs H1 ss f1 o1 hv hp => by
    obtain ⟨ds, rfl, h1, h2⟩ := hr ss hp
    have dv := hv.all
    exact ⟨by rw [dv.len]; exact sz h1, fun p hp => q _ _ (.dat (.tuple ds)) (Same.trans f1 (fr_new hp)) (o1.new hp) (is_tup o1 hp dv) ⟨_, rfl, h2⟩⟩
theorem ek_lst {tr : TA} {P : List Sl → Prop} {R : PyData → Prop} (h : EvAK K W k tr ρ P) (hr : ∀ ss, P ss → ∃ ds, ss = ds.map .dat ∧ ds.length ≤ 16777216 ∧ R (.list ds)) : EvK K W k (tLst tr) ρ (isD R) := fun σ H n e o Q q =>
  h σ H n e o _ fun vs H1 ss f1 o1 hv hp => by
    obtain ⟨ds, rfl, h1, h2⟩ := hr ss hp
    have dv := hv.all
    refine ⟨by rw [dv.len]; exact sz h1, fun p hp => q _ _ (.dat (.list ds)) (Same.trans f1 (fr_new hp)) (o1.new hp) (.lst (.inl (.inl (o1.at hp))) (dv.mono (fr_new hp))) ⟨_, rfl, h2⟩⟩
end
end CW
end W4x
section W5x
set_option Elab.async false
set_option linter.all false
set_option maxRecDepth 100000
/-! Statements over data. -/
namespace CW
open PySem PySem.Spec PyProof.Rows L2 StX RZ
/-- what is wanted of a return: data, in the base world -/
def Rt (K : PySem.W.Frag) (B : Wd) (P : PyData → Prop) : Hp → V → Hp → Prop := fun _ v H' => ∃ d, Is K (B.fr H') v d ∧ P d
def Sb (K : PySem.W.Frag) (B W : Wd) (k : Nat) (t : TS) (ρ : List Sl) (N : Wd → List Sl → Prop) (R : Hp → V → Hp → Prop) : Prop :=
  Ext B W → ∀ (D : Ends) (σ : L2.St) (H : Hp) (n : Nat) (F : Hp), Env K (W.fr H) σ ρ → Same F (W.fr H) → W.ok (n + k) H →
    (∀ W' ρ' σ' H', Ext B W' → N W' ρ' → Env K (W'.fr H') σ' ρ' → Same F (W'.fr H') → W'.ok n H' → D.nx σ' H') →
    (∀ v H', Same F (B.fr H') → B.ok n H' → R F v H' → D.rt v H') → t D σ H
section
variable {K : PySem.W.Frag} {B W : Wd} {k k1 k2 : Nat} {t u : TS} {ρ : List Sl} {N : Wd → List Sl → Prop} {R : Hp → V → Hp → Prop} {te ta tb : TE} {i j : Nat}
theorem sb_to {N' : Wd → List Sl → Prop} (h : Sb K B W k t ρ N' R) (hn : ∀ W' ρ', N' W' ρ' → N W' ρ') : Sb K B W k t ρ N R := fun x D σ H n F e f o kn kr => h x D σ H n F e f o (fun W' ρ' σ' H' x' q => kn W' ρ' σ' H' x' (hn _ _ q)) kr
theorem sb_low (h : Sb K B W k1 t ρ N R) (hk : k1 ≤ k) : Sb K B W k t ρ N R := fun x D σ H n F e f o kn kr => h x D σ H n F e f (o.low (by omega)) kn kr
theorem sb_seqK (h : Sb K B W k1 t ρ (fun W' ρ' => Sb K B W' k2 u ρ' N R) R) (hk : k1 + k2 ≤ k) : Sb K B W k (tSeq t u) ρ N R := fun x D σ H n F e f o kn kr =>
  h x { D with nx := u D } σ H (n + k2) F e f (o.low (by omega)) (fun W' ρ' σ' H' x' h' e' f' o' => h' x' D σ' H' n F e' f' o' kn kr) fun v H' f' o' r => kr v H' f' (o'.low (by omega)) r
theorem sb_seq (h : Sb K B W 0 t ρ (fun W' ρ' => Sb K B W' k u ρ' N R) R) : Sb K B W k (tSeq t u) ρ N R := sb_seqK h (by omega)
theorem sb_next (h : N W ρ) : Sb K B W k tNext ρ N R := fun x D σ H n F e f o kn kr => kn W ρ σ H x h e f (o.low (by omega))
theorem sb_asgS {T : Wd → Sl → Prop} (h : EvS K W k te ρ T) (hn : ∀ W' s, T W' s → N W' (ρ.set i s)) : Sb K B W k (tAsg te (gName i)) ρ N R := fun x D σ H n F e f o kn kr =>
  h σ H n e o _ fun v H' W' s x' f' o' hv hT => kn W' (ρ.set i s) _ H' (x.trans x') (hn W' s hT) ((e.mono f').set hv) (Same.trans f f') o'
theorem sb_asg {P : PyData → Prop} (h : Ev K W te ρ P) (hn : ∀ d, P d → N W (ρ.set i (.dat d))) : Sb K B W 0 (tAsg te (gName i)) ρ N R := sb_asgS (es_k (ek_ev h)) fun W' s ⟨e, d, es, hd⟩ => by
  subst e es
  exact hn d hd
theorem sb_asgD {d : PyData} (h : EvD K W te ρ d) (hn : N W (ρ.set i (.dat d))) : Sb K B W 0 (tAsg te (gName i)) ρ N R := sb_asg h fun x e => e ▸ hn
theorem sb_asgM {ds : List PyData} (h : EvF K W te ρ ds) (hn : ∀ p, N (W.push K p (.lst ds)) (ρ.set i (.at p))) : Sb K B W 0 (tAsg te (gName i)) ρ N R := sb_asgS (es_new h) fun W' s ⟨p, e, es⟩ => by
  subst e es
  exact hn p
theorem sb_asgK {P : PyData → Prop} (h : EvK K W k te ρ (isD P)) (hn : ∀ d, P d → N W (ρ.set i (.dat d))) : Sb K B W k (tAsg te (gName i)) ρ N R := sb_asgS (es_k h) fun W' s ⟨e, d, es, hd⟩ => by
  subst e es
  exact hn d hd
theorem sb_asgG {g : TG} {P : PyData → Prop} {ρd : PyData → List Sl} {js : List Nat} (h : Ev K W te ρ P) (hg : ∀ d, P d → EvG K g ρ d (ρd d) js) (hn : ∀ d, P d → N W (ρd d)) : Sb K B W 0 (tAsg te g) ρ N R := fun x D σ H n F e f o kn kr =>
  h σ H n e o _ fun v H' d s hv hd => hg d hd v σ (W.fr H') H' (e.mono (fr_to s)) fr_le hv _ fun σ' l' e' _ => kn W (ρd d) σ' H' x (hn d hd) e' (Same.trans f (fr_to s)) (o.to s)
/-- a, b = .. -/
theorem sb_par {T1 : Wd → Sl → Prop} {T2 : Wd → Sl → Wd → Sl → Prop} (h1 : EvS K W k1 ta ρ T1) (h2 : ∀ W1 s1, T1 W1 s1 → EvS K W1 k2 tb ρ (T2 W1 s1)) (hn : ∀ W1 s1 W2 s2, T1 W1 s1 → T2 W1 s1 W2 s2 → N W2 ((ρ.set i s1).set j s2)) :
    Sb K B W (k1 + k2) (tPar i j (tCons ta (tCons tb tNil))) ρ N R := fun x D σ H n F e f o kn kr =>
  h1 σ H (n + k2) e (o.low (by omega)) _ fun v1 H1 W1 s1 x1 f1 o1 hv1 hT1 => h2 W1 s1 hT1 σ H1 n (e.mono f1) o1 _ fun v2 H2 W2 s2 x2 f2 o2 hv2 hT2 =>
    ⟨v1, v2, rfl, kn W2 _ _ H2 ((x.trans x1).trans x2) (hn _ _ _ _ hT1 hT2) ((((e.mono f1).mono f2).set (hv1.mono f2)).set hv2) (Same.trans (Same.trans f f1) f2) o2⟩
theorem sb_tup {T1 : Wd → Sl → Prop} {T2 : Wd → Sl → Wd → Sl → Prop} (h1 : EvS K W k1 ta ρ T1) (h2 : ∀ W1 s1, T1 W1 s1 → EvS K W1 k2 tb ρ (T2 W1 s1)) (hn : ∀ W1 s1 W2 s2, T1 W1 s1 → T2 W1 s1 W2 s2 → N W2 ((ρ.set i s1).set j s2)) :
    Sb K B W (k1 + k2) (tAsg (tTup (tCons ta (tCons tb tNil))) (gTup K 2 (gCons (gName i) (gCons (gName j) gNil)))) ρ N R := fun x D σ H n F e f o kn kr =>
  h1 σ H (n + k2) e (o.low (by omega)) _ fun v1 H1 W1 s1 x1 f1 o1 hv1 hT1 => h2 W1 s1 hT1 σ H1 n (e.mono f1) o1 _ fun v2 H2 W2 s2 x2 f2 o2 hv2 hT2 => by
    refine ⟨sz (by show [v1, v2].length ≤ _; simp), fun p hp => ⟨p, [v1, v2], rfl, .inl (.inl upd_same), rfl, _, _, rfl, _, _, rfl, rfl, ?_⟩⟩
    have f3 := fr_new (W := W2) (o := HO.tup [v1, v2]) hp
    exact kn W2 _ _ _ ((x.trans x1).trans x2) (hn _ _ _ _ hT1 hT2) (((((e.mono f1).mono f2).mono f3).set ((hv1.mono f2).mono f3)).set (hv2.mono f3)) (Same.trans (Same.trans (Same.trans f f1) f2) f3) (o2.new hp)
theorem sb_retS {T : Wd → Sl → Prop} {P : PyData → Prop} (h : EvS K W k te ρ T) (hr : ∀ W' s, T W' s → isD P s) : Sb K B W k (tRet te) ρ N (Rt K B P) := fun x D σ H n F e f o kn kr =>
  h σ H n e o _ fun v H' W' s x' f' o' hv hT => by
    obtain ⟨d, rfl, hd⟩ := hr W' s hT
    have hx := x.trans x'
    exact kr v H' (Same.trans (Same.trans f f') (hx.fr H')) (hx.ok o') ⟨d, Is.mono (hx.fr H') hv, hd⟩
theorem sb_ret {P P' : PyData → Prop} (h : Ev K W te ρ P') (hr : ∀ d, P' d → P d) : Sb K B W 0 (tRet te) ρ N (Rt K B P) := sb_retS (es_k (ek_ev h)) fun W' s ⟨_, d, e, hd⟩ => ⟨d, e, hr d hd⟩
theorem sb_retD {P : PyData → Prop} {d : PyData} (h : EvD K W te ρ d) (hr : P d) : Sb K B W 0 (tRet te) ρ N (Rt K B P) := sb_ret h fun x e => e ▸ hr
theorem sb_retK {P : PyData → Prop} (h : EvK K W k te ρ (isD P)) : Sb K B W k (tRet te) ρ N (Rt K B P) := sb_retS (es_k h) fun W' s ⟨_, h⟩ => h
theorem sb_if {c : TT} {b : Bool} (h : EvT K W c ρ b) (h1 : b = true → Sb K B W k t ρ N R) (h2 : b = false → Sb K B W k u ρ N R) : Sb K B W k (tIfS c t u) ρ N R := fun x D σ H n F e f o kn kr =>
  h σ H (n + k) e o _ fun H1 s1 => by
    have e1 := e.mono (fr_to (W := W) s1)
    have f1 := Same.trans f (fr_to (W := W) s1)
    cases b with
    | true => exact h1 rfl x D σ H1 n F e1 f1 (o.to s1) kn kr
    | false => exact h2 rfl x D σ H1 n F e1 f1 (o.to s1) kn kr
theorem sb_drop {T : Wd → Sl → Prop} (h : EvS K W k te ρ T) (hn : ∀ W' s, T W' s → N W' ρ) : Sb K B W k (tDrop te) ρ N R := fun x D σ H n F e f o kn kr =>
  h σ H n e o _ fun v H' W' s x' f' o' hv hT => kn W' ρ σ H' (x.trans x') (hn W' s hT) (e.mono f') (Same.trans f f') o'
theorem sb_aug {f : Int → Int → Int} {a b : Int} (hx : ρ[i]? = some (.dat (.int a))) (h : EvD K W te ρ (.int b)) (hn : N W (ρ.set i (.dat (.int (f a b))))) : Sb K B W 0 (tAug i te (ipI f)) ρ N R := fun x D σ H n F e fr o kn kr => by
  obtain ⟨v, h1, h2⟩ := e.get i _ hx (fun z => by cases z)
  cases h2
  refine ⟨_, h1, h σ H n e o _ fun y H1 _ s1 hy ey => ?_⟩
  subst ey
  cases hy
  exact ⟨a, b, rfl, rfl, kn W _ _ H1 x hn ((e.mono (fr_to s1)).set (s := .dat (.int (f a b))) (.int _)) (Same.trans fr (fr_to s1)) (o.to s1)⟩
/-! lists that change -/
theorem ty_list {H : Hp} {p : Addr} {vs : List V} (h : H p = some (.lst vs)) : tyV K "list" (.ref p) H := .inl ⟨rfl, vs, .inl (.inl h)⟩
variable {p : Addr} {ds : List PyData} {nxt : List PyData → Wd}
/-- p.append(e) -/
theorem sb_append {P : PyData → Prop} (hi : ρ[i]? = some (.at p)) (mu : Mu K W p ds nxt) (hx : ∀ ds', Ext B W → Ext B (nxt ds')) (h : EvK K W k te ρ (isD P)) (hz : ds.length < 16777216) (hn : ∀ d, P d → N (nxt (ds ++ [d])) ρ) :
    Sb K B W k (tDrop (tBM K "list" rAppend (tVar i) (tCons te tNil))) ρ N R := fun x D σ H n F e f o kn kr => by
  obtain ⟨v, h1, h2⟩ := e.get i _ hi (fun z => by cases z)
  cases h2
  obtain ⟨vs0, g0, _⟩ := mu.get _ _ _ o
  refine ⟨_, h1, ty_list g0, h σ H n e o _ fun y H1 s f1 o1 hy hs => ?_⟩
  obtain ⟨d, rfl, hd⟩ := hs
  obtain ⟨vs1, g1, a1⟩ := mu.get _ _ _ o1
  refine ⟨p, vs1, y, rfl, rfl, g1, ?_, ?_⟩
  · rw [a1.len, sizeLine_eq]; exact hz
  · obtain ⟨ok2, fr2⟩ := mu.ok o1 (a1.snoc hy)
    refine kn _ ρ σ _ (hx _ x) (hn d hd) ?_ ?_ ok2
    · rw [fr2]; exact e.mono f1
    · rw [fr2]; exact Same.trans f f1
/-- p.extend(e) of a new list -/
theorem sb_extend {es : List PyData} (hi : ρ[i]? = some (.at p)) (mu : Mu K W p ds nxt) (hx : ∀ ds', Ext B W → Ext B (nxt ds')) (h : EvF K W te ρ es) (hz : ds.length + es.length ≤ 16777216) (hn : N (nxt (ds ++ es)) ρ) :
    Sb K B W 0 (tDrop (tBM K "list" rExtend (tVar i) (tCons te tNil))) ρ N R := fun x D σ H n F e f o kn kr => by
  obtain ⟨v, h1, h2⟩ := e.get i _ hi (fun z => by cases z)
  cases h2
  obtain ⟨vs0, g0, _⟩ := mu.get _ _ _ o
  refine ⟨_, h1, ty_list g0, h σ H n e o _ fun q H1 vs hq s1 e1 a1 => ?_⟩
  have o1 := Wd.ok.to o s1
  obtain ⟨vs1, g1, b1⟩ := mu.get _ _ _ o1
  refine ⟨p, q, vs1, vs, rfl, rfl, g1, e1, ?_, ?_⟩
  · rw [b1.len, a1.len, sizeLine_eq]; exact hz
  · obtain ⟨ok2, fr2⟩ := mu.ok o1 (b1.append (a1.mono (off_sub (fun _ h => List.mem_cons_of_mem _ h) _)))
    refine kn _ ρ σ _ (hx _ x) hn ?_ ?_ ok2
    · rw [fr2]; exact e.mono (fr_to s1)
    · rw [fr2]; exact Same.trans f (fr_to s1)
/-- p.pop() -/
theorem sb_pop {d : PyData} (hi : ρ[i]? = some (.at p)) (mu : Mu K W p ds nxt) (hx : ∀ ds', Ext B W → Ext B (nxt ds')) (hd : ds.getLast? = some d) (hn : N (nxt ds.dropLast) ρ) :
    Sb K B W 0 (tDrop (tBM0 K "list" rPop (tVar i))) ρ N R := fun x D σ H n F e f o kn kr => by
  obtain ⟨v, h1, h2⟩ := e.get i _ hi (fun z => by cases z)
  cases h2
  obtain ⟨vs0, g0, a0⟩ := mu.get _ _ _ o
  have hl := a0.len
  have hne : ds ≠ [] := fun z => by rw [z] at hd; cases hd
  have hpos : 0 < ds.length := List.length_pos_iff.mpr hne
  refine ⟨_, h1, ty_list g0, p, vs0, vs0[vs0.length - 1]'(by omega), rfl, rfl, g0, List.getElem?_eq_getElem _, ?_⟩
  have a1 : IsAll K (W.fr H) vs0.dropLast ds.dropLast := by
    rw [List.dropLast_eq_take, List.dropLast_eq_take, hl]
    exact a0.take _
  obtain ⟨ok2, fr2⟩ := mu.ok (Wd.ok.low o (Nat.le_add_right n 0)) a1
  refine kn _ ρ σ _ (hx _ x) hn ?_ ?_ ok2
  · rw [fr2]; exact e
  · rw [fr2]; exact f
/-! the view of a list that changes, as data -/
theorem env_view {H : Hp} {σ : L2.St} {n : Nat} (e : Env K ((W.push K p (.lst ds)).fr H) σ ρ) (o : (W.push K p (.lst ds)).ok n H) (hi : ρ[i]? = some (.at p)) : Env K (W.fr H) σ (ρ.set i (.dat (.list ds))) := by
  have e2 := e.mono (Ext.push.fr H)
  refine ⟨by simp [e.len], fun j s q hn => ?_⟩
  by_cases hj : i = j
  · subst hj
    have hr : i < ρ.length := (List.getElem?_eq_some_iff.mp hi).1
    rw [List.getElem?_set_self hr] at q
    cases q
    obtain ⟨v, h1, h2⟩ := e.get i _ hi (fun z => by cases z)
    cases h2
    obtain ⟨hp, _, vs, h3, h4⟩ := o
    refine ⟨_, h1, .lst (.inl (.inl ?_)) (h4.mono (Ext.push.fr H))⟩
    show off W.ps H p = _
    rw [off_get hp]
    exact h3
  · rw [List.getElem?_set_ne hj] at q
    exact e2.get j s q hn
theorem view_ok {H : Hp} {n : Nat} (o : (W.push K p (.lst ds)).ok n H) : W.ok n H := Ext.push.ok o
theorem et_view {tt : TT} {b : Bool} (hi : ρ[i]? = some (.at p)) (h : EvT K W tt (ρ.set i (.dat (.list ds))) b) : EvT K (W.push K p (.lst ds)) tt ρ b := fun σ H n e o Q q => h σ H n (env_view e o hi) (view_ok o) Q q
/-- data without objects -/
def scalD : PyData → Bool
  | .none => true
  | .bool _ => true
  | .int _ => true
  | .str _ => true
  | _ => false
theorem Is.scal {H H' : Hp} {v : V} {d : PyData} (h : Is K H v d) (hs : scalD d = true) : Is K H' v d := by
  cases h with
  | non => exact .non
  | bl b => exact .bl b
  | int i => exact .int i
  | str z => exact .str z
  | lst _ _ => cases hs
  | tup _ _ => cases hs
theorem IsAll.scal {H H' : Hp} : ∀ {vs : List V} {es : List PyData}, IsAll K H vs es → es.all scalD = true → IsAll K H' vs es
  | _, _, .nil, _ => .nil
  | _, d :: ds, .cons h t, hs => by
    have hs' : scalD d = true ∧ ds.all scalD = true := by simpa [List.all_cons] using hs
    exact .cons (h.scal hs'.1) (IsAll.scal t hs'.2)
theorem ev_view {d : PyData} (hi : ρ[i]? = some (.at p)) (h : EvD K W te (ρ.set i (.dat (.list ds))) d) (hs : scalD d = true) : EvD K (W.push K p (.lst ds)) te ρ d := fun σ H n e o Q q =>
  h σ H n (env_view e o hi) (view_ok o) Q fun v H' x s hv ex => by
    subst ex
    exact q v H' _ s (hv.scal hs) rfl
theorem ef_view {es : List PyData} (hi : ρ[i]? = some (.at p)) (h : EvF K W te (ρ.set i (.dat (.list ds))) es) (hs : es.all scalD = true) : EvF K (W.push K p (.lst ds)) te ρ es := fun σ H n e o Q q =>
  h σ H n (env_view e o hi) (view_ok o) Q fun r H' vs hr s h1 h2 => q r H' vs hr s h1 (h2.scal hs)
theorem sb_ret_view {P P' : PyData → Prop} (hi : ρ[i]? = some (.at p)) (hx : Ext B W) (h : Ev K W te (ρ.set i (.dat (.list ds))) P') (hr : ∀ d, P' d → P d) : Sb K B (W.push K p (.lst ds)) k (tRet te) ρ N (Rt K B P) := fun x D σ H n F e f o kn kr =>
  h σ H (n + k) (env_view e o hi) (view_ok o) _ fun v H' d s hv hd => by
    have o2 : B.ok (n + k) H' := hx.ok ((view_ok o).to s)
    refine kr v H' (Same.trans (Same.trans f (Ext.push.fr H)) (Same.trans (fr_to s) (hx.fr H'))) (o2.low (by omega)) ⟨d, hv.mono (hx.fr H'), hr d hd⟩
/-! for, while -/
theorem sb_for {wi : TI} {g : TG} {P : PyData → Prop} {kb : Nat} {es : List PyData} (hi : EvI K W wi ρ es) (V : Nat → Wd → List Sl → Prop) (h0 : V 0 W ρ)
    (hb : ∀ i d W' ρ', es[i]? = some d → Ext B W' → V i W' ρ' → ∃ ρ'' js, EvG K g ρ' d ρ'' js ∧ Sb K B W' kb t ρ'' (V (i + 1)) (Rt K B P))
    (hd : ∀ W' ρ', V es.length W' ρ' → N W' ρ') : Sb K B W (es.length * kb) (tFor wi g t) ρ N (Rt K B P) := fun x D σ H n F e f o kn kr => by
  refine hi σ H _ e o _ fun J H1 s1 wk => ?_
  have o1 := Wd.ok.to o s1
  have e1 := e.mono (fr_to (W := W) s1)
  have f1 := Same.trans f (fr_to (W := W) s1)
  let Pv : Nat → L2.St → Hp → Prop := fun i σ H => ∃ W' ρ', Ext B W' ∧ V i W' ρ' ∧ Env K (W'.fr H) σ ρ' ∧ Same (W.fr H1) (W'.fr H) ∧ W'.ok (n + (es.length - i) * kb) H
  refine ⟨fun i m σ H => m = es.length - i ∧ i ≤ es.length ∧ Pv i σ H, ⟨es.length, by simp, Nat.zero_le _, W, ρ, x, h0, e1, Same.refl _, o1⟩, ?_⟩
  rintro i m σ2 H2 ⟨rfl, hle, W', ρ', x', hV, e2, f2, o2⟩
  by_cases hlt : i < es.length
  · refine .inr ⟨wk.goes i H2 hlt (Same.trans f2 fr_le), Pv (i + 1), fun σ' H' p => ⟨es.length - (i + 1), by omega, rfl, hlt, p⟩, fun v H3 y => ?_⟩
    obtain ⟨s3, d, hd3, iv⟩ := wk.yields W' _ i H2 v H3 hlt f2 o2 y
    obtain ⟨ρ'', js, hg, hbody⟩ := hb i d W' ρ' hd3 x' hV
    refine hg v σ2 (W'.fr H3) H3 (e2.mono (fr_to s3)) fr_le iv _ fun σ3 l3 e3 _ => ?_
    have ek : n + (es.length - i) * kb = n + (es.length - (i + 1)) * kb + kb := by
      have : es.length - i = (es.length - (i + 1)) + 1 := by omega
      rw [this, Nat.succ_mul]
      omega
    rw [ek] at o2
    refine hbody x' _ σ3 H3 (n + (es.length - (i + 1)) * kb) (W.fr H1) e3 (Same.trans f2 (fr_to s3)) (o2.to s3) (fun W4 ρ4 σ4 H4 x4 v4 e4 f4 o4 => ⟨W4, ρ4, x4, v4, e4, f4, o4⟩) fun v4 H4 f4 o4 r4 => ?_
    exact kr v4 H4 (Same.trans f1 f4) (o4.low (by omega)) r4
  · have ei : i = es.length := by omega
    subst ei
    refine .inl ⟨wk.stops H2 (Same.trans f2 fr_le), kn W' ρ' σ2 H2 x' (hd W' ρ' hV) e2 (Same.trans f1 f2) (o2.low (by omega))⟩
theorem sb_while {c : TT} (V : Nat → Wd → List Sl → Prop) (m0 : Nat) (h0 : V m0 W ρ)
    (hb : ∀ m W' ρ', Ext B W' → V m W' ρ' → ∃ b, EvT K W' c ρ' b ∧ (b = true → ∃ m', m' < m ∧ Sb K B W' 0 t ρ' (V m') R) ∧ (b = false → N W' ρ')) : Sb K B W 0 (tWhile c t) ρ N R := fun x D σ H n F e f o kn kr => by
  refine ⟨fun m σ H => ∃ W' ρ', Ext B W' ∧ V m W' ρ' ∧ Env K (W'.fr H) σ ρ' ∧ Same F (W'.fr H) ∧ W'.ok n H, ⟨m0, W, ρ, x, h0, e, f, o⟩, ?_⟩
  rintro m σ2 H2 ⟨W', ρ', x', hV, e2, f2, o2⟩
  obtain ⟨b, ht, h1, h2⟩ := hb m W' ρ' x' hV
  refine ht σ2 H2 n e2 o2 _ fun H3 s3 => ?_
  have e3 := e2.mono (fr_to (W := W') s3)
  have f3 := Same.trans f2 (fr_to (W := W') s3)
  cases b with
  | true =>
    rw [if_pos rfl]
    obtain ⟨m', hm, hbody⟩ := h1 rfl
    refine ⟨fun σ H => ∃ W' ρ', Ext B W' ∧ V m' W' ρ' ∧ Env K (W'.fr H) σ ρ' ∧ Same F (W'.fr H) ∧ W'.ok n H, fun σ' H' q => ⟨m', hm, q⟩, ?_⟩
    exact hbody x' _ σ2 H3 n F e3 f3 (o2.to s3) (fun W4 ρ4 σ4 H4 x4 v4 e4 f4 o4 => ⟨W4, ρ4, x4, v4, e4, f4, o4⟩) fun v4 H4 f4 o4 r4 => kr v4 H4 f4 o4 r4
  | false =>
    rw [if_neg (by decide)]
    exact kn W' ρ' σ2 H3 x' (h2 rfl) e3 f3 (o2.to s3)
end
/-! ### a def's body -/
/-- the world in which nothing that could change does -/
def Wd.still (W : Wd) (H0 : Hp) : Wd where
  ps := W.ps
  I := fun _ H _ => ∀ p ∈ W.ps, H p = H0 p ∧ H0 p ≠ none
  has := fun h p hp => by rw [(h p hp).1]; exact (h p hp).2
  loc := fun h e _ p hp => ⟨(e p hp).trans (h p hp).1, (h p hp).2⟩
  low := fun _ h => h
theorem still_same {W : Wd} {H0 H' : Hp} {n : Nat} (o : (W.still H0).ok n H') (f : Same (W.fr H0) ((W.still H0).fr H')) : Same H0 H' := fun b x e => by
  by_cases hb : b ∈ W.ps
  · rw [(o b hb).1]; exact e
  · have q := f b x (by show off W.ps H0 b = _; rw [off_get hb]; exact e)
    exact off_le _ _ b x q
section
variable {K : PySem.W.Frag} {α : Type} {As : α → List PyData} {pre : α → Prop} {P : α → PyData → Prop} {t : TS} {Ns : List Str} {E : XK}
theorem slAll_of {O : Hp} : ∀ {vs : List V} {ds : List PyData}, IsAll K O vs ds → SlAll K O vs (ds.map .dat)
  | _, _, .nil => .nil
  | _, _, .cons h t => .cons h (slAll_of t)
theorem run_pure {H : Hp} {vs : List V} {Q : VK} (h : SpD K As pre P vs H Q E)
    (hb : ∀ a B, pre a → Sb K B B 0 t ((As a).map .dat ++ List.replicate (Ns.length - (As a).length) .no) (fun _ _ => P a .none) (Rt K B (P a))) :
    t { nx := fun _ H' => Q .non H', rt := Q } (L2.start Ns vs) H := by
  obtain ⟨W, n, a, dv, o, hp, q⟩ := h
  have o0 : (W.still H).ok 0 H := fun p hp => ⟨rfl, W.has o p hp⟩
  have hl := dv.len
  have e : Env K ((W.still H).fr H) (L2.start Ns vs) ((As a).map .dat ++ List.replicate (Ns.length - (As a).length) .no) := by
    unfold L2.start
    rw [hl]
    exact Env.of_all (slAll_of dv) _
  refine hb a (W.still H) hp (Ext.refl _) _ _ H 0 (W.fr H) e (Same.refl _) o0 (fun W' ρ' σ' H' x' hN e' f' o' => ?_) fun v H' f' o' r => ?_
  · have o2 := x'.ok o'
    have f2 : Same (W.fr H) ((W.still H).fr H') := Same.trans f' (x'.fr H')
    exact q .non H' .none (still_same o2 f2) .non hN
  · obtain ⟨d, hv, hd⟩ := r
    exact q v H' d (still_same o' f') hv hd
theorem run_box {As : α → List Sl} {pre : Wd → α → Prop} {k : Nat} {H : Hp} {vs : List V} {Q : VK} (h : SpB K As pre k P vs H Q E)
    (hb : ∀ a B, pre B a → Sb K B B k t (As a ++ List.replicate (Ns.length - (As a).length) .no) (fun _ _ => P a .none) (Rt K B (P a))) :
    t { nx := fun _ H' => Q .non H', rt := Q } (L2.start Ns vs) H := by
  obtain ⟨W, n, a, dv, o, hp, q⟩ := h
  have hl := dv.len
  have e : Env K (W.fr H) (L2.start Ns vs) (As a ++ List.replicate (Ns.length - (As a).length) .no) := by
    unfold L2.start
    rw [hl]
    exact Env.of_all dv _
  refine hb a W hp (Ext.refl _) _ _ H n (W.fr H) e (Same.refl _) o (fun W' ρ' σ' H' x' hN e' f' o' => ?_) fun v H' f' o' r => ?_
  · exact q .non H' .none (Same.trans f' (x'.fr H')) (x'.ok o') .non hN
  · obtain ⟨d, hv, hd⟩ := r
    exact q v H' d f' o' hv hd
end
end CW
end W5x
section P0x
set_option Elab.async false
set_option linter.all false
set_option maxRecDepth 100000
/-! The program's defs, their names, the rules to call them. -/
namespace CW
open PySem PySem.Spec PyProof.Rows L2 StX RZ
def top (i : Nat) : Stmt := PySem.Challenge.pw_cutsmaller_k66_whole_told_as_texts.main.body.getD i (.Pass ⟨0, 0, 0, 0⟩)
abbrev FnP (K : PySem.W.Frag) (x : PySem.Str) (st : Stmt) (f : Addr) (fd : FuncData) : Prop := FunD K x x (defArgs st) (defBody st) (defScope st) [] [] f fd
/-- a def that keeps its promise, and how it is reached -/
def Ok (P : Program) (w : World) (K : PySem.W.Frag) (mg : PySem.Str → Option Value) (base : Heap) (x : PySem.Str) (k : Nat) (ps : List PySem.Str) (sp : Sp) : Prop :=
  ∃ f fd, FnOk P w K mg base CX0 k f fd ps sp ∧ mg x = some (.ref f) ∧ PySem.W.keepIn K (.ref f) = true ∧ Binds K fd ps []
section
variable {X : Cx} {x : PySem.Str} {p pos : Pos} {e : Expr} {es : List Expr} {t : TA} {k : Nat} {ps : List PySem.Str} {sp : Sp}
theorem pe_f (o : Ok X.prog X.w X.K X.mg X.base x k ps sp) (hr : Room k X.A) (hg : Gl X x) (ha : PA X (e :: es) t) (hdb : (x == ("__debug__" : PySem.Str)) = false := by decide) (he : starEach (e :: es) X.env = (false, eval e X.env) :: starEach es X.env := by rfl) (hpl : (backTo pos (starEach es X.env)).any (·.1) = false := by rfl) :
    PE X (.Call (.Name x p) (e :: es) [] pos) (tCall sp [] E0 t) :=
  let ⟨_, _, F, hm, hk, hb⟩ := o
  pe_call F hr hg hm hk hb .nil pass0 ha hdb he hpl
theorem pe_f0 (o : Ok X.prog X.w X.K X.mg X.base x k ps sp) (hr : Room k X.A) (hg : Gl X x) (hdb : (x == ("__debug__" : PySem.Str)) = false := by decide) : PE X (.Call (.Name x p) [] [] pos) (tCall sp [] E0 tNil) :=
  let ⟨_, _, F, hm, hk, hb⟩ := o
  pe_call0 F hr hg hm hk hb .nil pass0 hdb
theorem ok_of {P : Program} {w : World} {K : PySem.W.Frag} {mg : PySem.Str → Option Value} {base : Heap} {st : Stmt} {f : Addr} {fd : FuncData} (F : FnP K x st f fd) (hm : mg x = some (.ref f)) (h : FnOk P w K mg base CX0 k f fd ps sp)
    (hb : ∀ (kV doc pm : Value) (an : Option Addr) (cdv ct : Value) (us : List Value), us.length = ps.length → bindArgs (PySem.W.fnOf x x (defArgs st) (defBody st) (defScope st) .none kV doc pm an cdv ct) ⟨us, []⟩ = pure (ps.zip us)) : Ok P w K mg base x k ps sp := ⟨f, fd, h, hm, F.kp, F.bindsN hb⟩
end
/-! the rules, K said -/
section
variable {X : Cx} {K : PySem.W.Frag}
theorem ix_seqK (hK : X.K = K) : IxR X (rIx K) := hK ▸ ix_seq
theorem sl_seqK (hK : X.K = K) : SlR X (rSlX K) := hK ▸ sl_seqX
theorem op_plusK (hK : X.K = K) : OpR X (binaryOp .Add) (rPlus K) := hK ▸ op_plus
theorem op_eqK (hK : X.K = K) (hu : X.A.units + 64 < cLine) : OpR X (compareOp .Eq) (rEqX K) := hK ▸ op_eqX hu
theorem op_neK (hK : X.K = K) (hu : X.A.units + 64 < cLine) : OpR X (compareOp .NotEq) (rNeX K) := hK ▸ op_neX hu
theorem op_in_seqK (hK : X.K = K) : OpR X (compareOp .In) (rIn K false) := hK ▸ op_in_seq
theorem call_lenK (hK : X.K = K) : CallR X (.builtin "len") (rLenX K) := hK ▸ call_len
theorem call_tupleK (hK : X.K = K) : CallR X (.type "tuple") (rTupX K) := hK ▸ call_tuple_of
theorem call_listK (hK : X.K = K) : CallR X (.type "list") (rListX K) := hK ▸ call_list_of
theorem cr_allK (hK : X.K = K) (hc : X.calm = true) : CallR X (.builtin "all") (rAll K) := hK ▸ cr_all hc
theorem cr_anyK (hK : X.K = K) (hc : X.calm = true) : CallR X (.builtin "any") (rAny K) := hK ▸ cr_any hc
theorem cr_sumK (hK : X.K = K) (hc : X.calm = true) : CallR X (.builtin "sum") (rSum K) := hK ▸ cr_sum hc
theorem cr_sortedIK (hK : X.K = K) : CallR X (.builtin "sorted") (rSortedI K) := hK ▸ cr_sortedI
theorem cr_sortedPOK (hK : X.K = K) : CallR X (.builtin "sorted") (rSortedPO K) := hK ▸ cr_sortedPO
theorem call_isiK1 (hK : X.K = K) : CallR X (.builtin "isinstance") (rIsi K) := hK ▸ call_isi
theorem call_isiTK (hK : X.K = K) : CallR X (.builtin "isinstance") (rIsiT K) := hK ▸ call_isiT
theorem call_max2K (hc : X.calm = true) : CallR X (.builtin "max") rMax2 := call_max2 hc
theorem call_min2K (hc : X.calm = true) : CallR X (.builtin "min") rMin2 := call_min2 hc
variable {e o : Expr} {es : List Expr} {te to : TE} {t : TA} {pos : Pos}
theorem pa_starK (hK : X.K = K) (he : PE X e te) (hr : PA X es t) (hs : starEach (.Starred e pos :: es) X.env = (true, eval e X.env) :: starEach es X.env := by rfl) : PA X (.Starred e pos :: es) (tStar K te t) := hK ▸ pa_star he hr hs
theorem pg_tupK (hK : X.K = K) {k : Nat} {t : TGs} {n : Nat} (hc : X.calm = true) (h : PGs X es t) (hn : (assignEach es X.env).length = n := by rfl) (hst : (assignEach es X.env).findIdx? (·.1) = none := by rfl) : PG X (.Tuple es k pos) (gTup K n t) := hK ▸ pg_tup hc h hn hst
theorem pe_bmK (hK : X.K = K) {name : PySem.Str} {apos cpos : Pos} {T id : String} {r : V → List V → Hp → VK → Prop} (pa : PlainAttrs T) (slot : Slot T name id) (hty : typeOf (.builtin id) = pure (.type "method_descriptor")) (hm : MtR X id r) (ho : PE X o to) (ha : PA X (e :: es) t)
    (hbase : attributeBase o name X.env (eval o X.env) = eval o X.env := by rfl)
    (hfew : ((backTo cpos (starEach (e :: es) X.env)).all (fun x => !x.1) && (backToKw cpos (keywordEach [] X.env)).all (fun x => x.1.isSome)
      && decide ((e :: es).length + ([] : List Keyword).length + (if ([] : List Keyword).isEmpty then 0 else 1) < 30)) = true := by rfl)
    (hline : (apos.endLine == cpos.line) = true := by rfl) (hs : starEach (e :: es) X.env = (false, eval e X.env) :: starEach es X.env := by rfl) (hplain : (backTo cpos (starEach es X.env)).any (·.1) = false := by rfl) :
    PE X (.Call (.Attribute o name apos) (e :: es) [] cpos) (tBM K T r to t) := hK ▸ pe_bm pa slot hty hm ho ha hbase hfew hline hs hplain
theorem pe_bm0X (hK : X.K = K) {name : PySem.Str} {apos cpos : Pos} {T id : String} {r : V → List V → Hp → VK → Prop} (pa : PlainAttrs T) (slot : Slot T name id) (hty : typeOf (.builtin id) = pure (.type "method_descriptor")) (hm : MtR X id r) (ho : PE X o to)
    (hbase : attributeBase o name X.env (eval o X.env) = eval o X.env := by rfl) (hline : (apos.endLine == cpos.line) = true := by rfl) : PE X (.Call (.Attribute o name apos) [] [] cpos) (tBM0 K T r to) := hK ▸ pe_bm0 pa slot hty hm ho hbase hline
def rJoinX (K : PySem.W.Frag) : V → List V → Hp → VK → Prop := fun x xs H Q => ∃ a p, ∃ ys : List PySem.Str, x = .str a ∧ xs = [.ref p] ∧ (SqL K H p (ys.map V.str) ∨ SqT K H p (ys.map V.str)) ∧ (ys.map (·.length)).sum + ys.length * a.length ≤ 16777216 ∧ Q (.str (Txt.join a ys)) H
theorem pe_joinK (hK : X.K = K) {apos : Pos} (ho : PE X o to) (he : PE X e te) (hs : starEach [e] X.env = [(false, eval e X.env)] := by rfl) (hbase : attributeBase o "join" X.env (eval o X.env) = eval o X.env := by rfl) (hline : (apos.endLine == pos.line) = true := by rfl) :
    PE X (.Call (.Attribute o "join" apos) [e] [] pos) (tM1 (rJoinX K) to te) := hK ▸ pe_join ho he hs hbase hline
def rSplitX : V → List V → Hp → VK → Prop := fun x xs H Q => ∃ a b, x = .str a ∧ xs = [.str b] ∧ (b.length == 0) = false ∧ a.length + 2 ≤ sizeLine ∧ rNewStrs (Txt.split a b) H Q
theorem pe_splitK {apos : Pos} (ho : PE X o to) (he : PE X e te) (hs : starEach [e] X.env = [(false, eval e X.env)] := by rfl) (hbase : attributeBase o "split" X.env (eval o X.env) = eval o X.env := by rfl) (hline : (apos.endLine == pos.line) = true := by rfl) :
    PE X (.Call (.Attribute o "split" apos) [e] [] pos) (tM1 rSplitX to te) := pe_split ho he hs hbase hline
def rStrI : List V → Hp → VK → Prop := fun xs H Q => ∃ i, xs = [.int i] ∧ i.natAbs.log2 < 1920 ∧ Q (.str (toString i)) H
theorem call_strK : CallR X (.type "str") rStrI := call_str_int
def rIntS : List V → Hp → VK → Prop := fun xs H Q => ∃ a n, xs = [.str a] ∧ PySem.intText? a = some n ∧ a.length ≤ 640 ∧ Q (.int n) H
theorem call_intSK : CallR X (.type "int") rIntS := call_int_str
def rInt1 : List V → Hp → VK → Prop := fun xs H Q => (∃ i, xs = [.int i] ∧ Q (.int i) H) ∨ ∃ k, xs = [.bl k] ∧ Q (.int (if k then 1 else 0)) H
theorem call_int1K : CallR X (.type "int") rInt1 := call_int1
def rAbs : List V → Hp → VK → Prop := fun xs H Q => ∃ i, xs = [.int i] ∧ Q (.int (if i < 0 then -i else i)) H
theorem call_absK : CallR X (.builtin "abs") rAbs := call_abs
def rInSign : R2 := fun x y H Q => ∃ (c : Nat) (z : PySem.Str), x = .str ⟨#[c]⟩ ∧ y = .str z ∧ Q (.bl (decide (c ∈ z.cps.toList))) H
theorem op_inSignK : OpR X (compareOp .In) rInSign := op_in_sign
def rNotInSign : R2 := fun x y H Q => ∃ (c : Nat) (z : PySem.Str), x = .str ⟨#[c]⟩ ∧ y = .str z ∧ Q (.bl (!decide (c ∈ z.cps.toList))) H
theorem op_notInSignK : OpR X (compareOp .NotIn) rNotInSign := op_notIn_sign
theorem pe_orTK (hK : X.K = K) {a b : Expr} {ta tb : TE} {rest : List Expr} (ha : PE X a ta) (hb : PE X (.BoolOp .Or (b :: rest) pos) tb) : PE X (.BoolOp .Or (a :: b :: rest) pos) (tOrT K ta tb) := hK ▸ pe_orT ha hb
variable {tg it : Expr}
theorem PI.or {wi wi' : TI} (h : PI X tg it wi) (h' : PI X tg it wi') : PI X tg it (fun σ H R => wi σ H R ∨ wi' σ H R) := ⟨fun pins s σ H R I q => q.elim (h.run pins s σ H R I) (h'.run pins s σ H R I)⟩
/-- a list, a tuple, a text, a dict's keys -/
def iAny (K : PySem.W.Frag) (te : TE) : TI := fun σ H R => iList K te σ H R ∨ (iTup K te σ H R ∨ (iStr te σ H R ∨ iKeys te σ H R))
theorem pi_anyK (hK : X.K = K) (he : PE X e te) : PI X tg e (iAny K te) := hK ▸ PI.or (pi_list he) (PI.or (pi_tup he) (PI.or (pi_str he) (pi_keys he)))
theorem pi_zipK (hK : X.K = K) {e2 : Expr} {ta : TA} {p tpos : Pos} {elts : List Expr} {kk : Nat} (hg : Gl X "zip") (hm : X.mg "zip" = none) (ha : PA X [e, e2] ta)
    (hs : starEach [e, e2] X.env = (false, eval e X.env) :: starEach [e2] X.env := by rfl) (hpl : (backTo pos (starEach [e2] X.env)).any (·.1) = false := by rfl) :
    PI X (.Tuple elts kk tpos) (.Call (.Name "zip" p) [e, e2] [] pos) (iZipA K ta) := hK ▸ pi_zipA hg hm ha hs hpl
end
theorem hu_of1 {A : Around} {k : Nat} (hr : Room k A) : A.units + 1 < cLine := L2.hu_of hr
theorem hu64 {A : Around} {k : Nat} (hr : Room k A) : A.units + 64 < cLine := hr.units
/-- what the module's names hold -/
structure Tx (mg : PySem.Str → Option Value) where
  abs : mg "abs" = none
  all : mg "all" = none
  any : mg "any" = none
  bool : mg "bool" = none
  dict : mg "dict" = none
  enumerate : mg "enumerate" = none
  int : mg "int" = none
  isinstance : mg "isinstance" = none
  len : mg "len" = none
  list : mg "list" = none
  max : mg "max" = none
  min : mg "min" = none
  range : mg "range" = none
  sorted : mg "sorted" = none
  str : mg "str" = none
  sum : mg "sum" = none
  tuple : mg "tuple" = none
  zip : mg "zip" = none
  uMOST_ITEMS : Value
  gMOST_ITEMS : mg "MOST_ITEMS" = some uMOST_ITEMS ∧ RelV (.int 3) uMOST_ITEMS
  uDIGITS : Value
  gDIGITS : mg "DIGITS" = some uDIGITS ∧ RelV (.str "0123456789") uDIGITS
  uMOST_DIGITS : Value
  gMOST_DIGITS : mg "MOST_DIGITS" = some uMOST_DIGITS ∧ RelV (.int 61) uMOST_DIGITS
  uNONE : Value
  gNONE : mg "NONE" = some uNONE ∧ RelV (.str "-") uNONE
  uALONE : Value
  gALONE : mg "ALONE" = some uALONE ∧ RelV (.str "alone") uALONE
  uBLANK : Value
  gBLANK : mg "BLANK" = some uBLANK ∧ RelV (.str " ") uBLANK
  uFEED : Value
  gFEED : mg "FEED" = some uFEED ∧ RelV (.str "\n") uFEED
  uLONE : Value
  gLONE : mg "LONE" = some uLONE ∧ RelV (.int 3) uLONE
abbrev s_tupled : Stmt := top 6
abbrev N_tupled : List PySem.Str := ["thing", "part"]
theorem sc_tupled : FnScope N_tupled ["thing"] (defScope s_tupled) := ⟨rfl, rfl, rfl, by decide +kernel, rfl, by decide +kernel, by decide +kernel⟩
abbrev s_is_number : Stmt := top 7
abbrev N_is_number : List PySem.Str := ["thing", "least"]
theorem sc_is_number : FnScope N_is_number ["thing", "least"] (defScope s_is_number) := ⟨rfl, rfl, rfl, by decide +kernel, rfl, by decide +kernel, by decide +kernel⟩
abbrev s_is_tuple : Stmt := top 8
abbrev N_is_tuple : List PySem.Str := ["thing", "many"]
theorem sc_is_tuple : FnScope N_is_tuple ["thing", "many"] (defScope s_is_tuple) := ⟨rfl, rfl, rfl, by decide +kernel, rfl, by decide +kernel, by decide +kernel⟩
abbrev s_ascends : Stmt := top 9
abbrev N_ascends : List PySem.Str := ["row", "one", "other"]
theorem sc_ascends : FnScope N_ascends ["row"] (defScope s_ascends) := ⟨rfl, rfl, rfl, by decide +kernel, rfl, by decide +kernel, by decide +kernel⟩
abbrev s_are_sizes : Stmt := top 11
abbrev N_are_sizes : List PySem.Str := ["thing", "part"]
theorem sc_are_sizes : FnScope N_are_sizes ["thing"] (defScope s_are_sizes) := ⟨rfl, rfl, rfl, by decide +kernel, rfl, by decide +kernel, by decide +kernel⟩
abbrev s_is_batch : Stmt := top 12
abbrev N_is_batch : List PySem.Str := ["thing"]
theorem sc_is_batch : FnScope N_is_batch ["thing"] (defScope s_is_batch) := ⟨rfl, rfl, rfl, by decide +kernel, rfl, by decide +kernel, by decide +kernel⟩
abbrev s_is_row : Stmt := top 13
abbrev N_is_row : List PySem.Str := ["thing"]
theorem sc_is_row : FnScope N_is_row ["thing"] (defScope s_is_row) := ⟨rfl, rfl, rfl, by decide +kernel, rfl, by decide +kernel, by decide +kernel⟩
abbrev s_hop_places : Stmt := top 14
abbrev N_hop_places : List PySem.Str := ["limit", "batch", "start", "end", "found", "total", "place"]
theorem sc_hop_places : FnScope N_hop_places ["limit", "batch", "start", "end"] (defScope s_hop_places) := ⟨rfl, rfl, rfl, by decide +kernel, rfl, by decide +kernel, by decide +kernel⟩
abbrev s_cuts : Stmt := top 15
abbrev N_cuts : List PySem.Str := ["row", "batch", "items", "found", "hop", "limit", "ends", "start", "end", "place", "other"]
theorem sc_cuts : FnScope N_cuts ["row", "batch"] (defScope s_cuts) := ⟨rfl, rfl, rfl, by decide +kernel, rfl, by decide +kernel, by decide +kernel⟩
abbrev s_parts : Stmt := top 16
abbrev N_parts : List PySem.Str := ["row", "batch", "items", "places", "place", "hop", "start", "end"]
theorem sc_parts : FnScope N_parts ["row", "batch"] (defScope s_parts) := ⟨rfl, rfl, rfl, by decide +kernel, rfl, by decide +kernel, by decide +kernel⟩
abbrev s_passed : Stmt := top 17
abbrev N_passed : List PySem.Str := ["row", "stream", "batch", "part"]
theorem sc_passed : FnScope N_passed ["row", "stream"] (defScope s_passed) := ⟨rfl, rfl, rfl, by decide +kernel, rfl, by decide +kernel, by decide +kernel⟩
abbrev s_records : Stmt := top 18
abbrev N_records : List PySem.Str := ["row", "found", "limit"]
theorem sc_records : FnScope N_records ["row"] (defScope s_records) := ⟨rfl, rfl, rfl, by decide +kernel, rfl, by decide +kernel, by decide +kernel⟩
abbrev s_keeps : Stmt := top 21
abbrev N_keeps : List PySem.Str := ["least", "batch", "item"]
theorem sc_keeps : FnScope N_keeps ["least", "batch"] (defScope s_keeps) := ⟨rfl, rfl, rfl, by decide +kernel, rfl, by decide +kernel, by decide +kernel⟩
abbrev s_is_lone : Stmt := top 22
abbrev N_is_lone : List PySem.Str := ["row", "least", "limit"]
theorem sc_is_lone : FnScope N_is_lone ["row", "least"] (defScope s_is_lone) := ⟨rfl, rfl, rfl, by decide +kernel, rfl, by decide +kernel, by decide +kernel⟩
abbrev s_joined_blocks : Stmt := top 23
abbrev N_joined_blocks : List PySem.Str := ["blocks", "least", "found", "low", "high"]
theorem sc_joined_blocks : FnScope N_joined_blocks ["blocks", "least"] (defScope s_joined_blocks) := ⟨rfl, rfl, rfl, by decide +kernel, rfl, by decide +kernel, by decide +kernel⟩
abbrev s_filling : Stmt := top 24
abbrev N_filling : List PySem.Str := ["row", "least", "limit"]
theorem sc_filling : FnScope N_filling ["row", "least"] (defScope s_filling) := ⟨rfl, rfl, rfl, by decide +kernel, rfl, by decide +kernel, by decide +kernel⟩
abbrev s_is_block : Stmt := top 25
abbrev N_is_block : List PySem.Str := ["thing", "number"]
theorem sc_is_block : FnScope N_is_block ["thing"] (defScope s_is_block) := ⟨rfl, rfl, rfl, by decide +kernel, rfl, by decide +kernel, by decide +kernel⟩
abbrev s_is_filling : Stmt := top 26
abbrev N_is_filling : List PySem.Str := ["least", "thing", "block", "one", "other"]
theorem sc_is_filling : FnScope N_is_filling ["least", "thing"] (defScope s_is_filling) := ⟨rfl, rfl, rfl, by decide +kernel, rfl, by decide +kernel, by decide +kernel⟩
abbrev s_alike : Stmt := top 27
abbrev N_alike : List PySem.Str := ["row", "other", "least"]
theorem sc_alike : FnScope N_alike ["row", "other", "least"] (defScope s_alike) := ⟨rfl, rfl, rfl, by decide +kernel, rfl, by decide +kernel, by decide +kernel⟩
abbrev s_blocks_of : Stmt := top 28
abbrev N_blocks_of : List PySem.Str := ["blocks"]
theorem sc_blocks_of : FnScope N_blocks_of ["blocks"] (defScope s_blocks_of) := ⟨rfl, rfl, rfl, by decide +kernel, rfl, by decide +kernel, by decide +kernel⟩
abbrev s_holds : Stmt := top 29
abbrev N_holds : List PySem.Str := ["blocks", "number", "low", "high"]
theorem sc_holds : FnScope N_holds ["blocks", "number"] (defScope s_holds) := ⟨rfl, rfl, rfl, by decide +kernel, rfl, by decide +kernel, by decide +kernel⟩
abbrev s_next_above : Stmt := top 30
abbrev N_next_above : List PySem.Str := ["blocks", "number", "found", "low", "high"]
theorem sc_next_above : FnScope N_next_above ["blocks", "number"] (defScope s_next_above) := ⟨rfl, rfl, rfl, by decide +kernel, rfl, by decide +kernel, by decide +kernel⟩
abbrev s_greatest_apart : Stmt := top 31
abbrev N_greatest_apart : List PySem.Str := ["mine", "its", "one", "other", "low", "high", "bottom", "top"]
theorem sc_greatest_apart : FnScope N_greatest_apart ["mine", "its"] (defScope s_greatest_apart) := ⟨rfl, rfl, rfl, by decide +kernel, rfl, by decide +kernel, by decide +kernel⟩
abbrev s_parting : Stmt := top 32
abbrev N_parting : List PySem.Str := ["row", "other", "least", "mine", "its", "number", "above", "total"]
theorem sc_parting : FnScope N_parting ["row", "other", "least"] (defScope s_parting) := ⟨rfl, rfl, rfl, by decide +kernel, rfl, by decide +kernel, by decide +kernel⟩
abbrev s_is_parting : Stmt := top 33
abbrev N_is_parting : List PySem.Str := ["row", "other", "least", "thing"]
theorem sc_is_parting : FnScope N_is_parting ["row", "other", "least", "thing"] (defScope s_is_parting) := ⟨rfl, rfl, rfl, by decide +kernel, rfl, by decide +kernel, by decide +kernel⟩
abbrev s_number_in : Stmt := top 41
abbrev N_number_in : List PySem.Str := ["word", "least", "sign"]
theorem sc_number_in : FnScope N_number_in ["word", "least"] (defScope s_number_in) := ⟨rfl, rfl, rfl, by decide +kernel, rfl, by decide +kernel, by decide +kernel⟩
abbrev s_numbers_in : Stmt := top 42
abbrev N_numbers_in : List PySem.Str := ["string", "least", "found", "word"]
theorem sc_numbers_in : FnScope N_numbers_in ["string", "least"] (defScope s_numbers_in) := ⟨rfl, rfl, rfl, by decide +kernel, rfl, by decide +kernel, by decide +kernel⟩
abbrev s_numbers_text : Stmt := top 43
abbrev N_numbers_text : List PySem.Str := ["numbers", "number"]
theorem sc_numbers_text : FnScope N_numbers_text ["numbers"] (defScope s_numbers_text) := ⟨rfl, rfl, rfl, by decide +kernel, rfl, by decide +kernel, by decide +kernel⟩
abbrev s_row_text : Stmt := top 44
abbrev N_row_text : List PySem.Str := ["row"]
theorem sc_row_text : FnScope N_row_text ["row"] (defScope s_row_text) := ⟨rfl, rfl, rfl, by decide +kernel, rfl, by decide +kernel, by decide +kernel⟩
abbrev s_row_in : Stmt := top 45
abbrev N_row_in : List PySem.Str := ["string"]
theorem sc_row_in : FnScope N_row_in ["string"] (defScope s_row_in) := ⟨rfl, rfl, rfl, by decide +kernel, rfl, by decide +kernel, by decide +kernel⟩
abbrev s_batch_text : Stmt := top 46
abbrev N_batch_text : List PySem.Str := ["batch"]
theorem sc_batch_text : FnScope N_batch_text ["batch"] (defScope s_batch_text) := ⟨rfl, rfl, rfl, by decide +kernel, rfl, by decide +kernel, by decide +kernel⟩
abbrev s_batch_in : Stmt := top 47
abbrev N_batch_in : List PySem.Str := ["string"]
theorem sc_batch_in : FnScope N_batch_in ["string"] (defScope s_batch_in) := ⟨rfl, rfl, rfl, by decide +kernel, rfl, by decide +kernel, by decide +kernel⟩
abbrev s_block_text : Stmt := top 48
abbrev N_block_text : List PySem.Str := ["block", "low", "high"]
theorem sc_block_text : FnScope N_block_text ["block"] (defScope s_block_text) := ⟨rfl, rfl, rfl, by decide +kernel, rfl, by decide +kernel, by decide +kernel⟩
abbrev s_block_in : Stmt := top 49
abbrev N_block_in : List PySem.Str := ["word", "ends"]
theorem sc_block_in : FnScope N_block_in ["word"] (defScope s_block_in) := ⟨rfl, rfl, rfl, by decide +kernel, rfl, by decide +kernel, by decide +kernel⟩
abbrev s_filling_text : Stmt := top 50
abbrev N_filling_text : List PySem.Str := ["filling", "block"]
theorem sc_filling_text : FnScope N_filling_text ["filling"] (defScope s_filling_text) := ⟨rfl, rfl, rfl, by decide +kernel, rfl, by decide +kernel, by decide +kernel⟩
abbrev s_filling_in : Stmt := top 51
abbrev N_filling_in : List PySem.Str := ["least", "string", "found", "word"]
theorem sc_filling_in : FnScope N_filling_in ["least", "string"] (defScope s_filling_in) := ⟨rfl, rfl, rfl, by decide +kernel, rfl, by decide +kernel, by decide +kernel⟩
abbrev s_offers_text : Stmt := top 52
abbrev N_offers_text : List PySem.Str := ["offers", "limit", "price"]
theorem sc_offers_text : FnScope N_offers_text ["offers"] (defScope s_offers_text) := ⟨rfl, rfl, rfl, by decide +kernel, rfl, by decide +kernel, by decide +kernel⟩
abbrev s_offer_in : Stmt := top 53
abbrev N_offer_in : List PySem.Str := ["word", "ends", "found"]
theorem sc_offer_in : FnScope N_offer_in ["word"] (defScope s_offer_in) := ⟨rfl, rfl, rfl, by decide +kernel, rfl, by decide +kernel, by decide +kernel⟩
abbrev s_offers_in : Stmt := top 54
abbrev N_offers_in : List PySem.Str := ["string", "found", "word", "limit", "price"]
theorem sc_offers_in : FnScope N_offers_in ["string"] (defScope s_offers_in) := ⟨rfl, rfl, rfl, by decide +kernel, rfl, by decide +kernel, by decide +kernel⟩
abbrev s_stream_text : Stmt := top 55
abbrev N_stream_text : List PySem.Str := ["stream", "batch"]
theorem sc_stream_text : FnScope N_stream_text ["stream"] (defScope s_stream_text) := ⟨rfl, rfl, rfl, by decide +kernel, rfl, by decide +kernel, by decide +kernel⟩
abbrev s_stream_in : Stmt := top 56
abbrev N_stream_in : List PySem.Str := ["string", "found", "number", "line", "error"]
theorem sc_stream_in : FnScope N_stream_in ["string"] (defScope s_stream_in) := ⟨rfl, rfl, rfl, by decide +kernel, rfl, by decide +kernel, by decide +kernel⟩
abbrev s_few_limits : Stmt := top 58
abbrev N_few_limits : List PySem.Str := ["low", "high", "least", "found"]
theorem sc_few_limits : FnScope N_few_limits ["low", "high", "least"] (defScope s_few_limits) := ⟨rfl, rfl, rfl, by decide +kernel, rfl, by decide +kernel, by decide +kernel⟩
abbrev s_fewest : Stmt := top 59
abbrev N_fewest : List PySem.Str := ["row", "least", "blocks", "found", "low", "high"]
theorem sc_fewest : FnScope N_fewest ["row", "least"] (defScope s_fewest) := ⟨rfl, rfl, rfl, by decide +kernel, rfl, by decide +kernel, by decide +kernel⟩
abbrev s_pair_totals : Stmt := top 62
abbrev N_pair_totals : List PySem.Str := ["top", "least"]
theorem sc_pair_totals : FnScope N_pair_totals ["top", "least"] (defScope s_pair_totals) := ⟨rfl, rfl, rfl, by decide +kernel, rfl, by decide +kernel, by decide +kernel⟩
abbrev s_window_starts : Stmt := top 63
abbrev N_window_starts : List PySem.Str := ["top", "least"]
theorem sc_window_starts : FnScope N_window_starts ["top", "least"] (defScope s_window_starts) := ⟨rfl, rfl, rfl, by decide +kernel, rfl, by decide +kernel, by decide +kernel⟩
abbrev s_tests_for : Stmt := top 64
abbrev N_tests_for : List PySem.Str := ["top", "least", "pairs", "total", "start"]
theorem sc_tests_for : FnScope N_tests_for ["top", "least"] (defScope s_tests_for) := ⟨rfl, rfl, rfl, by decide +kernel, rfl, by decide +kernel, by decide +kernel⟩
abbrev s_answers_of : Stmt := top 65
abbrev N_answers_of : List PySem.Str := ["row", "tests", "batch"]
theorem sc_answers_of : FnScope N_answers_of ["row", "tests"] (defScope s_answers_of) := ⟨rfl, rfl, rfl, by decide +kernel, rfl, by decide +kernel, by decide +kernel⟩
abbrev s_row_of : Stmt := top 66
abbrev N_row_of : List PySem.Str := ["numbers"]
theorem sc_row_of : FnScope N_row_of ["numbers"] (defScope s_row_of) := ⟨rfl, rfl, rfl, by decide +kernel, rfl, by decide +kernel, by decide +kernel⟩
abbrev s_lowest_from : Stmt := top 67
abbrev N_lowest_from : List PySem.Str := ["top", "least", "answers", "totals", "single", "longer", "total", "told", "start"]
theorem sc_lowest_from : FnScope N_lowest_from ["top", "least", "answers"] (defScope s_lowest_from) := ⟨rfl, rfl, rfl, by decide +kernel, rfl, by decide +kernel, by decide +kernel⟩
abbrev s_numbers_from : Stmt := top 68
abbrev N_numbers_from : List PySem.Str := ["lowest", "top", "least", "answers", "found", "run", "first", "start", "told"]
theorem sc_numbers_from : FnScope N_numbers_from ["lowest", "top", "least", "answers"] (defScope s_numbers_from) := ⟨rfl, rfl, rfl, by decide +kernel, rfl, by decide +kernel, by decide +kernel⟩
abbrev s_filling_from : Stmt := top 69
abbrev N_filling_from : List PySem.Str := ["top", "least", "answers", "tests", "row", "lowest", "many"]
theorem sc_filling_from : FnScope N_filling_from ["top", "least", "answers"] (defScope s_filling_from) := ⟨rfl, rfl, rfl, by decide +kernel, rfl, by decide +kernel, by decide +kernel⟩
abbrev s_is_offer : Stmt := top 71
abbrev N_is_offer : List PySem.Str := ["thing"]
theorem sc_is_offer : FnScope N_is_offer ["thing"] (defScope s_is_offer) := ⟨rfl, rfl, rfl, by decide +kernel, rfl, by decide +kernel, by decide +kernel⟩
abbrev s_is_offers : Stmt := top 72
abbrev N_is_offers : List PySem.Str := ["thing", "offer", "limit", "price"]
theorem sc_is_offers : FnScope N_is_offers ["thing"] (defScope s_is_offers) := ⟨rfl, rfl, rfl, by decide +kernel, rfl, by decide +kernel, by decide +kernel⟩
abbrev s_ways_up : Stmt := top 73
abbrev N_ways_up : List PySem.Str := ["block", "least", "offers", "low", "high", "found", "limit", "price", "near", "paid", "other"]
theorem sc_ways_up : FnScope N_ways_up ["block", "least", "offers"] (defScope s_ways_up) := ⟨rfl, rfl, rfl, by decide +kernel, rfl, by decide +kernel, by decide +kernel⟩
abbrev s_cheapest : Stmt := top 74
abbrev N_cheapest : List PySem.Str := ["row", "least", "offers", "told", "blocks", "small", "total", "bought", "block", "ways", "price", "limits", "limit"]
theorem sc_cheapest : FnScope N_cheapest ["row", "least", "offers"] (defScope s_cheapest) := ⟨rfl, rfl, rfl, by decide +kernel, rfl, by decide +kernel, by decide +kernel⟩
abbrev s__law_box : Stmt := top 76
abbrev N__law_box : List PySem.Str := ["_law_script", "_law_k", "_law_cell"]
theorem sc__law_box : FnScope N__law_box ["_law_script", "_law_k"] (defScope s__law_box) := ⟨rfl, rfl, rfl, by decide +kernel, rfl, by decide +kernel, by decide +kernel⟩
abbrev s__law_take : Stmt := top 77
abbrev N__law_take : List PySem.Str := ["_law_box_here", "_law_below", "_law_drawn", "_law_once", "_law_far", "_law_twice"]
theorem sc__law_take : FnScope N__law_take ["_law_box_here", "_law_below"] (defScope s__law_take) := ⟨rfl, rfl, rfl, by decide +kernel, rfl, by decide +kernel, by decide +kernel⟩
abbrev s__law_cells : Stmt := top 78
abbrev N__law_cells : List PySem.Str := ["_law_script", "_law_most_so", "_law_cells_here", "_law_k", "_law_cell", "_law_at_so"]
theorem sc__law_cells : FnScope N__law_cells ["_law_script", "_law_most_so"] (defScope s__law_cells) := ⟨rfl, rfl, rfl, by decide +kernel, rfl, by decide +kernel, by decide +kernel⟩
abbrev s__law_of : Stmt := top 79
abbrev N__law_of : List PySem.Str := ["_law_box_here", "_law_some"]
theorem sc__law_of : FnScope N__law_of ["_law_box_here", "_law_some"] (defScope s__law_of) := ⟨rfl, rfl, rfl, by decide +kernel, rfl, by decide +kernel, by decide +kernel⟩
abbrev s__law_same : Stmt := top 80
abbrev N__law_same : List PySem.Str := ["_law_got", "_law_due", "_law_mine", "_law_its"]
theorem sc__law_same : FnScope N__law_same ["_law_got", "_law_due"] (defScope s__law_same) := ⟨rfl, rfl, rfl, by decide +kernel, rfl, by decide +kernel, by decide +kernel⟩
abbrev s__law_row : Stmt := top 81
abbrev N__law_row : List PySem.Str := ["_law_box_here", "_law_least_so", "_law_at_most", "_law_way_so", "_law_found", "_law_top", "_law_turn"]
theorem sc__law_row : FnScope N__law_row ["_law_box_here", "_law_least_so", "_law_at_most"] (defScope s__law_row) := ⟨rfl, rfl, rfl, by decide +kernel, rfl, by decide +kernel, by decide +kernel⟩
abbrev s__law_batch : Stmt := top 82
abbrev N__law_batch : List PySem.Str := ["_law_box_here", "_law_least_so", "_law_at_most", "_law_found", "_law_turn", "_law_more"]
theorem sc__law_batch : FnScope N__law_batch ["_law_box_here", "_law_least_so", "_law_at_most"] (defScope s__law_batch) := ⟨rfl, rfl, rfl, by decide +kernel, rfl, by decide +kernel, by decide +kernel⟩
abbrev s__law_near : Stmt := top 83
abbrev N__law_near : List PySem.Str := ["_law_box_here", "_law_row_so", "_law_least_so", "_law_way_so", "_law_k", "_law_own", "_law_off_so", "_law_rest", "_law_spot"]
theorem sc__law_near : FnScope N__law_near ["_law_box_here", "_law_row_so", "_law_least_so"] (defScope s__law_near) := ⟨rfl, rfl, rfl, by decide +kernel, rfl, by decide +kernel, by decide +kernel⟩
abbrev s__law_rows_right : Stmt := top 84
abbrev N__law_rows_right : List PySem.Str := ["_law_row_so", "_law_least_so", "_law_again", "_law_own", "_law_read_so", "_law_few_so"]
theorem sc__law_rows_right : FnScope N__law_rows_right ["_law_row_so", "_law_least_so"] (defScope s__law_rows_right) := ⟨rfl, rfl, rfl, by decide +kernel, rfl, by decide +kernel, by decide +kernel⟩
abbrev s__law_streams_right : Stmt := top 85
abbrev N__law_streams_right : List PySem.Str := ["_law_box_here", "_law_row_so", "_law_least_so", "_law_stream_so", "_law_there", "_law_lines_so", "_law_own", "_law_turn", "_law_bit"]
theorem sc__law_streams_right : FnScope N__law_streams_right ["_law_box_here", "_law_row_so", "_law_least_so"] (defScope s__law_streams_right) := ⟨rfl, rfl, rfl, by decide +kernel, rfl, by decide +kernel, by decide +kernel⟩
abbrev s__law_offers_right : Stmt := top 86
abbrev N__law_offers_right : List PySem.Str := ["_law_box_here", "_law_row_so", "_law_least_so", "_law_some", "_law_own", "_law_offers_so", "_law_again", "_law_told_so", "_law_caught", "error", "_law_price_so", "_law_other_so", "_law_prices", "_law_limit"]
theorem sc__law_offers_right : FnScope N__law_offers_right ["_law_box_here", "_law_row_so", "_law_least_so"] (defScope s__law_offers_right) := ⟨rfl, rfl, rfl, by decide +kernel, rfl, by decide +kernel, by decide +kernel⟩
abbrev s__law_answers_right : Stmt := top 87
abbrev N__law_answers_right : List PySem.Str := ["_law_box_here", "_law_least_so", "_law_top", "_law_row_so", "_law_own", "_law_turn"]
theorem sc__law_answers_right : FnScope N__law_answers_right ["_law_box_here"] (defScope s__law_answers_right) := ⟨rfl, rfl, rfl, by decide +kernel, rfl, by decide +kernel, by decide +kernel⟩
abbrev s__law_parting_right : Stmt := top 88
abbrev N__law_parting_right : List PySem.Str := ["_law_box_here", "_law_row_so", "_law_least_so", "_law_other_so", "_law_own", "_law_again"]
theorem sc__law_parting_right : FnScope N__law_parting_right ["_law_box_here", "_law_row_so", "_law_least_so"] (defScope s__law_parting_right) := ⟨rfl, rfl, rfl, by decide +kernel, rfl, by decide +kernel, by decide +kernel⟩
abbrev s__law_by_hand_right : Stmt := top 89
abbrev N__law_by_hand_right : List PySem.Str := ["_law_row_so", "_law_offers_so", "_law_price_so", "_law_other_so", "_law_there"]
theorem sc__law_by_hand_right : FnScope N__law_by_hand_right [] (defScope s__law_by_hand_right) := ⟨rfl, rfl, rfl, by decide +kernel, rfl, by decide +kernel, by decide +kernel⟩
abbrev s__law_right : Stmt := top 90
abbrev N__law_right : List PySem.Str := ["_law_box_here", "_law_least_so", "_law_row_so"]
theorem sc__law_right : FnScope N__law_right ["_law_box_here"] (defScope s__law_right) := ⟨rfl, rfl, rfl, by decide +kernel, rfl, by decide +kernel, by decide +kernel⟩
abbrev s_law : Stmt := top 91
abbrev N_law : List PySem.Str := ["_law_script", "_law_cells_here", "_law_k", "_law_box_here", "_law_turn"]
theorem sc_law : FnScope N_law ["_law_script"] (defScope s_law) := ⟨rfl, rfl, rfl, by decide +kernel, rfl, by decide +kernel, by decide +kernel⟩
end CW
end P0x
section R1x
set_option Elab.async false
set_option linter.all false
set_option maxRecDepth 100000
/-! min of what is compared by its content. -/
namespace CW
open PySem PySem.Spec PyProof.Rows L2 StX RZ
/-- the compared objects stand as they stood -/
def Hold (bs : List Addr) (h0 h : Heap) : Prop := ∀ c ∈ bs, ∀ ob, h0.get? c = some ob → h.get? c = some ob
theorem Hold.to {bs : List Addr} {h0 h h' : Heap} (j : Hold bs h0 h) (k : ∀ c ∈ bs, ∀ ob, h.get? c = some ob → h'.get? c = some ob) : Hold bs h0 h' := fun c hc ob e => k c hc ob (j c hc ob e)
def CmpHold (prog : Program) (w : World) (A : Around) (bs : List Addr) (h0 : Heap) (P : Nat → Value → Prop) (bt : Nat → Nat → Bool) : Prop :=
  ∀ i j vi vj (s : Shared) (Q : Value → Shared → Prop) (E : Value → Shared → Prop), Hold bs h0 s.heap → P i vi → P j vj → Q (.bool (bt i j)) s → wpAny (model prog w) A (richCompare .Lt vi vj) Q E s
section
variable {prog : Program} {w : World} {A : Around} {R : Result → Shared → Prop} {I : Addr} {fp wr bs : List Addr} {n : Nat} {P : Nat → Value → Prop} {St : Nat → Heap → Prop} {h0 : Heap}
theorem min_go_hold (Wa : Walks prog w A.in1 I fp wr n P St) (bt : Nat → Nat → Bool) (cmp : CmpHold prog w A.in1 bs h0 P bt) (S : Addr) (nS : S ∉ fp) (bS : S ∉ bs) (bw : ∀ c ∈ bs, c ∉ wr) :
    ∀ (k j : Nat) (st : Shared) (best : Value) (cc : Nat), n - (j + 1) = k → j + 1 ≤ n → Hold bs h0 st.heap → St (j + 1) st.heap → P (argBest bt j) best →
    st.heap.get? S = some { cls := .type "list", dict := none, data := .seq #[best, best] cc, slots := #[] } →
    (∀ v h' tk, P (argBest bt (n - 1)) v → (∀ b o, b ∉ wr → b ≠ S → st.heap.get? b = some o → h'.get? b = some o) → R (.ok (.ret v)) { st with heap := h', toks := tk }) →
    codeAny (model prog w) A (.builtin "min.loop" ⟨[.ref I, .none, .ref S], []⟩) R st := by
  have wS : S ∉ wr := fun z => nS (Wa.sub _ z)
  have nm : (toString "min" ++ toString ".loop" : String) = "min.loop" := by decide
  intro k
  induction k with
  | zero =>
    intro j st best cc ek ej hold hst hb eS fin
    have en : j + 1 = n := by omega
    refine codeAny_builtin PySem.F.entry_min_loop ?_
    rw [Around.under_plainId PySem.F.plain_min_loop _]
    show wpAny _ A.in1 (seqItems? (.ref S) >>= _) _ _ st
    refine wpAny_bind (wpAny_seqItems eS rfl ?_)
    show wpAny _ A.in1 (tryCatch (pyNext (.ref I)) _ >>= _) _ _ st
    refine wpAny_bind (wpAny_tryCatch (Wa.done st _ _ (en ▸ hst) fun h1 tk1 kp1 => ?_))
    have eS1 := kp1 S _ wS eS
    show wpAny _ A.in1 (updateSeq S (fun _ => #[]) >>= _) _ _ _
    refine wpAny_bind ?_
    refine wpAny_updateSeq eS1 rfl (wpAny_bind (wpAny_letGo (wpAny_pure ?_)))
    exact fin best _ tk1 (by rw [← en]; exact hb) fun b o nb1 nb2 e => (Heap.get?_update_other _ _ (Ne.symm nb2)).trans (kp1 b o nb1 e)
  | succ k ih =>
    intro j st best cc ek ej hold hst hb eS fin
    have lt : j + 1 < n := by omega
    refine codeAny_builtin PySem.F.entry_min_loop ?_
    rw [Around.under_plainId PySem.F.plain_min_loop _]
    show wpAny _ A.in1 (seqItems? (.ref S) >>= _) _ _ st
    refine wpAny_bind (wpAny_seqItems eS rfl ?_)
    show wpAny _ A.in1 (tryCatch (pyNext (.ref I)) _ >>= _) _ _ st
    refine wpAny_bind (wpAny_tryCatch (Wa.item (j + 1) st _ _ lt hst fun v h1 tk1 pv st1 kp1 => ?_))
    have eS1 := kp1 S _ wS eS
    have hold1 : Hold bs h0 h1 := hold.to fun c hc ob e => kp1 c ob (bw c hc) e
    have upd1 : ∀ (f : Array Value → Array Value), True := fun _ => trivial
    show wpAny _ A.in1 (tryCatch (holding [v, v] (richCompare .Lt v best >>= _)) _ >>= _) _ _ _
    refine wpAny_bind (wpAny_tryCatch (wpAny_holding (wpAny_bind (cmp (j + 1) (argBest bt j) v best _ _ _ hold1 pv hb ?_))))
    refine wpAny_bind (wpAny_holding (wpAny_truthy_bool ?_))
    refine wpAny_bind (wpAny_letGo (wpAny_pure ?_))
    cases hbt : bt (j + 1) (argBest bt j) with
    | true =>
      simp only [if_true]
      refine wpAny_bind ?_
      refine wpAny_updateSeq eS1 rfl (wpAny_bind (wpAny_letGo ?_))
      rw [nm]
      refine wpAny_pure ⟨plainId_quiet PySem.F.plain_min_loop _, ih (j + 1) _ v _ (by omega) lt (hold1.to fun c hc ob e => ?_) (Wa.frame _ _ _ st1 fun b hbf o e => ?_) (by simp only [argBest, hbt, if_true]; exact pv) (Heap.get?_update_self _ eS1 rfl)
        fun v2 h2 tk2 p2 kp2 => ?_⟩
      · exact (Heap.get?_update_other _ _ (fun z : S = c => bS (by rw [z]; exact hc))).trans e
      · exact (Heap.get?_update_other _ _ (fun z : S = b => nS (by rw [z]; exact hbf))).trans e
      · exact fin v2 h2 tk2 p2 fun b o nb1 nb2 e => kp2 b o nb1 nb2 ((Heap.get?_update_other _ _ (Ne.symm nb2)).trans (kp1 b o nb1 e))
    | false =>
      simp only [Bool.false_eq_true, if_false]
      refine wpAny_bind (wpAny_letGo ?_)
      rw [nm]
      refine wpAny_pure ⟨plainId_quiet PySem.F.plain_min_loop _, ih (j + 1) _ best cc (by omega) lt hold1 st1 (by simp only [argBest, hbt, Bool.false_eq_true, if_false]; exact hb) eS1 fun v2 h2 tk2 p2 kp2 => ?_⟩
      exact fin v2 h2 tk2 p2 fun b o nb1 nb2 e => kp2 b o nb1 nb2 (kp1 b o nb1 e)
theorem min_first_hold (Wa : Walks prog w A.in1 I fp wr n P St) (bt : Nat → Nat → Bool) (cmp : CmpHold prog w A.in1 bs h0 P bt) (S : Addr) (nS : S ∉ fp) (bS : S ∉ bs) (bw : ∀ c ∈ bs, c ∉ wr) (pos : 0 < n) {st : Shared} {cc : Nat} (hold : Hold bs h0 st.heap) (hst : St 0 st.heap)
    (eS : st.heap.get? S = some { cls := .type "list", dict := none, data := .seq #[] cc, slots := #[] })
    (fin : ∀ v h' tk, P (argBest bt (n - 1)) v → (∀ b o, b ∉ wr → b ≠ S → st.heap.get? b = some o → h'.get? b = some o) → R (.ok (.ret v)) { st with heap := h', toks := tk }) :
    codeAny (model prog w) A (.builtin "min.loop" ⟨[.ref I, .none, .ref S], []⟩) R st := by
  have wS : S ∉ wr := fun z => nS (Wa.sub _ z)
  have nm : (toString "min" ++ toString ".loop" : String) = "min.loop" := by decide
  refine codeAny_builtin PySem.F.entry_min_loop ?_
  rw [Around.under_plainId PySem.F.plain_min_loop _]
  show wpAny _ A.in1 (seqItems? (.ref S) >>= _) _ _ st
  refine wpAny_bind (wpAny_seqItems eS rfl ?_)
  show wpAny _ A.in1 (tryCatch (pyNext (.ref I)) _ >>= _) _ _ st
  refine wpAny_bind (wpAny_tryCatch (Wa.item 0 st _ _ pos hst fun v h1 tk1 pv st1 kp1 => ?_))
  have eS1 := kp1 S _ wS eS
  have hold1 : Hold bs h0 h1 := hold.to fun c hc ob e => kp1 c ob (bw c hc) e
  show wpAny _ A.in1 (updateSeq S (fun _ => #[v, v]) >>= _) _ _ _
  refine wpAny_bind ?_
  refine wpAny_updateSeq eS1 rfl ?_
  rw [nm]
  refine wpAny_pure ⟨plainId_quiet PySem.F.plain_min_loop _, min_go_hold Wa bt cmp S nS bS bw _ 0 _ v _ rfl pos (hold1.to fun c hc ob e => ?_) (Wa.frame _ _ _ st1 fun b hbf o e => ?_) pv (Heap.get?_update_self _ eS1 rfl) fun v2 h2 tk2 p2 kp2 => ?_⟩
  · exact (Heap.get?_update_other _ _ (fun z : S = c => bS (by rw [z]; exact hc))).trans e
  · exact (Heap.get?_update_other _ _ (fun z : S = b => nS (by rw [z]; exact hbf))).trans e
  · exact fin v2 h2 tk2 p2 fun b o nb1 nb2 e => kp2 b o nb1 nb2 ((Heap.get?_update_other _ _ (Ne.symm nb2)).trans (kp1 b o nb1 e))
variable {E : Value → Shared → Prop} {s : Shared}
theorem min_hold {x : Value} {Q : Value → Shared → Prop}
    (h : wpAny (model prog w) A.in1 (pyIter x) (fun it s₂ => ∃ I fp wr n P St bt bs, it = .ref I ∧ Walks prog w A.in1 I fp wr n P St ∧ St 0 s₂.heap ∧ (∀ b ∈ fp, b < s₂.heap.objs.size) ∧ (∀ b ∈ bs, b < s₂.heap.objs.size) ∧ (∀ c ∈ bs, c ∉ wr) ∧ 0 < n ∧ CmpHold prog w A.in1 bs s₂.heap P bt ∧
      ∀ v h' tk, P (argBest bt (n - 1)) v → (∀ b o, b ∉ wr → s₂.heap.get? b = some o → h'.get? b = some o) → Q v { s₂ with heap := h', toks := tk }) E s) :
    wpAny (model prog w) A (call (.builtin "min") [x]) Q E s := by
  have nm : (toString "min" ++ toString ".loop" : String) = "min.loop" := by decide
  refine call_function_tree PySem.F.kind_min PySem.F.plain_min PySem.F.entry_min (PySem.F.args_min1 _) ?_
  show wpAny _ A.in1 (Builtin.Builtins.bindParams "min" ["key", "default"] 0 ⟨[], []⟩ >>= _) _ _ s
  refine wpAny_bind (wpAny_of_eq (show Builtin.Builtins.bindParams "min" ["key", "default"] 0 ⟨[], []⟩ = pure [none, none] from rfl) ?_)
  refine wpAny_bind (wpAny_pure ?_)
  refine wpAny_bind (wpAny_mono h (fun it s₂ h₂ => ?_) fun _ _ e => e)
  obtain ⟨I, fp, wr, n, P, St, bt, bs, rfl, Wa, hst, hfp, hbs, bw, pos, cmp, q⟩ := h₂
  refine wpAny_bind (wpAny_newObj_type ?_)
  have nS : s₂.heap.objs.size ∉ fp := fun z => Nat.lt_irrefl _ (hfp _ z)
  have bS : s₂.heap.objs.size ∉ bs := fun z => Nat.lt_irrefl _ (hbs _ z)
  rw [nm]
  refine wpAny_pure ⟨plainId_quiet PySem.F.plain_min_loop _, min_first_hold Wa bt cmp s₂.heap.objs.size nS bS bw pos (fun c hc ob e => Heap.get?_push_of_some _ e) (Wa.frame _ _ _ hst fun b _ o e => Heap.get?_push_of_some _ e) (Heap.get?_push_size _ rfl) fun v h1 tk1 pv kp => ?_⟩
  exact q v h1 tk1 pv fun b o nb e => kp b o nb (Nat.ne_of_lt (Heap.lt_size e)) (Heap.get?_push_of_some _ e)
end
/-- the first least by a lexical order -/
theorem argBest_lex (f : Nat → Int × Int) : ∀ k, argBest (fun i j => CK.pairLt (f i) (f j)) k ≤ k ∧ ∀ j, j ≤ k → CK.pairLt (f j) (f (argBest (fun i j => CK.pairLt (f i) (f j)) k)) = false
  | 0 => ⟨Nat.le_refl _, fun j hj => by
    have e : j = 0 := by omega
    subst e
    exact CK.pairLt_irrefl _⟩
  | k + 1 => by
    obtain ⟨h1, h2⟩ := argBest_lex f k
    simp only [argBest]
    by_cases c : CK.pairLt (f (k + 1)) (f (argBest (fun i j => CK.pairLt (f i) (f j)) k)) = true
    · rw [if_pos c]
      refine ⟨Nat.le_refl _, fun j hj => ?_⟩
      by_cases e : j = k + 1
      · subst e; exact CK.pairLt_irrefl _
      · have h3 := h2 j (by omega)
        generalize f (argBest (fun i j => CK.pairLt (f i) (f j)) k) = m at c h3 ⊢
        simp [CK.pairLt] at c h3 ⊢
        omega
    · rw [if_neg c]
      refine ⟨by omega, fun j hj => ?_⟩
      by_cases e : j = k + 1
      · subst e; simpa using c
      · exact h2 j (by omega)
end CW
end R1x
section R2x
set_option Elab.async false
set_option linter.all false
set_option maxRecDepth 100000
/-! min(..) of a tuple of ints, of a list of pairs. -/
namespace CW
open PySem PySem.Spec PyProof.Rows L2 StX RZ Ob MeetsSeq SeqAt
section
variable {A : Around} {s : Shared}
/-- a tuple of an int, or that of one int -/
inductive Sec (h : Heap) : Value → Int → Prop
  | int (b : Int) (t : Tok) : Sec h (.int b t) b
  | tup {u : Addr} (b : Int) (t : Tok) : h.IsTuple u #[.int b t] → Sec h (.ref u) b
def SecK (k : Bool) (v : Value) : Prop := if k then (∃ u, v = .ref u) else ∃ b t, v = .int b t
theorem sec_eq {k : Bool} {x y : Value} {a b : Int} (hx : Sec s.heap x a) (hy : Sec s.heap y b) (kx : SecK k x) (ky : SecK k y) (hu : A.units + 4 < cLine) : EqAt A s x y (a == b) := by
  cases hx with
  | int _ t =>
    cases hy with
    | int _ u => exact EqAt.int_int a t b u
    | tup _ _ _ => cases k <;> simp [SecK] at kx ky
  | @tup u1 _ t h1 =>
    cases hy with
    | int _ u => cases k <;> simp [SecK] at kx ky
    | @tup u2 _ t2 h2 =>
      by_cases e : u1 = u2
      · subst e
        have h3 : a = b := by
          obtain ⟨o, ho, _, n, hd⟩ := h1
          obtain ⟨o', ho', _, n', hd'⟩ := h2
          rw [ho] at ho'
          cases ho'
          rw [hd] at hd'
          injection hd' with q _
          injection q with q
          simp at q
          exact q.1
        subst h3
        have : (a == a) = true := by simp
        rw [this]
        exact EqAt.same _
      · have q := RcAt.tuples (A := A) (e := fun _ => a == b) h1 h2 (by omega) (fun j j1 j2 => by
          have e0 : j = 0 := by simp at j1; omega
          subst e0
          exact EqAt.int_int a t b t2)
        have e2 : ((List.range (min (#[Value.int a t] : Array Value).size (#[Value.int b t2] : Array Value).size)).all (fun _ => a == b) && (#[Value.int a t] : Array Value).size == (#[Value.int b t2] : Array Value).size) = (a == b) := by
          simp [List.range_succ]
        rw [e2] at q
        exact EqAt.of_refs e q
theorem sec_lt {k : Bool} {x y : Value} {a b : Int} (hx : Sec s.heap x a) (hy : Sec s.heap y b) (kx : SecK k x) (ky : SecK k y) (hu : A.units + 4 < cLine) : RcOp .Lt A s x y (decide (a < b)) := by
  cases hx with
  | int _ t =>
    cases hy with
    | int _ u => exact RcOp.lt_int a b t u
    | tup _ _ _ => cases k <;> simp [SecK] at kx ky
  | @tup u1 _ t h1 =>
    cases hy with
    | int _ u => cases k <;> simp [SecK] at kx ky
    | @tup u2 _ t2 h2 =>
      have q := RcOp.tuples_lt (A := A) (e := fun _ => a == b) (r := fun _ => decide (a < b)) h1 h2 (by omega) (fun j j1 j2 => by
          have e0 : j = 0 := by simp at j1; omega
          subst e0
          exact EqAt.int_int a t b t2) (fun j j1 j2 _ => by
          have e0 : j = 0 := by simp at j1; omega
          subst e0
          exact RcOp.lt_int a b t t2)
      have e2 : lexAt (fun _ => a == b) (fun _ => decide (a < b)) (decide ((#[Value.int a t] : Array Value).size < (#[Value.int b t2] : Array Value).size)) 0 (min (#[Value.int a t] : Array Value).size (#[Value.int b t2] : Array Value).size) = decide (a < b) := by
        show lexAt _ _ _ 0 1 = _
        rw [lexAt_succ]
        by_cases e : a = b
        · subst e
          simp [lexAt_zero]
        · have e' : (a == b) = false := by simpa using e
          simp [e']
      rw [e2] at q
      exact q
/-- a pair, compared -/
theorem pair_lt {k : Bool} {l m : Addr} {a b : Int} {t t' : Tok} {x y : Value} {c d : Int} (hl : s.heap.IsTuple l #[.int a t, x]) (hm : s.heap.IsTuple m #[.int b t', y]) (hx : Sec s.heap x c) (hy : Sec s.heap y d) (kx : SecK k x) (ky : SecK k y) (hu : A.units + 8 < cLine) :
    RcOp .Lt A s (.ref l) (.ref m) (CK.pairLt (a, c) (b, d)) := by
  have hi : A.in1.units + 4 < cLine := by show A.units + 1 + 4 < cLine; omega
  have q := RcOp.tuples_lt (A := A) (e := fun j => if j = 0 then a == b else c == d) (r := fun j => if j = 0 then decide (a < b) else decide (c < d)) hl hm (by omega) (fun j j1 j2 => by
      have : j = 0 ∨ j = 1 := by simp at j1; omega
      rcases this with e | e
      · subst e; exact EqAt.int_int a t b t'
      · subst e; exact sec_eq hx hy kx ky hi) (fun j j1 j2 _ => by
      have : j = 0 ∨ j = 1 := by simp at j1; omega
      rcases this with e | e
      · subst e; exact RcOp.lt_int a b t t'
      · subst e; exact sec_lt hx hy kx ky hi)
  have e2 : lexAt (fun j => if j = 0 then a == b else c == d) (fun j => if j = 0 then decide (a < b) else decide (c < d)) (decide ((#[Value.int a t, x] : Array Value).size < (#[Value.int b t', y] : Array Value).size)) 0 (min (#[Value.int a t, x] : Array Value).size (#[Value.int b t', y] : Array Value).size) = CK.pairLt (a, c) (b, d) := by
    show lexAt _ _ _ 0 2 = _
    rw [lexAt_succ, lexAt_succ, lexAt_zero]
    unfold CK.pairLt
    by_cases e : a = b
    · subst e
      by_cases e2 : c = d
      · subst e2; simp
      · have e' : (c == d) = false := by simpa using e2
        simp [e']
    · have e' : (a == b) = false := by simpa using e
      simp [e', e]
  rw [e2] at q
  exact q
end
section
variable {X : Cx} {K : PySem.W.Frag}
theorem in1_units (A : Around) : A.in1.units = A.units + 1 := rfl
/-- an int, or the tuple of one: as a value without the heap -/
def SecV (K : PySem.W.Frag) (H : Hp) (k : Bool) (x : V) (i : Int) : Prop := if k then (∃ u, x = .ref u ∧ SqT K H u [.int i]) else x = .int i
def rMinX (K : PySem.W.Frag) : List V → Hp → VK → Prop := fun vs H Q => (∃ (a : Addr) (xs : List V) (k : Bool) (f : Nat → Int × Int), vs = [V.ref a] ∧ SqL K H a xs ∧ 0 < xs.length ∧
    (∀ i x, xs[i]? = some x → ∃ t y, x = .ref t ∧ SqT K H t [.int (f i).1, y] ∧ SecV K H k y (f i).2) ∧
    ∀ i x, xs[i]? = some x → (∀ j, j < xs.length → CK.pairLt (f j) (f i) = false) → Q x H) ∨
  ∃ (a : Addr) (ns : List Int), vs = [V.ref a] ∧ SqT K H a (ns.map V.int) ∧ 0 < ns.length ∧ ∀ m, m ∈ ns → (∀ y ∈ ns, m ≤ y) → Q (.int m) H
theorem sec_of {pins : List (Addr × Obj)} {s : Shared} {σ : L2.St} {H : Hp} {k : Bool} {x : V} {v : Value} {i : Int} (I : Inv X pins σ H s) (h : SecV X.K H k x i) (r : RelV x v) : Sec s.heap v i ∧ SecK k v := by
  cases k with
  | false =>
    have e : x = .int i := h
    subst e
    obtain ⟨t, rfl⟩ := r
    exact ⟨.int i t, i, t, rfl⟩
  | true =>
    obtain ⟨u, rfl, hq⟩ := h
    obtain rfl : v = Value.ref u := r
    obtain ⟨its, rv, p, _⟩ := I.tuple hq
    cases rv with
    | cons r1 rr =>
      cases rr
      obtain ⟨t, rfl⟩ := r1
      exact ⟨.tup i t p, u, rfl⟩
theorem cr_minK (hK : X.K = K) (hc : X.calm = true) (hu : X.A.units + 64 < cLine) : CallR X (.builtin "min") (rMinX K) := by
  subst hK
  intro pins s σ H vs us Q I r h
  rcases h with ⟨a, xs, k, f, rfl, hs, hne, hx, q⟩ | ⟨a, ns, rfl, hs, hne, q⟩
  · obtain ⟨its, rv, hl, _⟩ := I.list hs
    rw [Vals.ref1 r]
    have hll := rv.length
    have hit : ∀ i v, its[i]? = some v → ∃ t tk y, v = .ref t ∧ s.heap.IsTuple t #[.int (f i).1 tk, y] ∧ Sec s.heap y (f i).2 ∧ SecK k y := fun i v e => by
      have hi := (List.getElem?_eq_some_iff.mp e).1
      obtain ⟨u, e1, rx⟩ := rv.get (List.getElem?_eq_getElem (l := xs) (i := i) (by omega))
      rw [e] at e1
      cases e1
      obtain ⟨t, y, ex, ht, hy⟩ := hx i _ (List.getElem?_eq_getElem (l := xs) (i := i) (by omega))
      rw [ex] at rx
      obtain rfl : v = Value.ref t := rx
      obtain ⟨ys, rv2, p2, _⟩ := I.tuple ht
      cases rv2 with
      | cons r1 rr =>
        cases rr with
        | cons r2 rr =>
          cases rr
          obtain ⟨tk, rfl⟩ := r1
          obtain ⟨h1, h2⟩ := sec_of I hy r2
          exact ⟨t, tk, _, rfl, p2, h1, h2⟩
    refine min_hold (wpAny_pyIter_list hl.isList ?_)
    have hlt : a < s.heap.objs.size := hl.lt
    refine ⟨_, _, _, _, _, _, fun i j => CK.pairLt (f i) (f j), List.range s.heap.objs.size, rfl, Walks.list (A := X.A.in1) (I.ok.hd hc) s.heap.objs.size a (Nat.ne_of_lt hlt) its.toArray,
      ⟨⟨_, Heap.get?_push_size _ rfl, rfl, rfl⟩, (let ⟨o, ho, r⟩ := hl.isList; ⟨o, Heap.get?_push_of_some _ ho, r⟩)⟩, fun b hb => ?_, fun b hb => ?_, fun c hc => ?_, ?_, ?_, fun v h' tk hP hk => ?_⟩
    · show b < (s.heap.push _).objs.size
      rw [Heap.size_push]
      rcases List.mem_cons.mp hb with e | hb
      · rw [e]; exact Nat.lt_succ_self _
      · rw [List.mem_singleton.mp hb]; exact Nat.lt_succ_of_lt hlt
    · show b < (s.heap.push _).objs.size
      rw [Heap.size_push]
      exact Nat.lt_succ_of_lt (List.mem_range.mp hb)
    · intro z
      rw [List.mem_singleton.mp z] at hc
      exact Nat.lt_irrefl _ (List.mem_range.mp hc)
    · show 0 < its.toArray.size
      simp; omega
    · intro i j vi vj s1 Q1 E1 hold h1 h2 hq
      have h1' : its[i]? = some vi := by simpa using h1
      have h2' : its[j]? = some vj := by simpa using h2
      obtain ⟨t1, k1, y1, e1, p1, c1, d1⟩ := hit i vi h1'
      obtain ⟨t2, k2, y2, e2, p2, c2, d2⟩ := hit j vj h2'
      have keep : ∀ c ob, s.heap.get? c = some ob → s1.heap.get? c = some ob := fun c ob e => hold c (List.mem_range.mpr (Heap.lt_size e)) ob (Heap.get?_push_of_some _ e)
      have kt : ∀ {t : Addr} {items : Array Value}, s.heap.IsTuple t items → s1.heap.IsTuple t items := fun ⟨ob, ho, r⟩ => ⟨ob, keep _ _ ho, r⟩
      have ks : ∀ {y : Value} {i : Int}, Sec s.heap y i → Sec s1.heap y i := fun h => by
        cases h with
        | int _ t => exact .int _ t
        | tup _ t h => exact .tup _ t (kt h)
      rw [e1, e2]
      exact pair_lt (kt p1) (kt p2) (ks c1) (ks c2) d1 d2 (by rw [in1_units]; omega) X.prog X.w E1 Q1 hq
    · have hP' : its[argBest (fun i j => CK.pairLt (f i) (f j)) (its.toArray.size - 1)]? = some v := by simpa using hP
      obtain ⟨b1, b2⟩ := argBest_lex f (its.toArray.size - 1)
      generalize argBest (fun i j => CK.pairLt (f i) (f j)) (its.toArray.size - 1) = m at hP' b1 b2
      have hm : m < its.length := (List.getElem?_eq_some_iff.mp hP').1
      obtain ⟨u, e1, rx⟩ := rv.get (List.getElem?_eq_getElem (l := xs) (i := m) (by omega))
      rw [hP'] at e1
      cases e1
      refine ⟨_, H, ?_, rx, q m _ (List.getElem?_eq_getElem (by omega)) fun j hj => b2 j (by simp; omega)⟩
      refine I.kept (t' := tk) fun b o e => ?_
      have nb : b ∉ [s.heap.objs.size] := fun z => Nat.lt_irrefl _ (by have := Heap.lt_size e; rw [List.mem_singleton.mp z] at this; exact this)
      exact hk b o nb (Heap.get?_push_of_some _ e)
  · obtain ⟨its, rv, ht, _⟩ := I.tuple hs
    rw [Vals.ref1 r]
    have hi := rv.ints
    have hval : ∀ i v, its.toArray[i]? = some v → ∃ t, v = Value.int (ns.getD i 0) t := fun i v e => by
      have e' : its[i]? = some v := by simpa using e
      have hlt := (List.getElem?_eq_some_iff.mp e').1
      have hl := rv.length
      rw [List.length_map] at hl
      obtain ⟨u, e1, rx⟩ := rv.get (x := V.int (ns[i]'(by omega))) (i := i) (by rw [List.getElem?_map, List.getElem?_eq_getElem (by omega)]; rfl)
      rw [e'] at e1
      cases e1
      obtain ⟨t, rfl⟩ := rx
      exact ⟨t, by rw [List.getD_eq_getElem?_getD, List.getElem?_eq_getElem (by omega)]; rfl⟩
    obtain ⟨ob, hob, _⟩ := id ht
    have hlt : a < s.heap.objs.size := Heap.lt_size hob
    have hls := rv.length
    rw [List.length_map] at hls
    refine call_min_walk (wpAny_pyIter_tuple ht ?_)
    refine ⟨_, _, _, _, _, _, _, rfl, Walks.tuple (A := X.A.in1) (I.ok.hd hc) s.heap.objs.size a (Nat.ne_of_lt hlt) its.toArray,
      ⟨⟨_, Heap.get?_push_size _ rfl, rfl, rfl⟩, (let ⟨o, ho, r⟩ := ht; ⟨o, Heap.get?_push_of_some _ ho, r⟩)⟩, fun b hb => ?_, ?_, CmpOf.ints_lt (fun i => ns.getD i 0) hval, fun v h' tk hP hk => ?_⟩
    · show b < (s.heap.push _).objs.size
      rw [Heap.size_push]
      rcases List.mem_cons.mp hb with e | hb
      · rw [e]; exact Nat.lt_succ_self _
      · rw [List.mem_singleton.mp hb]; exact Nat.lt_succ_of_lt hlt
    · show 0 < its.toArray.size
      simp; omega
    · obtain ⟨t, rfl⟩ := hval _ v hP
      obtain ⟨b1, b2⟩ := argBest_lt (fun i => ns.getD i 0) (its.toArray.size - 1)
      have hsz : its.toArray.size = ns.length := by simp; omega
      rw [hsz] at b1 b2
      refine ⟨.int _, H, ?_, ⟨t, rfl⟩, q _ ?_ ?_⟩
      · refine I.kept (t' := tk) fun b o e => ?_
        have nb : b ∉ [s.heap.objs.size] := fun z => Nat.lt_irrefl _ (by have := Heap.lt_size e; rw [List.mem_singleton.mp z] at this; exact this)
        exact hk b o nb (Heap.get?_push_of_some _ e)
      · rw [hsz, List.getD_eq_getElem?_getD, List.getElem?_eq_getElem (by omega)]
        exact List.getElem_mem _
      · intro y hy
        obtain ⟨j, hj, rfl⟩ := List.getElem_of_mem hy
        have q2 := b2 j (by omega)
        rw [hsz]
        rw [List.getD_eq_getElem?_getD (i := j), List.getElem?_eq_getElem hj] at q2
        exact q2
end
end CW
end R2x
section R3x
set_option Elab.async false
set_option linter.all false
set_option maxRecDepth 100000
/-! enumerate(tuple), zip(list, tuple). -/
namespace CW
open PySem PySem.Spec PyProof.Rows L2 StX RZ
set_option maxHeartbeats 1000000 in
theorem enum_new1 {v : Value} {o : Obj} {H : Heap → Prop} (B : Begins v o H) :
    Meets (Builtin.«enumerate.__new__» ⟨[.type "enumerate", v], []⟩) (fun _ R s => H s.heap ∧
      R (.ok (.ret (.ref (s.heap.push o).objs.size))) { s with heap := (s.heap.push o).push { cls := .type "enumerate", data := .fields #[.none, .bool false, .ref s.heap.objs.size, rawInt 0, .none, .none] } }) :=
  .of_wp fun prog w A R s h => by
    obtain ⟨hp, g, d, tk, os⟩ := s
    obtain ⟨h1, h⟩ := h
    have hsub := sub_enumerate
    have start : ∀ {A' : Around} {E : Value → Shared → Prop} {Q : Value → Shared → Prop}, Q (.ref hp.objs.size) ⟨hp.push o, g, d, tk, os⟩ → wpAny (model prog w) A' (pyIter v) Q E ⟨hp, g, d, tk, os⟩ := fun q => B.iter prog w _ _ ⟨hp, g, d, tk, os⟩ _ h1 q
    wp_walk using start
    refine wpAny_stack_any fun st => wpAny_pure ?_
    split
    · rename_i c _ _ _ _ _
      cases (c == Value.type "enumerate")
      · wp_walk using start
        exact ⟨_, rfl, h⟩
      · wp_walk using start
        exact ⟨_, rfl, h⟩
    · wp_walk using start
      exact ⟨_, rfl, h⟩
section
variable {prog : Program} {w : World} {A : Around} {E : Value → Shared → Prop} {s : Shared}
theorem enum_begins1 {v : Value} {o : Obj} {H : Heap → Prop} {Q : Value → Shared → Prop} (B : Begins v o H) (h1 : H s.heap)
    (h : ∀ h', IsEnum h' (s.heap.objs.size + 1) s.heap.objs.size 0 .none → h'.get? s.heap.objs.size = some o → h'.objs.size = s.heap.objs.size + 2 → (∀ b u, s.heap.get? b = some u → h'.get? b = some u) → Q (.ref (s.heap.objs.size + 1)) { s with heap := h' }) :
    wpAny (model prog w) A (call (.type "enumerate") [v]) Q E s := by
  refine callType_new PySem.F.called_enumerate (by decide) (PySem.F.typeCall_enumerate_1 _) (PySem.F.newCall_enumerate_1 _) (fun obj => PySem.F.args_object_init_2 obj _) PySem.F.entry_enumerate_new (enum_new1 B) ⟨h1, ?_⟩
  have z1 : (s.heap.push o).objs.size = s.heap.objs.size + 1 := Heap.size_push ..
  show _ ∧ _
  rw [z1]
  have he : IsEnum ((s.heap.push o).push { cls := .type "enumerate", data := .fields #[.none, .bool false, .ref s.heap.objs.size, rawInt 0, .none, .none] }) (s.heap.objs.size + 1) s.heap.objs.size 0 .none := by
    have q := Heap.get?_push_size (s.heap.push o) (o := { cls := .type "enumerate", data := .fields #[.none, .bool false, .ref s.heap.objs.size, rawInt 0, .none, .none] }) rfl
    rw [z1] at q
    exact q
  exact ⟨⟨_, he, rfl⟩, h _ he (Heap.get?_push_of_some _ (Heap.get?_push_size _ B.free)) (by rw [Heap.size_push, z1]) fun b u x => Heap.get?_push_of_some _ (Heap.get?_push_of_some _ x)⟩
end
/-- the tuple at a, each item in a new pair with its place -/
def IteT (K : PySem.W.Frag) (a : Addr) : It :=
  ⟨fun i H => ∃ (xs : List V) (x : V), SqT K H a xs ∧ xs[i]? = some x, fun i H v H' => ∃ T x, v = .ref T ∧ H T = none ∧ H' = upd H T (.tup [.int (i : Nat), x]) ∧ ∀ xs, SqT K H a xs → xs[i]? = some x, fun i H => ∃ xs : List V, SqT K H a xs ∧ xs.length = i⟩
theorem tup_two {h h' : Heap} {P : Program} {w : World} {H : Hp} {T : Addr} {x y : V} {u v : Value} (hT : h'.IsTuple T #[u, v]) (rx : RelV x u) (ry : RelV y v) : ObjOk P w (upd H T (.tup [x, y])) h' T (.tup [x, y]) :=
  ⟨sz (by simp), [u, v], .cons rx (.cons ry .nil), hT⟩
theorem turn_enumT {P : Program} {w : World} {K : PySem.W.Frag} {elts : List Expr} {kk : Nat} {tpos : Pos} (a e it : Addr) :
    Turn P w K (.Tuple elts kk tpos) (IteT K a) [e, it] e (fun i h => (∃ old, IsEnum h e it ((i : Nat) : Int) old) ∧ h.IsTupleIter it a i ∧ e ≠ it) where
  mem := by simp
  obj := fun i h st b hb => by
    obtain ⟨⟨old, he⟩, ⟨o, ho, hc, hd⟩, _⟩ := st
    have q : b = e ∨ b = it := by simpa using hb
    rcases q with z | z
    · rw [z]; exact ⟨_, he, fun v q => nomatch q⟩
    · rw [z]; exact ⟨o, ho, fun v q => by rw [hd] at q; cases q⟩
  keep := fun i h h' st k => let ⟨⟨old, he⟩, hi, hne⟩ := st; ⟨⟨old, k e (by simp) _ he⟩, hi.at fun o q => k it (by simp) o q, hne⟩
  item := by
    intro X hP hw hK hc i pins s σ H E I hf st hg
    subst hP hw hK
    obtain ⟨⟨old, he⟩, hit, hne⟩ := st
    obtain ⟨xs, x, hq, hx⟩ := hg
    obtain ⟨its, rv, p, hz⟩ := I.tuple hq
    obtain ⟨u, hu, ru⟩ := rv.get hx
    obtain ⟨ob, hob, _⟩ := id p
    have nea : a ≠ e := fun z => by
      obtain ⟨o2, q1, q2, _⟩ := id p
      rw [z, he] at q1
      cases q1
      injection q2 with q2
      exact absurd q2 (by decide)
    have nit : a ≠ it := fun z => by
      obtain ⟨o2, q1, q2, _⟩ := id p
      obtain ⟨o3, q3, q4, _⟩ := id hit
      rw [z, q3] at q1
      cases q1
      rw [q4] at q2
      injection q2 with q2
      exact absurd q2 (by decide)
    have W := GoesN.enumFrom (prog := X.prog) (w := X.w) (A := X.A) (elts := elts) (x1 := kk) (pos := tpos) 0 (Draws.tuple (A := X.A.in1) (I.ok.hd hc) it a nit its.toArray) e hne (by simp; exact ⟨hne, Ne.symm nea⟩) (by simp)
    have hlt : i < its.toArray.size := by
      have := (List.getElem?_eq_some_iff.mp hu).1
      simpa using this
    refine W.goes i s (fun v s2 => ∃ y H', Inv X pins σ H' s2 ∧ RelV y v ∧ _ ∧ _ ∧ _) E hlt ⟨⟨old, by simpa using he⟩, hit, p⟩ fun v h' tk hY st' hk htk => ?_
    obtain ⟨T, t, y, ev, hT, hy, hTup⟩ := hY
    have hy' : its[i]? = some y := by simpa using hy
    rw [hu] at hy'
    cases hy'
    subst ev
    have kp : ∀ b o, b ∉ [e, it] → s.heap.get? b = some o → h'.get? b = some o := hk
    have new : ObjOk X.prog X.w (upd H T (.tup [.int (i : Nat), x])) h' T (.tup [.int (i : Nat), x]) := tup_two (h := h') hTup ⟨t, by simp⟩ ru
    have I1 := I.turnedNew (t' := tk) (ch := [e, it]) kp hf hT new
    refine ⟨.ref T, _, I1, rfl, ⟨T, x, rfl, I.hok.fresh hT, rfl, fun ys hy2 => by rw [I.tuple_inj hy2 hq]; exact hx⟩, ⟨?_, st'.2.1, hne⟩, fun b hb => ?_⟩
    · obtain ⟨old', ho'⟩ := st'.1
      exact ⟨old', by simpa using ho'⟩
    · have hbl : b < s.heap.objs.size := by
        have q : b = e ∨ b = it := by simpa using hb
        rcases q with z | z
        · rw [z]; exact Heap.lt_size he
        · rw [z]; obtain ⟨_, q, _⟩ := hit; exact Heap.lt_size q
      rw [upd_ne (Nat.ne_of_lt (Nat.lt_of_lt_of_le hbl hT))]
      exact (hf b hb).1
  done := by
    intro X hP hw hK hc i pins s σ H E I hf st hg
    subst hP hw hK
    obtain ⟨⟨old, he⟩, hit, hne⟩ := st
    obtain ⟨xs, hq, hx⟩ := hg
    obtain ⟨its, rv, p, hz⟩ := I.tuple hq
    have nea : a ≠ e := fun z => by
      obtain ⟨o2, q1, q2, _⟩ := id p
      rw [z, he] at q1
      cases q1
      injection q2 with q2
      exact absurd q2 (by decide)
    have nit : a ≠ it := fun z => by
      obtain ⟨o2, q1, q2, _⟩ := id p
      obtain ⟨o3, q3, q4, _⟩ := id hit
      rw [z, q3] at q1
      cases q1
      rw [q4] at q2
      injection q2 with q2
      exact absurd q2 (by decide)
    have W := GoesN.enumFrom (prog := X.prog) (w := X.w) (A := X.A) (elts := elts) (x1 := kk) (pos := tpos) 0 (Draws.tuple (A := X.A.in1) (I.ok.hd hc) it a nit its.toArray) e hne (by simp; exact ⟨hne, Ne.symm nea⟩) (by simp)
    have hl := rv.length
    have hn : its.toArray.size = i := by simp; omega
    subst hn
    exact W.stops s _ E ⟨⟨old, by simpa using he⟩, hit, p⟩ fun h' tk hk htk => I.turnedL (t' := tk) (ch := [e, it]) hk hf
  self := fun A i s Q E st h => let ⟨⟨_, he⟩, _⟩ := st; wpAny_pyIter_enum he h
/-- a list and a tuple, their items in new pairs -/
def ItzM (K : PySem.W.Frag) (a b : Addr) : It :=
  ⟨fun i H => ∃ (xs ys : List V) (x y : V), SqL K H a xs ∧ SqT K H b ys ∧ xs[i]? = some x ∧ ys[i]? = some y,
    fun i H v H' => ∃ T x y, v = .ref T ∧ H T = none ∧ H' = upd H T (.tup [x, y]) ∧ (∀ xs, SqL K H a xs → xs[i]? = some x) ∧ ∀ ys, SqT K H b ys → ys[i]? = some y,
    fun i H => ∃ xs ys : List V, SqL K H a xs ∧ SqT K H b ys ∧ min xs.length ys.length = i⟩
theorem turn_zipM {P : Program} {w : World} {K : PySem.W.Frag} {elts : List Expr} {kk : Nat} {tpos : Pos} {a b z TI TO i1 i2 : Addr} (D : ZipSep2 z TI TO i1 i2 [i1, a] [i2, b]) :
    Turn P w K (.Tuple elts kk tpos) (ItzM K a b) [z, TI, TO, i1, i2] z (fun i h => IsZip h z TI TO .none ∧ IsTupOf2 h TI (.ref i1) (.ref i2) ∧ (∃ x y, IsTupOf2 h TO x y) ∧ h.IsListIter i1 a i ∧ h.IsTupleIter i2 b i) where
  mem := by simp
  obj := fun i h st c hc => by
    obtain ⟨hz, hTI, ⟨x, y, hTO⟩, ⟨o1, e1, _, d1⟩, ⟨o2, e2, _, d2⟩⟩ := st
    have q : c = z ∨ c = TI ∨ c = TO ∨ c = i1 ∨ c = i2 := by simpa using hc
    rcases q with q | q | q | q | q
    · rw [q]; exact ⟨_, hz, fun v q => nomatch q⟩
    · rw [q]; exact ⟨_, hTI, fun v q => nomatch q⟩
    · rw [q]; exact ⟨_, hTO, fun v q => nomatch q⟩
    · rw [q]; exact ⟨o1, e1, fun v q => by rw [d1] at q; cases q⟩
    · rw [q]; exact ⟨o2, e2, fun v q => by rw [d2] at q; cases q⟩
  keep := fun i h h' st k => by
    obtain ⟨hz, hTI, ⟨x, y, hTO⟩, h1, h2⟩ := st
    exact ⟨k z (by simp) _ hz, k TI (by simp) _ hTI, ⟨x, y, k TO (by simp) _ hTO⟩, h1.at fun o q => k i1 (by simp) o q, h2.at fun o q => k i2 (by simp) o q⟩
  item := by
    intro X hP hw hK hc i pins s σ H E I hf st hg
    subst hP hw hK
    obtain ⟨hz, hTI, hTO, h1, h2⟩ := st
    obtain ⟨xs, ys, x, y, hqx, hqy, hx, hy⟩ := hg
    obtain ⟨its, rv, p, _⟩ := I.list hqx
    obtain ⟨its2, rv2, p2, _⟩ := I.tuple hqy
    obtain ⟨u, hu, ru⟩ := rv.get hx
    obtain ⟨u2, hu2, ru2⟩ := rv2.get hy
    have n1 : a ≠ i1 := fun q => by
      obtain ⟨o2, q1, q2, _⟩ := p.isList
      obtain ⟨o3, q3, q4, _⟩ := id h1
      rw [q, q3] at q1
      cases q1
      rw [q4] at q2
      injection q2 with q2
      exact absurd q2 (by decide)
    have n2 : b ≠ i2 := fun q => by
      obtain ⟨o2, q1, q2, _⟩ := id p2
      obtain ⟨o3, q3, q4, _⟩ := id h2
      rw [q, q3] at q1
      cases q1
      rw [q4] at q2
      injection q2 with q2
      exact absurd q2 (by decide)
    have W := GoesN.zip2 (prog := X.prog) (w := X.w) (A := X.A) (elts := elts) (x1 := kk) (pos := tpos) D (Draws.list (A := X.A.in1) (I.ok.hd hc) i1 a n1 its.toArray) (Draws.tuple (A := X.A.in1) (I.ok.hd hc) i2 b n2 its2.toArray)
    have l1 := (List.getElem?_eq_some_iff.mp hu).1
    have l2 := (List.getElem?_eq_some_iff.mp hu2).1
    refine W.goes i s (fun v s2 => ∃ y H', Inv X pins σ H' s2 ∧ RelV y v ∧ _ ∧ _ ∧ _) E (by simp; omega) ⟨hz, hTI, hTO, ⟨h1, p.isList⟩, ⟨h2, p2⟩⟩ fun v h' tk hY st' hk htk => ?_
    obtain ⟨T, v1, v2, ev, hT, hv1, hv2, hTup⟩ := hY
    have hv1' : its[i]? = some v1 := by simpa using hv1
    have hv2' : its2[i]? = some v2 := by simpa using hv2
    rw [hu] at hv1'
    rw [hu2] at hv2'
    cases hv1'
    cases hv2'
    subst ev
    have kp : ∀ c o, c ∉ [z, TI, TO, i1, i2] → s.heap.get? c = some o → h'.get? c = some o := fun c o hcn e => hk c o (fun q => hcn (by simp at q ⊢; rcases q with q | q | q | q <;> simp [q])) e
    have I1 := I.turnedNew (t' := tk) (ch := [z, TI, TO, i1, i2]) kp hf hT (tup_two (P := X.prog) (w := X.w) (H := H) (h := h') hTup ru ru2)
    refine ⟨.ref T, _, I1, rfl, ⟨T, x, y, rfl, I.hok.fresh hT, rfl, fun l hl => by rw [I.list_inj hl hqx]; exact hx, fun l hl => by rw [I.tuple_inj hl hqy]; exact hy⟩, ⟨st'.1, st'.2.1, st'.2.2.1, st'.2.2.2.1.1, st'.2.2.2.2.1⟩, fun c hcm => ?_⟩
    have hcl : c < s.heap.objs.size := by
      have q : c = z ∨ c = TI ∨ c = TO ∨ c = i1 ∨ c = i2 := by simpa using hcm
      rcases q with q | q | q | q | q
      · rw [q]; exact Heap.lt_size hz
      · rw [q]; exact Heap.lt_size hTI
      · rw [q]; obtain ⟨_, _, e⟩ := hTO; exact Heap.lt_size e
      · rw [q]; obtain ⟨_, e1, _⟩ := h1; exact Heap.lt_size e1
      · rw [q]; obtain ⟨_, e2, _⟩ := h2; exact Heap.lt_size e2
    rw [upd_ne (Nat.ne_of_lt (Nat.lt_of_lt_of_le hcl hT))]
    exact (hf c hcm).1
  done := by
    intro X hP hw hK hc i pins s σ H E I hf st hg
    subst hP hw hK
    obtain ⟨hz, hTI, hTO, h1, h2⟩ := st
    obtain ⟨xs, ys, hqx, hqy, hend⟩ := hg
    obtain ⟨its, rv, p, _⟩ := I.list hqx
    obtain ⟨its2, rv2, p2, _⟩ := I.tuple hqy
    have n1 : a ≠ i1 := fun q => by
      obtain ⟨o2, q1, q2, _⟩ := p.isList
      obtain ⟨o3, q3, q4, _⟩ := id h1
      rw [q, q3] at q1
      cases q1
      rw [q4] at q2
      injection q2 with q2
      exact absurd q2 (by decide)
    have n2 : b ≠ i2 := fun q => by
      obtain ⟨o2, q1, q2, _⟩ := id p2
      obtain ⟨o3, q3, q4, _⟩ := id h2
      rw [q, q3] at q1
      cases q1
      rw [q4] at q2
      injection q2 with q2
      exact absurd q2 (by decide)
    have W := GoesN.zip2 (prog := X.prog) (w := X.w) (A := X.A) (elts := elts) (x1 := kk) (pos := tpos) D (Draws.list (A := X.A.in1) (I.ok.hd hc) i1 a n1 its.toArray) (Draws.tuple (A := X.A.in1) (I.ok.hd hc) i2 b n2 its2.toArray)
    have l1 := rv.length
    have l2 := rv2.length
    have hn : min its.toArray.size its2.toArray.size = i := by simp; omega
    subst hn
    exact W.stops s _ E ⟨hz, hTI, hTO, ⟨h1, p.isList⟩, ⟨h2, p2⟩⟩ fun h' tk hk htk => I.turnedL (t' := tk) (ch := [z, TI, TO, i1, i2]) (fun c o hcn e => hk c o (fun q => hcn (by simp at q ⊢; rcases q with q | q | q | q <;> simp [q])) e) hf
  self := fun A i s Q E st h => wpAny_pyIter_zip st.1 h
end CW
end R3x
section R4x
set_option Elab.async false
set_option linter.all false
set_option maxRecDepth 100000
/-! sorted(tuple), tuple[::-1], dict(tuple of pairs). -/
namespace CW
open PySem PySem.Spec PyProof.Rows L2 StX RZ
section
variable {prog : Program} {w : World} {A : Around} {E : Value → Shared → Prop} {s : Shared}
theorem collect_tup {l : Addr} {vs : List Value} {Q : List Value → Shared → Prop} (ht : s.heap.IsTuple l vs.toArray)
    (h : Q vs { s with heap := (s.heap.push (seqObj "list" #[] 0)).update s.heap.objs.size (Obj.mapSeq (· ++ vs.toArray)) }) (small : vs.length ≤ sizeLine) :
    wpAny (model prog w) A (collect (.ref l)) Q E s := by
  obtain ⟨ob, e0, c0, n0, d0⟩ := id ht
  unfold collect
  refine wpAny_bind (wpAny_runValue (codeAny_builtin entry_proto_collect' ?_))
  show wpAny _ _ (do again (.builtin "list.__iadd__" ⟨[← newList [], .ref l], []⟩)) _ _ s
  refine wpAny_bind (wpAny_newList (wpAny_pure ⟨Code.quiet_builtin _ (by decide +kernel), codeAny_builtin entry_list_iadd' ?_⟩))
  show wpAny _ _ (Builtin.List.listExtendWith (.ref s.heap.objs.size) (.ref l) (.ref s.heap.objs.size)) _ _ { s with heap := s.heap.push (seqObj "list" #[] 0) }
  unfold Builtin.List.listExtendWith
  have e1 : (s.heap.push (seqObj "list" #[] 0)).get? l = some ob := Heap.get?_push_of_some _ e0
  refine wpAny_bind (wpAny_typeOf (T := "tuple") ⟨ob, e1, c0⟩ ?_)
  have same : (Value.type "tuple" == Value.type "tuple") = true := by rfl
  rw [if_pos (by rw [same]; simp)]
  refine wpAny_bind (listItems_at e1 d0 ?_)
  refine wpAny_bind (listItems_at (xs := #[]) (n := 0) (Heap.get?_push_size _ rfl) rfl ?_)
  rw [if_neg (by simp)]
  refine wpAny_bind (listUpdate_at (xs := #[]) (n := 0) (Heap.get?_push_size _ rfl) rfl ?_ (Nat.zero_le _) (by show (#[] ++ vs.toArray).size ≤ sizeLine + 1; simp only [Array.size_append, List.size_toArray, List.length_nil]; omega))
  refine wpAny_pure ?_
  show wpAny (model prog w) A (do
      let ob ← load s.heap.objs.size
      match ob.data with
      | .seq xs _ => pure xs.toList
      | _ => unsupported "internal:collect") Q E { s with heap := (s.heap.push (seqObj "list" #[] 0)).update s.heap.objs.size (Obj.mapSeq (· ++ vs.toArray)) }
  refine wpAny_bind (wpAny_load (get?_update_seq (Heap.get?_push_size _ rfl) _) ?_)
  show wpAny _ _ (pure ((#[] : Array Value) ++ vs.toArray).toList) Q E _
  rw [show ((#[] : Array Value) ++ vs.toArray).toList = vs by simp]
  exact wpAny_pure h
theorem sorted_tup {l : Addr} {vs : List Value} {ns : List Int} {Q : Value → Shared → Prop} (ht : s.heap.IsTuple l vs.toArray) (hI : IntsAre vs ns) (small : vs.length ≤ sizeLine)
    (h : ∀ (out : Array Value) (ns' : List Int), IntsAre out.toList ns' → ns'.Perm ns → ns'.Pairwise (· ≤ ·) → Q (.ref (s.heap.objs.size + 1)) { s with heap := sortedAll s.heap vs out }) :
    wpAny (model prog w) A (call (.builtin "sorted") [.ref l]) Q E s := by
  refine Calls.call_function_entry kind_sorted plain_sorted entry_sorted (args_sorted1 _) ?_
  unfold Builtin.«sorted»
  refine wpAny_bind (m := checkCount "sorted" 1 1 _) (wpAny_pure ?_)
  refine wpAny_bind (collect_tup ht ?_ small)
  refine wpAny_bind (wpAny_newList ?_)
  have z1 : ((s.heap.push (seqObj "list" #[] 0)).update s.heap.objs.size (Obj.mapSeq (· ++ vs.toArray))).objs.size = s.heap.objs.size + 1 := by
    rw [Heap.size_update, size_push']
  have z2 : (((s.heap.push (seqObj "list" #[] 0)).update s.heap.objs.size (Obj.mapSeq (· ++ vs.toArray))).push (seqObj "list" vs.toArray 0)).get? (s.heap.objs.size + 1) = some (seqObj "list" vs.toArray 0) := by
    rw [← z1]; exact Heap.get?_push_size _ rfl
  show wpAny _ _ _ _ _ { s with heap := ((s.heap.push (seqObj "list" #[] 0)).update s.heap.objs.size (Obj.mapSeq (· ++ vs.toArray))).push (seqObj "list" vs.toArray 0) }
  rw [z1]
  refine wpAny_bind (wpAny_holding (wpAny_call_entry slot_list_sort ⟨_, z2, rfl⟩ entry_list_sort (list_sort_treeAny z2 hI small fun out ns' a1 a2 a3 => ⟨_, rfl, ?_⟩) (args_list_sort _)))
  exact wpAny_pure ⟨_, rfl, h out ns' a1 a2 a3⟩
/-! t[::-1] -/
theorem adjust_rev (n : Nat) : Builtin.Slice.sliceAdjust none none (-1) (n : Int) = ((n : Int) - 1, -1) := by
  unfold Builtin.Slice.sliceAdjust
  simp
theorem places_rev (n : Nat) : Builtin.Slice.slicePlaces ((n : Int) - 1) (-1) (-1) = n := by
  unfold Builtin.Slice.slicePlaces
  by_cases h : n = 0
  · subst h; simp
  · have h1 : ¬ ((-1 : Int) > 0) := by omega
    have h2 : ((n : Int) - 1 > -1) := by omega
    rw [if_neg h1, if_pos h2]
    simp only [Int.neg_neg, Int.ediv_one]
    omega
theorem applied_rev {sl : Addr} {vl vu vs : Value} {n : Nat} {Q : Int × Int × Nat → Shared → Prop} (hs : s.heap.IsSliceOf sl vl vu vs) (pl : IsPart vl none) (pu : IsPart vu none) (ps : IsPart vs (some (-1)))
    (h : Q ((n : Int) - 1, -1, n) s) : wpAny (model prog w) A (Builtin.Slice.sliceApplied (.ref sl) (pure (n : Int))) Q E s := by
  obtain ⟨os, e0, c0, d0⟩ := id hs
  unfold Builtin.Slice.sliceApplied Builtin.Slice.sliceFields
  refine wpAny_bind (wpAny_bind (wpAny_field e0 d0 (x := vl) rfl (wpAny_bind (wpAny_field e0 d0 (x := vu) rfl (wpAny_bind (wpAny_field e0 d0 (x := vs) rfl (wpAny_pure ?_)))))))
  refine wpAny_bind (HT.slicePart_ ps ?_)
  show wpAny _ _ (if ((-1 : Int) == 0) = true then _ else _) _ _ s
  rw [if_neg (by decide)]
  refine wpAny_bind (HT.slicePart_ pl (wpAny_bind (HT.slicePart_ pu (wpAny_bind (wpAny_pure ?_)))))
  show wpAny _ _ (match Builtin.Slice.sliceAdjust none none (-1) (n : Int) with | (lo, hi) => pure (lo, (-1 : Int), Builtin.Slice.slicePlaces lo hi (-1))) _ _ s
  rw [adjust_rev n]
  show wpAny _ _ (pure ((n : Int) - 1, (-1 : Int), Builtin.Slice.slicePlaces ((n : Int) - 1) (-1) (-1))) _ _ s
  rw [places_rev]
  exact wpAny_pure h
theorem pick_rev (xs : Array Value) : ((List.range xs.size).filterMap fun (m : Nat) => xs[(((xs.size : Int) - 1) + (m : Int) * (-1)).toNat]?).toArray = xs.toList.reverse.toArray := by
  congr 1
  have e : ∀ n, n ≤ xs.size → ((List.range n).filterMap fun (m : Nat) => xs[(((xs.size : Int) - 1) + (m : Int) * (-1)).toNat]?) = (xs.toList.reverse).take n := by
    intro n
    induction n with
    | zero => intro _; simp
    | succ n ih =>
      intro hn
      rw [List.range_succ, List.filterMap_append, ih (by omega), List.take_add_one]
      have h1 : (((xs.size : Int) - 1) + (n : Int) * (-1)).toNat = xs.size - 1 - n := by omega
      have h2 : xs.toList.reverse[n]? = xs[xs.size - 1 - n]? := by
        rw [List.getElem?_reverse (by simp; omega)]
        simp
      simp only [List.filterMap_cons, List.filterMap_nil, h1, h2]
      have h3 : xs.size - 1 - n < xs.size := by omega
      rw [Array.getElem?_eq_getElem h3]
      simp
  rw [e xs.size (Nat.le_refl _)]
  rw [List.take_of_length_le (by simp)]
theorem getItem_rev {t sl : Addr} {items : Array Value} {vl vu vs : Value} {Q : Value → Shared → Prop} (ht : IsTup s.heap t items) (hs : s.heap.IsSliceOf sl vl vu vs) (pl : IsPart vl none) (pu : IsPart vu none) (ps : IsPart vs (some (-1)))
    (h : Q (.ref s.heap.objs.size) { s with heap := s.heap.push { cls := .type "tuple", data := .seq items.toList.reverse.toArray } })
    (small : items.size ≤ sizeLine) : wpAny (model prog w) A (getItem (.ref t) (.ref sl)) Q E s := by
  have room : sizeOk (.seq items.toList.reverse.toArray) := by
    show items.toList.reverse.toArray.size ≤ sizeLine
    simpa using small
  obtain ⟨os, e0, c0, d0⟩ := id hs
  have isS : s.TypeIs (.ref sl) "slice" := ⟨os, e0, c0⟩
  unfold getItem
  try with_reducible refine wpAny_holding ?_
  first | refine wpAny_bind (wpAny_pure ?_) | skip
  refine wpAny_bind (wpAny_sequenceKey ht.typeIs (by decide) ?_)
  refine wpAny_bind (wpAny_callSpecial?_slot (name := Str.ofString "__getitem__") ht.typeIs PyProof.Rows.slot_tuple_getitem
    (wpAny_call_entry PyProof.Rows.slot_tuple_getitem ht.typeIs entry_tuple_getitem ?_ (args_tuple_getitem _ _)))
  show wpAny _ _ (Builtin.Tuple.tupleItemsOf (.ref t) >>= _) _ _ s
  refine wpAny_bind (tupleItemsOf_ ht ?_)
  refine wpAny_bind (wpAny_typeOf isS ?_)
  rw [if_pos (by decide)]
  refine wpAny_bind (applied_rev hs pl pu ps ?_)
  have no : ¬ ((((items.size : Int) - 1) == 0 && (-1 : Int) == 1 && items.size == items.size) = true) := by simp
  show wpAny _ _ (if (((items.size : Int) - 1) == 0 && (-1 : Int) == 1 && items.size == items.size) = true then _ else _) _ _ s
  rw [if_neg no, pick_rev]
  first
    | exact wpAny_bind (m := Builtin.Tuple.tupleExact _) (wpAny_newObj_type (wpAny_pure ⟨_, rfl, wpAny_pure h⟩) room)
    | exact wpAny_bind (m := Builtin.Tuple.tupleExact _) (wpAny_newObj_type (wpAny_bind (wpAny_pure (wpAny_pure ⟨_, rfl, wpAny_pure h⟩))) room)
    | exact wpAny_bind (wpAny_bind (m := Builtin.Tuple.tupleExact _) (wpAny_newObj_type (wpAny_pure (wpAny_pure ⟨_, rfl, wpAny_pure h⟩)) room))
    | exact wpAny_bind (wpAny_bind (m := Builtin.Tuple.tupleExact _) (wpAny_newObj_type (wpAny_pure ⟨_, rfl, wpAny_pure h⟩) room))
end
section
variable {X : Cx} {K : PySem.W.Frag}
def rSortedT (K : PySem.W.Frag) : List V → Hp → VK → Prop := fun vs H Q => ∃ (a : Addr) (ns : List Int), vs = [V.ref a] ∧ SqT K H a (ns.map V.int) ∧
  ∀ (ns' : List Int) (p : Addr), ns'.Perm ns → ns'.Pairwise (· ≤ ·) → H p = none → Q (.ref p) (upd H p (.lst (ns'.map V.int)))
theorem cr_sortedTK (hK : X.K = K) : CallR X (.builtin "sorted") (rSortedT K) := by
  subst hK
  intro pins s σ H vs us Q I r h
  obtain ⟨a, ns, rfl, hs, q⟩ := h
  obtain ⟨its, rv, ht, hz⟩ := I.tuple hs
  rw [Vals.ref1 r]
  refine sorted_tup (vs := its) (show s.heap.IsTuple a its.toArray from ht) rv.ints (by rw [← rv.length]; exact hz) fun out ns' k1 k2 k3 => ?_
  obtain ⟨ep, he'⟩ := PyProof.Rows.sortedAll_at s.heap its out
  have hlen : (ns'.map V.int).length ≤ sizeLine := by
    rw [List.length_map, k2.length_eq]
    rw [List.length_map] at hz
    exact hz
  exact ⟨.ref _, upd H (s.heap.objs.size + 1) (.lst (ns'.map V.int)), I.laid (t' := s.toks) (fun _ _ => PyProof.Rows.sortedAll_old) (Nat.le_succ _) ⟨hlen, _, ep, vals_of_ints k1, by simpa using he'⟩, rfl, q _ _ k2 k3 (I.hok.fresh (Nat.le_succ _))⟩
def tRevT (K : PySem.W.Frag) (te : TE) : TE := fun σ H Q => te σ H fun x H1 => ∃ a xs, x = .ref a ∧ SqT K H1 a xs ∧ ∀ p, H1 p = none → Q (.ref p) (upd H1 p (.tup xs.reverse))
theorem pe_revTK {e : Expr} {te : TE} {k : Nat} {p1 p2 p3 pos : Pos} (hK : X.K = K) (he : PE X e te) : PE X (.Subscript e (.Slice none none (some (.UnaryOp .USub (.Constant (.int 1) k p1) p2)) p3) pos) (tRevT K te) := by
  subst hK
  refine ⟨fun pins s σ H Q I h => ?_⟩
  refine Subscript_ (thn (he.run pins s σ H _ I h) fun v s1 ⟨x, H1, I1, r1, q1⟩ => ?_)
  obtain ⟨a, xs, ex, hx, q⟩ := q1
  subst ex
  cases r1
  have minus : PO X (some (.UnaryOp .USub (.Constant (.int 1) k p1) p2)) (tPart (tUn (rU fun i => .int (-i)) (tC (.int 1)))) := po_some (pe_un un_neg pe_int)
  refine wpAny_Slice (thn (po_none.run pins s1 σ H1 (fun o H2 => o = none ∧ H2 = H1) I1 ⟨rfl, rfl⟩) fun vl s2 ⟨l, H2, I2, pl, el, e2⟩ => ?_)
  subst el e2
  refine thn (po_none.run pins s2 σ H2 (fun o H3 => o = none ∧ H3 = H2) I2 ⟨rfl, rfl⟩) fun vu s3 ⟨u, H3, I3, pu, eu, e3⟩ => ?_
  subst eu e3
  refine thn (minus.run pins s3 σ H3 (fun o H4 => o = some (-1) ∧ H4 = H3) I3 ⟨1, rfl, -1, rfl, rfl, rfl⟩) fun vs s4 ⟨o, H4, I4, ps, eo, e4⟩ => ?_
  subst eo e4
  have I5 : Inv X pins σ H4 { s4 with heap := s4.heap.push { cls := .type "slice", data := .fields #[vl, vu, vs] } } := I4.kept (t' := s4.toks) fun b ob q => Heap.get?_push_of_some _ q
  obtain ⟨its, r, ht, hz⟩ := I5.tuple hx
  have hlen := r.length
  show wpAny (model X.prog X.w) X.A (subscriptTail e (.Slice none none (some (.UnaryOp .USub (.Constant (.int 1) k p1) p2)) p3) (.ref a) (.ref s4.heap.objs.size)) (EP X pins σ Q) X.xe { s4 with heap := s4.heap.push { cls := .type "slice", data := .fields #[vl, vu, vs] } }
  refine tail_any (ops := [.ref a, .ref s4.heap.objs.size]) ht.typeIs (PyProof.Rows.slot_tuple_getitem.lookup) ?_ (by with_unfolding_all rfl)
  refine getItem_rev ht (Heap.IsSliceOf.new _ vl vu vs) pl pu ps ?_ (by rw [List.size_toArray]; omega)
  refine ⟨.ref _, _, I5.laid (t' := s4.toks) (o := .tup xs.reverse) (fun b ob q => Heap.get?_push_of_some _ q) (Nat.le_refl _) ?_, rfl, q _ (I5.hok.fresh (Nat.le_refl _))⟩
  exact ⟨by rw [List.length_reverse]; exact hz, its.reverse, r.reverse, ⟨_, Heap.get?_push_size _ rfl, rfl, _, by simp; rfl⟩⟩
end
end CW
end R4x
section R5x
set_option Elab.async false
set_option linter.all false
set_option maxRecDepth 100000
/-! A tuple known to its object, dict(..) of it; the union rules of for. -/
namespace CW
open PySem PySem.Spec PyProof.Rows L2 StX RZ
section
variable {X : Cx} {K : PySem.W.Frag}
def rTupB (K : PySem.W.Frag) : List V → Hp → VK → Prop := fun xs H Q => ∃ p ys, xs = [.ref p] ∧ SqL K H p ys ∧ ∀ l (o : Obj), H l = none → o.dict = none → Q (.ref l) (upd H l (.frz o (.tup ys)))
theorem call_tupleB (hK : X.K = K) : CallR X (.type "tuple") (rTupB K) := by
  subst hK
  intro pins s σ H xs us Q I r h
  obtain ⟨p, ys, rfl, hq, q⟩ := h
  obtain ⟨u, rfl, rx⟩ := vals1 r
  cases rx
  obtain ⟨its, r', pl, hz⟩ := I.list hq
  have hlen := r'.length
  refine call_tuple_list pl.isList (fun h' kp => ?_) (by simp only [List.size_toArray] <;> omega)
  have I1 : Inv X pins σ H { s with heap := h' } := I.kept (t' := s.toks) kp
  have new : ObjOk X.prog X.w (upd H h'.objs.size (.frz { cls := .type "tuple", data := .seq its.toArray } (.tup ys))) (h'.push { cls := .type "tuple", data := .seq its.toArray }) h'.objs.size (.frz { cls := .type "tuple", data := .seq its.toArray } (.tup ys)) :=
    ⟨Heap.get?_push_size _ rfl, hz, its, r', IsTup.new _ _⟩
  exact ⟨.ref h'.objs.size, _, I1.laid (t' := s.toks) (fun b o e => Heap.get?_push_of_some _ e) (Nat.le_refl _) new, rfl, q _ _ (I1.hok.fresh (Nat.le_refl _)) rfl⟩
def tTup0 : TE := fun _ H Q => ∀ l (o : Obj), H l = none → o.dict = none → Q (.ref l) (upd H l (.frz o (.tup [])))
theorem pe_tup0 {x1 pos} : PE X (.Tuple [] x1 pos) tTup0 := by
  refine ⟨fun pins s σ H Q I hq => ?_⟩
  refine wpAny_Tuple_spliced (Calls.spliced_nil ⟨by simp, ?_⟩)
  have new : ObjOk X.prog X.w (upd H s.heap.objs.size (.frz { cls := .type "tuple", data := .seq #[] } (.tup []))) (s.heap.push { cls := .type "tuple", data := .seq #[] }) s.heap.objs.size (.frz { cls := .type "tuple", data := .seq #[] } (.tup [])) :=
    ⟨Heap.get?_push_size _ rfl, Nat.zero_le _, [], .nil, IsTup.new _ _⟩
  exact ⟨.ref s.heap.objs.size, _, I.laid (t' := s.toks) (fun b o e => Heap.get?_push_of_some _ e) (Nat.le_refl _) new, rfl, hq _ _ (I.hok.fresh (Nat.le_refl _)) rfl⟩
def rDictT (K : PySem.W.Frag) : List V → Hp → VK → Prop := fun xs H Q => ∃ (a : Addr) (o : Obj) (ps : List Addr) (kvs : List (Key × V)), xs = [.ref a] ∧ H a = some (.frz o (.tup (ps.map V.ref))) ∧ o.dict = none ∧ Paired (fun p kv => SqT K H p [kV kv.1, kv.2]) ps kvs ∧
    ∀ p, H p = none → Q (.ref p) (upd H p (.dK (mergeK [] kvs)))
theorem call_dictTK (hK : X.K = K) (hc : X.calm = true) : CallR X (.type "dict") (rDictT K) := by
  subst hK
  intro pins s σ H xs us Q I r q
  obtain ⟨a, o, ps, kvs, rfl, ha, hd, hp, q⟩ := q
  obtain ⟨u, rfl, rx⟩ := vals1 r
  cases rx
  obtain ⟨ho, hz, its, rv, o2, ho2, hc2, n, hdat⟩ := (show ObjOk X.prog X.w H s.heap a (.frz o (.tup (ps.map V.ref))) from I.hok a _ ha)
  rw [ho] at ho2
  cases ho2
  have ei := refs_at rv
  subst ei
  rw [List.length_map] at hz
  obtain ⟨prs, rel, hl, hpr⟩ := pairs_of I hp
  have hus : ∃ us : List Value, us.length = prs.length ∧ ∀ (j : Nat) (q : Key × Value), prs[j]? = some q → ∃ (b : Addr) (u : Value), ps[j]? = some b ∧ us[j]? = some u ∧ IsTup s.heap b #[u, q.2] ∧ keyIs q.1 u = true := by
    have aux : ∀ n, n ≤ prs.length → ∃ us : List Value, us.length = n ∧ ∀ (j : Nat) (q : Key × Value), j < n → prs[j]? = some q → ∃ (b : Addr) (u : Value), ps[j]? = some b ∧ us[j]? = some u ∧ IsTup s.heap b #[u, q.2] ∧ keyIs q.1 u = true := by
      intro n
      induction n with
      | zero => exact fun _ => ⟨[], rfl, fun j q h => absurd h (by omega)⟩
      | succ n ih =>
        intro hn
        obtain ⟨us, h1, h2⟩ := ih (by omega)
        obtain ⟨b, u, e1, e2, e3⟩ := hpr n prs[n] (List.getElem?_eq_getElem (by omega))
        refine ⟨us ++ [u], by simp [h1], fun j q hj e => ?_⟩
        by_cases hjn : j < n
        · obtain ⟨b', u', k1, k2, k3, k4⟩ := h2 j q hjn e
          exact ⟨b', u', k1, by rw [List.getElem?_append_left (by omega)]; exact k2, k3, k4⟩
        · have ej : j = n := by omega
          subst ej
          rw [List.getElem?_eq_getElem (by omega)] at e
          cases e
          exact ⟨b, u, e1, by rw [List.getElem?_append_right (by omega)]; simp [h1], e2, e3⟩
    obtain ⟨us, h1, h2⟩ := aux prs.length (Nat.le_refl _)
    exact ⟨us, h1, fun j q e => h2 j q ((List.getElem?_eq_some_iff.mp e).1) e⟩
  obtain ⟨ks, hkl, hks⟩ := hus
  let raw : List (Value × Value) := ks.zip (prs.map Prod.snd)
  have hrl : raw.length = ps.length := by simp [raw, hkl, hl]
  have hraw : ∀ (j : Nat) (k v : Value), raw[j]? = some (k, v) → ∃ q : Key × Value, prs[j]? = some q ∧ ks[j]? = some k ∧ q.2 = v := fun j k v e => by
    have e' := List.getElem?_zip_eq_some.mp e
    obtain ⟨e1, e2⟩ := e'
    simp only at e1 e2
    rw [List.getElem?_map] at e2
    cases q : prs[j]? with
    | none => rw [q] at e2; cases e2
    | some x => rw [q] at e2; exact ⟨x, rfl, e1, by simpa using e2⟩
  have P := PairArg.tuple (prog := X.prog) (w := X.w) a (ps.map Value.ref).toArray (fun j => ps.getD j 0) raw
  have ok : PlainSeq "tuple" s.heap a (ps.map Value.ref).toArray ∧ PairItems s.heap (ps.map Value.ref).toArray (fun j => ps.getD j 0) raw := by
    refine ⟨⟨o, n, ho, hc2, hd, hdat⟩, by simp [hrl], fun j k v e => ?_⟩
    obtain ⟨q', e1, e2, e3⟩ := hraw j k v e
    obtain ⟨b, u, k1, k2, k3, k4⟩ := hks j q' e1
    rw [e2] at k2
    cases k2
    have eb : ps.getD j 0 = b := by rw [List.getD_eq_getElem?_getD, k1]; rfl
    refine ⟨by simp [k1, eb], .inl ?_⟩
    show s.heap.IsTuple (ps.getD j 0) #[k, v]
    rw [eb, ← e3]
    exact k3
  have hv : PairsHave (mixKind X.prog X.w) raw.length (PairRel raw) prs := ⟨by rw [hrl, hl], fun j k v e => by
    obtain ⟨q', e1, e2, e3⟩ := hraw j k v e
    obtain ⟨b, u, k1, k2, k3, k4⟩ := hks j q' e1
    rw [e2] at k2
    cases k2
    exact ⟨q'.1, by rw [e1, ← e3], k4⟩⟩
  refine PySem.call_dict_pairs (knd := mixKind X.prog X.w) P (I.ok.hd hc) ok hv (by rw [hrl]; exact hz) fun h' tk hd' k => ?_
  have hm : (s.heap.objs.size == sysModules) = false := beq_eq_false_iff_ne.mpr (Nat.ne_of_gt I.big)
  have hlen : (mergeK [] kvs).length ≤ sizeLine := by
    refine Nat.le_trans (length_mergeK kvs []) ?_
    rw [List.length_nil, Nat.zero_add, rel.length, hl]
    exact hz
  exact ⟨.ref s.heap.objs.size, upd H s.heap.objs.size (.dK (mergeK [] kvs)), I.laid (t' := tk) (fun b ob e => k b ob (fun z => by cases z) e) (Nat.le_refl _) (show ObjOk X.prog X.w _ _ _ (.dK (mergeK [] kvs)) from ⟨hlen, hm, merged [] prs, KV.merge rel .nil, hd'⟩), rfl, q _ (I.hok.fresh (Nat.le_refl _))⟩
variable {e : Expr} {te : TE} {pos : Pos}
def iEnumX (K : PySem.W.Frag) (ta : TA) : TI := fun σ H R => iEnum K ta σ H R ∨ ta σ H fun vs H1 => ∃ a xs, vs = [.ref a] ∧ SqT K H1 a xs ∧ R (IteT K a) H1
theorem pi_enumK (hK : X.K = K) {ta : TA} {p tpos : Pos} {elts : List Expr} {kk : Nat} (hg : Gl X "enumerate") (hm : X.mg "enumerate" = none) (ha : PA X [e] ta) (hs : starEach [e] X.env = [(false, eval e X.env)] := by rfl) :
    PI X (.Tuple elts kk tpos) (.Call (.Name "enumerate" p) [e] [] pos) (iEnumX K ta) := by
  subst hK
  refine PI.or (pi_enum hg hm ha hs) ⟨fun pins s σ H R I h => ?_⟩
  refine Call_ (ld_blt I hg hm boot_enumerate (PyProof.Rows.callWith_type1 (thn (ha.run pos pins s σ H _ I h) fun us s1 ⟨vs, H1, I1, r1, q1⟩ => ?_) hs rfl))
  obtain ⟨a, xs, ex, hq, q⟩ := q1
  subst ex
  cases r1 with
  | cons r rr =>
    cases rr
    cases r
    obtain ⟨its, rv, p', hz⟩ := I1.tuple hq
    refine enum_begins1 (begins_tuple a its.toArray) (show s1.heap.IsTuple a its.toArray from p') fun h' he hit hsz hk => wpAny_pyIter_enum he ?_
    have I2 : Inv X pins σ H1 { s1 with heap := h' } := I1.kept (t' := s1.toks) hk
    refine ⟨s1.heap.objs.size + 1, [s1.heap.objs.size + 1, s1.heap.objs.size], _, _, H1, rfl, I2, turn_enumT a (s1.heap.objs.size + 1) s1.heap.objs.size, ⟨⟨.none, he⟩, ⟨_, hit, rfl, rfl⟩, Nat.succ_ne_self _⟩, fun b hb => ?_, q⟩
    have hle : s1.heap.objs.size ≤ b := by
      have e' : b = s1.heap.objs.size + 1 ∨ b = s1.heap.objs.size := by simpa using hb
      rcases e' with z | z
      · rw [z]; exact Nat.le_add_right _ _
      · rw [z]; exact Nat.le_refl _
    exact I1.fpOk hle (I1.hok.fresh hle)
def iZipX (K : PySem.W.Frag) (ta : TA) : TI := fun σ H R => iZipA K ta σ H R ∨ ta σ H fun vs H1 => ∃ a b xs ys, vs = [.ref a, .ref b] ∧ SqL K H1 a xs ∧ SqT K H1 b ys ∧ R (ItzM K a b) H1
theorem pi_zipX (hK : X.K = K) {e2 : Expr} {ta : TA} {p tpos : Pos} {elts : List Expr} {kk : Nat} (hg : Gl X "zip") (hm : X.mg "zip" = none) (ha : PA X [e, e2] ta)
    (hs : starEach [e, e2] X.env = (false, eval e X.env) :: starEach [e2] X.env := by rfl) (hpl : (backTo pos (starEach [e2] X.env)).any (·.1) = false := by rfl) :
    PI X (.Tuple elts kk tpos) (.Call (.Name "zip" p) [e, e2] [] pos) (iZipX K ta) := by
  subst hK
  refine PI.or (pi_zipA hg hm ha hs hpl) ⟨fun pins s σ H R I h => ?_⟩
  refine Call_ (ld_blt I hg hm PyProof.Rows.boot_zip (PyProof.Rows.callWith_type1 (thn (ha.run pos pins s σ H _ I h) fun us s1 ⟨vs, H1, I1, r1, q1⟩ => ?_) hs hpl))
  obtain ⟨a, b, xs, ys, ex, hqx, hqy, q⟩ := q1
  subst ex
  obtain ⟨u1, u2, rfl, r, r'⟩ := vals2 r1
  cases r
  cases r'
  obtain ⟨its, rv, p1, _⟩ := I1.list hqx
  obtain ⟨its2, rv2, p2, _⟩ := I1.tuple hqy
  obtain ⟨o2, ho2, _⟩ := id p2
  refine zip_begins2 (begins_list a its.toArray) (begins_tuple b its2.toArray) p1.isList (show s1.heap.IsTuple b its2.toArray from p2) fun h' hz hTI hTO h1 h2 hsz hk => wpAny_pyIter_zip hz ?_
  have I2 : Inv X pins σ H1 { s1 with heap := h' } := I1.kept (t' := s1.toks) hk
  have D : ZipSep2 (s1.heap.objs.size + 4) (s1.heap.objs.size + 2) (s1.heap.objs.size + 3) s1.heap.objs.size (s1.heap.objs.size + 1) [s1.heap.objs.size, a] [s1.heap.objs.size + 1, b] :=
    zip_sep2 (fun c hc => by rw [List.mem_singleton.mp hc]; exact p1.lt) (fun c hc => by rw [List.mem_singleton.mp hc]; exact Heap.lt_size ho2)
  refine ⟨s1.heap.objs.size + 4, [s1.heap.objs.size + 4, s1.heap.objs.size + 2, s1.heap.objs.size + 3, s1.heap.objs.size, s1.heap.objs.size + 1], _, _, H1, rfl, I2, turn_zipM D, ⟨hz, hTI, ⟨_, _, hTO⟩, ⟨_, h1, rfl, rfl⟩, ⟨_, h2, rfl, rfl⟩⟩, fun c hcm => ?_, q⟩
  have hle : s1.heap.objs.size ≤ c := by
    have e' : c = s1.heap.objs.size + 4 ∨ c = s1.heap.objs.size + 2 ∨ c = s1.heap.objs.size + 3 ∨ c = s1.heap.objs.size ∨ c = s1.heap.objs.size + 1 := by simpa using hcm
    rcases e' with z | z | z | z | z
    · rw [z]; exact Nat.le_add_right _ _
    · rw [z]; exact Nat.le_add_right _ _
    · rw [z]; exact Nat.le_add_right _ _
    · rw [z]; exact Nat.le_refl _
    · rw [z]; exact Nat.le_add_right _ _
  exact I1.fpOk hle (I1.hok.fresh hle)
end
end CW
namespace CW
open PySem PySem.Spec PyProof.Rows L2 StX RZ
theorem cr_sortedRevK {X : Cx} {K : PySem.W.Frag} (hK : X.K = K) {b : Bool} : CallRK X (.builtin "sorted") [Str.ofString "reverse"] (rSortedKw K b [.bl b]) := hK ▸ cr_sortedRev
end CW
end R5x
section B0x
set_option Elab.async false
set_option linter.all false
set_option maxRecDepth 100000
/-! More of what the readings come to. -/
namespace CW
open PySem PySem.Spec PyProof.Rows L2 StX RZ
section
variable {K : PySem.W.Frag} {W : Wd} {ρ : List Sl} {ta tb te : TE} {t u : TT} {a b d : PyData} {i j : Int}
theorem et_test {x : Bool} (h : EvD K W te ρ (.bool x)) : EvT K W (tTest te) ρ x := fun σ H n e o Q q =>
  h σ H n e o _ fun v H1 _ s1 dx ex => by
    subst ex
    cases dx
    exact ⟨x, rfl, q _ s1⟩
def tyD : PyData → String
  | .none => "NoneType"
  | .bool _ => "bool"
  | .int _ => "int"
  | .str _ => "str"
  | .list _ => "list"
  | .tuple _ => "tuple"
  | _ => ""
theorem Is.ty {H : Hp} {x : V} (h : Is K H x d) : TyX K H x (.type (tyD d)) := by
  cases h with
  | non => exact .base .non
  | bl b => exact .base (.bl b)
  | int i => exact .base (.int i)
  | str z => exact .base (.str z)
  | lst h _ =>
    rcases h with (h | ⟨o, h⟩) | ⟨o, its, n, h, hc, _⟩
    · exact .base (.lst h)
    · exact .base (.frz h)
    · exact .kList h hc
  | tup h _ =>
    rcases h with (h | ⟨o, h⟩) | ⟨o, its, n, h, hc, _⟩
    · exact .base (.tup h)
    · exact .fTuple h
    · exact .kTuple h hc
theorem ev_isi {T : String} {r : Bool} (ha : EvD K W ta ρ d) (h : kitB (tyD d) T = some r) : EvD K W (tCB (rIsi K) (tCons ta (tCons (tC (.ty T)) tNil))) ρ (.bool r) := fun σ H n e o Q q =>
  ha σ H n e o _ fun v H1 x s1 dx ex => by
    subst ex
    exact ⟨v, .ty T, .type (tyD x), .type T, r, rfl, .ty T, (dx.mono fr_le).ty, kit_ty h, q _ _ _ s1 (.bl r) rfl⟩
theorem ev_isi2 {T1 T2 : String} {r1 r2 : Bool} (ha : EvD K W ta ρ d) (h1 : kitB (tyD d) T1 = some r1) (h2 : kitB (tyD d) T2 = some r2) : EvD K W (tCB (rIsiT K) (tCons ta (tCons (tTup (tCons (tC (.ty T1)) (tCons (tC (.ty T2)) tNil))) tNil))) ρ (.bool (r1 || r2)) := fun σ H n e o Q q =>
  ha σ H n e o _ fun v H1 x s1 dx ex => by
    subst ex
    refine ⟨sz (by show [V.ty T1, V.ty T2].length ≤ _; simp), fun p hp => ⟨v, p, [.ty T1, .ty T2], .type (tyD x), [.type T1, .type T2], r1 || r2, rfl, upd_same, .cons (.ty T1) (.cons (.ty T2) .nil), ?_, ?_, ?_⟩⟩
    · exact ((dx.mono fr_le).mono (Same.new hp)).ty
    · refine kitAny_cons (kit_ty h1) (fun e1 => kitAny_cons (kit_ty h2) (fun e2 => ?_) (fun e2 => ?_)) (fun e1 => ?_)
      · subst e1 e2; rfl
      · subst e1 e2; rfl
      · subst e1; simp
    · exact q _ _ _ (Same.put s1 (free_back s1 hp)) (.bl _) rfl
/-! texts -/
theorem ev_str1 (ha : EvD K W ta ρ (.int i)) (hs : i.natAbs.log2 < 1920) : EvD K W (tCB rStrI (tCons ta tNil)) ρ (.str (CK.nS i)) := ev_cb (ea_cons ha ea_nil) fun vs H n dv o Q q => by
  cases dv with
  | cons h1 h2 =>
    cases h2
    cases h1
    exact ⟨i, rfl, hs, q _ _ _ (Same.refl H) (.str _) rfl⟩
theorem ev_int1 (ha : EvD K W ta ρ (.int i)) : EvD K W (tCB rInt1 (tCons ta tNil)) ρ (.int i) := ev_cb (ea_cons ha ea_nil) fun vs H n dv o Q q => by
  cases dv with
  | cons h1 h2 =>
    cases h2
    cases h1
    exact .inl ⟨i, rfl, q _ _ _ (Same.refl H) (.int _) rfl⟩
theorem ev_intB {x : Bool} (ha : EvD K W ta ρ (.bool x)) : EvD K W (tCB rInt1 (tCons ta tNil)) ρ (.int (if x then 1 else 0)) := ev_cb (ea_cons ha ea_nil) fun vs H n dv o Q q => by
  cases dv with
  | cons h1 h2 =>
    cases h2
    cases h1
    exact .inr ⟨x, rfl, q _ _ _ (Same.refl H) (.int _) rfl⟩
theorem ev_intS {z : PySem.Str} (ha : EvD K W ta ρ (.str z)) (h : PySem.intText? z = some i) (hl : z.length ≤ 640) : EvD K W (tCB rIntS (tCons ta tNil)) ρ (.int i) := ev_cb (ea_cons ha ea_nil) fun vs H n dv o Q q => by
  cases dv with
  | cons h1 h2 =>
    cases h2
    cases h1
    exact ⟨z, i, rfl, h, hl, q _ _ _ (Same.refl H) (.int _) rfl⟩
theorem ev_abs (ha : EvD K W ta ρ (.int i)) : EvD K W (tCB rAbs (tCons ta tNil)) ρ (.int (if i < 0 then -i else i)) := ev_cb (ea_cons ha ea_nil) fun vs H n dv o Q q => by
  cases dv with
  | cons h1 h2 =>
    cases h2
    cases h1
    exact ⟨i, rfl, q _ _ _ (Same.refl H) (.int _) rfl⟩
theorem ev_join {z : PySem.Str} {ys : List PySem.Str} (ha : EvD K W ta ρ (.str z)) (hb : EvD K W tb ρ (.list (ys.map .str))) (hl : (ys.map (·.length)).sum + ys.length * z.length ≤ 16777216) : EvD K W (tM1 (rJoinX K) ta tb) ρ (.str (Txt.join z ys)) := fun σ H n e o Q q =>
  ha σ H n e o _ fun x H1 _ s1 dx ex => by
    subst ex
    cases dx
    refine ⟨⟨z, rfl⟩, hb σ H1 n (e.mono (fr_to s1)) (o.to s1) _ fun y H2 _ s2 dy ey => ?_⟩
    subst ey
    cases dy with
    | lst h1 h2 => exact ⟨z, _, ys, rfl, rfl, .inl (by rw [← h2.strs]; exact Same.seq fr_le h1), hl, q _ _ _ (s1.trans s2) (.str _) rfl⟩
theorem ev_split {z y : PySem.Str} {ws : List PySem.Str} (ha : EvD K W ta ρ (.str z)) (hb : EvD K W tb ρ (.str y)) (h0 : (y.length == 0) = false) (hl : z.length + 2 ≤ 16777216) (hw : Txt.split z y = ws) : EvF K W (tM1 rSplitX ta tb) ρ (ws.map .str) := fun σ H n e o Q q =>
  ha σ H n e o _ fun x H1 _ s1 dx ex => by
    subst ex
    cases dx
    refine ⟨⟨z, rfl⟩, hb σ H1 n (e.mono (fr_to s1)) (o.to s1) _ fun v H2 _ s2 dy ey => ?_⟩
    subst ey
    cases dy
    refine ⟨z, y, rfl, rfl, h0, sz hl, fun p hp => ?_⟩
    rw [hw]
    exact q p _ _ (free_back (s1.trans s2) hp) (Same.put (s1.trans s2) (free_back (s1.trans s2) hp)) upd_same (isAll_strs _)
theorem ev_inSign {c : Nat} {z : PySem.Str} (ha : EvD K W ta ρ (.str ⟨#[c]⟩)) (hb : EvD K W tb ρ (.str z)) : EvD K W (tOp rInSign ta tb) ρ (.bool (decide (c ∈ z.cps.toList))) := ev_op ha hb fun x y H n dx dy o Q q => by
  cases dx
  cases dy
  exact ⟨c, z, rfl, rfl, q _ _ _ (Same.refl H) (.bl _) rfl⟩
theorem ev_notInSign {c : Nat} {w z : PySem.Str} (hw : w = ⟨#[c]⟩) (ha : EvD K W ta ρ (.str w)) (hb : EvD K W tb ρ (.str z)) : EvD K W (tOp rNotInSign ta tb) ρ (.bool (!decide (c ∈ z.cps.toList))) := by
  subst hw
  exact ev_op ha hb fun x y H n dx dy o Q q => by
    cases dx
    cases dy
    exact ⟨c, z, rfl, rfl, q _ _ _ (Same.refl H) (.bl _) rfl⟩
theorem flat_ints (ns : List Int) : (ns.map V.int).all flatV = true := by
  rw [List.all_eq_true]
  intro v hv
  obtain ⟨n, _, rfl⟩ := List.mem_map.mp hv
  rfl
theorem none_ints (ns : List Int) : inV .non (ns.map V.int) = false := by
  unfold inV
  rw [List.any_eq_false]
  intro v hv
  obtain ⟨n, _, rfl⟩ := List.mem_map.mp hv
  simp [eqV]
theorem ev_noneIn {ns : List Int} (hb : EvD K W tb ρ (.tuple (ns.map .int))) : EvD K W (tOp (rIn K false) (tC .non) tb) ρ (.bool false) := ev_op ev_non hb fun x y H n dx dy o Q q => by
  cases dx
  cases dy with
  | tup h1 h2 =>
    have e := h2.ints
    subst e
    refine ⟨_, _, rfl, .inr (sqT_mono fr_le h1), rfl, flat_ints ns, ?_⟩
    rw [none_ints]
    exact q _ _ _ (Same.refl H) (.bl false) rfl
/-- f'{a}-{b}' -/
theorem ev_joined {x y : Int} {m : PySem.Str} (ha : EvD K W ta ρ (.int x)) (hb : EvD K W tb ρ (.int y)) (lx : x.natAbs.log2 < 1920) (ly : y.natAbs.log2 < 1920) (hl : (((Str.empty ++ CK.nS x) ++ m) ++ CK.nS y).length ≤ 1000) :
    EvD K W (fun σ H Q => tJs [tFmt ta, tC (.str m), tFmt tb] Str.empty σ H fun out H1 => Q (.str out) H1) ρ (.str (((Str.empty ++ CK.nS x) ++ m) ++ CK.nS y)) := fun σ H n e o Q q =>
  ha σ H n e o _ fun v H1 _ s1 dx ex => by
    subst ex
    cases dx
    have l1 : ∀ a b : PySem.Str, (a ++ b).length = a.length + b.length := fun a b => by rw [TL.len_tl, TL.tl_append, List.length_append, ← TL.len_tl, ← TL.len_tl]
    rw [l1, l1] at hl
    refine .inr ⟨x, rfl, lx, CK.nS x, rfl, sz (by show (Str.empty ++ CK.nS x).length ≤ _; omega), m, rfl, sz (by rw [l1]; omega), ?_⟩
    refine hb σ H1 n (e.mono (fr_to s1)) (o.to s1) _ fun w H2 _ s2 dy ey => ?_
    subst ey
    cases dy
    refine .inr ⟨y, rfl, ly, CK.nS y, rfl, sz (by rw [l1, l1]; omega), q _ _ _ (s1.trans s2) (.str _) rfl⟩
/-! iteration -/
variable {ds es : List PyData}
theorem ei_anyL (h : EvD K W te ρ (.list ds)) : EvI K W (iAny K te) ρ ds := fun σ H n e o R q => .inl (ei_list h σ H n e o R q)
theorem ei_anyT (h : EvD K W te ρ (.tuple ds)) : EvI K W (iAny K te) ρ ds := fun σ H n e o R q => .inr (.inl (ei_tup h σ H n e o R q))
theorem ei_anyS {z : PySem.Str} (h : EvD K W te ρ (.str z)) : EvI K W (iAny K te) ρ (z.cps.toList.map fun c => .str ⟨#[c]⟩) := fun σ H n e o R q => .inr (.inr (.inl (ei_str h σ H n e o R q)))
theorem ei_zipXL (h : EvD K W ta ρ (.list ds)) (h' : EvD K W tb ρ (.list es)) : EvI K W (iZipX K (tCons ta (tCons tb tNil))) ρ (zipD ds es) := fun σ H n e o R q => .inl (ei_zipL h h' σ H n e o R q)
theorem ei_zipXT (h : EvD K W ta ρ (.tuple ds)) (h' : EvD K W tb ρ (.tuple es)) : EvI K W (iZipX K (tCons ta (tCons tb tNil))) ρ (zipD ds es) := fun σ H n e o R q => .inl (ei_zipT h h' σ H n e o R q)
theorem ei_enumXL (h : EvD K W ta ρ (.list ds)) : EvI K W (iEnumX K (tCons ta tNil)) ρ (enumD ds) := fun σ H n e o R q => .inl (ei_enumL h σ H n e o R q)
theorem wk_enumT {F : Hp} {p : Addr} {xs : List V} (h : SqT K F p xs) (hv : IsAll K F xs ds) : Wk K F (IteT K p) (enumD ds) := by
  have hl := hv.len
  have hn : (enumD ds).length = ds.length := by rw [enumD, zipD_len, rangeD_len]; omega
  refine ⟨fun i H hi s => ?_, fun H s => ?_, fun W' n i H x H' hi s o y => ?_⟩
  · rw [hn, ← hl] at hi
    exact ⟨xs, xs[i], sqT_mono s h, List.getElem?_eq_getElem hi⟩
  · rw [hn, ← hl]
    exact ⟨xs, sqT_mono s h, rfl⟩
  · rw [hn] at hi
    obtain ⟨T, x1, e1, hT, e2, q2⟩ := y
    subst e1 e2
    obtain ⟨d2, k3, k4⟩ := hv.get' (q2 xs (sqT_mono (Same.trans s fr_le) h))
    refine ⟨Same.new hT, _, zipD_get (rangeD_get hi) k3, is_pair o hT ?_ (k4.mono s)⟩
    have e0 : ((0 : Int) + (i : Int)) = (i : Int) := by omega
    rw [e0]
    exact .int _
theorem ei_enumXT (h : EvD K W ta ρ (.tuple ds)) : EvI K W (iEnumX K (tCons ta tNil)) ρ (enumD ds) := fun σ H n e o R q => .inr (h σ H n e o _ fun v H1 _ s1 dx ex => by
    subst ex
    cases dx with
    | tup h1 h2 => exact ⟨_, _, rfl, sqT_mono fr_le h1, q _ _ s1 (wk_enumT h1 h2)⟩)
theorem wk_zipM {F : Hp} {p r : Addr} {xs ys : List V} (h : SqL K F p xs) (hv : IsAll K F xs ds) (h' : SqT K F r ys) (hv' : IsAll K F ys es) : Wk K F (ItzM K p r) (zipD ds es) := by
  have hl := hv.len
  have hl' := hv'.len
  refine ⟨fun i H hi s => ?_, fun H s => ?_, fun W' n i H x H' hi s o y => ?_⟩
  · rw [zipD_len, ← hl, ← hl'] at hi
    exact ⟨xs, ys, xs[i]'(by omega), ys[i]'(by omega), Same.seq s h, sqT_mono s h', List.getElem?_eq_getElem _, List.getElem?_eq_getElem _⟩
  · rw [zipD_len, ← hl, ← hl']
    exact ⟨xs, ys, Same.seq s h, sqT_mono s h', rfl⟩
  · obtain ⟨T, x1, y1, e1, hT, e2, q1, q2⟩ := y
    subst e1 e2
    have s2 := Same.trans s (fr_le (W := W'))
    obtain ⟨d1, k1, k2⟩ := hv.get' (q1 xs (Same.seq s2 h))
    obtain ⟨d2, k3, k4⟩ := hv'.get' (q2 ys (sqT_mono s2 h'))
    exact ⟨Same.new hT, _, zipD_get k1 k3, is_pair o hT (k2.mono s) (k4.mono s)⟩
theorem ei_zipXM (h : EvD K W ta ρ (.list ds)) (h' : EvD K W tb ρ (.tuple es)) : EvI K W (iZipX K (tCons ta (tCons tb tNil))) ρ (zipD ds es) := fun σ H n e o R q => .inr (h σ H n e o _ fun v H1 _ s1 dx ex => by
    subst ex
    refine h' σ H1 n (e.mono (fr_to s1)) (o.to s1) _ fun w H2 _ s2 dy ey => ?_
    subst ey
    cases dx with
    | lst h1 h2 =>
      cases dy with
      | tup h3 h4 => exact ⟨_, _, _, _, rfl, Same.seq s2 (Same.seq fr_le h1), sqT_mono fr_le h3, q _ _ (s1.trans s2) (wk_zipM (Same.seq (fr_to s2) h1) (h2.mono (fr_to s2)) h3 h4)⟩)
/-! sums of sequences -/
theorem rv_catT (hl : ds.length + es.length ≤ 16777216) : RvD K W (rPlus K) (.tuple ds) (.tuple es) fun x => x = .tuple (ds ++ es) := fun x y H n dx dy o Q q => by
  cases dx with
  | tup h1 h2 =>
    cases dy with
    | tup h3 h4 =>
      refine .inr (.inr ⟨_, _, _, _, rfl, rfl, sqT_mono fr_le h1, sqT_mono fr_le h3, by rw [h2.len, h4.len]; exact sz hl, fun e => ?_, fun e1 e2 => ?_, fun _ _ p hp => ?_⟩)
      · subst e
        cases h2
        exact q _ _ _ (Same.refl H) (.tup h3 h4) rfl
      · subst e2
        cases h4
        refine q _ _ _ (Same.refl H) (.tup h1 h2) (by rw [List.append_nil])
      · exact q _ _ _ (Same.new hp) (is_tup o hp (h2.append h4)) rfl
theorem ev_catT (ha : EvD K W ta ρ (.tuple ds)) (hb : EvD K W tb ρ (.tuple es)) (hl : ds.length + es.length ≤ 16777216) : EvD K W (tOp (rPlus K) ta tb) ρ (.tuple (ds ++ es)) := ev_op ha hb (rv_catT hl)
/-- a list that is tracked -/
def EvR (K : PySem.W.Frag) (W : Wd) (te : TE) (ρ : List Sl) (ds : List PyData) : Prop := ∀ (σ : L2.St) (H : Hp) (n : Nat), Env K (W.fr H) σ ρ → W.ok n H → ∀ Q : VK, (∀ p H' vs, Same H H' → W.fr H' p = some (.lst vs) → IsAll K (W.fr H') vs ds → Q (.ref p) H') → te σ H Q
theorem EvF.tr (h : EvF K W te ρ ds) : EvR K W te ρ ds := fun σ H n e o Q q => h σ H n e o Q fun p H' vs hf s hp hv => q p H' vs s (by show off W.ps H' p = _; rw [off_get (o.free hf)]; exact hp) (hv.mono (off_sub (fun _ h => List.mem_cons_of_mem _ h) _))
theorem ef_catL (ha : EvR K W ta ρ ds) (hb : EvR K W tb ρ es) (hl : ds.length + es.length ≤ 16777216) : EvF K W (tOp (rPlus K) ta tb) ρ (ds ++ es) := fun σ H n e o Q q =>
  ha σ H n e o _ fun p H1 vs s1 h1 a1 => hb σ H1 n (e.mono (fr_to s1)) (o.to s1) _ fun r H2 ws s2 h2 a2 =>
    .inr (.inl ⟨p, r, vs, ws, rfl, rfl, off_le _ _ _ _ (fr_to (W := W) s2 _ _ h1), off_le _ _ _ _ h2, by rw [a1.len, a2.len]; exact sz hl, fun l hl => q l _ _ (free_back (s1.trans s2) hl) (Same.put (s1.trans s2) (free_back (s1.trans s2) hl)) upd_same (new_off hl ((a1.mono (fr_to s2)).append a2))⟩)
/-! min, sorted, reversed -/
theorem ev_minT {ns : List Int} {m : Int} (ha : EvD K W ta ρ (.tuple (ns.map .int))) (h0 : ns ≠ []) (hm : ∀ x, x ∈ ns → (∀ y ∈ ns, x ≤ y) → x = m) : EvD K W (tCB (rMinX K) (tCons ta tNil)) ρ (.int m) := ev_cb (ea_cons ha ea_nil) fun vs H n dv o Q q => by
  cases dv with
  | cons h1 h2 =>
    cases h2
    cases h1 with
    | tup h3 h4 =>
      have e := h4.ints
      subst e
      refine .inr ⟨_, ns, rfl, sqT_mono fr_le h3, List.length_pos_iff.mpr h0, fun x hx hy => ?_⟩
      rw [hm x hx hy]
      exact q _ _ _ (Same.refl H) (.int _) rfl
theorem isAll_map {α : Type} {f : α → PyData} {H : Hp} {xs : List α} {vs : List V} (h : IsAll K H vs (xs.map f)) {i : Nat} {v : V} (e : vs[i]? = some v) : ∃ x, xs[i]? = some x ∧ Is K H v (f x) := by
  obtain ⟨d, h1, h2⟩ := h.get' e
  rw [List.getElem?_map] at h1
  cases q : xs[i]? with
  | none => rw [q] at h1; cases h1
  | some x => rw [q] at h1; cases h1; exact ⟨x, rfl, h2⟩
/-- the pairs (a, b), or (a, (b,)) -/
def secD (k : Bool) (b : Int) : PyData := if k then .tuple [.int b] else .int b
def prD (k : Bool) (p : Int × Int) : PyData := .tuple [.int p.1, secD k p.2]
theorem ev_minP {k : Bool} {ps : List (Int × Int)} {m : Int × Int} (ha : EvD K W ta ρ (.list (ps.map (prD k)))) (hm : CK.minPair ps = some m) : EvD K W (tCB (rMinX K) (tCons ta tNil)) ρ (prD k m) := ev_cb (ea_cons ha ea_nil) fun vs H n dv o Q q => by
  cases dv with
  | cons h1 h2 =>
    cases h2
    cases h1 with
    | lst h3 h4 =>
      have hl := h4.len
      rw [List.length_map] at hl
      have hp : 0 < ps.length := by
        cases ps with
        | nil => cases hm
        | cons _ _ => simp
      refine .inl ⟨_, _, k, fun i => ps.getD i (0, 0), rfl, Same.seq fr_le h3, by omega, fun i x e => ?_, fun i x e hx => ?_⟩
      · obtain ⟨p, e1, e2⟩ := isAll_map h4 e
        have e3 : ps.getD i (0, 0) = p := by rw [List.getD_eq_getElem?_getD, e1]; rfl
        simp only [e3]
        cases e2 with
        | tup g1 g2 =>
          cases g2 with
          | cons g2 g3 =>
            cases g3 with
            | cons g3 g4 =>
              cases g4
              cases g2
              refine ⟨_, _, rfl, sqT_mono fr_le g1, ?_⟩
              cases k with
              | false => cases g3; rfl
              | true =>
                cases g3 with
                | tup f1 f2 =>
                  cases f2 with
                  | cons f2 f3 =>
                    cases f3
                    cases f2
                    exact ⟨_, rfl, sqT_mono fr_le f1⟩
      · obtain ⟨p, e1, e2⟩ := isAll_map h4 e
        have e3 : ps.getD i (0, 0) = p := by rw [List.getD_eq_getElem?_getD, e1]; rfl
        obtain ⟨m1, m2⟩ := CK.minPair_spec hm
        have e4 : p = m := by
          obtain ⟨j, hj, e5⟩ := List.getElem_of_mem m1
          have q1 := hx j (by omega)
          simp only [e3] at q1
          rw [List.getD_eq_getElem?_getD, List.getElem?_eq_getElem hj] at q1
          simp only [Option.getD_some, e5] at q1
          exact CK.pairLt_anti (m2 p (List.mem_of_getElem? e1)) q1
        subst e4
        exact q _ _ _ (Same.refl H) e2 rfl
theorem ef_sortedT {ns ms : List Int} (ha : EvD K W ta ρ (.tuple (ns.map .int))) (hp : ms.Perm ns) (hs : ms.Pairwise (· ≤ ·)) : EvF K W (tCB (rSortedT K) (tCons ta tNil)) ρ (ms.map .int) := ef_cb (ea_cons ha ea_nil) fun vs H n dv o Q q => by
  cases dv with
  | cons h1 h2 =>
    cases h2
    cases h1 with
    | tup h3 h4 =>
      refine ⟨_, ns, rfl, by rw [← h4.ints]; exact sqT_mono fr_le h3, fun ns' p pp ps hp' => ?_⟩
      have e : ns' = ms := List.Perm.eq_of_pairwise (fun x y _ _ h1 h2 => Int.le_antisymm h1 h2) ps hs (pp.trans hp.symm)
      subst e
      exact q _ _ _ hp' (Same.new hp') upd_same (isAll_ints _)
theorem ev_revT (ha : EvD K W te ρ (.tuple ds)) : EvD K W (tRevT K te) ρ (.tuple ds.reverse) := fun σ H n e o Q q =>
  ha σ H n e o _ fun v H1 _ s1 dx ex => by
    subst ex
    cases dx with
    | tup h1 h2 => exact ⟨_, _, rfl, sqT_mono fr_le h1, fun p hp => q _ _ _ (Same.put s1 (free_back s1 hp)) (is_tup (o.to s1) hp h2.rev) rfl⟩
/-- tuple(sorted(xs, reverse=True)) -/
theorem ef_sortedR {ns ms : List Int} (ha : EvD K W ta ρ (.list (ns.map .int))) (hp : ms.Perm ns) (hs : ms.Pairwise (· ≥ ·)) : EvF K W (tCKw (rSortedKw K true [.bl true]) (tCons ta tNil) (tCons (tC (.bl true)) tNil)) ρ (ms.map .int) := fun σ H n e o Q q =>
  ha σ H n e o _ fun v H1 _ s1 dx ex => by
    subst ex
    cases dx with
    | lst h3 h4 =>
      refine ⟨_, ns, rfl, rfl, by rw [← h4.ints]; exact Same.seq fr_le h3, fun ns' p pp ps hp' => ?_⟩
      have e : ns' = ms := List.Perm.eq_of_pairwise (fun x y _ _ h1 h2 => Int.le_antisymm h2 h1) ps hs (pp.trans hp.symm)
      subst e
      exact q _ _ _ (free_back s1 hp') (Same.put s1 (free_back s1 hp')) upd_same (isAll_ints _)
end
end CW
end B0x
section W6x
set_option Elab.async false
set_option linter.all false
set_option maxRecDepth 100000
/-! Comprehensions over what the items stand for; pairs; a def's promise. -/
namespace CW
open PySem PySem.Spec PyProof.Rows L2 StX RZ
section
variable {K : PySem.W.Frag} {W B : Wd} {ρ : List Sl} {te : TE} {tt : TT} {wi : TI} {g : TG} {vs js : List Nat}
def outT {α : Type} (f : α → Bool) (h : α → PyData) (ds : List α) (i : Nat) : List PyData := ((ds.take i).filter f).map h
theorem outT_len {α : Type} (f : α → Bool) (h : α → PyData) (ds : List α) (i : Nat) : (outT f h ds i).length ≤ i := by
  unfold outT
  rw [List.length_map]
  exact Nat.le_trans (List.length_filter_le _ _) (by simp; omega)
theorem outT_succ {α : Type} {f : α → Bool} {h : α → PyData} {ds : List α} {i : Nat} {d : α} (e : ds[i]? = some d) : outT f h ds (i + 1) = if f d then outT f h ds i ++ [h d] else outT f h ds i := by
  unfold outT
  rw [List.take_add_one, e]
  simp only [Option.toList_some, List.filter_append, List.map_append]
  by_cases q : f d = true
  · simp [q]
  · have q' : f d = false := by simpa using q
    simp [q']
/-- [e for x in .. if ..], the items told by what they stand for -/
theorem ef_lcT {α : Type} {ds : List α} {enc : α → PyData} (hi : EvI K W wi ρ (ds.map enc)) (f : α → Bool) (h : α → PyData) (ρd : α → List Sl) (hjs : ∀ j ∈ js, j ∈ vs)
    (hg : ∀ d ∈ ds, EvG K g (wipeR ρ vs) (enc d) (ρd d) js)
    (ht : ∀ D acc, ∀ d ∈ ds, EvT K (W.push K D (.lst acc)) tt (ρd d) (f d))
    (he : ∀ D acc, ∀ d ∈ ds, f d = true → EvD K (W.push K D (.lst acc)) te (ρd d) (h d)) (hz : ds.length < 16777216) :
    EvF K W (tLc wi g tt te vs) ρ ((ds.filter f).map h) := fun σ H n e o Q q => by
  refine hi σ H n e o _ fun J H1 s1 wk D hD => ?_
  have o1 := o.to s1
  have e1 := e.mono (fr_to (W := W) s1)
  let Pv : Nat → Hp → Prop := fun i H2 => Same H1 H2 ∧ MOk K H2 (off (D :: W.ps) H2) D (.lst (outT f h ds i))
  refine ⟨fun i m H2 => m = ds.length - i ∧ i ≤ ds.length ∧ Pv i H2, ⟨ds.length, by simp, Nat.zero_le _, Same.new hD, [], upd_same, .nil⟩, ?_⟩
  rintro i m H2 ⟨rfl, hle, s2, mo⟩
  have fr2 := fr_push o1 hD s2
  have ok2 : (W.push K D (.lst (outT f h ds i))).ok n H2 := push_new o1 hD s2 mo
  by_cases hlt : i < ds.length
  · refine .inr ⟨wk.goes i H2 (by simpa using hlt) (Same.trans fr2 (off_le _ _)), Pv (i + 1), fun H' p => ⟨ds.length - (i + 1), by omega, rfl, hlt, p⟩, fun x H3 y => ?_⟩
    obtain ⟨s3, dd, hdd, ix⟩ := wk.yields _ n i H2 x H3 (by simpa using hlt) fr2 ok2 y
    obtain ⟨d, hd, rfl⟩ : ∃ d, ds[i]? = some d ∧ enc d = dd := by
      rw [List.getElem?_map] at hdd
      cases q : ds[i]? with
      | none => rw [q] at hdd; cases hdd
      | some d => rw [q] at hdd; cases hdd; exact ⟨d, rfl, rfl⟩
    have hm := List.mem_of_getElem? hd
    have ok3 := ok2.to s3
    have fr3 : Same (W.fr H1) ((W.push K D (.lst (outT f h ds i))).fr H3) := Same.trans fr2 (off_same s3)
    refine hg d hm x (wipe σ vs) _ H3 ((e1.mono fr3).wipe vs) (off_le _ _) ix _ fun σ2 l2 e2 hs => ?_
    refine ⟨js_wipe (by rw [l2, wipe_length]) hjs hs, ?_⟩
    refine ht D _ d hm σ2 H3 n e2 ok3 _ fun H4 s4 => ?_
    cases hf : f d with
    | true =>
      rw [if_pos rfl]
      refine he D _ d hm hf σ2 H4 n (e2.mono (off_same s4)) (ok3.to s4) _ fun y H5 _ s5 iy ey => ?_
      subst ey
      obtain ⟨vs5, h5, a5⟩ := mo_to (W := W) (mo_to (W := W) (mo_to (W := W) mo s3) s4) s5
      refine ⟨vs5, h5, ?_, ?_, ?_⟩
      · have := outT_len f h ds i
        rw [a5.len, sizeLine_eq]
        omega
      · exact Same.put (((s2.trans s3).trans s4).trans s5) hD
      · refine ⟨_, upd_same, ?_⟩
        rw [off_in List.mem_cons_self, outT_succ hd, if_pos hf]
        exact a5.snoc iy
    | false =>
      rw [if_neg (by decide)]
      refine ⟨(s2.trans s3).trans s4, ?_⟩
      have e6 := mo_to (W := W) (mo_to (W := W) mo s3) s4
      rw [outT_succ hd, hf]
      exact e6
  · have ei : i = ds.length := by omega
    subst ei
    have stop := wk.stops H2 (Same.trans fr2 (off_le _ _))
    rw [List.length_map] at stop
    refine .inl ⟨stop, ?_⟩
    obtain ⟨vs2, h2, a2⟩ := mo
    have e3 : outT f h ds ds.length = (ds.filter f).map h := by simp [outT]
    rw [e3] at a2
    exact q D H2 vs2 (free_back s1 hD) (s1.trans s2) h2 a2
theorem ef_lc2T {α β : Type} {ds : List α} {enc : α → PyData} {enc1 : β → PyData} {wi1 : TI} {g1 : TG} {vs1 js1 : List Nat} (hi : EvI K W wi ρ (ds.map enc)) (es : α → List β) (h : α → β → PyData) (ρd : α → List Sl) (ρe : α → β → List Sl) (hjs : ∀ j ∈ js, j ∈ vs) (hjs1 : ∀ j ∈ js1, j ∈ vs1)
    (hg : ∀ d ∈ ds, EvG K g (wipeR ρ vs) (enc d) (ρd d) js)
    (hi1 : ∀ D acc, ∀ d ∈ ds, EvI K (W.push K D (.lst acc)) wi1 (ρd d) ((es d).map enc1))
    (hg1 : ∀ d ∈ ds, ∀ b ∈ es d, EvG K g1 (wipeR (ρd d) vs1) (enc1 b) (ρe d b) js1)
    (he : ∀ D acc, ∀ d ∈ ds, ∀ b ∈ es d, EvD K (W.push K D (.lst acc)) te (ρe d b) (h d b)) (hz : (ds.flatMap es).length < 16777216) :
    EvF K W (tLc2 wi g tYes wi1 g1 tYes te vs vs1) ρ (ds.flatMap fun d => (es d).map (h d)) := fun σ H n e o Q q => by
  refine hi σ H n e o _ fun J H1 s1 wk D hD => ?_
  have o1 := o.to s1
  have e1 := e.mono (fr_to (W := W) s1)
  let out : Nat → List PyData := fun i => (ds.take i).flatMap fun d => (es d).map (h d)
  have out_succ : ∀ i d, ds[i]? = some d → out (i + 1) = out i ++ (es d).map (h d) := fun i d e => by
    show (ds.take (i + 1)).flatMap _ = _
    rw [List.take_add_one, e]
    simp [out]
  have out_len : ∀ i d, ds[i]? = some d → (out i).length + (es d).length ≤ (ds.flatMap es).length := fun i d e => by
    have hi' := (List.getElem?_eq_some_iff.mp e)
    obtain ⟨hlt, hd⟩ := hi'
    have e2 : ds = ds.take i ++ d :: ds.drop (i + 1) := by
      rw [← hd, ← List.drop_eq_getElem_cons hlt, List.take_append_drop]
    have e3 : (ds.flatMap es).length = ((ds.take i).flatMap es).length + ((es d).length + ((ds.drop (i + 1)).flatMap es).length) := by
      conv => lhs; rw [e2]
      simp only [List.flatMap_append, List.flatMap_cons, List.length_append]
    have e4 : (out i).length = ((ds.take i).flatMap es).length := by simp [out, List.length_flatMap]
    omega
  let Pv : Nat → Hp → Prop := fun i H2 => Same H1 H2 ∧ MOk K H2 (off (D :: W.ps) H2) D (.lst (out i))
  refine ⟨fun i m H2 => m = ds.length - i ∧ i ≤ ds.length ∧ Pv i H2, ⟨ds.length, by simp, Nat.zero_le _, Same.new hD, [], upd_same, .nil⟩, ?_⟩
  rintro i m H2 ⟨rfl, hle, s2, mo⟩
  have fr2 := fr_push o1 hD s2
  have ok2 : (W.push K D (.lst (out i))).ok n H2 := push_new o1 hD s2 mo
  by_cases hlt : i < ds.length
  · refine .inr ⟨wk.goes i H2 (by simpa using hlt) (Same.trans fr2 (off_le _ _)), Pv (i + 1), fun H' p => ⟨ds.length - (i + 1), by omega, rfl, hlt, p⟩, fun x H3 y => ?_⟩
    obtain ⟨s3, dd, hdd, ix⟩ := wk.yields _ n i H2 x H3 (by simpa using hlt) fr2 ok2 y
    obtain ⟨d, hd, rfl⟩ : ∃ d, ds[i]? = some d ∧ enc d = dd := by
      rw [List.getElem?_map] at hdd
      cases q : ds[i]? with
      | none => rw [q] at hdd; cases hdd
      | some d => rw [q] at hdd; cases hdd; exact ⟨d, rfl, rfl⟩
    have hm := List.mem_of_getElem? hd
    have ok3 := ok2.to s3
    have fr3 : Same (W.fr H1) ((W.push K D (.lst (out i))).fr H3) := Same.trans fr2 (off_same s3)
    refine hg d hm x (wipe σ vs) _ H3 ((e1.mono fr3).wipe vs) (off_le _ _) ix _ fun σ2 l2 e2 hs => ?_
    refine ⟨js_wipe (by rw [l2, wipe_length]) hjs hs, ?_⟩
    simp only [tYes, ↓reduceIte]
    refine hi1 D _ d hm σ2 H3 n e2 ok3 _ fun J1 H4 s4 wk1 => ?_
    have ok4 := ok3.to s4
    have hd4 : MOk K H4 (off (D :: W.ps) H4) D (.lst (out i)) := mo_to (W := W) (mo_to (W := W) mo s3) s4
    let F4 : Hp := (W.push K D (.lst (out i))).fr H4
    let Pw : Nat → Hp → Prop := fun j H5 => Same H1 H5 ∧ Same F4 (off (D :: W.ps) H5) ∧ MOk K H5 (off (D :: W.ps) H5) D (.lst (out i ++ ((es d).take j).map (h d)))
    refine ⟨fun j m H5 => m = (es d).length - j ∧ j ≤ (es d).length ∧ Pw j H5, ⟨(es d).length, by simp, Nat.zero_le _, (s2.trans s3).trans s4, Same.refl _, by simpa using hd4⟩, ?_⟩
    rintro j m H5 ⟨rfl, hle5, s5, f5, mo5⟩
    have ok5 : (W.push K D (.lst (out i ++ ((es d).take j).map (h d)))).ok n H5 := push_new o1 hD s5 mo5
    by_cases hj : j < (es d).length
    · refine .inr ⟨wk1.goes j H5 (by simpa using hj) (Same.trans f5 (off_le _ _)), Pw (j + 1), fun H' p => ⟨(es d).length - (j + 1), by omega, rfl, hj, p⟩, fun x5 H6 y5 => ?_⟩
      obtain ⟨s6, bb, hbb, ix5⟩ := wk1.yields _ n j H5 x5 H6 (by simpa using hj) f5 ok5 y5
      obtain ⟨b, hb, rfl⟩ : ∃ b, (es d)[j]? = some b ∧ enc1 b = bb := by
        rw [List.getElem?_map] at hbb
        cases q : (es d)[j]? with
        | none => rw [q] at hbb; cases hbb
        | some b => rw [q] at hbb; cases hbb; exact ⟨b, rfl, rfl⟩
      have hmb := List.mem_of_getElem? hb
      have f6 : Same F4 (off (D :: W.ps) H6) := Same.trans f5 (off_same s6)
      have e4 : Env K F4 σ2 (ρd d) := e2.mono (off_same s4)
      refine hg1 d hm b hmb x5 (wipe σ2 vs1) _ H6 ((e4.mono f6).wipe vs1) (off_le _ _) ix5 _ fun σ3 l3 e3 hs3 => ?_
      refine ⟨js_wipe (by rw [l3, wipe_length]) hjs1 hs3, ?_⟩
      refine he D _ d hm b hmb σ3 H6 n e3 (ok5.to s6) _ fun y7 H7 _ s7 iy ey => ?_
      subst ey
      obtain ⟨vs7, h7, a7⟩ := mo_to (W := W) (mo_to (W := W) mo5 s6) s7
      refine ⟨vs7, h7, ?_, Same.put ((s5.trans s6).trans s7) hD, ?_, vs7 ++ [y7], upd_same, ?_⟩
      · have h8 := out_len i d hd
        have h9 : (((es d).take j).map (h d)).length ≤ j := by simp; omega
        rw [a7.len, sizeLine_eq, List.length_append]
        omega
      · rw [off_in List.mem_cons_self]
        exact Same.trans f6 (off_same s7)
      · rw [off_in List.mem_cons_self, List.take_add_one, hb]
        simp only [Option.toList_some, List.map_append, List.map_cons, List.map_nil]
        rw [← List.append_assoc]
        exact a7.snoc iy
    · have ej : j = (es d).length := by omega
      subst ej
      have stop := wk1.stops H5 (Same.trans f5 (off_le _ _))
      rw [List.length_map] at stop
      refine .inl ⟨stop, s5, ?_⟩
      rw [out_succ i d hd]
      rw [List.take_length] at mo5
      exact mo5
  · have ei : i = ds.length := by omega
    subst ei
    have stop := wk.stops H2 (Same.trans fr2 (off_le _ _))
    rw [List.length_map] at stop
    refine .inl ⟨stop, ?_⟩
    obtain ⟨vs2, h2, a2⟩ := mo
    have e3 : out ds.length = ds.flatMap fun d => (es d).map (h d) := by simp [out]
    rw [e3] at a2
    exact q D H2 vs2 (free_back s1 hD) (s1.trans s2) h2 a2
/-- a walk whose items are one of some lists -/
def EvIP (K : PySem.W.Frag) (W : Wd) (wi : TI) (ρ : List Sl) (P : List PyData → Prop) : Prop := ∀ (σ : L2.St) (H : Hp) (n : Nat), Env K (W.fr H) σ ρ → W.ok n H → ∀ R : It → Hp → Prop, (∀ J H' ds, Same H H' → P ds → Wk K (W.fr H') J ds → R J H') → wi σ H R
theorem ei_anyLP {P : PyData → Prop} {Pl : List PyData → Prop} (h : Ev K W te ρ P) (hP : ∀ d, P d → ∃ ds, d = .list ds ∧ Pl ds) : EvIP K W (iAny K te) ρ Pl := fun σ H n e o R q => .inl (h σ H n e o _ fun v H1 d s1 dx hd => by
    obtain ⟨ds, rfl, hl⟩ := hP d hd
    cases dx with
    | lst h1 h2 => exact ⟨_, rfl, ⟨_, Same.seq fr_le h1⟩, q _ _ _ s1 hl (wk_list h1 h2)⟩)
theorem ef_lcTP {α : Type} {enc : α → PyData} {P : List α → Prop} {es : List PyData} (hi : EvIP K W wi ρ fun ds' => ∃ ds : List α, ds' = ds.map enc ∧ P ds) (f : α → Bool) (h : α → PyData) (ρd : α → List Sl) (hjs : ∀ j ∈ js, j ∈ vs)
    (hg : ∀ d, EvG K g (wipeR ρ vs) (enc d) (ρd d) js)
    (ht : ∀ D acc, ∀ d, EvT K (W.push K D (.lst acc)) tt (ρd d) (f d))
    (he : ∀ D acc, ∀ d, f d = true → EvD K (W.push K D (.lst acc)) te (ρd d) (h d)) (hz : ∀ ds, P ds → ds.length < 16777216 ∧ (ds.filter f).map h = es) :
    EvF K W (tLc wi g tt te vs) ρ es := fun σ H n e o Q q => by
  refine hi σ H n e o _ fun J H1 ds' s1 hds wk D hD => ?_
  obtain ⟨ds, rfl, hP⟩ := hds
  obtain ⟨hz, hes⟩ := hz ds hP
  have o1 := o.to s1
  have e1 := e.mono (fr_to (W := W) s1)
  let Pv : Nat → Hp → Prop := fun i H2 => Same H1 H2 ∧ MOk K H2 (off (D :: W.ps) H2) D (.lst (outT f h ds i))
  refine ⟨fun i m H2 => m = ds.length - i ∧ i ≤ ds.length ∧ Pv i H2, ⟨ds.length, by simp, Nat.zero_le _, Same.new hD, [], upd_same, .nil⟩, ?_⟩
  rintro i m H2 ⟨rfl, hle, s2, mo⟩
  have fr2 := fr_push o1 hD s2
  have ok2 : (W.push K D (.lst (outT f h ds i))).ok n H2 := push_new o1 hD s2 mo
  by_cases hlt : i < ds.length
  · refine .inr ⟨wk.goes i H2 (by simpa using hlt) (Same.trans fr2 (off_le _ _)), Pv (i + 1), fun H' p => ⟨ds.length - (i + 1), by omega, rfl, hlt, p⟩, fun x H3 y => ?_⟩
    obtain ⟨s3, dd, hdd, ix⟩ := wk.yields _ n i H2 x H3 (by simpa using hlt) fr2 ok2 y
    obtain ⟨d, hd, rfl⟩ : ∃ d, ds[i]? = some d ∧ enc d = dd := by
      rw [List.getElem?_map] at hdd
      cases q : ds[i]? with
      | none => rw [q] at hdd; cases hdd
      | some d => rw [q] at hdd; cases hdd; exact ⟨d, rfl, rfl⟩
    have hm := List.mem_of_getElem? hd
    have ok3 := ok2.to s3
    have fr3 : Same (W.fr H1) ((W.push K D (.lst (outT f h ds i))).fr H3) := Same.trans fr2 (off_same s3)
    refine hg d x (wipe σ vs) _ H3 ((e1.mono fr3).wipe vs) (off_le _ _) ix _ fun σ2 l2 e2 hs => ?_
    refine ⟨js_wipe (by rw [l2, wipe_length]) hjs hs, ?_⟩
    refine ht D _ d σ2 H3 n e2 ok3 _ fun H4 s4 => ?_
    cases hf : f d with
    | true =>
      rw [if_pos rfl]
      refine he D _ d hf σ2 H4 n (e2.mono (off_same s4)) (ok3.to s4) _ fun y H5 _ s5 iy ey => ?_
      subst ey
      obtain ⟨vs5, h5, a5⟩ := mo_to (W := W) (mo_to (W := W) (mo_to (W := W) mo s3) s4) s5
      refine ⟨vs5, h5, ?_, ?_, ?_⟩
      · have := outT_len f h ds i
        rw [a5.len, sizeLine_eq]
        omega
      · exact Same.put (((s2.trans s3).trans s4).trans s5) hD
      · refine ⟨_, upd_same, ?_⟩
        rw [off_in List.mem_cons_self, outT_succ hd, if_pos hf]
        exact a5.snoc iy
    | false =>
      rw [if_neg (by decide)]
      refine ⟨(s2.trans s3).trans s4, ?_⟩
      have e6 := mo_to (W := W) (mo_to (W := W) mo s3) s4
      rw [outT_succ hd, hf]
      exact e6
  · have ei : i = ds.length := by omega
    subst ei
    have stop := wk.stops H2 (Same.trans fr2 (off_le _ _))
    rw [List.length_map] at stop
    refine .inl ⟨stop, ?_⟩
    obtain ⟨vs2, h2, a2⟩ := mo
    have e3 : outT f h ds ds.length = (ds.filter f).map h := by simp [outT]
    rw [e3, hes] at a2
    exact q D H2 vs2 (free_back s1 hD) (s1.trans s2) h2 a2
/-- [e for x in ..] -/
theorem ef_lcA {α : Type} {ds : List α} {enc : α → PyData} (hi : EvI K W wi ρ (ds.map enc)) (h : α → PyData) (ρd : α → List Sl) (hjs : ∀ j ∈ js, j ∈ vs)
    (hg : ∀ d ∈ ds, EvG K g (wipeR ρ vs) (enc d) (ρd d) js) (he : ∀ D acc, ∀ d ∈ ds, EvD K (W.push K D (.lst acc)) te (ρd d) (h d)) (hz : ds.length < 16777216) :
    EvF K W (tLc wi g tYes te vs) ρ (ds.map h) := by
  have q := ef_lcT hi (fun _ => true) h ρd hjs hg (fun D acc d _ => et_yes) (fun D acc d hd _ => he D acc d hd) hz
  rw [List.filter_eq_self.mpr fun _ _ => rfl] at q
  exact q
/-- a for, as a fold -/
theorem sb_fold {t : TS} {N : Wd → List Sl → Prop} {P : PyData → Prop} {kb : Nat} {α β : Type} {xs : List α} {enc : α → PyData} (hi : EvI K W wi ρ (xs.map enc)) (step : β → α → β) (V : β → Wd → List Sl → Prop) (s0 : β) (h0 : V s0 W ρ)
    (hb : ∀ ys x zs W' ρ', xs = ys ++ x :: zs → Ext B W' → V (ys.foldl step s0) W' ρ' → ∃ ρ'' js, EvG K g ρ' (enc x) ρ'' js ∧ Sb K B W' kb t ρ'' (V (step (ys.foldl step s0) x)) (Rt K B P))
    (hd : ∀ W' ρ', V (xs.foldl step s0) W' ρ' → N W' ρ') : Sb K B W (xs.length * kb) (tFor wi g t) ρ N (Rt K B P) := by
  have q := sb_for (B := B) (t := t) (g := g) (N := N) (P := P) (kb := kb) hi (fun i W' ρ' => V ((xs.take i).foldl step s0) W' ρ') (by simpa using h0) (fun i d W' ρ' hd x' hV => by
    rw [List.getElem?_map] at hd
    cases hx : xs[i]? with
    | none => rw [hx] at hd; cases hd
    | some x =>
      rw [hx] at hd
      cases hd
      have hlt := (List.getElem?_eq_some_iff.mp hx).1
      have e1 : xs = xs.take i ++ x :: xs.drop (i + 1) := by
        have e2 : xs[i]'hlt = x := by rw [List.getElem?_eq_getElem hlt] at hx; exact Option.some.inj hx
        rw [← e2, ← List.drop_eq_getElem_cons hlt, List.take_append_drop]
      obtain ⟨ρ'', js, h1, h2⟩ := hb _ x _ W' ρ' e1 x' hV
      refine ⟨ρ'', js, h1, ?_⟩
      show Sb K B W' kb t ρ'' (fun W' ρ' => V ((xs.take (i + 1)).foldl step s0) W' ρ') (Rt K B P)
      rw [List.take_add_one, hx]
      simp only [Option.toList_some, List.foldl_append, List.foldl_cons, List.foldl_nil]
      exact h2) (fun W' ρ' hV => hd W' ρ' (by simpa using hV))
  simpa using q
theorem sb_fold0 {t : TS} {N : Wd → List Sl → Prop} {P : PyData → Prop} {k : Nat} {α β : Type} {xs : List α} {enc : α → PyData} (hi : EvI K W wi ρ (xs.map enc)) (step : β → α → β) (V : β → Wd → List Sl → Prop) (s0 : β) (h0 : V s0 W ρ)
    (hb : ∀ ys x zs W' ρ', xs = ys ++ x :: zs → Ext B W' → V (ys.foldl step s0) W' ρ' → ∃ ρ'' js, EvG K g ρ' (enc x) ρ'' js ∧ Sb K B W' 0 t ρ'' (V (step (ys.foldl step s0) x)) (Rt K B P))
    (hd : ∀ W' ρ', V (xs.foldl step s0) W' ρ' → N W' ρ') : Sb K B W k (tFor wi g t) ρ N (Rt K B P) := sb_low (sb_fold hi step V s0 h0 hb hd) (by simp)
end
theorem zipD_map {α β : Type} (f : α → PyData) (g : β → PyData) (xs : List α) (ys : List β) : zipD (xs.map f) (ys.map g) = (xs.zip ys).map fun p => .tuple [f p.1, g p.2] := by
  unfold zipD
  rw [List.zipWith_map, List.zip, List.map_zipWith]
theorem enumD_map {α : Type} (f : α → PyData) (xs : List α) : enumD (xs.map f) = ((List.range xs.length).zip xs).map fun p => .tuple [.int (p.1 : Int), f p.2] := by
  unfold enumD
  rw [List.length_map]
  have e : rangeD 0 xs.length = (List.range xs.length).map fun (k : Nat) => PyData.int ((k : Nat) : Int) := by
    unfold rangeD
    exact List.map_congr_left fun k _ => by simp
  rw [e, zipD_map]
theorem spd_len {K : PySem.W.Frag} {α : Type} {As : α → List PyData} {pre : α → Prop} {B : α → PyData → Prop} {m : Nat} {vs : List V} {H : Hp} {Q : VK} {E : XK} (hm : ∀ a, (As a).length = m) (h : SpD K As pre B vs H Q E) : vs.length = m := by
  obtain ⟨W, n, a, dv, _⟩ := h
  rw [dv.len, hm]
theorem spb_len {K : PySem.W.Frag} {α : Type} {As : α → List Sl} {pre : Wd → α → Prop} {k : Nat} {B : α → PyData → Prop} {m : Nat} {vs : List V} {H : Hp} {Q : VK} {E : XK} (hm : ∀ a, (As a).length = m) (h : SpB K As pre k B vs H Q E) : vs.length = m := by
  obtain ⟨W, n, a, dv, _⟩ := h
  rw [dv.len, hm]
/-! ### data of the program -/
def iD : Int → PyData := .int
def tI (ns : List Int) : PyData := .tuple (ns.map .int)
def lI (ns : List Int) : PyData := .list (ns.map .int)
def bD (b : Int × Int) : PyData := .tuple [.int b.1, .int b.2]
def tB (bs : List (Int × Int)) : PyData := .tuple (bs.map bD)
def lB (bs : List (Int × Int)) : PyData := .list (bs.map bD)
def fD : Option (List (Int × Int)) → PyData
  | none => .none
  | some bs => tB bs
def tT (xs : List (List Int)) : PyData := .tuple (xs.map tI)
def lT (xs : List (List Int)) : PyData := .list (xs.map tI)
def oI : Option Int → PyData
  | none => .none
  | some n => .int n
def sD (x : PySem.Str) : PyData := .str x
/-- numbers of small size -/
def Sm (n : Int) : Prop := -(10 ^ 9) ≤ n ∧ n ≤ 10 ^ 9
/-- a row: few numbers, each from 1 on -/
structure Rw (r : List Int) : Prop where
  len : r.length ≤ 2000
  one : ∀ x ∈ r, 1 ≤ x ∧ x ≤ 10 ^ 9
theorem kit_int_int : kitB "int" "int" = some true := by decide +kernel
theorem kit_int_bool : kitB "int" "bool" = some false := by decide +kernel
theorem kit_int_str : kitB "int" "str" = some false := by decide +kernel
theorem kit_int_list : kitB "int" "list" = some false := by decide +kernel
theorem kit_int_tuple : kitB "int" "tuple" = some false := by decide +kernel
theorem kit_bool_int : kitB "bool" "int" = some true := by decide +kernel
theorem kit_bool_bool : kitB "bool" "bool" = some true := by decide +kernel
theorem kit_bool_str : kitB "bool" "str" = some false := by decide +kernel
theorem kit_bool_list : kitB "bool" "list" = some false := by decide +kernel
theorem kit_bool_tuple : kitB "bool" "tuple" = some false := by decide +kernel
theorem kit_NoneType_int : kitB "NoneType" "int" = some false := by decide +kernel
theorem kit_NoneType_bool : kitB "NoneType" "bool" = some false := by decide +kernel
theorem kit_NoneType_str : kitB "NoneType" "str" = some false := by decide +kernel
theorem kit_NoneType_list : kitB "NoneType" "list" = some false := by decide +kernel
theorem kit_NoneType_tuple : kitB "NoneType" "tuple" = some false := by decide +kernel
theorem kit_str_int : kitB "str" "int" = some false := by decide +kernel
theorem kit_str_bool : kitB "str" "bool" = some false := by decide +kernel
theorem kit_str_str : kitB "str" "str" = some true := by decide +kernel
theorem kit_str_list : kitB "str" "list" = some false := by decide +kernel
theorem kit_str_tuple : kitB "str" "tuple" = some false := by decide +kernel
theorem kit_list_int : kitB "list" "int" = some false := by decide +kernel
theorem kit_list_bool : kitB "list" "bool" = some false := by decide +kernel
theorem kit_list_str : kitB "list" "str" = some false := by decide +kernel
theorem kit_list_list : kitB "list" "list" = some true := by decide +kernel
theorem kit_list_tuple : kitB "list" "tuple" = some false := by decide +kernel
theorem kit_tuple_int : kitB "tuple" "int" = some false := by decide +kernel
theorem kit_tuple_bool : kitB "tuple" "bool" = some false := by decide +kernel
theorem kit_tuple_str : kitB "tuple" "str" = some false := by decide +kernel
theorem kit_tuple_list : kitB "tuple" "list" = some false := by decide +kernel
theorem kit_tuple_tuple : kitB "tuple" "tuple" = some true := by decide +kernel
/-! parts of lists -/
theorem six_n (n d k : Nat) : HT.sIx n d (some (k : Int)) = min k n := HT.sIx_nat n d k
theorem cut_from {α : Type} (xs : List α) (i : Nat) : cutD xs (some (i : Int)) none = xs.drop i := by
  unfold cutD
  rw [six_n, HT.sIx_none]
  by_cases h : i ≤ xs.length
  · rw [Nat.min_eq_left h]
    exact List.take_of_length_le (by simp)
  · rw [Nat.min_eq_right (by omega), List.drop_length, List.drop_of_length_le (by omega)]
    simp
theorem cut_upto {α : Type} (xs : List α) (j : Nat) : cutD xs none (some (j : Int)) = xs.take j := by
  unfold cutD
  rw [six_n, HT.sIx_none, List.drop_zero, Nat.sub_zero]
  by_cases h : j ≤ xs.length
  · rw [Nat.min_eq_left h]
  · rw [Nat.min_eq_right (by omega), List.take_length, List.take_of_length_le (by omega)]
theorem cut_mid {α : Type} (xs : List α) (i j : Nat) : cutD xs (some (i : Int)) (some (j : Int)) = (xs.drop i).take (j - i) := by
  unfold cutD
  rw [six_n, six_n]
  by_cases h : i ≤ xs.length
  · rw [Nat.min_eq_left h]
    by_cases h2 : j ≤ xs.length
    · rw [Nat.min_eq_left h2]
    · rw [Nat.min_eq_right (by omega), List.take_of_length_le (by simp), List.take_of_length_le (by simp; omega)]
  · have e1 : min i xs.length = xs.length := by omega
    rw [e1, List.drop_length, List.drop_of_length_le (by omega)]
    simp
theorem cut_one {α : Type} (xs : List α) : cutD xs (some 1) none = xs.drop 1 := cut_from xs 1
theorem cutD_map {α β : Type} (f : α → β) (xs : List α) (lo hi : Option Int) : cutD (xs.map f) lo hi = (cutD xs lo hi).map f := by
  unfold cutD
  simp [List.map_drop, List.map_take]
theorem atI_nat {α : Type} {xs : List α} {i : Nat} {x : α} (h : xs[i]? = some x) : L2.atI xs (i : Int) = some x := by
  have hi := (List.getElem?_eq_some_iff.mp h).1
  unfold L2.atI ixN
  rw [if_pos (by omega), if_pos (by omega)]
  exact h
theorem atI_zero {α : Type} {xs : List α} {x : α} (h : xs[0]? = some x) : L2.atI xs 0 = some x := atI_nat h
theorem atI_one {α : Type} {xs : List α} {x : α} (h : xs[1]? = some x) : L2.atI xs 1 = some x := atI_nat h
theorem atI_last {α : Type} {xs : List α} {x : α} (h : xs.getLast? = some x) : L2.atI xs (-1) = some x := by
  have hl : 0 < xs.length := List.length_pos_iff.mpr fun z => by rw [z] at h; cases h
  rw [List.getLast?_eq_getElem?] at h
  unfold L2.atI ixN
  have e : ((xs.length : Int) + -1).toNat = xs.length - 1 := by omega
  rw [if_neg (by omega), if_pos (by omega)]
  show xs[(-1 + (xs.length : Int)).toNat]? = some x
  have e2 : (-1 + (xs.length : Int)).toNat = xs.length - 1 := by omega
  rw [e2]
  exact h
theorem last_map {α β : Type} (f : α → β) {xs : List α} {x : α} (h : xs.getLast? = some x) : (xs.map f).getLast? = some (f x) := by simp [h]
end CW
end W6x
section B1x
set_option Elab.async false
set_option linter.all false
set_option maxRecDepth 100000
namespace CW
open PySem PySem.Spec PyProof.Rows L2 StX RZ
section
variable {P : Program} {w : World} {K : PySem.W.Frag} {mg : PySem.Str → Option Value} {base : Heap} {f : Addr} {fd : FuncData}
/-- a text of one def: whole numbers -/
abbrev sp_is_number (K : PySem.W.Frag) : Sp := SpD K (α := Int × Int) (fun a => [.int a.1, .int a.2]) (fun _ => True) (fun a d => d = .bool (decide (a.2 ≤ a.1)))
theorem ok_is_number (F : FnP K "is_number" s_is_number f fd) (T : Tx mg)  : FnOk P w K mg base CX0 1 f fd ["thing", "least"] (sp_is_number K) := by
  have nd := sc_is_number.nd
  refine F.ok sc_is_number (fun vs H Q E h => spd_len (fun _ => rfl) h) (fun cdv A outer s H vs Q E hr h => ⟨_, PSs.nox (pss_one (ps_ret (pe_and (pe_callB (call_isiK1 (K := K) rfl) rfl T.isinstance (by decide +kernel) (pa_cons (pv 0) (pa_cons (pe_bltn (v := .ty "int") rfl T.int (by decide +kernel) rfl) pa_nil))) (pe_and (pe_not (pe_callB (call_isiK1 (K := K) rfl) rfl T.isinstance (by decide +kernel) (pa_cons (pv 0) (pa_cons (pe_bltn (v := .ty "bool") rfl T.bool (by decide +kernel) rfl) pa_nil)))) (pe_one (pe_cmpR op_ge (pv 0) (pv 1) (nomark _))))))), run_pure (Ns := N_is_number) h fun a B hp => ?_⟩)
  exact sb_retD (ev_andV (ev_isi (ev_var rfl) kit_int_int) fun _ => ev_andV (ev_notV (ev_isi (ev_var rfl) kit_int_bool)) fun _ => ev_ge (ev_var rfl) (ev_var rfl)) (by simp)
abbrev sp_is_tuple (K : PySem.W.Frag) : Sp := SpD K (α := List PyData × Int) (fun a => [.tuple a.1, .int a.2]) (fun _ => True) (fun a d => d = .bool (decide ((a.1.length : Int) = a.2)))
theorem ok_is_tuple (F : FnP K "is_tuple" s_is_tuple f fd) (T : Tx mg)  : FnOk P w K mg base CX0 1 f fd ["thing", "many"] (sp_is_tuple K) := by
  have nd := sc_is_tuple.nd
  refine F.ok sc_is_tuple (fun vs H Q E h => spd_len (fun _ => rfl) h) (fun cdv A outer s H vs Q E hr h => ⟨_, PSs.nox (pss_one (ps_ret (pe_and (pe_callB (call_isiK1 (K := K) rfl) rfl T.isinstance (by decide +kernel) (pa_cons (pv 0) (pa_cons (pe_bltn (v := .ty "tuple") rfl T.tuple (by decide +kernel) rfl) pa_nil))) (pe_one (pe_cmpR (op_eqK (K := K) rfl (hu64 hr)) (pe_callB (call_lenK (K := K) rfl) rfl T.len (by decide +kernel) (pa_cons (pv 0) pa_nil)) (pv 1) (nomark _)))))), run_pure (Ns := N_is_tuple) h fun a B hp => ?_⟩)
  exact sb_retD (ev_andV (ev_isi (ev_var rfl) kit_tuple_tuple) fun _ => ev_eqI (ev_lenT (ev_var rfl)) (ev_var rfl)) (by simp)
def ascB (ns : List Int) : Bool := (ns.zip (ns.drop 1)).all fun p => decide (p.1 < p.2)
abbrev sp_ascends (K : PySem.W.Frag) : Sp := SpD K (α := List Int) (fun a => [lI a]) (fun a => a.length ≤ 10000) (fun a d => d = .bool (ascB a))
theorem ok_ascends (F : FnP K "ascends" s_ascends f fd) (T : Tx mg)  : FnOk P w K mg base CX0 1 f fd ["row"] (sp_ascends K) := by
  have nd := sc_ascends.nd
  refine F.ok sc_ascends (fun vs H Q E h => spd_len (fun _ => rfl) h) (fun cdv A outer s H vs Q E hr h => ⟨_, PSs.nox (pss_one (ps_ret (pe_callB (cr_allK (K := K) rfl rfl) rfl T.all (by decide +kernel) (pa_cons (pe_lc (own := [("one", 1), ("other", 2)]) rfl nd (pi_zipX (K := K) rfl rfl T.zip (pa_cons (pv 0) (pa_cons (pe_slice (sl_seqK (K := K) rfl) (pv 0) (po_some pe_int) po_none) pa_nil))) (blkOk_by (own := [("one", 1), ("other", 2)]) (N := N_ascends) (sc := defScope s_ascends) (by decide +kernel)) (fun _ _ _ _ _ => (pg_tupK (K := K) (n := 2) rfl rfl (pgs_cons (pg_name (i := 1) nd rfl (Or.inl rfl)) (pgs_cons (pg_name (i := 2) nd rfl (Or.inl rfl)) pgs_nil)))) (fun _ _ _ _ _ => pts_nil) (fun _ _ _ _ _ => (pe_cmpR op_lt (pv 1) (pv 2) (nomark _)))) pa_nil)))), run_pure (Ns := N_ascends) h fun a B hp => ?_⟩)
  refine sb_retD (ev_all (bs := (a.zip (a.drop 1)).map fun p => decide (p.1 < p.2)) (evd_to (EvF.ev (ef_lcA (ds := a.zip (a.drop 1)) (enc := fun p => .tuple [.int p.1, .int p.2]) ?_ (fun p => .bool (decide (p.1 < p.2))) _ (by decide) (fun p _ => eg_pair) (fun D acc p _ => ev_lt (ev_var rfl) (ev_var rfl)) ?_)) ?_)) ?_
  · have e := ei_zipXL (K := K) (W := B) (ta := tVar 0) (tb := tSl (rSlX K) (tVar 0) (tPart (tC (.int 1))) tNoPart) (ρ := [.dat (lI a), .no, .no]) (ev_var rfl) (EvF.ev (ef_slL (ev_var rfl) (eo_some (ev_int 1)) eo_none))
    rw [cut_one, ← List.map_drop, zipD_map] at e
    exact e
  · rw [List.length_zip]; omega
  · rw [List.map_map]; rfl
  · simp [ascB, List.all_map]
abbrev sp_keeps (K : PySem.W.Frag) : Sp := SpD K (α := Int × List Int) (fun a => [.int a.1, tI a.2]) (fun a => a.2.length ≤ 10000) (fun a d => d = .bool (a.2.all fun x => decide (a.1 ≤ x)))
theorem ok_keeps (F : FnP K "keeps" s_keeps f fd) (T : Tx mg)  : FnOk P w K mg base CX0 1 f fd ["least", "batch"] (sp_keeps K) := by
  have nd := sc_keeps.nd
  refine F.ok sc_keeps (fun vs H Q E h => spd_len (fun _ => rfl) h) (fun cdv A outer s H vs Q E hr h => ⟨_, PSs.nox (pss_one (ps_ret (pe_callB (cr_allK (K := K) rfl rfl) rfl T.all (by decide +kernel) (pa_cons (pe_lc (own := [("item", 2)]) rfl nd (pi_anyK (K := K) rfl (pv 1)) (blkOk_by (own := [("item", 2)]) (N := N_keeps) (sc := defScope s_keeps) (by decide +kernel)) (fun _ _ _ _ _ => (pg_name (i := 2) nd rfl (Or.inl rfl))) (fun _ _ _ _ _ => pts_nil) (fun _ _ _ _ _ => (pe_cmpR op_ge (pv 2) (pv 0) (nomark _)))) pa_nil)))), run_pure (Ns := N_keeps) h fun a B hp => ?_⟩)
  refine sb_retD (ev_all (bs := a.2.map fun x => decide (a.1 ≤ x)) (evd_to (EvF.ev (ef_lcA (ds := a.2) (enc := .int) (ei_anyT (ev_var rfl)) (fun p => .bool (decide (a.1 ≤ p))) _ (by decide) (fun p _ => eg_name) (fun D acc p _ => ev_ge (ev_var rfl) (ev_var rfl)) (by omega))) ?_)) ?_
  · rw [List.map_map]; rfl
  · simp [List.all_map]
abbrev sp_is_lone (K : PySem.W.Frag) : Sp := SpD K (α := List Int × Int) (fun a => [tI a.1, .int a.2]) (fun a => a.1.length ≤ 10000) (fun a d => d = .bool (CK.lone a.1 a.2))
theorem ok_is_lone (F : FnP K "is_lone" s_is_lone f fd) (T : Tx mg)  : FnOk P w K mg base CX0 1 f fd ["row", "least"] (sp_is_lone K) := by
  have nd := sc_is_lone.nd
  refine F.ok sc_is_lone (fun vs H Q E h => spd_len (fun _ => rfl) h) (fun cdv A outer s H vs Q E hr h => ⟨_, PSs.nox (pss_one (ps_ret (pe_callB (cr_anyK (K := K) rfl rfl) rfl T.any (by decide +kernel) (pa_cons (pe_lc (own := [("limit", 2)]) rfl nd (pi_anyK (K := K) rfl (pv 0)) (blkOk_by (own := [("limit", 2)]) (N := N_is_lone) (sc := defScope s_is_lone) (by decide +kernel)) (fun _ _ _ _ _ => (pg_name (i := 2) nd rfl (Or.inl rfl))) (fun _ _ _ _ _ => pts_nil) (fun _ _ _ _ _ => (pe_cmpR op_lt (pv 2) (pe_op op_mul pe_int (pv 1)) (nomark _)))) pa_nil)))), run_pure (Ns := N_is_lone) h fun a B hp => ?_⟩)
  refine sb_retD (ev_any (bs := a.1.map fun x => decide (x < 2 * a.2)) (evd_to (EvF.ev (ef_lcA (ds := a.1) (enc := .int) (ei_anyT (ev_var rfl)) (fun p => .bool (decide (p < 2 * a.2))) _ (by decide) (fun p _ => eg_name) (fun D acc p _ => ev_lt (ev_var rfl) (ev_mul (ev_int 2) (ev_var rfl) (.inl ⟨by decide, by decide⟩))) (by omega))) ?_)) ?_
  · rw [List.map_map]; rfl
  · simp [CK.lone, List.any_map]
abbrev sp_records (K : PySem.W.Frag) : Sp := SpD K (α := List Int) (fun a => [tI a]) (fun a => a.length ≤ 10000) (fun a d => d = tI (CK.recs a))
theorem rec_len (ys : List Int) : ∀ acc : List Int, (ys.foldl CK.recStep acc).length ≤ acc.length + ys.length := by
  induction ys with
  | nil => intro acc; simp
  | cons y ys ih =>
    intro acc
    have h1 := ih (CK.recStep acc y)
    have h2 : (CK.recStep acc y).length ≤ acc.length + 1 := by
      unfold CK.recStep
      cases acc.getLast? with
      | none => simp
      | some z => simp only; split <;> simp
    rw [List.foldl_cons, List.length_cons]
    omega
theorem ok_records (F : FnP K "records" s_records f fd) (T : Tx mg)  : FnOk P w K mg base CX0 1 f fd ["row"] (sp_records K) := by
  have nd := sc_records.nd
  refine F.ok sc_records (fun vs H Q E h => spd_len (fun _ => rfl) h) (fun cdv A outer s H vs Q E hr h => ⟨_, PSs.nox (pss_cons (ps_set (i := 1) nd rfl (Or.inl rfl) (pe_lst pa_nil)) (pss_cons (ps_for PassesOwn.never rfl (pi_anyK (K := K) rfl (pv 0)) (pg_name (i := 2) nd rfl (Or.inl rfl)) (pss_one (ps_if (PW.pt (pw_or (pt_cmpR (op_eqK (K := K) rfl (hu64 hr)) (pe_callB (call_lenK (K := K) rfl) rfl T.len (by decide +kernel) (pa_cons (pv 1) pa_nil)) pe_int (nomark _)) (pw_or1 (pt_cmpR op_lt (pv 2) (pe_ix (ix_seqK (K := K) rfl) (pv 1) (pe_un un_neg pe_int) fun _ _ => rfl) (nomark _))))) (pss_one (ps_expr (pe_bmK (K := K) rfl PySem.F.plainAttrs_list PySem.F.slot_list_append PySem.F.type_list_append mt_append (pv 1) (pa_cons (pv 2) pa_nil)))) pss_nil))) (pss_one (ps_ret (pe_callTy (call_tupleK (K := K) rfl) rfl T.tuple (by decide +kernel) (pa_cons (pv 1) pa_nil)))))), run_pure (Ns := N_records) h fun a B hp => ?_⟩)
  refine sb_seq (sb_asgM (ef_lst ea_nil (by simp)) fun p => ?_)
  refine sb_seq (sb_fold0 (xs := a) (enc := .int) (ei_anyT (ev_var rfl)) CK.recStep (fun s W' ρ' => W' = B.push K p (.lst (s.map .int)) ∧ ∃ o, ρ' = [.dat (tI a), .at p, o]) [] ⟨rfl, _, rfl⟩ ?_ ?_)
  · rintro ys x zs W' ρ' e x' ⟨rfl, o, rfl⟩
    refine ⟨_, _, eg_name, ?_⟩
    have hl := rec_len ys []
    have hlen : ys.length < a.length := by rw [e]; simp
    generalize hs : ys.foldl CK.recStep [] = s at hl
    have hc : EvT K (B.push K p (.lst (s.map .int))) (tOr (tTest (tOp (rEqX K) (tLenK K (tVar 1)) (tC (.int 0)))) (tTest (tOp (rI0 fun i j => .bl (decide (i < j))) (tVar 2) (tOp (rIx K) (tVar 1) (tUn (rU fun i => .int (-i)) (tC (.int 1))))))) [.dat (tI a), .at p, .dat (.int x)] (match s.getLast? with | none => true | some y => decide (x < y)) := by
      refine et_view (i := 1) rfl ?_
      refine et_to (et_or (x := decide ((s.length : Int) = 0)) (et_test (evd_to (ev_eqI (ev_lenL (ev_var rfl)) (ev_int 0)) (by simp))) (y := match s.getLast? with | none => true | some y => decide (x < y)) fun h0 => ?_) ?_
      · cases hg : s.getLast? with
        | none =>
          rw [List.getLast?_eq_none_iff] at hg
          subst hg
          simp at h0
        | some y => exact et_test (ev_lt (ev_var rfl) (ev_ixL (ev_var rfl) (ev_neg (ev_int 1)) (atI_last (last_map _ hg))))
      · cases hg : s.getLast? with
        | none =>
          rw [List.getLast?_eq_none_iff] at hg
          subst hg
          simp
        | some y =>
          have : s ≠ [] := fun z => by rw [z] at hg; cases hg
          have : s.length ≠ 0 := fun z => this (List.length_eq_zero_iff.mp z)
          simp [this]
    refine sb_if hc (fun hb => sb_append rfl Mu.here (fun _ q => Ext.push) (ek_ev (P := fun d => d = .int x) (ev_var rfl)) (by rw [List.length_map]; simp at hl; omega) fun d hd => ?_) fun hb => sb_next ?_
    · subst hd
      refine ⟨?_, _, rfl⟩
      unfold CK.recStep
      cases hg : s.getLast? with
      | none => simp
      | some y =>
        rw [hg] at hb
        have hb' : x < y := by simpa using hb
        simp [hb']
    · refine ⟨?_, _, rfl⟩
      unfold CK.recStep
      cases hg : s.getLast? with
      | none => rw [hg] at hb; cases hb
      | some y =>
        rw [hg] at hb
        have hb' : ¬ x < y := by simpa using hb
        simp [hb']
  · rintro W' ρ' ⟨rfl, o, rfl⟩
    exact sb_ret_view (i := 1) rfl (Ext.refl B) (ev_tupL (ev_var rfl)) fun d hd => hd

end
end CW
end B1x
section W7x
set_option Elab.async false
set_option linter.all false
set_option maxRecDepth 100000
/-! Lists that come back to be changed; an item set. -/
namespace CW
open PySem PySem.Spec PyProof.Rows L2 StX RZ
section
variable {K : PySem.W.Frag} {B W : Wd} {k : Nat} {t u : TS} {ρ : List Sl} {N : Wd → List Sl → Prop} {R : Hp → V → Hp → Prop} {te ta tb ti : TE} {i : Nat} {p : Addr} {ds es : List PyData} {nxt : List PyData → Wd}
/-- p[k] = e -/
theorem sb_setL {d : PyData} {kk : Int} {j : Nat} (hi : ρ[i]? = some (.at p)) (mu : Mu K W p ds nxt) (hx : ∀ ds', Ext B W → Ext B (nxt ds')) (h : EvD K W te ρ d) (h2 : EvD K W ti ρ (.int kk)) (hk : ixN ds.length kk = some j) (hn : N (nxt (ds.set j d)) ρ) :
    Sb K B W 0 (tAsg te (gSub (tVar i) ti rSetL)) ρ N R := fun x D σ H n F e f o kn kr =>
  h σ H n e o _ fun y H1 _ s1 hy ey => by
    subst ey
    have o1 := Wd.ok.to o s1
    have e1 := e.mono (fr_to (W := W) s1)
    obtain ⟨v, h1, hv⟩ := e1.get i _ hi (fun z => by cases z)
    cases hv
    refine ⟨_, h1, h2 σ H1 n e1 o1 _ fun z H2 _ s2 hz ez => ?_⟩
    subst ez
    cases hz
    have o2 := o1.to s2
    obtain ⟨vs, g1, a1⟩ := mu.get _ _ _ o2
    obtain ⟨ok2, fr2⟩ := mu.ok o2 (a1.set j (hy.mono (fr_to s2)))
    refine ⟨p, vs, kk, j, rfl, rfl, g1, by rw [a1.len]; exact hk, ?_⟩
    refine kn _ ρ σ _ (hx _ x) hn ?_ ?_ ok2
    · rw [fr2]; exact e1.mono (fr_to s2)
    · rw [fr2]; exact Same.trans (Same.trans f (fr_to s1)) (fr_to s2)
/-- p.extend(e) of a list that is tracked -/
theorem sb_extendR (hi : ρ[i]? = some (.at p)) (mu : Mu K W p ds nxt) (hx : ∀ ds', Ext B W → Ext B (nxt ds')) (h : EvR K W te ρ es) (hz : ds.length + es.length ≤ 16777216) (hn : N (nxt (ds ++ es)) ρ) :
    Sb K B W 0 (tDrop (tBM K "list" rExtend (tVar i) (tCons te tNil))) ρ N R := fun x D σ H n F e f o kn kr => by
  obtain ⟨v, h1, h2⟩ := e.get i _ hi (fun z => by cases z)
  cases h2
  obtain ⟨vs0, g0, _⟩ := mu.get _ _ _ o
  refine ⟨_, h1, ty_list g0, h σ H n e o _ fun q H1 vs s1 e1 a1 => ?_⟩
  have o1 := Wd.ok.to o s1
  obtain ⟨vs1, g1, b1⟩ := mu.get _ _ _ o1
  refine ⟨p, q, vs1, vs, rfl, rfl, g1, off_le _ _ _ _ e1, ?_, ?_⟩
  · rw [b1.len, a1.len, sizeLine_eq]; exact hz
  · obtain ⟨ok2, fr2⟩ := mu.ok o1 (b1.append a1)
    refine kn _ ρ σ _ (hx _ x) hn ?_ ?_ ok2
    · rw [fr2]; exact e.mono (fr_to s1)
    · rw [fr2]; exact Same.trans f (fr_to s1)
/-- a return of a tracked list -/
def RtR (K : PySem.W.Frag) (B : Wd) (ds : List PyData) : Hp → V → Hp → Prop := fun _ v H' => ∃ p vs, v = .ref p ∧ B.fr H' p = some (.lst vs) ∧ IsAll K (B.fr H') vs ds
theorem sb_ret_R (hi : ρ[i]? = some (.at p)) (hx : Ext B W) : Sb K B (W.push K p (.lst ds)) k (tRet (tVar i)) ρ N (RtR K B ds) := fun x D σ H n F e f o kn kr => by
  obtain ⟨v, h1, h2⟩ := e.get i _ hi (fun z => by cases z)
  cases h2
  obtain ⟨hp, _, vs, h3, h4⟩ := id o
  refine ⟨_, h1, kr _ H (Same.trans f (x.fr H)) ((x.ok o).low (by omega)) ⟨p, vs, rfl, ?_, h4.mono (x.fr H)⟩⟩
  show off B.ps H p = _
  rw [off_get fun z => hp (hx.ps p z)]
  exact h3
def SpR (K : PySem.W.Frag) {α : Type} (As : α → List PyData) (pre : α → Prop) (B : α → List PyData) : Sp := fun vs H Q _ => ∃ (W : Wd) (n : Nat) (a : α), IsAll K (W.fr H) vs (As a) ∧ W.ok n H ∧ pre a ∧ ∀ p H' ws, Same H H' → W.fr H' p = some (.lst ws) → IsAll K (W.fr H') ws (B a) → Q (.ref p) H'
theorem er_call {α : Type} {As : α → List PyData} {pre : α → Prop} {B : α → List PyData} {E : XK} {tr : TA} (a : α) (h : EvA K W tr ρ (As a)) (hp : pre a) : EvR K W (tCall (SpR K As pre B) [] E tr) ρ (B a) := fun σ H n e o Q q =>
  h σ H n e o _ fun vs H1 s1 dv => ⟨W, n, a, by rw [List.append_nil]; exact dv, o.to s1, hp, fun p H2 ws s2 => q p H2 ws (s1.trans s2)⟩
theorem EvR.ev (h : EvR K W te ρ ds) : EvD K W te ρ (.list ds) := fun σ H n e o Q q => h σ H n e o Q fun p H' vs s h1 h2 => q _ H' _ s (.lst (.inl (.inl h1)) h2) rfl
theorem spr_len {α : Type} {As : α → List PyData} {pre : α → Prop} {B : α → List PyData} {m : Nat} {vs : List V} {H : Hp} {Q : VK} {E : XK} (hm : ∀ a, (As a).length = m) (h : SpR K As pre B vs H Q E) : vs.length = m := by
  obtain ⟨W, n, a, dv, _⟩ := h
  rw [dv.len, hm]
theorem run_R {α : Type} {As : α → List PyData} {pre : α → Prop} {P : α → List PyData} {Ns : List PySem.Str} {E : XK} {H : Hp} {vs : List V} {Q : VK} (h : SpR K As pre P vs H Q E)
    (hb : ∀ a B, pre a → Sb K B B 0 t ((As a).map .dat ++ List.replicate (Ns.length - (As a).length) .no) (fun _ _ => False) (RtR K B (P a))) :
    t { nx := fun _ H' => Q .non H', rt := Q } (L2.start Ns vs) H := by
  obtain ⟨W, n, a, dv, o, hp, q⟩ := h
  have o0 : (W.still H).ok 0 H := fun p hp => ⟨rfl, W.has o p hp⟩
  have hl := dv.len
  have e : Env K ((W.still H).fr H) (L2.start Ns vs) ((As a).map .dat ++ List.replicate (Ns.length - (As a).length) .no) := by
    unfold L2.start
    rw [hl]
    exact Env.of_all (slAll_of dv) _
  refine hb a (W.still H) hp (Ext.refl _) _ _ H 0 (W.fr H) e (Same.refl _) o0 (fun W' ρ' σ' H' x' hN e' f' o' => hN.elim) fun v H' f' o' r => ?_
  obtain ⟨p, ws, rfl, h1, h2⟩ := r
  exact q p H' ws (still_same o' f') h1 h2
/-- p[k], p a list that changes -/
theorem ev_ixM {d : PyData} {kk : Int} (hi : ρ[i]? = some (.at p)) (mu : Mu K W p ds nxt) (hb : EvD K W tb ρ (.int kk)) (h : L2.atI ds kk = some d) : EvD K W (tOp (rIx K) (tVar i) tb) ρ d := fun σ H n e o Q q => by
  obtain ⟨v, h1, hv⟩ := e.get i _ hi (fun z => by cases z)
  cases hv
  refine ⟨_, h1, hb σ H n e o _ fun y H1 _ s1 dy ey => ?_⟩
  subst ey
  cases dy
  obtain ⟨vs, g1, a1⟩ := mu.get _ _ _ (Wd.ok.to o s1)
  obtain ⟨x, h3, h4⟩ := a1.atI h
  exact .inl ⟨p, vs, kk, x, rfl, rfl, .inl (.inl g1), h3, q _ _ _ s1 h4 rfl⟩
end
end CW
end W7x
section R6x
set_option Elab.async false
set_option linter.all false
set_option maxRecDepth 100000
/-! sorted(..) of pairs that are told by their content. -/
namespace CW
open PySem PySem.Spec PyProof.Rows L2 StX RZ
def PairV (K : PySem.W.Frag) (H : Hp) (x : V) (q : Int × Int) : Prop := ∃ t, x = .ref t ∧ SqT K H t [.int q.1, .int q.2]
def rSortedPT (K : PySem.W.Frag) : List V → Hp → VK → Prop := fun vs H Q => ∃ (a : Addr) (xs : List V) (k : V → Int × Int), vs = [V.ref a] ∧ SqL K H a xs ∧ (∀ x ∈ xs, PairV K H x (k x)) ∧
  ((∀ x q q', PairV K H x q → PairV K H x q' → q = q') → ∀ (ys : List V) (p : Addr), ys.Perm xs → ys.Pairwise (fun x y => (k x).1 ≤ (k y).1) → H p = none → Q (.ref p) (upd H p (.lst ys)))
theorem cr_sortedPT {X : Cx} {K : PySem.W.Frag} (hK : X.K = K) : CallR X (.builtin "sorted") (rSortedPT K) := by
  subst hK
  intro pins s σ H vs us Q I r h
  obtain ⟨a, xs, k, rfl, hs, hx, q⟩ := h
  obtain ⟨its, rv, hl, hz⟩ := I.list hs
  obtain ⟨u, rfl, ru⟩ := vals1 r
  obtain rfl : u = Value.ref a := ru
  have uniq : ∀ x q q', PairV X.K H x q → PairV X.K H x q' → q = q' := by
    rintro x q q' ⟨t, rfl, h1⟩ ⟨t', e, h2⟩
    cases e
    have e2 := I.tuple_inj h1 h2
    simp only [List.cons.injEq, V.int.injEq, and_true] at e2
    exact Prod.ext e2.1 e2.2
  obtain ⟨e1, e2⟩ := refs_back rv fun x m => by
    obtain ⟨t, e, _⟩ := hx x m
    exact ⟨t, e⟩
  refine SrtO.sorted_pairsO (k := fun u => k (backV u)) hl.isList (by rw [← rv.length]; exact hz) (fun v hv => ?_) fun h' d out h1 h2 kp hd hn => ?_
  · obtain ⟨t, rfl⟩ := e2 v hv
    have hm : V.ref t ∈ xs := by rw [e1]; exact List.mem_map.mpr ⟨_, hv, rfl⟩
    obtain ⟨t', e, ht⟩ := hx _ hm
    cases e
    obtain ⟨its2, r2, ⟨ob, c1, c2, n, c3⟩, _⟩ := I.tuple ht
    obtain ⟨u1, u2, rfl, ri, rj⟩ := vals2 r2
    obtain ⟨t1, rfl⟩ := ri
    obtain ⟨t2, rfl⟩ := rj
    exact ⟨t, ob, t1, t2, n, rfl, c1, c2, c3⟩
  · have h3 : ∀ u ∈ out, ∃ a, u = Value.ref a := fun u hu => e2 u (h2.perm.mem_iff.mp hu)
    obtain ⟨n, hn⟩ := hn
    have hperm : (out.map backV).Perm xs := by
      rw [e1]
      exact h2.perm.map backV
    have hsrt : (out.map backV).Pairwise (fun x y => (k x).1 ≤ (k y).1) := by
      rw [List.pairwise_map]
      refine List.Pairwise.imp (fun {x y} hxy => ?_) (show out.Pairwise _ from h1)
      have h4 := SrtO.lexB_no.mp hxy
      have h5 : ¬ (k (backV y)).1 < (k (backV x)).1 := fun z => h4 (.inl z)
      omega
    refine ⟨.ref d, upd H d (.lst (out.map backV)), I.laid (t' := s.toks) kp hd ⟨?_, out, n, vals_back h3, hn⟩, rfl, q uniq _ d hperm hsrt (I.hok.fresh hd)⟩
    rw [hperm.length_eq]
    exact hz
/-- over data -/
theorem isAll_of {K : PySem.W.Frag} {O : Hp} (k : V → Int × Int) : ∀ (ys : List V), (∀ y ∈ ys, Is K O y (bD (k y))) → IsAll K O ys ((ys.map k).map bD)
  | [], _ => .nil
  | y :: ys, h => .cons (h y List.mem_cons_self) (isAll_of k ys fun z hz => h z (List.mem_cons_of_mem _ hz))
open Classical in
theorem ev_sortedP {K : PySem.W.Frag} {W : Wd} {ρ : List Sl} {ta : TE} {ps : List (Int × Int)} (ha : EvD K W ta ρ (lB ps)) : Ev K W (tCB (rSortedPT K) (tCons ta tNil)) ρ fun d => ∃ qs : List (Int × Int), d = lB qs ∧ qs.Perm ps ∧ (qs.map (·.1)).Pairwise (· ≤ ·) := ev_cb (ea_cons ha ea_nil) fun vs H n dv o Q q => by
  cases dv with
  | cons h1 h2 =>
    cases h2
    cases h1 with
    | lst h3 h4 =>
      rename_i a xs
      have hp : ∀ x ∈ xs, ∃ b : Int × Int, Is K (W.fr H) x (bD b) := fun x hx => by
        obtain ⟨i, hi⟩ := List.mem_iff_getElem?.mp hx
        obtain ⟨b, _, hb⟩ := isAll_map h4 hi
        exact ⟨b, hb⟩
      have pv : ∀ x b, Is K (W.fr H) x (bD b) → PairV K (W.fr H) x b := fun x b hb => by
        cases hb with
        | tup g1 g2 =>
          cases g2 with
          | cons g2 g3 =>
            cases g3 with
            | cons g3 g4 =>
              cases g4
              cases g2
              cases g3
              exact ⟨_, rfl, g1⟩
      let k : V → Int × Int := fun x => if h : ∃ b : Int × Int, Is K (W.fr H) x (bD b) then Classical.choose h else (0, 0)
      have hk : ∀ x ∈ xs, Is K (W.fr H) x (bD (k x)) := fun x hx => by
        have := hp x hx
        show Is K (W.fr H) x (bD (if h : ∃ b : Int × Int, Is K (W.fr H) x (bD b) then Classical.choose h else (0, 0)))
        rw [dif_pos this]
        exact Classical.choose_spec this
      refine ⟨a, xs, k, rfl, Same.seq fr_le h3, fun x hx => ?_, fun uniq ys p hperm hsrt hp' => ?_⟩
      · obtain ⟨t, e, ht⟩ := pv x _ (hk x hx)
        exact ⟨t, e, sqT_mono fr_le ht⟩
      · have hxs : xs.map k = ps := by
          refine List.ext_getElem? fun i => ?_
          rw [List.getElem?_map]
          cases hi : xs[i]? with
          | none =>
            have hl := h4.len
            rw [List.length_map] at hl
            have := List.getElem?_eq_none_iff.mp hi
            rw [List.getElem?_eq_none (by omega)]
            rfl
          | some x =>
            obtain ⟨b, e1, hb⟩ := isAll_map h4 hi
            rw [e1]
            have up : ∀ b, PairV K (W.fr H) x b → PairV K H x b := fun b ⟨t, e, ht⟩ => ⟨t, e, sqT_mono fr_le ht⟩
            have := uniq x _ _ (up _ (pv x _ (hk x (List.mem_of_getElem? hi)))) (up _ (pv x b hb))
            show some (k x) = some b
            rw [this]
        refine q _ _ (lB (ys.map k)) (Same.new hp') (.lst (.inl (.inl (o.at hp'))) ((isAll_of k ys fun y hy => hk y (hperm.mem_iff.mp hy)).mono (fr_new hp'))) ⟨ys.map k, rfl, ?_, ?_⟩
        · rw [← hxs]
          exact hperm.map k
        · rw [List.map_map, List.pairwise_map]
          exact hsrt
end CW
end R6x
section B2x
set_option Elab.async false
set_option linter.all false
set_option maxRecDepth 100000
namespace CW
open PySem PySem.Spec PyProof.Rows L2 StX RZ
section
variable {P : Program} {w : World} {K : PySem.W.Frag} {mg : PySem.Str → Option Value} {base : Heap} {f : Addr} {fd : FuncData}
structure HopA where
  l : Int
  pre : List Int
  x : Int
  xs : List Int
  post : List Int
def HopA.all (a : HopA) : List Int := a.pre ++ (a.x :: a.xs ++ a.post)
abbrev sp_hop_places (K : PySem.W.Frag) : Sp := SpD K (α := HopA) (fun a => [.int a.l, tI a.all, .int (a.pre.length : Int), .int ((a.pre.length : Int) + 1 + a.xs.length)]) (fun a => a.all.length ≤ 10000) (fun a d => d = lI (CK.hopP a.l a.pre.length (a.x :: a.xs)))
def hopStep (l S : Int) (s : List Int × Int) (p : Nat × Int) : List Int × Int := if l < s.2 + p.2 then (s.1 ++ [S + (p.1 : Int)], p.2) else (s.1, s.2 + p.2)
theorem hop_fold (l S : Int) : ∀ (xs : List Int) (k : Nat) (s : List Int × Int), (((List.range' k xs.length).zip xs).foldl (hopStep l S) s).1 = s.1 ++ CK.hopGo l s.2 (S + (k : Int)) xs := by
  intro xs
  induction xs with
  | nil => intro k s; simp [CK.hopGo]
  | cons x xs ih =>
    intro k s
    rw [List.length_cons, List.range'_succ, List.zip_cons_cons, List.foldl_cons, ih]
    have e : S + ((k + 1 : Nat) : Int) = S + (k : Int) + 1 := by omega
    rw [e]
    unfold hopStep
    simp only [CK.hopGo]
    split <;> simp
theorem hop_len (l S : Int) : ∀ (L : List (Nat × Int)) (s : List Int × Int), (L.foldl (hopStep l S) s).1.length ≤ s.1.length + L.length := by
  intro L
  induction L with
  | nil => intro s; simp
  | cons p L ih =>
    intro s
    have h1 := ih (hopStep l S s p)
    have h2 : (hopStep l S s p).1.length ≤ s.1.length + 1 := by unfold hopStep; split <;> simp
    rw [List.foldl_cons, List.length_cons]
    omega
theorem zip_range_at {xs : List Int} {ys zs : List (Nat × Int)} {p : Nat × Int} (e : (List.range xs.length).zip xs = ys ++ p :: zs) : p.1 = ys.length ∧ xs[ys.length]? = some p.2 := by
  have h : ((List.range xs.length).zip xs)[ys.length]? = some p := by rw [e]; simp
  have h' := List.getElem?_zip_eq_some.mp h
  refine ⟨?_, h'.2⟩
  have h1 := h'.1
  have hlt := (List.getElem?_eq_some_iff.mp h1).1
  rw [List.getElem?_range (by simpa using hlt)] at h1
  exact (Option.some.inj h1).symm
theorem ok_hop_places (F : FnP K "hop_places" s_hop_places f fd) (T : Tx mg)  : FnOk P w K mg base CX0 1 f fd ["limit", "batch", "start", "end"] (sp_hop_places K) := by
  have nd := sc_hop_places.nd
  refine F.ok sc_hop_places (fun vs H Q E h => spd_len (fun _ => rfl) h) (fun cdv A outer s H vs Q E hr h => ⟨_, PSs.nox (pss_cons (ps_par (i := 4) (j := 5) rfl nd rfl rfl (by decide) rfl rfl (pa_cons (pe_lst pa_nil) (pa_cons (pe_ix (ix_seqK (K := K) rfl) (pv 1) (pv 2) fun _ _ => rfl) pa_nil)) rfl) (pss_cons (ps_for PassesOwn.never rfl (pi_range2 rfl T.range (pa_cons (pe_op (op_plusK (K := K) rfl) (pv 2) pe_int) (pa_cons (pv 3) pa_nil))) (pg_name (i := 6) nd rfl (Or.inl rfl)) (pss_cons (ps_if (pt_cmpR op_gt (pe_op (op_plusK (K := K) rfl) (pv 5) (pe_ix (ix_seqK (K := K) rfl) (pv 1) (pv 6) fun _ _ => rfl)) (pv 0) (nomark _)) (pss_cons (ps_expr (pe_bmK (K := K) rfl PySem.F.plainAttrs_list PySem.F.slot_list_append PySem.F.type_list_append mt_append (pv 4) (pa_cons (pv 6) pa_nil))) (pss_one (ps_set (i := 5) nd rfl (Or.inl rfl) pe_int))) pss_nil) (pss_one (ps_aug (i := 5) nd rfl (Or.inl rfl) (pe_ix (ix_seqK (K := K) rfl) (pv 1) (pv 6) fun _ _ => rfl) ip_add)))) (pss_one (ps_ret (pv 4))))), run_pure (Ns := N_hop_places) h fun a B hp => ?_⟩)
  have h0 : a.all[a.pre.length]? = some a.x := by unfold HopA.all; simp
  have hl : a.all.length = a.pre.length + (1 + a.xs.length + a.post.length) := by unfold HopA.all; simp; omega
  refine sb_seq (sb_par (es_new (ef_lst ea_nil (by simp))) (fun W1 s1 h => es_k (ek_ev (P := fun d => d = .int a.x) (ev_ixT (ev_var rfl) (ev_var rfl) (atI_nat (by rw [List.getElem?_map, h0]; rfl))))) ?_)
  rintro W1 s1 W2 s2 ⟨p, rfl, rfl⟩ ⟨rfl, d, rfl, rfl⟩
  refine sb_seq (sb_fold0 (xs := (List.range a.xs.length).zip a.xs) (enc := fun q => .int ((a.pre.length : Int) + 1 + (q.1 : Int))) ?_ (hopStep a.l ((a.pre.length : Int) + 1))
    (fun s W' ρ' => W' = B.push K p (.lst (s.1.map .int)) ∧ ∃ o, ρ' = [.dat (.int a.l), .dat (tI a.all), .dat (.int (a.pre.length : Int)), .dat (.int ((a.pre.length : Int) + 1 + a.xs.length)), .at p, .dat (.int s.2), o]) ([], a.x) ⟨rfl, _, rfl⟩ ?_ ?_)
  · have e := ei_range2 (K := K) (W := B.push K p (.lst [])) (ta := tOp (rPlus K) (tVar 2) (tC (.int 1))) (tb := tVar 3) (ρ := [.dat (.int a.l), .dat (tI a.all), .dat (.int (a.pre.length : Int)), .dat (.int ((a.pre.length : Int) + 1 + a.xs.length)), .at p, .dat (.int a.x), .no]) (ev_add (ev_var rfl) (ev_int 1)) (ev_var rfl) ⟨by omega, by omega, by omega, by omega⟩
    have en : ((a.pre.length : Int) + 1 + a.xs.length - ((a.pre.length : Int) + 1)).toNat = a.xs.length := by omega
    rw [en] at e
    have e2 : (((List.range a.xs.length).zip a.xs).map fun q => PyData.int ((a.pre.length : Int) + 1 + (q.1 : Int))) = rangeD ((a.pre.length : Int) + 1) a.xs.length := by
      unfold rangeD
      have e3 : (((List.range a.xs.length).zip a.xs).map Prod.fst) = List.range a.xs.length := by rw [List.map_fst_zip]; simp
      conv => rhs; rw [← e3]
      rw [List.map_map]; rfl
    rw [e2]
    exact e
  · rintro ys q zs W' ρ' e x' ⟨rfl, o, rfl⟩
    refine ⟨_, _, eg_name, ?_⟩
    obtain ⟨q1, q2⟩ := zip_range_at e
    have hlen := hop_len a.l ((a.pre.length : Int) + 1) ys ([], a.x)
    have hys : ys.length < a.xs.length := (List.getElem?_eq_some_iff.mp q2).1
    generalize ys.foldl (hopStep a.l ((a.pre.length : Int) + 1)) ([], a.x) = s at hlen
    have hq : L2.atI (a.all.map PyData.int) ((a.pre.length : Int) + 1 + (q.1 : Int)) = some (.int q.2) := by
      have e1 : (a.pre.length : Int) + 1 + (q.1 : Int) = ((a.pre.length + 1 + q.1 : Nat) : Int) := by omega
      rw [e1]
      refine atI_nat ?_
      rw [List.getElem?_map]
      have e2 : a.all[a.pre.length + 1 + q.1]? = some q.2 := by
        unfold HopA.all
        rw [List.getElem?_append_right (by omega)]
        have e3 : a.pre.length + 1 + q.1 - a.pre.length = q.1 + 1 := by omega
        rw [e3, List.cons_append, List.getElem?_cons_succ, List.getElem?_append_left (by omega), q1]
        exact q2
      rw [e2]; rfl
    refine sb_seq (sb_if (b := decide (a.l < s.2 + q.2)) (et_test (ev_gt (ev_add (ev_var rfl) (ev_ixT (ev_var rfl) (ev_var rfl) hq)) (ev_var rfl))) (fun hb => ?_) fun hb => ?_)
    · refine sb_seq (sb_append rfl Mu.here (fun _ _ => Ext.push) (ek_ev (P := fun d => d = .int ((a.pre.length : Int) + 1 + (q.1 : Int))) (ev_var rfl)) (by rw [List.length_map]; simp at hlen; omega) fun d hd => ?_)
      subst hd
      refine sb_asgD (ev_int 0) ?_
      refine sb_aug (a := 0) (b := q.2) rfl (ev_ixT (ev_var rfl) (ev_var rfl) hq) ?_
      have hb' : a.l < s.2 + q.2 := by simpa using hb
      refine ⟨?_, .dat (.int ((a.pre.length : Int) + 1 + (q.1 : Int))), ?_⟩
      · unfold hopStep; rw [if_pos hb']; simp
      · unfold hopStep; rw [if_pos hb']; simp
    · refine sb_next ?_
      refine sb_aug (a := s.2) (b := q.2) rfl (ev_ixT (ev_var rfl) (ev_var rfl) hq) ?_
      have hb' : ¬ a.l < s.2 + q.2 := by simpa using hb
      refine ⟨?_, .dat (.int ((a.pre.length : Int) + 1 + (q.1 : Int))), ?_⟩
      · unfold hopStep; rw [if_neg hb']
      · unfold hopStep; rw [if_neg hb']; rfl
  · rintro W' ρ' ⟨rfl, o, rfl⟩
    refine sb_ret_view (i := 4) rfl (Ext.refl B) (ev_var rfl) fun d hd => ?_
    subst hd
    have e := hop_fold a.l ((a.pre.length : Int) + 1) a.xs 0 ([], a.x)
    rw [← List.range_eq_range'] at e
    rw [e]
    simp [lI, CK.hopP]
abbrev sp_few_limits (K : PySem.W.Frag) : Sp := SpR K (α := Int × Int × Int) (fun a => [.int a.1, .int a.2.1, .int a.2.2]) (fun a => 1 ≤ a.2.2 ∧ a.2.1 - a.1 ≤ 100000) (fun a => (CK.fewL a.1 a.2.1 a.2.2).map .int)
theorem fewGo_len : ∀ (n : Nat) (lo L h : Int), (CK.fewGo n lo L h).length ≤ n + 1
  | 0, _, _, _ => by simp [CK.fewGo]
  | n + 1, lo, L, h => by
    have ih := fewGo_len n lo L (max lo (h - L))
    unfold CK.fewGo
    split <;> simp <;> omega
theorem fewGo_step {lo L h : Int} (hL : 1 ≤ L) (hlt : lo < h) : CK.fewGo (h - lo).toNat lo L h = h :: CK.fewGo ((max lo (h - L)) - lo).toNat lo L (max lo (h - L)) := by
  have aux : ∀ (n m : Nat) (h : Int), (h - lo).toNat ≤ n → (h - lo).toNat ≤ m → CK.fewGo n lo L h = CK.fewGo m lo L h := by
    intro n
    induction n with
    | zero =>
      intro m h h1 h2
      have : ¬ lo < h := by omega
      cases m with
      | zero => rfl
      | succ m => simp [CK.fewGo, this]
    | succ n ih =>
      intro m h h1 h2
      cases m with
      | zero =>
        have : ¬ lo < h := by omega
        simp [CK.fewGo, this]
      | succ m =>
        simp only [CK.fewGo]
        split
        · rw [ih m (max lo (h - L)) (by omega) (by omega)]
        · rfl
  obtain ⟨n, hn⟩ : ∃ n, (h - lo).toNat = n + 1 := ⟨(h - lo).toNat - 1, by omega⟩
  rw [hn]
  simp only [CK.fewGo]
  rw [if_pos hlt, aux n ((max lo (h - L)) - lo).toNat _ (by omega) (by omega)]
theorem fewGo_last {lo L h : Int} (hle : ¬ lo < h) : CK.fewGo (h - lo).toNat lo L h = [h] := by
  have : (h - lo).toNat = 0 := by omega
  rw [this]; rfl
theorem ok_few_limits (F : FnP K "few_limits" s_few_limits f fd) (T : Tx mg)  : FnOk P w K mg base CX0 1 f fd ["low", "high", "least"] (sp_few_limits K) := by
  have nd := sc_few_limits.nd
  refine F.ok sc_few_limits (fun vs H Q E h => spr_len (fun _ => rfl) h) (fun cdv A outer s H vs Q E hr h => ⟨_, PSs.nox (pss_cons (ps_set (i := 3) nd rfl (Or.inl rfl) (pe_lst (pa_cons (pv 1) pa_nil))) (pss_cons (ps_while PassesOwn.never (pt_cmpR op_gt (pe_ix (ix_seqK (K := K) rfl) (pv 3) (pe_un un_neg pe_int) fun _ _ => rfl) (pv 0) (nomark _)) (pss_one (ps_expr (pe_bmK (K := K) rfl PySem.F.plainAttrs_list PySem.F.slot_list_append PySem.F.type_list_append mt_append (pv 3) (pa_cons (pe_callB (call_max2K rfl) rfl T.max (by decide +kernel) (pa_cons (pv 0) (pa_cons (pe_op op_sub (pe_ix (ix_seqK (K := K) rfl) (pv 3) (pe_un un_neg pe_int) fun _ _ => rfl) (pv 2)) pa_nil))) pa_nil))))) (pss_one (ps_ret (pv 3))))), run_R (Ns := N_few_limits) h fun a B hp => ?_⟩)
  obtain ⟨h1, h2⟩ := hp
  refine sb_seq (sb_asgM (ef_lst (ea_cons (ev_var rfl) ea_nil) (by simp)) fun p => ?_)
  refine sb_seq (sb_while (fun m W' ρ' => ∃ (f : List Int) (x : Int), W' = B.push K p (.lst ((f ++ [x]).map .int)) ∧ ρ' = [.dat (.int a.1), .dat (.int a.2.1), .dat (.int a.2.2), .at p] ∧ f ++ CK.fewGo (x - a.1).toNat a.1 a.2.2 x = CK.fewL a.1 a.2.1 a.2.2 ∧ m = (x - a.1).toNat) (a.2.1 - a.1).toNat ⟨[], a.2.1, rfl, rfl, rfl, rfl⟩ ?_)
  rintro m W' ρ' x' ⟨f, x, rfl, rfl, hf, rfl⟩
  have hlast : ((f ++ [x]).map PyData.int).getLast? = some (.int x) := by simp
  refine ⟨decide (a.1 < x), et_view (i := 3) rfl (et_test (ev_gt (ev_ixL (ev_var rfl) (ev_neg (ev_int 1)) (atI_last hlast)) (ev_var rfl))), fun hb => ?_, fun hb => ?_⟩
  · have hb' : a.1 < x := by simpa using hb
    have hs := fewGo_step h1 hb'
    refine ⟨((max a.1 (x - a.2.2)) - a.1).toNat, by omega, ?_⟩
    refine sb_append (ds := (f ++ [x]).map .int) rfl Mu.here (fun _ _ => Ext.push) (ek_ev (P := fun d => d = .int (max a.1 (x - a.2.2))) (ev_max (ev_var rfl) (ev_sub (ev_view (i := 3) rfl (ev_ixL (ev_var rfl) (ev_neg (ev_int 1)) (atI_last hlast)) rfl) (ev_var rfl)))) ?_ fun d hd => ?_
    · have hl := fewGo_len (a.2.1 - a.1).toNat a.1 a.2.2 a.2.1
      have he := congrArg List.length hf
      rw [List.length_append] at he
      have hp := congrArg List.length hs
      rw [List.length_cons] at hp
      rw [List.length_map, List.length_append, List.length_singleton]
      unfold CK.fewL at he
      omega
    · subst hd
      refine ⟨f ++ [x], max a.1 (x - a.2.2), by simp, rfl, ?_, rfl⟩
      rw [← hf, hs]
      simp
  · have hb' : ¬ a.1 < x := by simpa using hb
    rw [fewGo_last hb'] at hf
    rw [hf]
    exact sb_ret_R rfl (Ext.refl B)

end
end CW
end B2x
section B3x
set_option Elab.async false
set_option linter.all false
set_option maxRecDepth 100000
namespace CW
open PySem PySem.Spec PyProof.Rows L2 StX RZ
section
variable {P : Program} {w : World} {K : PySem.W.Frag} {mg : PySem.Str → Option Value} {base : Heap} {f : Addr} {fd : FuncData}
theorem eqv_bD (x y : Int × Int) : PyData.eqv (bD x) (bD y) = decide (x = y) := by
  obtain ⟨a, b⟩ := x
  obtain ⟨c, d⟩ := y
  simp only [bD, PyData.eqv, PyData.eqvAll]
  by_cases h1 : a = c <;> by_cases h2 : b = d <;> simp [h1, h2]
theorem shaped_bD (x : Int × Int) : SeqAt.shaped (bD x) = true := by
  simp [bD, SeqAt.shaped, PyData.canLay0, PyData.canLayAll0, PyData.depth, PyData.depthAll]
theorem last_split {α : Type} {s : List α} {y : α} (h : s.getLast? = some y) : s = s.dropLast ++ [y] := by
  rcases List.eq_nil_or_concat s with e | ⟨l, b, e⟩
  · subst e; cases h
  · rw [List.concat_eq_append] at e
    subst e
    simp at h
    subst h
    simp
theorem mid_last {α : Type} (a : List α) (p : α) (c : List α) (z : α) : a ++ p :: (c ++ [z]) = (a ++ p :: c) ++ [z] := by simp
abbrev sp_joined_blocks (K : PySem.W.Frag) : Sp := SpD K (α := List (Int × Int) × Int) (fun a => [lB a.1, .int a.2]) (fun a => a.1.length ≤ 10000) (fun a d => d = tB (CK.joined a.2 a.1))
theorem join_len (L : Int) (ys : List (Int × Int)) : ∀ acc : List (Int × Int), (ys.foldl (CK.joinStep L) acc).length ≤ acc.length + ys.length := by
  induction ys with
  | nil => intro acc; simp
  | cons y ys ih =>
    intro acc
    have h1 := ih (CK.joinStep L acc y)
    have h2 : (CK.joinStep L acc y).length ≤ acc.length + 1 := by
      unfold CK.joinStep
      cases acc.getLast? with
      | none => simp
      | some z => simp only; split <;> simp <;> omega
    rw [List.foldl_cons, List.length_cons]
    omega
theorem ok_joined_blocks (F : FnP K "joined_blocks" s_joined_blocks f fd) (T : Tx mg)  : FnOk P w K mg base CX0 1 f fd ["blocks", "least"] (sp_joined_blocks K) := by
  have nd := sc_joined_blocks.nd
  refine F.ok sc_joined_blocks (fun vs H Q E h => spd_len (fun _ => rfl) h) (fun cdv A outer s H vs Q E hr h => ⟨_, PSs.nox (pss_cons (ps_set (i := 2) nd rfl (Or.inl rfl) (pe_lst pa_nil)) (pss_cons (ps_for PassesOwn.never rfl (pi_anyK (K := K) rfl (pv 0)) (pg_tupK (K := K) (n := 2) rfl rfl (pgs_cons (pg_name (i := 3) nd rfl (Or.inl rfl)) (pgs_cons (pg_name (i := 4) nd rfl (Or.inl rfl)) pgs_nil))) (pss_one (ps_if (PW.pt (pw_and (pt_cmpR op_gt (pe_callB (call_lenK (K := K) rfl) rfl T.len (by decide +kernel) (pa_cons (pv 2) pa_nil)) pe_int (nomark _)) (pw_and1 (pt_cmpR op_le (pe_op op_sub (pv 3) (pe_ix (ix_seqK (K := K) rfl) (pe_ix (ix_seqK (K := K) rfl) (pv 2) (pe_un un_neg pe_int) fun _ _ => rfl) pe_int fun _ _ => rfl)) (pv 1) (nomark _))))) (pss_one (ps_asg (pe_tup (pa_cons (pe_ix (ix_seqK (K := K) rfl) (pe_ix (ix_seqK (K := K) rfl) (pv 2) (pe_un un_neg pe_int) fun _ _ => rfl) pe_int fun _ _ => rfl) (pa_cons (pv 4) pa_nil))) (pg_sub (pv 2) (pe_un un_neg pe_int) set_list))) (pss_one (ps_expr (pe_bmK (K := K) rfl PySem.F.plainAttrs_list PySem.F.slot_list_append PySem.F.type_list_append mt_append (pv 2) (pa_cons (pe_tup (pa_cons (pv 3) (pa_cons (pv 4) pa_nil))) pa_nil))))))) (pss_one (ps_ret (pe_callTy (call_tupleK (K := K) rfl) rfl T.tuple (by decide +kernel) (pa_cons (pv 2) pa_nil)))))), run_pure (Ns := N_joined_blocks) h fun a B hp => ?_⟩)
  refine sb_seq (sb_asgM (ef_lst ea_nil (by simp)) fun p => ?_)
  refine sb_seq (sb_fold0 (xs := a.1) (enc := bD) (ei_anyL (ev_var rfl)) (CK.joinStep a.2) (fun s W' ρ' => W' = B.push K p (.lst (s.map bD)) ∧ ∃ o1 o2, ρ' = [.dat (lB a.1), .dat (.int a.2), .at p, o1, o2]) [] ⟨rfl, _, _, rfl⟩ ?_ ?_)
  · rintro ys x zs W' ρ' e x' ⟨rfl, o1, o2, rfl⟩
    refine ⟨_, _, eg_pair, ?_⟩
    have hl := join_len a.2 ys []
    have hlen : ys.length < a.1.length := by rw [e]; simp
    generalize hs : ys.foldl (CK.joinStep a.2) [] = s at hl
    cases hg : s.getLast? with
    | none =>
      have hs0 : s = [] := List.getLast?_eq_none_iff.mp hg
      subst hs0
      refine sb_if (b := false) (et_view (i := 2) rfl (et_to (et_and (x := false) (et_test (evd_to (ev_gt (ev_lenL (ev_var rfl)) (ev_int 0)) (by simp))) (y := true) fun h => by cases h) rfl)) (fun h => by cases h) fun _ => ?_
      refine sb_append rfl Mu.here (fun _ _ => Ext.push) (ek_ev (P := fun d => d = bD x) (ev_tup (ea_cons (ev_var rfl) (ea_cons (ev_var rfl) ea_nil)) (by simp))) (by simp) fun d hd => ?_
      subst hd
      exact ⟨rfl, _, _, rfl⟩
    | some y =>
      have hne : s ≠ [] := fun z => by rw [z] at hg; cases hg
      have hpos : 0 < s.length := List.length_pos_iff.mpr hne
      have hlast : L2.atI (s.map bD) (-1) = some (bD y) := atI_last (last_map _ hg)
      refine sb_if (b := decide (x.1 - y.2 ≤ a.2)) (et_view (i := 2) rfl (et_to (et_and (x := true) (et_test (evd_to (ev_gt (ev_lenL (ev_var rfl)) (ev_int 0)) (by simp; omega))) (y := decide (x.1 - y.2 ≤ a.2)) fun _ => et_test (ev_le (ev_sub (ev_var rfl) (ev_ixT (ev_ixL (ev_var rfl) (ev_neg (ev_int 1)) hlast) (ev_int 1) (atI_one rfl))) (ev_var rfl))) (by simp))) (fun hb => ?_) fun hb => ?_
      · have hb' : x.1 - y.2 ≤ a.2 := by simpa using hb
        refine sb_setL (j := s.length - 1) rfl Mu.here (fun _ _ => Ext.push) (ev_tup (ea_cons (ev_view (i := 2) (d := .int y.1) rfl (ev_ixT (ev_ixL (ev_var rfl) (ev_neg (ev_int 1)) hlast) (ev_int 0) (atI_zero rfl)) rfl) (ea_cons (ev_var rfl) ea_nil)) (by simp)) (ev_neg (ev_int 1)) ?_ ?_
        · rw [List.length_map]
          unfold ixN
          rw [if_neg (by omega), if_pos (by omega)]
          congr 1
          omega
        · refine ⟨?_, _, _, rfl⟩
          have e2 : (s.map bD).set (s.length - 1) (.tuple [.int y.1, .int x.2]) = (s.dropLast ++ [(y.1, x.2)]).map bD := by
            have e3 : s = s.dropLast ++ [y] := last_split hg
            have e4 : s.length - 1 = (s.dropLast.map bD).length := by simp
            conv => lhs; rw [e4]; arg 1; rw [e3]
            rw [List.map_append, List.set_append_right _ _ (Nat.le_refl _)]
            simp [bD]
          rw [e2]
          unfold CK.joinStep
          rw [hg]
          simp only [if_pos hb']
      · have hb' : ¬ x.1 - y.2 ≤ a.2 := by simpa using hb
        refine sb_append rfl Mu.here (fun _ _ => Ext.push) (ek_ev (P := fun d => d = bD x) (ev_tup (ea_cons (ev_var rfl) (ea_cons (ev_var rfl) ea_nil)) (by simp))) (by rw [List.length_map]; simp at hl; omega) fun d hd => ?_
        subst hd
        refine ⟨?_, _, _, rfl⟩
        unfold CK.joinStep
        rw [hg]
        simp only [if_neg hb']
        rw [List.map_append]
        rfl
  · rintro W' ρ' ⟨rfl, o1, o2, rfl⟩
    exact sb_ret_view (i := 2) rfl (Ext.refl B) (ev_tupL (ev_var rfl)) fun d hd => hd
structure GaA where
  a0 : List (Int × Int)
  p : Int × Int
  b0 : List (Int × Int)
  q : Int × Int
  c : List (Int × Int)
abbrev sp_greatest_apart (K : PySem.W.Frag) : Sp := SpD K (α := GaA) (fun a => [tB (a.a0 ++ a.p :: a.c), tB (a.b0 ++ a.q :: a.c)]) (fun a => a.p ≠ a.q) (fun a d => d = .int (if a.p.2 ≠ a.q.2 then max a.p.2 a.q.2 else max a.p.1 a.q.1 - 1))
theorem eg_pair2 {ρ : List Sl} {i j l m : Nat} {a b c d : PyData} : EvG K (gTup K 2 (gCons (gTup K 2 (gCons (gName i) (gCons (gName j) gNil))) (gCons (gTup K 2 (gCons (gName l) (gCons (gName m) gNil))) gNil))) ρ (.tuple [.tuple [a, b], .tuple [c, d]])
    ((((ρ.set i (.dat a)).set j (.dat b)).set l (.dat c)).set m (.dat d)) [i, j, l, m] := fun v σ O H e s hv Q q => by
  cases hv with
  | tup h1 h2 =>
    cases h2 with
    | cons k1 k2 =>
      cases k2 with
      | cons k2 k3 =>
        cases k3
        refine ⟨_, _, rfl, sqT_mono s h1, rfl, _, _, rfl, ?_⟩
        refine eg_pair _ σ O H e s k1 _ fun σ1 l1 e1 n1 => ⟨_, _, rfl, ?_⟩
        refine eg_pair _ σ1 O H e1 s k2 _ fun σ2 l2 e2 n2 => ⟨rfl, ?_⟩
        refine q _ (l2.trans l1) e2 fun x hx => ?_
        rw [n2 x (by simp at hx ⊢; omega), n1 x (by simp at hx ⊢; omega)]
theorem ok_greatest_apart (F : FnP K "greatest_apart" s_greatest_apart f fd) (T : Tx mg)  : FnOk P w K mg base CX0 1 f fd ["mine", "its"] (sp_greatest_apart K) := by
  have nd := sc_greatest_apart.nd
  refine F.ok sc_greatest_apart (fun vs H Q E h => spd_len (fun _ => rfl) h) (fun cdv A outer s H vs Q E hr h => ⟨_, PSs.nox (pss_cons (ps_par (i := 2) (j := 3) rfl nd rfl rfl (by decide) rfl rfl (pa_cons (pe_callTy (call_listK (K := K) rfl) rfl T.list (by decide +kernel) (pa_cons (pv 0) pa_nil)) (pa_cons (pe_callTy (call_listK (K := K) rfl) rfl T.list (by decide +kernel) (pa_cons (pv 1) pa_nil)) pa_nil)) rfl) (pss_cons (ps_while PassesOwn.never (pt_cmpR (op_eqK (K := K) rfl (hu64 hr)) (pe_ix (ix_seqK (K := K) rfl) (pv 2) (pe_un un_neg pe_int) fun _ _ => rfl) (pe_ix (ix_seqK (K := K) rfl) (pv 3) (pe_un un_neg pe_int) fun _ _ => rfl) (nomark _)) (pss_cons (ps_expr (pe_bm0X (K := K) rfl PySem.F.plainAttrs_list PySem.F.slot_list_pop PySem.F.type_list_pop mt_pop (pv 2))) (pss_one (ps_expr (pe_bm0X (K := K) rfl PySem.F.plainAttrs_list PySem.F.slot_list_pop PySem.F.type_list_pop mt_pop (pv 3)))))) (pss_cons (ps_asg (pe_tup (pa_cons (pe_ix (ix_seqK (K := K) rfl) (pv 2) (pe_un un_neg pe_int) fun _ _ => rfl) (pa_cons (pe_ix (ix_seqK (K := K) rfl) (pv 3) (pe_un un_neg pe_int) fun _ _ => rfl) pa_nil))) (pg_tupK (K := K) (n := 2) rfl rfl (pgs_cons (pg_tupK (K := K) (n := 2) rfl rfl (pgs_cons (pg_name (i := 4) nd rfl (Or.inl rfl)) (pgs_cons (pg_name (i := 5) nd rfl (Or.inl rfl)) pgs_nil))) (pgs_cons (pg_tupK (K := K) (n := 2) rfl rfl (pgs_cons (pg_name (i := 6) nd rfl (Or.inl rfl)) (pgs_cons (pg_name (i := 7) nd rfl (Or.inl rfl)) pgs_nil))) pgs_nil)))) (pss_one (ps_ret (pe_ifExp (pt_cmpR (op_neK (K := K) rfl (hu64 hr)) (pv 5) (pv 7) (nomark _)) (pe_callB (call_max2K rfl) rfl T.max (by decide +kernel) (pa_cons (pv 5) (pa_cons (pv 7) pa_nil))) (pe_op op_sub (pe_callB (call_max2K rfl) rfl T.max (by decide +kernel) (pa_cons (pv 4) (pa_cons (pv 6) pa_nil))) pe_int))))))), run_pure (Ns := N_greatest_apart) h fun a B hp => ?_⟩)
  refine sb_seq (sb_par (es_new (ef_list (ev_var rfl))) (fun W1 s1 h => es_new (ef_list (ev_var rfl))) ?_)
  rintro W1 s1 W2 s2 ⟨p1, rfl, rfl⟩ ⟨p2, rfl, rfl⟩
  refine sb_seq (sb_while (fun m W' ρ' => ∃ c : List (Int × Int), W' = (B.push K p1 (.lst ((a.a0 ++ a.p :: c).map bD))).push K p2 (.lst ((a.b0 ++ a.q :: c).map bD)) ∧ ρ' = [.dat (tB (a.a0 ++ a.p :: a.c)), .dat (tB (a.b0 ++ a.q :: a.c)), .at p1, .at p2, .no, .no, .no, .no] ∧ m = c.length) a.c.length ⟨a.c, rfl, rfl, rfl⟩ ?_)
  rintro m W' ρ' x' ⟨c, rfl, rfl, rfl⟩
  rcases List.eq_nil_or_concat c with hc | ⟨c0, z, hc⟩
  · subst hc
    have l1 : L2.atI ((a.a0 ++ [a.p]).map bD) (-1) = some (bD a.p) := atI_last (by simp)
    have l2 : L2.atI ((a.b0 ++ [a.q]).map bD) (-1) = some (bD a.q) := atI_last (by simp)
    refine ⟨false, et_view (i := 3) rfl (et_view (i := 2) rfl (et_test (ev_eqD (ev_ixL (ev_var rfl) (ev_neg (ev_int 1)) l1) (ev_ixL (ev_var rfl) (ev_neg (ev_int 1)) l2) (shaped_bD _) (shaped_bD _) ?_))), (fun h => by cases h), fun _ => ?_⟩
    · rw [eqv_bD]; simp [hp]
    · refine sb_seq (sb_asgG (P := fun d => d = .tuple [bD a.p, bD a.q]) (ρd := fun _ => [.dat (tB (a.a0 ++ a.p :: a.c)), .dat (tB (a.b0 ++ a.q :: a.c)), .at p1, .at p2, .dat (.int a.p.1), .dat (.int a.p.2), .dat (.int a.q.1), .dat (.int a.q.2)]) (js := [4, 5, 6, 7]) ?_ (fun d hd => by subst hd; exact eg_pair2) fun d hd => ?_)
      · exact ev_tup (ea_cons (ev_ixM rfl (Mu.up Mu.here) (ev_neg (ev_int 1)) l1) (ea_cons (ev_ixM rfl Mu.here (ev_neg (ev_int 1)) l2) ea_nil)) (by simp)
      · refine sb_ret (P' := fun d => d = .int (if a.p.2 ≠ a.q.2 then max a.p.2 a.q.2 else max a.p.1 a.q.1 - 1)) (ev_if (c := !decide (a.p.2 = a.q.2)) (et_test (ev_neI (ev_var rfl) (ev_var rfl))) (fun h => evd_to (ev_max (ev_var rfl) (ev_var rfl)) ?_) fun h => evd_to (ev_sub (ev_max (ev_var rfl) (ev_var rfl)) (ev_int 1)) ?_) fun d hd => hd
        · have h' : a.p.2 ≠ a.q.2 := by simpa using h
          rw [if_pos h']
        · have h' : ¬ a.p.2 ≠ a.q.2 := by simpa using h
          rw [if_neg h']
  · rw [List.concat_eq_append] at hc
    subst hc
    have l1 : L2.atI ((a.a0 ++ a.p :: (c0 ++ [z])).map bD) (-1) = some (bD z) := by rw [mid_last]; exact atI_last (last_map bD List.getLast?_concat)
    have l2 : L2.atI ((a.b0 ++ a.q :: (c0 ++ [z])).map bD) (-1) = some (bD z) := by rw [mid_last]; exact atI_last (last_map bD List.getLast?_concat)
    refine ⟨true, et_view (i := 3) rfl (et_view (i := 2) rfl (et_test (ev_eqD (ev_ixL (ev_var rfl) (ev_neg (ev_int 1)) l1) (ev_ixL (ev_var rfl) (ev_neg (ev_int 1)) l2) (shaped_bD _) (shaped_bD _) ?_))), fun _ => ⟨c0.length, by simp, ?_⟩, fun h => by cases h⟩
    · rw [eqv_bD]; simp
    · refine sb_seq (sb_pop (d := bD z) rfl (Mu.up Mu.here) (fun ds' q => Ext.trans Ext.push Ext.push) (by rw [mid_last]; exact last_map bD List.getLast?_concat) ?_)
      refine sb_pop (d := bD z) rfl Mu.here (fun ds' q => Ext.trans Ext.push Ext.push) (by rw [mid_last]; exact last_map bD List.getLast?_concat) ?_
      refine ⟨c0, ?_, rfl, rfl⟩
      have d1 : ((a.a0 ++ a.p :: (c0 ++ [z])).map bD).dropLast = (a.a0 ++ a.p :: c0).map bD := by
        rw [mid_last, List.map_append, List.map_cons, List.map_nil, List.dropLast_concat]
      have d2 : ((a.b0 ++ a.q :: (c0 ++ [z])).map bD).dropLast = (a.b0 ++ a.q :: c0).map bD := by
        rw [mid_last, List.map_append, List.map_cons, List.map_nil, List.dropLast_concat]
      rw [d1, d2]

end
end CW
end B3x
section B4x
set_option Elab.async false
set_option linter.all false
set_option maxRecDepth 100000
namespace CW
open PySem PySem.Spec PyProof.Rows L2 StX RZ
section
variable {P : Program} {w : World} {K : PySem.W.Frag} {mg : PySem.Str → Option Value} {base : Heap} {f : Addr} {fd : FuncData}
/-! ### totals, windows -/
def PosN (n : Int) : Prop := 1 ≤ n ∧ n ≤ 1000000
theorem rangeD_rangeI (i j : Int) : ((List.range (j - i).toNat).map fun (k : Nat) => PyData.int (i + (k : Int))) = (CK.rangeI i j).map .int := by
  unfold CK.rangeI
  rw [List.map_map]
  rfl
abbrev sp_pair_totals (K : PySem.W.Frag) : Sp := SpD K (α := Int × Int) (fun a => [.int a.1, .int a.2]) (fun a => PosN a.1 ∧ PosN a.2) (fun a d => d = lI (CK.pairTotals a.1 a.2))
theorem ok_pair_totals (F : FnP K "pair_totals" s_pair_totals f fd) (T : Tx mg)  : FnOk P w K mg base CX0 1 f fd ["top", "least"] (sp_pair_totals K) := by
  have nd := sc_pair_totals.nd
  refine F.ok sc_pair_totals (fun vs H Q E h => spd_len (fun _ => rfl) h) (fun cdv A outer s H vs Q E hr h => ⟨_, PSs.nox (pss_cons (ps_if (pt_cmpR op_lt (pv 0) (pe_op op_mul pe_int (pv 1)) (nomark _)) (pss_one (ps_ret (pe_lst (pa_cons (pe_op op_mul pe_int (pv 1)) pa_nil)))) pss_nil) (pss_cons (ps_if (pt_cmpR (op_eqK (K := K) rfl (hu64 hr)) (pv 0) (pe_op op_mul pe_int (pv 1)) (nomark _)) (pss_one (ps_ret (pe_lst (pa_cons (pv 0) (pa_cons (pe_op (op_plusK (K := K) rfl) (pv 0) pe_int) pa_nil))))) pss_nil) (pss_one (ps_ret (pe_listRg rfl rfl T.list (prg_2 rfl T.range (pe_op op_mul pe_int (pv 1)) (pe_op (op_plusK (K := K) rfl) (pe_callB (call_min2K rfl) rfl T.min (by decide +kernel) (pa_cons (pe_op op_mul pe_int (pv 1)) (pa_cons (pv 0) pa_nil))) pe_int))))))), run_pure (Ns := N_pair_totals) h fun a B hp => ?_⟩)
  obtain ⟨⟨t1, t2⟩, l1, l2⟩ := hp
  have m2 : EvD K B (tOp (rI CMul fun i j => .int (i * j)) (tC (.int 2)) (tVar 1)) [.dat (.int a.1), .dat (.int a.2)] (.int (2 * a.2)) := ev_mul (ev_int 2) (ev_var rfl) (.inl ⟨by decide, by decide⟩)
  refine sb_seq (sb_if (b := decide (a.1 < 2 * a.2)) (et_test (ev_lt (ev_var rfl) m2)) (fun hb => ?_) fun hb => sb_next ?_)
  · have hb' : a.1 < 2 * a.2 := by simpa using hb
    refine sb_retD (EvF.ev (ef_lst (ea_cons m2 ea_nil) (by simp))) ?_
    unfold CK.pairTotals
    rw [if_pos hb']; rfl
  have hb' : ¬ a.1 < 2 * a.2 := by simpa using hb
  refine sb_seq (sb_if (b := decide (a.1 = 2 * a.2)) (et_test (ev_eqI (ev_var rfl) m2)) (fun hc => ?_) fun hc => sb_next ?_)
  · have hc' : a.1 = 2 * a.2 := by simpa using hc
    refine sb_retD (EvF.ev (ef_lst (ea_cons (ev_var rfl) (ea_cons (ev_add (ev_var rfl) (ev_int 1)) ea_nil)) (by simp))) ?_
    unfold CK.pairTotals
    rw [if_neg hb', if_pos hc']; rfl
  · have hc' : ¬ a.1 = 2 * a.2 := by simpa using hc
    refine sb_retD (EvF.ev (ef_rangeL m2 (ev_add (ev_min (ev_mul (ev_int 3) (ev_var rfl) (.inl ⟨by decide, by decide⟩)) (ev_var rfl)) (ev_int 1)) ⟨by omega, by omega, by omega, by omega, by omega⟩)) ?_
    unfold CK.pairTotals
    rw [if_neg hb', if_neg hc', rangeD_rangeI]; rfl
abbrev sp_window_starts (K : PySem.W.Frag) : Sp := SpD K (α := Int × Int) (fun a => [.int a.1, .int a.2]) (fun a => PosN a.1 ∧ PosN a.2) (fun a d => d = lI (CK.windowStarts a.1 a.2))
theorem ok_window_starts (F : FnP K "window_starts" s_window_starts f fd) (T : Tx mg)  : FnOk P w K mg base CX0 1 f fd ["top", "least"] (sp_window_starts K) := by
  have nd := sc_window_starts.nd
  refine F.ok sc_window_starts (fun vs H Q E h => spd_len (fun _ => rfl) h) (fun cdv A outer s H vs Q E hr h => ⟨_, PSs.nox (pss_one (ps_ret (pe_listRg rfl rfl T.list (prg_2 rfl T.range (pe_op (op_plusK (K := K) rfl) (pe_op op_mul pe_int (pv 1)) pe_int) (pe_op (op_plusK (K := K) rfl) (pv 0) pe_int))))), run_pure (Ns := N_window_starts) h fun a B hp => ?_⟩)
  obtain ⟨⟨t1, t2⟩, l1, l2⟩ := hp
  refine sb_retD (EvF.ev (ef_rangeL (ev_add (ev_mul (ev_int 2) (ev_var rfl) (.inl ⟨by decide, by decide⟩)) (ev_int 1)) (ev_add (ev_var rfl) (ev_int 1)) ⟨by omega, by omega, by omega, by omega, by omega⟩)) ?_
  rw [rangeD_rangeI]; rfl
abbrev sp_row_of (K : PySem.W.Frag) : Sp := SpD K (α := List Int × List Int) (fun a => [lI a.1]) (fun a => a.2.Perm a.1 ∧ a.2.Pairwise (· ≥ ·)) (fun a d => d = tI a.2)
theorem ok_row_of (F : FnP K "row_of" s_row_of f fd) (T : Tx mg)  : FnOk P w K mg base CX0 1 f fd ["numbers"] (sp_row_of K) := by
  have nd := sc_row_of.nd
  refine F.ok sc_row_of (fun vs H Q E h => spd_len (fun _ => rfl) h) (fun cdv A outer s H vs Q E hr h => ⟨_, PSs.nox (pss_one (ps_ret (pe_callTy (call_tupleK (K := K) rfl) rfl T.tuple (by decide +kernel) (pa_cons (pe_callBK (cr_sortedRevK (K := K) (b := true) rfl) rfl T.sorted (by decide +kernel) (pa_cons (pv 0) pa_nil) (pk_cons pe_bl pk_nil)) pa_nil)))), run_pure (Ns := N_row_of) h fun a B hp => ?_⟩)
  exact sb_retD (ev_tupL (EvF.ev (ef_sortedR (ev_var rfl) hp.1 hp.2))) rfl
/-! ### texts of numbers -/
theorem log_small {n : Int} (h : 0 ≤ n) (hb : n < 10 ^ 20) : n.natAbs.log2 < 1920 := by
  by_cases h0 : n.natAbs = 0
  · rw [h0]; decide
  · exact (Nat.log2_lt h0).mpr (Nat.lt_of_lt_of_le (show n.natAbs < 10 ^ 20 by omega) (by decide +kernel))
theorem sum_le (m : Nat) : ∀ (xs : List Nat), (∀ x ∈ xs, x ≤ m) → xs.sum ≤ xs.length * m
  | [], _ => by simp
  | x :: xs, h => by
    have ih := sum_le m xs fun y hy => h y (List.mem_cons_of_mem _ hy)
    have h1 := h x List.mem_cons_self
    rw [List.sum_cons, List.length_cons, Nat.succ_mul]
    omega
theorem join_fits (m : Nat) (ws : List PySem.Str) (z : PySem.Str) (hw : ∀ w ∈ ws, w.length ≤ m) (h : ws.length * (m + z.length) ≤ 16777216) : (ws.map (·.length)).sum + ws.length * z.length ≤ 16777216 := by
  have h1 := sum_le m (ws.map (·.length)) fun x hx => by
    obtain ⟨w, hw', rfl⟩ := List.mem_map.mp hx
    exact hw w hw'
  rw [List.length_map] at h1
  rw [Nat.mul_add] at h
  omega
abbrev sp_numbers_text (K : PySem.W.Frag) : Sp := SpD K (α := List Int) (fun a => [tI a]) (fun a => CK.NN a ∧ a.length ≤ 10000) (fun a d => d = .str (CK.numsS a))
theorem ok_numbers_text (F : FnP K "numbers_text" s_numbers_text f fd) (T : Tx mg)  : FnOk P w K mg base CX0 1 f fd ["numbers"] (sp_numbers_text K) := by
  have nd := sc_numbers_text.nd
  refine F.ok sc_numbers_text (fun vs H Q E h => spd_len (fun _ => rfl) h) (fun cdv A outer s H vs Q E hr h => ⟨_, PSs.nox (pss_one (ps_ret (pe_joinK (K := K) rfl (pe_glob rfl T.gBLANK.1 T.gBLANK.2) (pe_lc (own := [("number", 1)]) rfl nd (pi_anyK (K := K) rfl (pv 0)) (blkOk_by (own := [("number", 1)]) (N := N_numbers_text) (sc := defScope s_numbers_text) (by decide +kernel)) (fun _ _ _ _ _ => (pg_name (i := 1) nd rfl (Or.inl rfl))) (fun _ _ _ _ _ => pts_nil) (fun _ _ _ _ _ => (pe_callTy call_strK rfl T.str (by decide +kernel) (pa_cons (pv 1) pa_nil))))))), run_pure (Ns := N_numbers_text) h fun a B hp => ?_⟩)
  obtain ⟨h1, h2⟩ := hp
  refine sb_retD (ev_join (ys := a.map CK.nS) (ev_str CK.spT) (evd_to (EvF.ev (ef_lcA (ds := a) (enc := .int) (ei_anyT (ev_var rfl)) (fun n => .str (CK.nS n)) _ (by decide) (fun p _ => eg_name) (fun D acc p hp => ev_str1 (ev_var rfl) (log_small (h1 p hp).1 (h1 p hp).2)) (by omega))) ?_) ?_) rfl
  · rw [List.map_map]; rfl
  · refine join_fits 20 _ _ (fun w hw => ?_) ?_
    · obtain ⟨n, hn, rfl⟩ := List.mem_map.mp hw
      exact CK.nS_len (h1 n hn).1 (h1 n hn).2
    · have : CK.spT.length = 1 := by decide +kernel
      rw [List.length_map, this]
      omega
abbrev sp_number_in (K : PySem.W.Frag) : Sp := SpD K (α := Int × Int) (fun a => [.str (CK.nS a.1), .int a.2]) (fun a => 0 ≤ a.1 ∧ a.1 < 10 ^ 20 ∧ a.2 ≤ a.1) (fun a d => d = .int a.1)
def dgT : PySem.Str := "0123456789"
theorem dg_mem {c : Nat} (h : 48 ≤ c ∧ c ≤ 57) : c ∈ dgT.cps.toList := by
  have e : dgT.cps.toList = [48, 49, 50, 51, 52, 53, 54, 55, 56, 57] := by decide +kernel
  rw [e]
  simp
  omega
theorem ok_number_in (F : FnP K "number_in" s_number_in f fd) (T : Tx mg)  : FnOk P w K mg base CX0 1 f fd ["word", "least"] (sp_number_in K) := by
  have nd := sc_number_in.nd
  refine F.ok sc_number_in (fun vs H Q E h => spd_len (fun _ => rfl) h) (fun cdv A outer s H vs Q E hr h => ⟨_, PSs.nox (pss_cons (ps_if (PW.pt (pw_or (pt_cmpR (op_eqK (K := K) rfl (hu64 hr)) (pe_callB (call_lenK (K := K) rfl) rfl T.len (by decide +kernel) (pa_cons (pv 0) pa_nil)) pe_int (nomark _)) (pw_or (pt_cmpR op_gt (pe_callB (call_lenK (K := K) rfl) rfl T.len (by decide +kernel) (pa_cons (pv 0) pa_nil)) (pe_glob rfl T.gMOST_DIGITS.1 T.gMOST_DIGITS.2) (nomark _)) (pw_or1 (pt_not (pt_val (pe_callB (cr_allK (K := K) rfl rfl) rfl T.all (by decide +kernel) (pa_cons (pe_lc (own := [("sign", 2)]) rfl nd (pi_anyK (K := K) rfl (pv 0)) (blkOk_by (own := [("sign", 2)]) (N := N_number_in) (sc := defScope s_number_in) (by decide +kernel)) (fun _ _ _ _ _ => (pg_name (i := 2) nd rfl (Or.inl rfl))) (fun _ _ _ _ _ => pts_nil) (fun _ _ _ _ _ => (pe_cmpR op_inSignK (pv 2) (pe_glob rfl T.gDIGITS.1 T.gDIGITS.2) rfl))) pa_nil)))))))) (pss_one (ps_ret pe_non)) pss_nil) (pss_cons (ps_if (PW.pt (pw_and (pt_cmpR (op_eqK (K := K) rfl (hu64 hr)) (pe_ix (ix_seqK (K := K) rfl) (pv 0) pe_int fun _ _ => rfl) pe_str (nomark _)) (pw_and1 (pt_cmpR op_gt (pe_callB (call_lenK (K := K) rfl) rfl T.len (by decide +kernel) (pa_cons (pv 0) pa_nil)) pe_int (nomark _))))) (pss_one (ps_ret pe_non)) pss_nil) (pss_one (ps_ret (pe_ifExp (pt_cmpR op_ge (pe_callTy call_intSK rfl T.int (by decide +kernel) (pa_cons (pv 0) pa_nil)) (pv 1) (nomark _)) (pe_callTy call_intSK rfl T.int (by decide +kernel) (pa_cons (pv 0) pa_nil)) pe_non))))), run_pure (Ns := N_number_in) h fun a B hp => ?_⟩)
  obtain ⟨h1, h2, h3⟩ := hp
  have hl := CK.nS_len h1 h2
  have hpos := CK.nS_pos h1
  obtain ⟨c, r, hc, hc1, hc2, hc3⟩ := CK.nS_head h1
  have hlen : EvD K B (tLenK K (tVar 0)) [.dat (.str (CK.nS a.1)), .dat (.int a.2), .no] (.int (CK.nS a.1).length) := ev_lenS (ev_var rfl) (by omega)
  refine sb_seq (sb_if (b := false) (et_to (et_or (x := false) (et_test (evd_to (ev_eqI hlen (ev_int 0)) (by simp; omega))) (y := false) fun _ => et_or (x := false) (et_test (evd_to (ev_gt hlen (ev_int 61)) (by simp; omega))) (y := false) fun _ => et_not (x := true) (et_B (evd_to (ev_all (bs := (CK.nS a.1).cps.toList.map fun _ => true) (evd_to (EvF.ev (ef_lcA (ds := (CK.nS a.1).cps.toList) (enc := fun c => .str ⟨#[c]⟩) (ei_anyS (ev_var rfl)) (fun c => .bool true) _ (by decide) (fun p _ => eg_name) (fun D acc p hp => evd_to (ev_inSign (ev_var rfl) (ev_str dgT)) (by rw [decide_eq_true (dg_mem (CK.nS_digits h1 p hp))])) ?_)) ?_)) ?_))) rfl) (fun h => by cases h) fun _ => sb_next ?_)
  · have : (CK.nS a.1).cps.toList.length = (CK.nS a.1).length := (TL.len_tl _).symm
    omega
  · rw [List.map_map]; rfl
  · simp
  have hix : EvD K B (tOp (rIx K) (tVar 0) (tC (.int 0))) [.dat (.str (CK.nS a.1)), .dat (.int a.2), .no] (.str ⟨#[c]⟩) := ev_ixS (ev_var rfl) (ev_int 0) (by omega) (atI_zero (by show (TL.tl (CK.nS a.1))[0]? = _; rw [hc]; rfl))
  refine sb_seq (sb_if (b := false) (et_to (et_and (x := decide ((⟨#[c]⟩ : PySem.Str) = "0")) (et_test (ev_eqS hix (ev_str "0"))) (y := decide (1 < ((CK.nS a.1).length : Int))) fun _ => et_test (ev_gt hlen (ev_int 1))) ?_) (fun h => by cases h) fun _ => sb_next ?_)
  · by_cases h48 : c = 48
    · have hr := hc3 h48
      subst hr
      have : (CK.nS a.1).length = 1 := by rw [TL.len_tl, hc]; rfl
      rw [this]; simp
    · have : ¬ (⟨#[c]⟩ : PySem.Str) = "0" := fun e => by
        have e2 := congrArg TL.tl e
        have e3 : TL.tl ("0" : PySem.Str) = [48] := by decide +kernel
        rw [e3] at e2
        have e4 : TL.tl (⟨#[c]⟩ : PySem.Str) = [c] := rfl
        rw [e4] at e2
        have := List.head_eq_of_cons_eq e2
        omega
      rw [decide_eq_false this]; rfl
  have hint : EvD K B (tCB rIntS (tCons (tVar 0) tNil)) [.dat (.str (CK.nS a.1)), .dat (.int a.2), .no] (.int a.1) := ev_intS (ev_var rfl) (CK.nS_int h1 h2) (by omega)
  exact sb_ret (P' := fun d => d = .int a.1) (ev_if (c := true) (et_test (evd_to (ev_ge hint (ev_var rfl)) (by simp [h3]))) (fun _ => hint) fun h => by cases h) fun d hd => hd
abbrev sp_numbers_in (K : PySem.W.Frag) : Sp := SpD K (α := List Int × Int) (fun a => [.str (CK.numsS a.1), .int a.2]) (fun a => CK.NN a.1 ∧ a.1 ≠ [] ∧ a.1.length ≤ 10000 ∧ ∀ n ∈ a.1, a.2 ≤ n) (fun a d => d = tI a.1)
theorem nums_len {ns : List Int} (h : CK.NN ns) : (CK.numsS ns).length ≤ 21 * ns.length := by
  unfold CK.numsS
  rw [TL.len_tl, CK.tl_joinT, CK.tl_sp]
  induction ns with
  | nil => simp [TL.joinL]
  | cons n ns ih =>
    have h1 := CK.nS_len (h n List.mem_cons_self).1 (h n List.mem_cons_self).2
    rw [TL.len_tl] at h1
    have ih' := ih fun m hm => h m (List.mem_cons_of_mem _ hm)
    cases ns with
    | nil =>
      show (TL.tl (CK.nS n)).length ≤ _
      simp at h1 ⊢
      omega
    | cons m ms =>
      show (TL.tl (CK.nS n) ++ ([32] ++ TL.joinL [32] (((m :: ms).map CK.nS).map TL.tl))).length ≤ _
      rw [List.length_append, List.length_append]
      simp only [List.length_cons, List.length_nil] at ih' ⊢
      omega
theorem ok_numbers_in (F : FnP K "numbers_in" s_numbers_in f fd) (T : Tx mg) (O_number_in : Ok P w K mg base "number_in" 1 ["word", "least"] (sp_number_in K)) : FnOk P w K mg base CX0 2 f fd ["string", "least"] (sp_numbers_in K) := by
  have nd := sc_numbers_in.nd
  refine F.ok sc_numbers_in (fun vs H Q E h => spd_len (fun _ => rfl) h) (fun cdv A outer s H vs Q E hr h => ⟨_, PSs.nox (pss_cons (ps_set (i := 2) nd rfl (Or.inl rfl) (pe_callTy (call_tupleK (K := K) rfl) rfl T.tuple (by decide +kernel) (pa_cons (pe_lc (own := [("word", 3)]) rfl nd (pi_anyK (K := K) rfl (pe_splitK (pv 0) (pe_glob rfl T.gBLANK.1 T.gBLANK.2))) (blkOk_by (own := [("word", 3)]) (N := N_numbers_in) (sc := defScope s_numbers_in) (by decide +kernel)) (fun _ _ _ _ _ => (pg_name (i := 3) nd rfl (Or.inl rfl))) (fun _ _ _ _ _ => pts_nil) (fun _ _ _ _ _ => (pe_f O_number_in hr rfl (pa_cons (pv 3) (pa_cons (pv 1) pa_nil))))) pa_nil))) (pss_cons (ps_if (pt_cmpR (op_in_seqK (K := K) rfl) pe_non (pv 2) rfl) (pss_one ps_never) pss_nil) (pss_one (ps_ret (pv 2))))), run_pure (Ns := N_numbers_in) h fun a B hp => ?_⟩)
  obtain ⟨h1, h2, h3, h4⟩ := hp
  have hl := nums_len h1
  refine sb_seq (sb_asgD (d := tI a.1) (ev_tupL (EvF.ev (ef_lcA (ds := a.1) (enc := fun n => .str (CK.nS n)) ?_ .int _ (by decide) (fun p _ => eg_name) (fun D acc p hp => ev_call (α := Int × Int) (p, a.2) (ea_cons (ev_var rfl) (ea_cons (ev_var rfl) ea_nil)) ⟨(h1 p hp).1, (h1 p hp).2, h4 p hp⟩) (by omega)))) ?_)
  · have e := ei_anyL (K := K) (W := B) (te := tM1 rSplitX (tVar 0) (tC (.str CK.spT))) (ρ := [.dat (.str (CK.numsS a.1)), .dat (.int a.2), .no, .no]) (EvF.ev (ev_split (ev_var rfl) (ev_str CK.spT) (by decide +kernel) (by omega) (CK.nums_split h1 h2)))
    rw [List.map_map] at e
    exact e
  refine sb_seq (sb_if (b := false) (et_test (ev_noneIn (ev_var rfl))) (fun h => by cases h) fun _ => sb_next ?_)
  exact sb_retD (ev_var rfl) rfl

end
end CW
end B4x
section B5x
set_option Elab.async false
set_option linter.all false
set_option maxRecDepth 100000
namespace CW
open PySem PySem.Spec PyProof.Rows L2 StX RZ
section
variable {P : Program} {w : World} {K : PySem.W.Frag} {mg : PySem.Str → Option Value} {base : Heap} {f : Addr} {fd : FuncData}
abbrev sp_row_text (K : PySem.W.Frag) : Sp := SpD K (α := List Int) (fun a => [tI a]) (fun a => CK.NN a ∧ a.length ≤ 10000) (fun a d => d = .str (CK.rowS a))
theorem len_pos {α : Type} (a : List α) (f : α → PyData) : decide (0 < ((a.map f).length : Int)) = !decide (a = []) := by
  cases a <;> simp
theorem ok_row_text (F : FnP K "row_text" s_row_text f fd) (T : Tx mg) (O_numbers_text : Ok P w K mg base "numbers_text" 1 ["numbers"] (sp_numbers_text K)) : FnOk P w K mg base CX0 2 f fd ["row"] (sp_row_text K) := by
  have nd := sc_row_text.nd
  refine F.ok sc_row_text (fun vs H Q E h => spd_len (fun _ => rfl) h) (fun cdv A outer s H vs Q E hr h => ⟨_, PSs.nox (pss_one (ps_ret (pe_ifExp (pt_cmpR op_gt (pe_callB (call_lenK (K := K) rfl) rfl T.len (by decide +kernel) (pa_cons (pv 0) pa_nil)) pe_int (nomark _)) (pe_f O_numbers_text hr rfl (pa_cons (pv 0) pa_nil)) (pe_glob rfl T.gNONE.1 T.gNONE.2)))), run_pure (Ns := N_row_text) h fun a B hp => ?_⟩)
  refine sb_ret (P' := fun d => d = .str (CK.rowS a)) (ev_if (c := !decide (a = [])) (et_test (evd_to (ev_gt (ev_lenT (ev_var rfl)) (ev_int 0)) (by rw [len_pos]))) (fun h => ?_) fun h => ?_) fun d hd => hd
  · refine ev_to (ev_call (α := List Int) a (ea_cons (ev_var rfl) ea_nil) hp) fun d hd => ?_
    have h' : a ≠ [] := by simpa using h
    rw [hd]; unfold CK.rowS; rw [if_neg h']
  · have h' : a = [] := by simpa using h
    unfold CK.rowS; rw [if_pos h']
    exact ev_str CK.dsT
abbrev sp_row_in (K : PySem.W.Frag) : Sp := SpD K (α := List Int) (fun a => [.str (CK.rowS a)]) (fun a => CK.NN a ∧ a.length ≤ 10000 ∧ ∀ n ∈ a, 1 ≤ n) (fun a d => d = tI a)
theorem ok_row_in (F : FnP K "row_in" s_row_in f fd) (T : Tx mg) (O_numbers_in : Ok P w K mg base "numbers_in" 2 ["string", "least"] (sp_numbers_in K)) : FnOk P w K mg base CX0 3 f fd ["string"] (sp_row_in K) := by
  have nd := sc_row_in.nd
  refine F.ok sc_row_in (fun vs H Q E h => spd_len (fun _ => rfl) h) (fun cdv A outer s H vs Q E hr h => ⟨_, PSs.nox (pss_one (ps_ret (pe_ifExp (pt_cmpR (op_eqK (K := K) rfl (hu64 hr)) (pv 0) (pe_glob rfl T.gNONE.1 T.gNONE.2) (nomark _)) (pe_tup pa_nil) (pe_f O_numbers_in hr rfl (pa_cons (pv 0) (pa_cons pe_int pa_nil)))))), run_pure (Ns := N_row_in) h fun a B hp => ?_⟩)
  obtain ⟨h1, h2, h3⟩ := hp
  refine sb_ret (P' := fun d => d = tI a) (ev_if (c := decide (CK.rowS a = CK.dsT)) (et_test (ev_eqS (ev_var rfl) (ev_str CK.dsT))) (fun h => ?_) fun h => ?_) fun d hd => hd
  · have h' : CK.rowS a = CK.dsT := by simpa using h
    have ha : a = [] := by
      refine Classical.byContradiction fun hne => ?_
      unfold CK.rowS at h'
      rw [if_neg hne] at h'
      exact CK.nums_ds h1 hne h'
    subst ha
    exact ev_tup ea_nil (by simp)
  · have ha : a ≠ [] := fun z => by subst z; revert h; decide +kernel
    have e : CK.rowS a = CK.numsS a := by unfold CK.rowS; rw [if_neg ha]
    exact ev_call (α := List Int × Int) (a, 1) (ea_cons (evd_to (ev_var rfl) (by rw [e])) (ea_cons (ev_int 1) ea_nil)) ⟨h1, ha, h2, h3⟩
abbrev sp_batch_text (K : PySem.W.Frag) : Sp := SpD K (α := List Int) (fun a => [tI a]) (fun a => CK.NN a ∧ a.length ≤ 10000) (fun a d => d = .str (CK.numsS a))
theorem ok_batch_text (F : FnP K "batch_text" s_batch_text f fd) (T : Tx mg) (O_numbers_text : Ok P w K mg base "numbers_text" 1 ["numbers"] (sp_numbers_text K)) : FnOk P w K mg base CX0 2 f fd ["batch"] (sp_batch_text K) := by
  have nd := sc_batch_text.nd
  refine F.ok sc_batch_text (fun vs H Q E h => spd_len (fun _ => rfl) h) (fun cdv A outer s H vs Q E hr h => ⟨_, PSs.nox (pss_one (ps_ret (pe_f O_numbers_text hr rfl (pa_cons (pv 0) pa_nil)))), run_pure (Ns := N_batch_text) h fun a B hp => ?_⟩)
  exact sb_ret (ev_call (α := List Int) a (ea_cons (ev_var rfl) ea_nil) hp) fun d hd => hd
abbrev sp_batch_in (K : PySem.W.Frag) : Sp := SpD K (α := List Int) (fun a => [.str (CK.numsS a)]) (fun a => CK.NN a ∧ a ≠ [] ∧ a.length ≤ 10000 ∧ ∀ n ∈ a, 1 ≤ n) (fun a d => d = tI a)
theorem ok_batch_in (F : FnP K "batch_in" s_batch_in f fd) (T : Tx mg) (O_numbers_in : Ok P w K mg base "numbers_in" 2 ["string", "least"] (sp_numbers_in K)) : FnOk P w K mg base CX0 3 f fd ["string"] (sp_batch_in K) := by
  have nd := sc_batch_in.nd
  refine F.ok sc_batch_in (fun vs H Q E h => spd_len (fun _ => rfl) h) (fun cdv A outer s H vs Q E hr h => ⟨_, PSs.nox (pss_one (ps_ret (pe_f O_numbers_in hr rfl (pa_cons (pv 0) (pa_cons pe_int pa_nil))))), run_pure (Ns := N_batch_in) h fun a B hp => ?_⟩)
  exact sb_ret (ev_call (α := List Int × Int) (a, 1) (ea_cons (ev_var rfl) (ea_cons (ev_int 1) ea_nil)) hp) fun d hd => hd
def BNo (b : Int × Int) : Prop := (0 ≤ b.1 ∧ b.1 < 10 ^ 20) ∧ 0 ≤ b.2 ∧ b.2 < 10 ^ 20
abbrev sp_block_text (K : PySem.W.Frag) : Sp := SpD K (α := Int × Int) (fun a => [bD a]) (fun a => BNo a) (fun a d => d = .str (CK.blkS a))
theorem ok_block_text (F : FnP K "block_text" s_block_text f fd) (T : Tx mg)  : FnOk P w K mg base CX0 1 f fd ["block"] (sp_block_text K) := by
  have nd := sc_block_text.nd
  refine F.ok sc_block_text (fun vs H Q E h => spd_len (fun _ => rfl) h) (fun cdv A outer s H vs Q E hr h => ⟨_, PSs.nox (pss_cons (ps_asg (pv 0) (pg_tupK (K := K) (n := 2) rfl rfl (pgs_cons (pg_name (i := 1) nd rfl (Or.inl rfl)) (pgs_cons (pg_name (i := 2) nd rfl (Or.inl rfl)) pgs_nil)))) (pss_one (ps_ret (pe_ifExp (pt_cmpR (op_eqK (K := K) rfl (hu64 hr)) (pv 1) (pv 2) (nomark _)) (pe_callTy call_strK rfl T.str (by decide +kernel) (pa_cons (pv 1) pa_nil)) (pe_joined (PJ.cons (pe_fmt (pv 1)) (PJ.cons pe_str (PJ.cons (pe_fmt (pv 2)) PJ.nil)))))))), run_pure (Ns := N_block_text) h fun a B hp => ?_⟩)
  have hl := CK.blk_len hp
  refine sb_seq (sb_asgG (P := fun d => d = bD a) (ρd := fun _ => [.dat (bD a), .dat (.int a.1), .dat (.int a.2)]) (js := [1, 2]) (ev_var rfl) (fun d hd => by subst hd; exact eg_pair) fun d hd => ?_)
  refine sb_ret (P' := fun d => d = .str (CK.blkS a)) (ev_if (c := decide (a.1 = a.2)) (et_test (ev_eqI (ev_var rfl) (ev_var rfl))) (fun h => ?_) fun h => ?_) fun d hd => hd
  · have h' : a.1 = a.2 := by simpa using h
    refine evd_to (ev_str1 (ev_var rfl) (log_small hp.1.1 hp.1.2)) ?_
    unfold CK.blkS; rw [if_pos h']
  · have h' : ¬ a.1 = a.2 := by simpa using h
    have e : CK.blkS a = ((Str.empty ++ CK.nS a.1) ++ CK.dsT) ++ CK.nS a.2 := by unfold CK.blkS; rw [if_neg h']
    refine evd_to (ev_joined (m := CK.dsT) (ev_var rfl) (ev_var rfl) (log_small hp.1.1 hp.1.2) (log_small hp.2.1 hp.2.2) ?_) (by rw [e])
    rw [← e]; omega
abbrev sp_filling_text (K : PySem.W.Frag) : Sp := SpD K (α := Option (List (Int × Int))) (fun a => [fD a]) (fun a => ∀ bs, a = some bs → CK.BN bs ∧ bs.length ≤ 10000) (fun a d => d = .str (CK.fillS a))
theorem ok_filling_text (F : FnP K "filling_text" s_filling_text f fd) (T : Tx mg) (O_block_text : Ok P w K mg base "block_text" 1 ["block"] (sp_block_text K)) : FnOk P w K mg base CX0 2 f fd ["filling"] (sp_filling_text K) := by
  have nd := sc_filling_text.nd
  refine F.ok sc_filling_text (fun vs H Q E h => spd_len (fun _ => rfl) h) (fun cdv A outer s H vs Q E hr h => ⟨_, PSs.nox (pss_cons (ps_if (pt_cmpR op_isN1 (pv 0) pe_non (nomark _)) (pss_one (ps_ret (pe_glob rfl T.gALONE.1 T.gALONE.2))) pss_nil) (pss_one (ps_ret (pe_ifExp (pt_cmpR op_gt (pe_callB (call_lenK (K := K) rfl) rfl T.len (by decide +kernel) (pa_cons (pv 0) pa_nil)) pe_int (nomark _)) (pe_joinK (K := K) rfl (pe_glob rfl T.gBLANK.1 T.gBLANK.2) (pe_lc (own := [("block", 1)]) rfl nd (pi_anyK (K := K) rfl (pv 0)) (blkOk_by (own := [("block", 1)]) (N := N_filling_text) (sc := defScope s_filling_text) (by decide +kernel)) (fun _ _ _ _ _ => (pg_name (i := 1) nd rfl (Or.inl rfl))) (fun _ _ _ _ _ => pts_nil) (fun _ _ _ _ _ => (pe_f O_block_text hr rfl (pa_cons (pv 1) pa_nil))))) (pe_glob rfl T.gNONE.1 T.gNONE.2))))), run_pure (Ns := N_filling_text) h fun a B hp => ?_⟩)
  cases a with
  | none =>
    refine sb_seq (sb_if (b := true) (et_test (ev_isN (d := .none) (ev_var rfl))) (fun _ => sb_retD (ev_str CK.alT) rfl) fun h => by cases h)
  | some bs =>
    obtain ⟨h1, h2⟩ := hp bs rfl
    refine sb_seq (sb_if (b := false) (et_test (ev_isN (d := tB bs) (ev_var rfl))) (fun h => by cases h) fun _ => sb_next ?_)
    refine sb_ret (P' := fun d => d = .str (CK.blksS bs)) (ev_if (c := !decide (bs = [])) (et_test (evd_to (ev_gt (ev_lenT (ev_var rfl)) (ev_int 0)) (by rw [len_pos]))) (fun h => ?_) fun h => ?_) fun d hd => hd
    · have h' : bs ≠ [] := by simpa using h
      have e : CK.blksS bs = Txt.join CK.spT (bs.map CK.blkS) := by unfold CK.blksS; rw [if_neg h']
      rw [e]
      refine ev_join (ys := bs.map CK.blkS) (ev_str CK.spT) (evd_to (EvF.ev (ef_lcA (ds := bs) (enc := bD) (ei_anyT (ev_var rfl)) (fun b => .str (CK.blkS b)) _ (by decide) (fun p _ => eg_name) (fun D acc p hp => ev_call (α := Int × Int) p (ea_cons (ev_var rfl) ea_nil) (h1 p hp)) (by omega))) ?_) ?_
      · rw [List.map_map]; rfl
      · refine join_fits 41 _ _ (fun w hw => ?_) ?_
        · obtain ⟨b, hb, rfl⟩ := List.mem_map.mp hw
          exact CK.blk_len (h1 b hb)
        · have : CK.spT.length = 1 := by decide +kernel
          rw [List.length_map, this]
          omega
    · have h' : bs = [] := by simpa using h
      unfold CK.blksS; rw [if_pos h']
      exact ev_str CK.dsT
abbrev sp_offers_text (K : PySem.W.Frag) : Sp := SpD K (α := List (Int × Int)) (fun a => [tB a]) (fun a => CK.BN a ∧ a.length ≤ 10000) (fun a d => d = .str (CK.offsS a))
theorem ok_offers_text (F : FnP K "offers_text" s_offers_text f fd) (T : Tx mg)  : FnOk P w K mg base CX0 1 f fd ["offers"] (sp_offers_text K) := by
  have nd := sc_offers_text.nd
  refine F.ok sc_offers_text (fun vs H Q E h => spd_len (fun _ => rfl) h) (fun cdv A outer s H vs Q E hr h => ⟨_, PSs.nox (pss_one (ps_ret (pe_ifExp (pt_cmpR op_gt (pe_callB (call_lenK (K := K) rfl) rfl T.len (by decide +kernel) (pa_cons (pv 0) pa_nil)) pe_int (nomark _)) (pe_joinK (K := K) rfl (pe_glob rfl T.gBLANK.1 T.gBLANK.2) (pe_lc (own := [("limit", 1), ("price", 2)]) rfl nd (pi_anyK (K := K) rfl (pv 0)) (blkOk_by (own := [("limit", 1), ("price", 2)]) (N := N_offers_text) (sc := defScope s_offers_text) (by decide +kernel)) (fun _ _ _ _ _ => (pg_tupK (K := K) (n := 2) rfl rfl (pgs_cons (pg_name (i := 1) nd rfl (Or.inl rfl)) (pgs_cons (pg_name (i := 2) nd rfl (Or.inl rfl)) pgs_nil)))) (fun _ _ _ _ _ => pts_nil) (fun _ _ _ _ _ => (pe_joined (PJ.cons (pe_fmt (pv 1)) (PJ.cons pe_str (PJ.cons (pe_fmt (pv 2)) PJ.nil))))))) (pe_glob rfl T.gNONE.1 T.gNONE.2)))), run_pure (Ns := N_offers_text) h fun a B hp => ?_⟩)
  obtain ⟨h1, h2⟩ := hp
  refine sb_ret (P' := fun d => d = .str (CK.offsS a)) (ev_if (c := !decide (a = [])) (et_test (evd_to (ev_gt (ev_lenT (ev_var rfl)) (ev_int 0)) (by rw [len_pos]))) (fun h => ?_) fun h => ?_) fun d hd => hd
  · have h' : a ≠ [] := by simpa using h
    have e : CK.offsS a = Txt.join CK.spT (a.map CK.offS) := by unfold CK.offsS; rw [if_neg h']
    rw [e]
    refine ev_join (ys := a.map CK.offS) (ev_str CK.spT) (evd_to (EvF.ev (ef_lcA (ds := a) (enc := bD) (ei_anyT (ev_var rfl)) (fun b => .str (CK.offS b)) _ (by decide) (fun p _ => eg_pair) (fun D acc p hp => ev_joined (m := CK.coT) (ev_var rfl) (ev_var rfl) (log_small (h1 p hp).1.1 (h1 p hp).1.2) (log_small (h1 p hp).2.1 (h1 p hp).2.2) (by have := CK.off_len (h1 p hp); unfold CK.offS at this; omega)) (by omega))) ?_) ?_
    · rw [List.map_map]; rfl
    · refine join_fits 41 _ _ (fun w hw => ?_) ?_
      · obtain ⟨b, hb, rfl⟩ := List.mem_map.mp hw
        exact CK.off_len (h1 b hb)
      · have : CK.spT.length = 1 := by decide +kernel
        rw [List.length_map, this]
        omega
  · have h' : a = [] := by simpa using h
    unfold CK.offsS; rw [if_pos h']
    exact ev_str CK.dsT
abbrev sp_offer_in (K : PySem.W.Frag) : Sp := SpD K (α := Int × Int) (fun a => [.str (CK.offS a)]) (fun a => BNo a ∧ 1 ≤ a.1) (fun a d => d = bD a)
theorem ok_offer_in (F : FnP K "offer_in" s_offer_in f fd) (T : Tx mg) (O_number_in : Ok P w K mg base "number_in" 1 ["word", "least"] (sp_number_in K)) : FnOk P w K mg base CX0 2 f fd ["word"] (sp_offer_in K) := by
  have nd := sc_offer_in.nd
  refine F.ok sc_offer_in (fun vs H Q E h => spd_len (fun _ => rfl) h) (fun cdv A outer s H vs Q E hr h => ⟨_, PSs.nox (pss_cons (ps_set (i := 1) nd rfl (Or.inl rfl) (pe_splitK (pv 0) pe_str)) (pss_cons (ps_if (pt_cmpR (op_neK (K := K) rfl (hu64 hr)) (pe_callB (call_lenK (K := K) rfl) rfl T.len (by decide +kernel) (pa_cons (pv 1) pa_nil)) pe_int (nomark _)) (pss_one ps_never) pss_nil) (pss_cons (ps_set (i := 2) nd rfl (Or.inl rfl) (pe_tup (pa_cons (pe_f O_number_in hr rfl (pa_cons (pe_ix (ix_seqK (K := K) rfl) (pv 1) pe_int fun _ _ => rfl) (pa_cons pe_int pa_nil))) (pa_cons (pe_f O_number_in hr rfl (pa_cons (pe_ix (ix_seqK (K := K) rfl) (pv 1) pe_int fun _ _ => rfl) (pa_cons pe_int pa_nil))) pa_nil)))) (pss_cons (ps_if (pt_cmpR (op_in_seqK (K := K) rfl) pe_non (pv 2) rfl) (pss_one ps_never) pss_nil) (pss_one (ps_ret (pv 2))))))), run_pure (Ns := N_offer_in) h fun a B hp => ?_⟩)
  obtain ⟨h1, h2⟩ := hp
  have hl := CK.off_len h1
  refine sb_seq (sb_asgD (EvF.ev (ev_split (ws := [CK.nS a.1, CK.nS a.2]) (ev_var rfl) (ev_str CK.coT) (by decide +kernel) (by omega) (CK.off_split h1.1.1 h1.2.1))) ?_)
  refine sb_seq (sb_if (b := false) (et_test (evd_to (ev_neI (ev_lenL (ev_var rfl)) (ev_int 2)) (by simp))) (fun h => by cases h) fun _ => sb_next ?_)
  refine sb_seq (sb_asgD (d := bD a) (ev_tup (ea_cons (ev_call (α := Int × Int) (a.1, 1) (ea_cons (ev_ixL (ev_var rfl) (ev_int 0) (atI_zero rfl)) (ea_cons (ev_int 1) ea_nil)) ⟨h1.1.1, h1.1.2, h2⟩) (ea_cons (ev_call (α := Int × Int) (a.2, 0) (ea_cons (ev_ixL (ev_var rfl) (ev_int 1) (atI_one rfl)) (ea_cons (ev_int 0) ea_nil)) ⟨h1.2.1, h1.2.2, h1.2.1⟩) ea_nil)) (by simp)) ?_)
  refine sb_seq (sb_if (b := false) (et_test (ev_noneIn (ns := [a.1, a.2]) (ev_var rfl))) (fun h => by cases h) fun _ => sb_next ?_)
  exact sb_retD (ev_var rfl) rfl
abbrev sp_stream_text (K : PySem.W.Frag) : Sp := SpD K (α := List (List Int)) (fun a => [tT a]) (fun a => (∀ b ∈ a, CK.NN b ∧ b.length ≤ 1000) ∧ a.length ≤ 500) (fun a d => d = .str (CK.strS a))
theorem ok_stream_text (F : FnP K "stream_text" s_stream_text f fd) (T : Tx mg) (O_batch_text : Ok P w K mg base "batch_text" 2 ["batch"] (sp_batch_text K)) : FnOk P w K mg base CX0 3 f fd ["stream"] (sp_stream_text K) := by
  have nd := sc_stream_text.nd
  refine F.ok sc_stream_text (fun vs H Q E h => spd_len (fun _ => rfl) h) (fun cdv A outer s H vs Q E hr h => ⟨_, PSs.nox (pss_one (ps_ret (pe_ifExp (pt_cmpR op_gt (pe_callB (call_lenK (K := K) rfl) rfl T.len (by decide +kernel) (pa_cons (pv 0) pa_nil)) pe_int (nomark _)) (pe_joinK (K := K) rfl (pe_glob rfl T.gFEED.1 T.gFEED.2) (pe_lc (own := [("batch", 1)]) rfl nd (pi_anyK (K := K) rfl (pv 0)) (blkOk_by (own := [("batch", 1)]) (N := N_stream_text) (sc := defScope s_stream_text) (by decide +kernel)) (fun _ _ _ _ _ => (pg_name (i := 1) nd rfl (Or.inl rfl))) (fun _ _ _ _ _ => pts_nil) (fun _ _ _ _ _ => (pe_f O_batch_text hr rfl (pa_cons (pv 1) pa_nil))))) (pe_glob rfl T.gNONE.1 T.gNONE.2)))), run_pure (Ns := N_stream_text) h fun a B hp => ?_⟩)
  obtain ⟨h1, h2⟩ := hp
  refine sb_ret (P' := fun d => d = .str (CK.strS a)) (ev_if (c := !decide (a = [])) (et_test (evd_to (ev_gt (ev_lenT (ev_var rfl)) (ev_int 0)) (by rw [len_pos]))) (fun h => ?_) fun h => ?_) fun d hd => hd
  · have h' : a ≠ [] := by simpa using h
    have e : CK.strS a = Txt.join CK.fdT (a.map CK.numsS) := by unfold CK.strS; rw [if_neg h']
    rw [e]
    refine ev_join (ys := a.map CK.numsS) (ev_str CK.fdT) (evd_to (EvF.ev (ef_lcA (ds := a) (enc := tI) (ei_anyT (ev_var rfl)) (fun b => .str (CK.numsS b)) _ (by decide) (fun p _ => eg_name) (fun D acc p hp => ev_call (α := List Int) p (ea_cons (ev_var rfl) ea_nil) ⟨(h1 p hp).1, by have := (h1 p hp).2; omega⟩) (by omega))) ?_) ?_
    · rw [List.map_map]; rfl
    · refine join_fits 21000 _ _ (fun w hw => ?_) ?_
      · obtain ⟨b, hb, rfl⟩ := List.mem_map.mp hw
        have := nums_len (h1 b hb).1
        have := (h1 b hb).2
        omega
      · have : CK.fdT.length = 1 := by decide +kernel
        rw [List.length_map, this]
        omega
  · have h' : a = [] := by simpa using h
    unfold CK.strS; rw [if_pos h']
    exact ev_str CK.dsT

end
end CW
end B5x
section B6x
set_option Elab.async false
set_option linter.all false
set_option maxRecDepth 100000
namespace CW
open PySem PySem.Spec PyProof.Rows L2 StX RZ
section
variable {P : Program} {w : World} {K : PySem.W.Frag} {mg : PySem.Str → Option Value} {base : Heap} {f : Addr} {fd : FuncData}
abbrev sp_are_sizes (K : PySem.W.Frag) : Sp := SpD K (α := List Int) (fun a => [tI a]) (fun a => a.length ≤ 10000) (fun a d => d = .bool (a.all fun x => decide (1 ≤ x)))
theorem ok_are_sizes (F : FnP K "are_sizes" s_are_sizes f fd) (T : Tx mg) (O_is_number : Ok P w K mg base "is_number" 1 ["thing", "least"] (sp_is_number K)) : FnOk P w K mg base CX0 2 f fd ["thing"] (sp_are_sizes K) := by
  have nd := sc_are_sizes.nd
  refine F.ok sc_are_sizes (fun vs H Q E h => spd_len (fun _ => rfl) h) (fun cdv A outer s H vs Q E hr h => ⟨_, PSs.nox (pss_one (ps_ret (pe_and (pe_callB (call_isiK1 (K := K) rfl) rfl T.isinstance (by decide +kernel) (pa_cons (pv 0) (pa_cons (pe_bltn (v := .ty "tuple") rfl T.tuple (by decide +kernel) rfl) pa_nil))) (pe_one (pe_callB (cr_allK (K := K) rfl rfl) rfl T.all (by decide +kernel) (pa_cons (pe_lc (own := [("part", 1)]) rfl nd (pi_anyK (K := K) rfl (pv 0)) (blkOk_by (own := [("part", 1)]) (N := N_are_sizes) (sc := defScope s_are_sizes) (by decide +kernel)) (fun _ _ _ _ _ => (pg_name (i := 1) nd rfl (Or.inl rfl))) (fun _ _ _ _ _ => pts_nil) (fun _ _ _ _ _ => (pe_f O_is_number hr rfl (pa_cons (pv 1) (pa_cons pe_int pa_nil))))) pa_nil)))))), run_pure (Ns := N_are_sizes) h fun a B hp => ?_⟩)
  refine sb_retD (ev_andV (ev_isi (ev_var rfl) kit_tuple_tuple) fun _ => ev_all (bs := a.map fun x => decide (1 ≤ x)) (evd_to (EvF.ev (ef_lcA (ds := a) (enc := .int) (ei_anyT (ev_var rfl)) (fun x => .bool (decide (1 ≤ x))) _ (by decide) (fun p _ => eg_name) (fun D acc p _ => ev_call (α := Int × Int) (p, 1) (ea_cons (ev_var rfl) (ea_cons (ev_int 1) ea_nil)) trivial) (by omega))) ?_)) ?_
  · rw [List.map_map]; rfl
  · simp [List.all_map]
abbrev sp_is_row (K : PySem.W.Frag) : Sp := sp_are_sizes K
theorem ok_is_row (F : FnP K "is_row" s_is_row f fd) (T : Tx mg) (O_are_sizes : Ok P w K mg base "are_sizes" 2 ["thing"] (sp_are_sizes K)) : FnOk P w K mg base CX0 3 f fd ["thing"] (sp_is_row K) := by
  have nd := sc_is_row.nd
  refine F.ok sc_is_row (fun vs H Q E h => spd_len (fun _ => rfl) h) (fun cdv A outer s H vs Q E hr h => ⟨_, PSs.nox (pss_one (ps_ret (pe_f O_are_sizes hr rfl (pa_cons (pv 0) pa_nil)))), run_pure (Ns := N_is_row) h fun a B hp => ?_⟩)
  exact sb_ret (ev_call (α := List Int) a (ea_cons (ev_var rfl) ea_nil) hp) fun d hd => hd
abbrev sp_is_batch (K : PySem.W.Frag) : Sp := SpD K (α := List Int) (fun a => [tI a]) (fun a => a.length ≤ 10000) (fun a d => d = .bool ((a.all fun x => decide (1 ≤ x)) && !decide (a = [])))
theorem ok_is_batch (F : FnP K "is_batch" s_is_batch f fd) (T : Tx mg) (O_are_sizes : Ok P w K mg base "are_sizes" 2 ["thing"] (sp_are_sizes K)) : FnOk P w K mg base CX0 3 f fd ["thing"] (sp_is_batch K) := by
  have nd := sc_is_batch.nd
  refine F.ok sc_is_batch (fun vs H Q E h => spd_len (fun _ => rfl) h) (fun cdv A outer s H vs Q E hr h => ⟨_, PSs.nox (pss_one (ps_ret (pe_and (pe_f O_are_sizes hr rfl (pa_cons (pv 0) pa_nil)) (pe_one (pe_cmpR op_gt (pe_callB (call_lenK (K := K) rfl) rfl T.len (by decide +kernel) (pa_cons (pv 0) pa_nil)) pe_int (nomark _)))))), run_pure (Ns := N_is_batch) h fun a B hp => ?_⟩)
  exact sb_retD (ev_andV (ev_call (α := List Int) a (ea_cons (ev_var rfl) ea_nil) hp) fun _ => evd_to (ev_gt (ev_lenT (ev_var rfl)) (ev_int 0)) (by rw [len_pos])) rfl
abbrev sp_filling (K : PySem.W.Frag) : Sp := SpD K (α := List Int × Int) (fun a => [tI a.1, .int a.2]) (fun a => a.1.length ≤ 10000) (fun a d => d = fD (CK.fill a.1 a.2))
theorem ok_filling (F : FnP K "filling" s_filling f fd) (T : Tx mg) (O_records : Ok P w K mg base "records" 1 ["row"] (sp_records K)) (O_is_lone : Ok P w K mg base "is_lone" 1 ["row", "least"] (sp_is_lone K)) (O_joined_blocks : Ok P w K mg base "joined_blocks" 1 ["blocks", "least"] (sp_joined_blocks K)) : FnOk P w K mg base CX0 2 f fd ["row", "least"] (sp_filling K) := by
  have nd := sc_filling.nd
  refine F.ok sc_filling (fun vs H Q E h => spd_len (fun _ => rfl) h) (fun cdv A outer s H vs Q E hr h => ⟨_, PSs.nox (pss_cons (ps_if (pt_val (pe_f O_is_lone hr rfl (pa_cons (pv 0) (pa_cons (pv 1) pa_nil)))) (pss_one (ps_ret pe_non)) pss_nil) (pss_one (ps_ret (pe_f O_joined_blocks hr rfl (pa_cons (pe_lc (own := [("limit", 2)]) rfl nd (pi_anyK (K := K) rfl (pe_callB (cr_sortedTK (K := K) rfl) rfl T.sorted (by decide +kernel) (pa_cons (pe_f O_records hr rfl (pa_cons (pv 0) pa_nil)) pa_nil))) (blkOk_by (own := [("limit", 2)]) (N := N_filling) (sc := defScope s_filling) (by decide +kernel)) (fun _ _ _ _ _ => (pg_name (i := 2) nd rfl (Or.inl rfl))) (fun _ _ _ _ _ => pts_nil) (fun _ _ _ _ _ => (pe_tup (pa_cons (pv 2) (pa_cons (pv 2) pa_nil))))) (pa_cons (pv 1) pa_nil)))))), run_pure (Ns := N_filling) h fun a B hp => ?_⟩)
  refine sb_seq (sb_if (b := CK.lone a.1 a.2) (et_B (ev_call (α := List Int × Int) a (ea_cons (ev_var rfl) (ea_cons (ev_var rfl) ea_nil)) hp)) (fun hb => ?_) fun hb => sb_next ?_)
  · refine sb_retD ev_non ?_
    unfold CK.fill; rw [if_pos hb]; rfl
  · have hr := CK.recs_length a.1
    refine sb_ret (ev_call (α := List (Int × Int) × Int) ((CK.recs a.1).reverse.map (fun x => (x, x)), a.2) (ea_cons (evd_to (EvF.ev (ef_lcA (ds := (CK.recs a.1).reverse) (enc := .int) (ei_anyL (EvF.ev (ef_sortedT (ns := CK.recs a.1) (ev_call (α := List Int) a.1 (ea_cons (ev_var rfl) ea_nil) hp) (List.reverse_perm _) ?_))) (fun x => bD (x, x)) _ (by decide) (fun p _ => eg_name) (fun D acc p _ => ev_tup (ea_cons (ev_var rfl) (ea_cons (ev_var rfl) ea_nil)) (by simp)) ?_)) ?_) (ea_cons (ev_var rfl) ea_nil)) ?_) fun d hd => ?_
    · have h1 := CK.recs_desc a.1
      rw [List.pairwise_reverse]
      exact h1.imp fun h => by omega
    · rw [List.length_reverse]; omega
    · rw [lB, List.map_map]; rfl
    · show ((CK.recs a.1).reverse.map _).length ≤ 10000
      rw [List.length_map, List.length_reverse]; omega
    · rw [hd]
      have hb' : ¬ CK.lone a.1 a.2 = true := by simp [hb]
      unfold CK.fill; rw [if_neg hb']; rfl
abbrev sp_is_block (K : PySem.W.Frag) : Sp := SpD K (α := Int × Int) (fun a => [bD a]) (fun a => 1 ≤ a.1 ∧ a.1 ≤ a.2) (fun a d => d = .bool true)
theorem ok_is_block (F : FnP K "is_block" s_is_block f fd) (T : Tx mg) (O_is_number : Ok P w K mg base "is_number" 1 ["thing", "least"] (sp_is_number K)) (O_is_tuple : Ok P w K mg base "is_tuple" 1 ["thing", "many"] (sp_is_tuple K)) : FnOk P w K mg base CX0 2 f fd ["thing"] (sp_is_block K) := by
  have nd := sc_is_block.nd
  refine F.ok sc_is_block (fun vs H Q E h => spd_len (fun _ => rfl) h) (fun cdv A outer s H vs Q E hr h => ⟨_, PSs.nox (pss_one (ps_ret (pe_and (pe_f O_is_tuple hr rfl (pa_cons (pv 0) (pa_cons pe_int pa_nil))) (pe_and (pe_callB (cr_allK (K := K) rfl rfl) rfl T.all (by decide +kernel) (pa_cons (pe_lc (own := [("number", 1)]) rfl nd (pi_anyK (K := K) rfl (pv 0)) (blkOk_by (own := [("number", 1)]) (N := N_is_block) (sc := defScope s_is_block) (by decide +kernel)) (fun _ _ _ _ _ => (pg_name (i := 1) nd rfl (Or.inl rfl))) (fun _ _ _ _ _ => pts_nil) (fun _ _ _ _ _ => (pe_f O_is_number hr rfl (pa_cons (pv 1) (pa_cons pe_int pa_nil))))) pa_nil)) (pe_one (pe_cmpR op_le (pe_ix (ix_seqK (K := K) rfl) (pv 0) pe_int fun _ _ => rfl) (pe_ix (ix_seqK (K := K) rfl) (pv 0) pe_int fun _ _ => rfl) (nomark _))))))), run_pure (Ns := N_is_block) h fun a B hp => ?_⟩)
  obtain ⟨h1, h2⟩ := hp
  refine sb_retD (ev_andV (ev_call (α := List PyData × Int) ([.int a.1, .int a.2], 2) (ea_cons (ev_var rfl) (ea_cons (ev_int 2) ea_nil)) trivial) fun _ => ev_andV (ev_all (bs := [a.1, a.2].map fun x => decide (1 ≤ x)) (evd_to (EvF.ev (ef_lcA (ds := [a.1, a.2]) (enc := .int) (ei_anyT (ev_var rfl)) (fun x => .bool (decide (1 ≤ x))) _ (by decide) (fun p _ => eg_name) (fun D acc p _ => ev_call (α := Int × Int) (p, 1) (ea_cons (ev_var rfl) (ea_cons (ev_int 1) ea_nil)) trivial) (by simp))) ?_)) fun _ => ev_le (ev_ixT (ev_var rfl) (ev_int 0) (atI_zero rfl)) (ev_ixT (ev_var rfl) (ev_int 1) (atI_one rfl))) ?_
  · rw [List.map_map]; rfl
  · have h3 : 1 ≤ a.2 := by omega
    simp [h1, h2, h3]
structure FOk (L : Int) (bs : List (Int × Int)) : Prop where
  len : bs.length ≤ 10000
  each : ∀ b ∈ bs, 1 ≤ b.1 ∧ b.1 ≤ b.2
  low : ∀ b, bs[0]? = some b → 2 * L ≤ b.1
  apart : ∀ p ∈ bs.zip (bs.drop 1), p.1.2 + L < p.2.1
abbrev sp_is_filling (K : PySem.W.Frag) : Sp := SpD K (α := Int × Option (List (Int × Int))) (fun a => [.int a.1, fD a.2]) (fun a => ∀ bs, a.2 = some bs → FOk a.1 bs) (fun a d => d = .bool true)
theorem ok_is_filling (F : FnP K "is_filling" s_is_filling f fd) (T : Tx mg) (O_is_block : Ok P w K mg base "is_block" 2 ["thing"] (sp_is_block K)) : FnOk P w K mg base CX0 3 f fd ["least", "thing"] (sp_is_filling K) := by
  have nd := sc_is_filling.nd
  refine F.ok sc_is_filling (fun vs H Q E h => spd_len (fun _ => rfl) h) (fun cdv A outer s H vs Q E hr h => ⟨_, PSs.nox (pss_cons (ps_if (pt_cmpR op_isN1 (pv 1) pe_non (nomark _)) (pss_one (ps_ret pe_bl)) pss_nil) (pss_cons (ps_if (PW.pt (pw_or (pt_not (pt_val (pe_callB (call_isiK1 (K := K) rfl) rfl T.isinstance (by decide +kernel) (pa_cons (pv 1) (pa_cons (pe_bltn (v := .ty "tuple") rfl T.tuple (by decide +kernel) rfl) pa_nil))))) (pw_or1 (pt_not (pt_val (pe_callB (cr_allK (K := K) rfl rfl) rfl T.all (by decide +kernel) (pa_cons (pe_lc (own := [("block", 2)]) rfl nd (pi_anyK (K := K) rfl (pv 1)) (blkOk_by (own := [("block", 2)]) (N := N_is_filling) (sc := defScope s_is_filling) (by decide +kernel)) (fun _ _ _ _ _ => (pg_name (i := 2) nd rfl (Or.inl rfl))) (fun _ _ _ _ _ => pts_nil) (fun _ _ _ _ _ => (pe_f O_is_block hr rfl (pa_cons (pv 2) pa_nil)))) pa_nil))))))) (pss_one (ps_ret pe_bl)) pss_nil) (pss_cons (ps_if (PW.pt (pw_and (pt_cmpR op_gt (pe_callB (call_lenK (K := K) rfl) rfl T.len (by decide +kernel) (pa_cons (pv 1) pa_nil)) pe_int (nomark _)) (pw_and1 (pt_cmpR op_lt (pe_ix (ix_seqK (K := K) rfl) (pe_ix (ix_seqK (K := K) rfl) (pv 1) pe_int fun _ _ => rfl) pe_int fun _ _ => rfl) (pe_op op_mul pe_int (pv 0)) (nomark _))))) (pss_one (ps_ret pe_bl)) pss_nil) (pss_one (ps_ret (pe_callB (cr_allK (K := K) rfl rfl) rfl T.all (by decide +kernel) (pa_cons (pe_lc (own := [("one", 3), ("other", 4)]) rfl nd (pi_zipX (K := K) rfl rfl T.zip (pa_cons (pv 1) (pa_cons (pe_slice (sl_seqK (K := K) rfl) (pv 1) (po_some pe_int) po_none) pa_nil))) (blkOk_by (own := [("one", 3), ("other", 4)]) (N := N_is_filling) (sc := defScope s_is_filling) (by decide +kernel)) (fun _ _ _ _ _ => (pg_tupK (K := K) (n := 2) rfl rfl (pgs_cons (pg_name (i := 3) nd rfl (Or.inl rfl)) (pgs_cons (pg_name (i := 4) nd rfl (Or.inl rfl)) pgs_nil)))) (fun _ _ _ _ _ => pts_nil) (fun _ _ _ _ _ => (pe_cmpR op_lt (pe_op (op_plusK (K := K) rfl) (pe_ix (ix_seqK (K := K) rfl) (pv 3) pe_int fun _ _ => rfl) (pv 0)) (pe_ix (ix_seqK (K := K) rfl) (pv 4) pe_int fun _ _ => rfl) (nomark _)))) pa_nil))))))), run_pure (Ns := N_is_filling) h fun a B hp => ?_⟩)
  obtain ⟨L, f⟩ := a
  cases f with
  | none => exact sb_seq (sb_if (b := true) (et_test (ev_isN (d := .none) (ev_var rfl))) (fun _ => sb_retD (ev_bl true) rfl) fun h => by cases h)
  | some bs =>
    obtain ⟨h1, h2, h3, h4⟩ := hp bs rfl
    refine sb_seq (sb_if (b := false) (et_test (ev_isN (d := tB bs) (ev_var rfl))) (fun h => by cases h) fun _ => sb_next ?_)
    refine sb_seq (sb_if (b := false) (et_to (et_or (x := false) (et_not (x := true) (et_B (ev_isi (ev_var rfl) kit_tuple_tuple))) (y := false) fun _ => et_not (x := true) (et_B (evd_to (ev_all (bs := bs.map fun _ => true) (evd_to (EvF.ev (ef_lcA (ds := bs) (enc := bD) (ei_anyT (ev_var rfl)) (fun _ => .bool true) _ (by decide) (fun p _ => eg_name) (fun D acc p hp => ev_call (α := Int × Int) p (ea_cons (ev_var rfl) ea_nil) (h2 p hp)) (by omega))) ?_)) ?_))) rfl) (fun h => by cases h) fun _ => sb_next ?_)
    · rw [List.map_map]; rfl
    · simp
    have m2 : ∀ W : Wd, EvD K W (tOp (rI CMul fun i j => .int (i * j)) (tC (.int 2)) (tVar 0)) [.dat (.int L), .dat (tB bs), .no, .no, .no] (.int (2 * L)) := fun W => ev_mul (ev_int 2) (ev_var rfl) (.inl ⟨by decide, by decide⟩)
    refine sb_seq (sb_if (b := false) (et_to (et_and (x := !decide (bs = [])) (et_test (evd_to (ev_gt (ev_lenT (ev_var rfl)) (ev_int 0)) (by rw [len_pos]))) (y := false) fun h => ?_) (by simp)) (fun h => by cases h) fun _ => sb_next ?_)
    · cases bs with
      | nil => simp at h
      | cons b bs =>
        have hb := h3 b rfl
        refine et_test (evd_to (ev_lt (ev_ixT (ev_ixT (ev_var rfl) (ev_int 0) (atI_zero (x := bD b) rfl)) (ev_int 0) (atI_zero (x := PyData.int b.1) rfl)) (m2 B)) ?_)
        have : ¬ b.1 < 2 * L := by omega
        rw [decide_eq_false this]
    refine sb_retD (ev_all (bs := (bs.zip (bs.drop 1)).map fun _ => true) (evd_to (EvF.ev (ef_lcA (ds := bs.zip (bs.drop 1)) (enc := fun p => .tuple [bD p.1, bD p.2]) ?_ (fun _ => .bool true) _ (by decide) (fun p _ => eg_pair) (fun D acc p hp => evd_to (ev_lt (ev_add (ev_ixT (ev_var (d := bD p.1) rfl) (ev_int 1) (atI_one rfl)) (ev_var rfl)) (ev_ixT (ev_var (d := bD p.2) rfl) (ev_int 0) (atI_zero rfl))) (by rw [decide_eq_true (h4 p hp)])) ?_)) ?_)) ?_
    · have e := ei_zipXT (K := K) (W := B) (ta := tVar 1) (tb := tSl (rSlX K) (tVar 1) (tPart (tC (.int 1))) tNoPart) (ρ := [.dat (.int L), .dat (tB bs), .no, .no, .no]) (ev_var rfl) (ev_slT (ev_var rfl) (eo_some (ev_int 1)) eo_none)
      rw [cut_one, ← List.map_drop, zipD_map] at e
      exact e
    · rw [List.length_zip]; omega
    · rw [List.map_map]; rfl
    · simp
theorem canLay_bs (bs : List (Int × Int)) : PyData.canLayAll0 (bs.map bD) = true := by
  induction bs with
  | nil => rfl
  | cons b bs ih => simp [PyData.canLayAll0, bD, PyData.canLay0, ih]
theorem depth_bs (bs : List (Int × Int)) : PyData.depthAll (bs.map bD) ≤ 2 := by
  induction bs with
  | nil => simp [PyData.depthAll]
  | cons b bs ih =>
    simp only [List.map_cons, PyData.depthAll, bD, PyData.depth]
    omega
theorem shaped_tB (bs : List (Int × Int)) : SeqAt.shaped (tB bs) = true := by
  have h1 := canLay_bs bs
  have h2 := depth_bs bs
  simp [tB, SeqAt.shaped, PyData.canLay0, PyData.depth, h1]
  omega
theorem shaped_fD (f : Option (List (Int × Int))) : SeqAt.shaped (fD f) = true := by
  cases f with
  | none => simp [fD, SeqAt.shaped, PyData.canLay0, PyData.depth]
  | some bs => exact shaped_tB bs
theorem eqv_bs : ∀ (xs ys : List (Int × Int)), PyData.eqvAll (xs.map bD) (ys.map bD) = decide (xs = ys)
  | [], [] => by simp [PyData.eqvAll]
  | [], _ :: _ => by simp [PyData.eqvAll]
  | _ :: _, [] => by simp [PyData.eqvAll]
  | x :: xs, y :: ys => by
    have h1 := eqv_bD x y
    have h2 := eqv_bs xs ys
    simp only [List.map_cons, PyData.eqvAll, h1, h2]
    by_cases e : x = y <;> by_cases e2 : xs = ys <;> simp [e, e2]
theorem eqv_tB (xs ys : List (Int × Int)) : PyData.eqv (tB xs) (tB ys) = decide (xs = ys) := by
  simp only [tB, PyData.eqv]
  exact eqv_bs xs ys
theorem eqv_fD (f g : Option (List (Int × Int))) : PyData.eqv (fD f) (fD g) = decide (f = g) := by
  cases f with
  | none => cases g <;> simp [fD, tB, PyData.eqv]
  | some xs =>
    cases g with
    | none => simp [fD, tB, PyData.eqv]
    | some ys =>
      simp only [fD]
      rw [eqv_tB]
      simp
abbrev sp_alike (K : PySem.W.Frag) : Sp := SpD K (α := List Int × List Int × Int) (fun a => [tI a.1, tI a.2.1, .int a.2.2]) (fun a => a.1.length ≤ 10000 ∧ a.2.1.length ≤ 10000) (fun a d => d = .bool (decide (CK.fill a.1 a.2.2 = CK.fill a.2.1 a.2.2)))
theorem ok_alike (F : FnP K "alike" s_alike f fd) (T : Tx mg) (O_filling : Ok P w K mg base "filling" 2 ["row", "least"] (sp_filling K)) : FnOk P w K mg base CX0 3 f fd ["row", "other", "least"] (sp_alike K) := by
  have nd := sc_alike.nd
  refine F.ok sc_alike (fun vs H Q E h => spd_len (fun _ => rfl) h) (fun cdv A outer s H vs Q E hr h => ⟨_, PSs.nox (pss_one (ps_ret (pe_cmpR (op_eqK (K := K) rfl (hu64 hr)) (pe_f O_filling hr rfl (pa_cons (pv 0) (pa_cons (pv 2) pa_nil))) (pe_f O_filling hr rfl (pa_cons (pv 1) (pa_cons (pv 2) pa_nil))) (nomark _)))), run_pure (Ns := N_alike) h fun a B hp => ?_⟩)
  exact sb_retD (ev_eqD (ev_call (α := List Int × Int) (a.1, a.2.2) (ea_cons (ev_var rfl) (ea_cons (ev_var rfl) ea_nil)) hp.1) (ev_call (α := List Int × Int) (a.2.1, a.2.2) (ea_cons (ev_var rfl) (ea_cons (ev_var rfl) ea_nil)) hp.2) (shaped_fD _) (shaped_fD _) (eqv_fD _ _)) rfl

end
end CW
end B6x
section B7x
set_option Elab.async false
set_option linter.all false
set_option maxRecDepth 100000
namespace CW
open PySem PySem.Spec PyProof.Rows L2 StX RZ
section
variable {P : Program} {w : World} {K : PySem.W.Frag} {mg : PySem.Str → Option Value} {base : Heap} {f : Addr} {fd : FuncData}
/-- no promise -/
def spNo : Sp := fun _ _ _ _ => False
abbrev sp_tup0 (K : PySem.W.Frag) : Sp := SpD K (α := Int) (fun a => [.int a]) (fun _ => True) (fun a d => d = .int a)
theorem ok_tupled0 {k : Nat} (F : FnP K "tupled" s_tupled f fd) (T : Tx mg) (O_self : Ok P w K mg base "tupled" k ["thing"] spNo) : FnOk P w K mg base CX0 (k + 1) f fd ["thing"] (sp_tup0 K) := by
  have nd := sc_tupled.nd
  refine F.ok sc_tupled (fun vs H Q E h => spd_len (fun _ => rfl) h) (fun cdv A outer s H vs Q E hr h => ⟨_, PSs.nox (pss_one (ps_ret (pe_ifExp (pt_val (pe_callB (call_isiTK (K := K) rfl) rfl T.isinstance (by decide +kernel) (pa_cons (pv 0) (pa_cons (pe_tup (pa_cons (pe_bltn (v := .ty "list") rfl T.list (by decide +kernel) rfl) (pa_cons (pe_bltn (v := .ty "tuple") rfl T.tuple (by decide +kernel) rfl) pa_nil))) pa_nil)))) (pe_callTy (call_tupleK (K := K) rfl) rfl T.tuple (by decide +kernel) (pa_cons (pe_lc (own := [("part", 1)]) rfl nd (pi_anyK (K := K) rfl (pv 0)) (blkOk_by (own := [("part", 1)]) (N := N_tupled) (sc := defScope s_tupled) (by decide +kernel)) (fun _ _ _ _ _ => (pg_name (i := 1) nd rfl (Or.inl rfl))) (fun _ _ _ _ _ => pts_nil) (fun _ _ _ _ _ => (pe_f O_self hr rfl (pa_cons (pv 1) pa_nil)))) pa_nil)) (pv 0)))), run_pure (Ns := N_tupled) h fun a B hp => ?_⟩)
  exact sb_ret (P' := fun d => d = .int a) (ev_if (c := false) (et_B (ev_isi2 (d := .int a) (ev_var rfl) kit_int_list kit_int_tuple)) (fun h => by cases h) fun _ => ev_var rfl) fun d hd => hd
abbrev sp_tup1 (K : PySem.W.Frag) : Sp := SpD K (α := List Int) (fun a => [tI a]) (fun a => a.length ≤ 10000) (fun a d => d = tI a)
theorem ok_tupled1 {k : Nat} (F : FnP K "tupled" s_tupled f fd) (T : Tx mg) (O_self : Ok P w K mg base "tupled" k ["thing"] (sp_tup0 K)) : FnOk P w K mg base CX0 (k + 1) f fd ["thing"] (sp_tup1 K) := by
  have nd := sc_tupled.nd
  refine F.ok sc_tupled (fun vs H Q E h => spd_len (fun _ => rfl) h) (fun cdv A outer s H vs Q E hr h => ⟨_, PSs.nox (pss_one (ps_ret (pe_ifExp (pt_val (pe_callB (call_isiTK (K := K) rfl) rfl T.isinstance (by decide +kernel) (pa_cons (pv 0) (pa_cons (pe_tup (pa_cons (pe_bltn (v := .ty "list") rfl T.list (by decide +kernel) rfl) (pa_cons (pe_bltn (v := .ty "tuple") rfl T.tuple (by decide +kernel) rfl) pa_nil))) pa_nil)))) (pe_callTy (call_tupleK (K := K) rfl) rfl T.tuple (by decide +kernel) (pa_cons (pe_lc (own := [("part", 1)]) rfl nd (pi_anyK (K := K) rfl (pv 0)) (blkOk_by (own := [("part", 1)]) (N := N_tupled) (sc := defScope s_tupled) (by decide +kernel)) (fun _ _ _ _ _ => (pg_name (i := 1) nd rfl (Or.inl rfl))) (fun _ _ _ _ _ => pts_nil) (fun _ _ _ _ _ => (pe_f O_self hr rfl (pa_cons (pv 1) pa_nil)))) pa_nil)) (pv 0)))), run_pure (Ns := N_tupled) h fun a B hp => ?_⟩)
  refine sb_ret (P' := fun d => d = tI a) (ev_if (c := true) (et_B (ev_isi2 (d := tI a) (ev_var rfl) kit_tuple_list kit_tuple_tuple)) (fun _ => ev_tupL (EvF.ev (ef_lcA (ds := a) (enc := .int) (ei_anyT (ev_var rfl)) .int _ (by decide) (fun p _ => eg_name) (fun D acc p _ => ev_call (α := Int) p (ea_cons (ev_var rfl) ea_nil) trivial) (by omega)))) fun h => by cases h) fun d hd => hd
abbrev sp_tupled (K : PySem.W.Frag) : Sp := SpD K (α := List (List Int)) (fun a => [tT a]) (fun a => a.length ≤ 10000 ∧ ∀ x ∈ a, x.length ≤ 10000) (fun a d => d = tT a)
theorem ok_tupled2 {k : Nat} (F : FnP K "tupled" s_tupled f fd) (T : Tx mg) (O_self : Ok P w K mg base "tupled" k ["thing"] (sp_tup1 K)) : FnOk P w K mg base CX0 (k + 1) f fd ["thing"] (sp_tupled K) := by
  have nd := sc_tupled.nd
  refine F.ok sc_tupled (fun vs H Q E h => spd_len (fun _ => rfl) h) (fun cdv A outer s H vs Q E hr h => ⟨_, PSs.nox (pss_one (ps_ret (pe_ifExp (pt_val (pe_callB (call_isiTK (K := K) rfl) rfl T.isinstance (by decide +kernel) (pa_cons (pv 0) (pa_cons (pe_tup (pa_cons (pe_bltn (v := .ty "list") rfl T.list (by decide +kernel) rfl) (pa_cons (pe_bltn (v := .ty "tuple") rfl T.tuple (by decide +kernel) rfl) pa_nil))) pa_nil)))) (pe_callTy (call_tupleK (K := K) rfl) rfl T.tuple (by decide +kernel) (pa_cons (pe_lc (own := [("part", 1)]) rfl nd (pi_anyK (K := K) rfl (pv 0)) (blkOk_by (own := [("part", 1)]) (N := N_tupled) (sc := defScope s_tupled) (by decide +kernel)) (fun _ _ _ _ _ => (pg_name (i := 1) nd rfl (Or.inl rfl))) (fun _ _ _ _ _ => pts_nil) (fun _ _ _ _ _ => (pe_f O_self hr rfl (pa_cons (pv 1) pa_nil)))) pa_nil)) (pv 0)))), run_pure (Ns := N_tupled) h fun a B hp => ?_⟩)
  refine sb_ret (P' := fun d => d = tT a) (ev_if (c := true) (et_B (ev_isi2 (d := tT a) (ev_var rfl) kit_tuple_list kit_tuple_tuple)) (fun _ => ev_tupL (EvF.ev (ef_lcA (ds := a) (enc := tI) (ei_anyT (ev_var rfl)) tI _ (by decide) (fun p _ => eg_name) (fun D acc p hp' => ev_call (α := List Int) p (ea_cons (ev_var rfl) ea_nil) (hp.2 p hp')) (by omega)))) fun h => by cases h) fun d hd => hd
theorem tB_tT (bs : List (Int × Int)) : tB bs = tT (bs.map fun b => [b.1, b.2]) := by
  unfold tB tT
  rw [List.map_map]
  rfl
abbrev sp_blocks_of (K : PySem.W.Frag) : Sp := SpD K (α := List (Int × Int)) (fun a => [tB a]) (fun a => a.length ≤ 10000) (fun a d => d = tB a)
theorem ok_blocks_of (F : FnP K "blocks_of" s_blocks_of f fd) (T : Tx mg) (O_tupled : Ok P w K mg base "tupled" 3 ["thing"] (sp_tupled K)) : FnOk P w K mg base CX0 4 f fd ["blocks"] (sp_blocks_of K) := by
  have nd := sc_blocks_of.nd
  refine F.ok sc_blocks_of (fun vs H Q E h => spd_len (fun _ => rfl) h) (fun cdv A outer s H vs Q E hr h => ⟨_, PSs.nox (pss_one (ps_ret (pe_ifExp (pt_cmpR op_isN1 (pv 0) pe_non (nomark _)) (pe_tup pa_nil) (pe_f O_tupled hr rfl (pa_cons (pv 0) pa_nil))))), run_pure (Ns := N_blocks_of) h fun a B hp => ?_⟩)
  refine sb_ret (P' := fun d => d = tB a) (ev_if (c := false) (et_test (ev_isN (d := tB a) (ev_var rfl))) (fun h => by cases h) fun _ => ev_to (ev_call (α := List (List Int)) (a.map fun b => [b.1, b.2]) (ea_cons (evd_to (ev_var rfl) (tB_tT a)) ea_nil) ⟨by rw [List.length_map]; exact hp, fun x hx => ?_⟩) fun d hd => by rw [hd, tB_tT]) fun d hd => hd
  obtain ⟨b, _, rfl⟩ := List.mem_map.mp hx
  simp
abbrev sp_holds (K : PySem.W.Frag) : Sp := SpD K (α := List (Int × Int) × Int) (fun a => [tB a.1, .int a.2]) (fun a => a.1.length ≤ 10000) (fun a d => d = .bool (CK.holdsB a.1 a.2))
theorem ok_holds (F : FnP K "holds" s_holds f fd) (T : Tx mg) (O_blocks_of : Ok P w K mg base "blocks_of" 4 ["blocks"] (sp_blocks_of K)) : FnOk P w K mg base CX0 5 f fd ["blocks", "number"] (sp_holds K) := by
  have nd := sc_holds.nd
  refine F.ok sc_holds (fun vs H Q E h => spd_len (fun _ => rfl) h) (fun cdv A outer s H vs Q E hr h => ⟨_, PSs.nox (pss_one (ps_ret (pe_callB (cr_anyK (K := K) rfl rfl) rfl T.any (by decide +kernel) (pa_cons (pe_lc (own := [("low", 2), ("high", 3)]) rfl nd (pi_anyK (K := K) rfl (pe_f O_blocks_of hr rfl (pa_cons (pv 0) pa_nil))) (blkOk_by (own := [("low", 2), ("high", 3)]) (N := N_holds) (sc := defScope s_holds) (by decide +kernel)) (fun _ _ _ _ _ => (pg_tupK (K := K) (n := 2) rfl rfl (pgs_cons (pg_name (i := 2) nd rfl (Or.inl rfl)) (pgs_cons (pg_name (i := 3) nd rfl (Or.inl rfl)) pgs_nil)))) (fun _ _ _ _ _ => pts_nil) (fun _ _ _ _ _ => (pe_chain op_le op_le (pv 2) (pv 1) (pv 3)))) pa_nil)))), run_pure (Ns := N_holds) h fun a B hp => ?_⟩)
  refine sb_retD (ev_any (bs := a.1.map fun p => decide (p.1 ≤ a.2) && decide (a.2 ≤ p.2)) (evd_to (EvF.ev (ef_lcA (ds := a.1) (enc := bD) (ei_anyT (ev_call (α := List (Int × Int)) a.1 (ea_cons (ev_var rfl) ea_nil) hp)) (fun p => .bool (decide (p.1 ≤ a.2) && decide (a.2 ≤ p.2))) _ (by decide) (fun p _ => eg_pair) (fun D acc p _ => ev_chain (ev_var rfl) (ev_var rfl) rv_le (ev_var rfl) rv_le) (by omega))) ?_)) ?_
  · rw [List.map_map]; rfl
  · simp [CK.holdsB, List.any_map]
abbrev sp_next_above (K : PySem.W.Frag) : Sp := SpD K (α := List (Int × Int) × Int) (fun a => [tB a.1, .int a.2]) (fun a => a.1.length ≤ 10000) (fun a d => d = oI (CK.nextAbove a.1 a.2))
theorem ok_next_above (F : FnP K "next_above" s_next_above f fd) (T : Tx mg) (O_blocks_of : Ok P w K mg base "blocks_of" 4 ["blocks"] (sp_blocks_of K)) : FnOk P w K mg base CX0 5 f fd ["blocks", "number"] (sp_next_above K) := by
  have nd := sc_next_above.nd
  refine F.ok sc_next_above (fun vs H Q E h => spd_len (fun _ => rfl) h) (fun cdv A outer s H vs Q E hr h => ⟨_, PSs.nox (pss_cons (ps_setLc (i := 2) (own := [("low", 3), ("high", 4)]) rfl nd rfl rfl rfl (pi_anyK (K := K) rfl (pe_f O_blocks_of hr rfl (pa_cons (pv 0) pa_nil))) (blkOk_by (own := [("low", 3), ("high", 4)]) (N := N_next_above) (sc := defScope s_next_above) (by decide +kernel)) (fun _ _ _ _ _ => (pg_tupK (K := K) (n := 2) rfl rfl (pgs_cons (pg_name (i := 3) nd rfl (Or.inl rfl)) (pgs_cons (pg_name (i := 4) nd rfl (Or.inl rfl)) pgs_nil)))) (fun _ _ _ _ _ => pts_one (pt_cmpR op_gt (pv 4) (pv 1) (nomark _))) (fun _ _ _ _ _ => (pe_callB (call_max2K rfl) rfl T.max (by decide +kernel) (pa_cons (pv 3) (pa_cons (pe_op (op_plusK (K := K) rfl) (pv 1) pe_int) pa_nil))))) (pss_one (ps_ret (pe_ifExp (pt_cmpR op_gt (pe_callB (call_lenK (K := K) rfl) rfl T.len (by decide +kernel) (pa_cons (pv 2) pa_nil)) pe_int (nomark _)) (pe_ix (ix_seqK (K := K) rfl) (pv 2) pe_int fun _ _ => rfl) pe_non)))), run_pure (Ns := N_next_above) h fun a B hp => ?_⟩)
  refine sb_seq (sb_asgD (d := lI ((a.1.filter fun p => decide (a.2 < p.2)).map fun p => max p.1 (a.2 + 1))) (evd_to (EvF.ev (ef_lcT (ds := a.1) (enc := bD) (ei_anyT (ev_call (α := List (Int × Int)) a.1 (ea_cons (ev_var rfl) ea_nil) hp)) (fun p => decide (a.2 < p.2)) (fun p => .int (max p.1 (a.2 + 1))) _ (by decide) (fun p _ => eg_pair) (fun D acc p _ => et_test (ev_gt (ev_var rfl) (ev_var rfl))) (fun D acc p _ _ => ev_max (ev_var rfl) (ev_add (ev_var rfl) (ev_int 1))) (by omega))) (by rw [lI, List.map_map]; rfl)) ?_)
  unfold CK.nextAbove
  generalize (a.1.filter fun p => decide (a.2 < p.2)).map (fun p => max p.1 (a.2 + 1)) = ns
  cases ns with
  | nil => exact sb_ret (P' := fun d => d = .none) (ev_if (c := false) (et_test (evd_to (ev_gt (ev_lenL (ev_var rfl)) (ev_int 0)) (by simp))) (fun h => by cases h) fun _ => ev_non) fun d hd => hd
  | cons n ns => exact sb_ret (P' := fun d => d = .int n) (ev_if (c := true) (et_test (evd_to (ev_gt (ev_lenL (ev_var rfl)) (ev_int 0)) (by simp))) (fun _ => ev_ixL (ev_var rfl) (ev_int 0) (atI_zero rfl)) fun h => by cases h) fun d hd => hd
abbrev sp_fewest (K : PySem.W.Frag) : Sp := SpD K (α := List Int × Int) (fun a => [tI a.1, .int a.2]) (fun a => a.1.length ≤ 160 ∧ 1 ≤ a.2 ∧ ∀ x ∈ a.1, 1 ≤ x ∧ x ≤ 100000) (fun a d => d = tI (CK.few a.1 a.2))
theorem minR_spec (row : List Int) (h : row ≠ []) : CK.minR row ∈ row ∧ ∀ y ∈ row, CK.minR row ≤ y := by
  cases row with
  | nil => exact absurd rfl h
  | cons x r =>
    have go : ∀ (r : List Int) (m : Int), r.foldl min m ∈ m :: r ∧ ∀ y ∈ m :: r, r.foldl min m ≤ y := by
      intro r
      induction r with
      | nil => intro m; simp
      | cons z r ih =>
        intro m
        obtain ⟨h1, h2⟩ := ih (min m z)
        rw [List.foldl_cons]
        refine ⟨?_, fun y hy => ?_⟩
        · rcases List.mem_cons.mp h1 with e | e
          · by_cases hm : m ≤ z
            · rw [e, Int.min_eq_left hm]; simp
            · rw [e, Int.min_eq_right (by omega)]; simp
          · exact List.mem_cons_of_mem _ (List.mem_cons_of_mem _ e)
        · have h3 := h2 (min m z) List.mem_cons_self
          rcases List.mem_cons.mp hy with e | e
          · subst e; omega
          · rcases List.mem_cons.mp e with e | e
            · subst e; omega
            · exact h2 y (List.mem_cons_of_mem _ e)
    unfold CK.minR
    have := go (x :: r) x
    simp only [List.headD_cons]
    obtain ⟨h1, h2⟩ := this
    refine ⟨?_, fun y hy => h2 y (List.mem_cons_of_mem _ hy)⟩
    rcases List.mem_cons.mp h1 with e | e
    · rw [e]; exact List.mem_cons_self
    · exact e
theorem fill_len {row : List Int} {L : Int} {bs : List (Int × Int)} (h : CK.fill row L = some bs) : bs.length ≤ row.length := by
  unfold CK.fill at h
  split at h
  · cases h
  · cases h
    have h1 := join_len L ((CK.recs row).reverse.map fun x => (x, x)) []
    have h2 := CK.recs_length row
    rw [List.length_nil, Nat.zero_add, List.length_map, List.length_reverse] at h1
    unfold CK.joined
    omega
theorem few_len_fold (L : Int) (hL : 1 ≤ L) : ∀ (bs : List (Int × Int)) (acc : List Int), (∀ b ∈ bs, b.2 - b.1 ≤ 100000) → (bs.foldl (fun acc p => acc ++ CK.fewL p.1 p.2 L) acc).length ≤ acc.length + bs.length * 100001 := by
  intro bs
  induction bs with
  | nil => intro acc _; simp
  | cons b bs ih =>
    intro acc h
    have h1 := ih (acc ++ CK.fewL b.1 b.2 L) fun x hx => h x (List.mem_cons_of_mem _ hx)
    have h2 := fewGo_len (b.2 - b.1).toNat b.1 L b.2
    have h3 := h b List.mem_cons_self
    rw [List.foldl_cons, List.length_cons]
    rw [List.length_append] at h1
    unfold CK.fewL at h1 ⊢
    omega
theorem ok_fewest (F : FnP K "fewest" s_fewest f fd) (T : Tx mg) (O_few_limits : Ok P w K mg base "few_limits" 1 ["low", "high", "least"] (sp_few_limits K)) (O_filling : Ok P w K mg base "filling" 2 ["row", "least"] (sp_filling K)) : FnOk P w K mg base CX0 3 f fd ["row", "least"] (sp_fewest K) := by
  have nd := sc_fewest.nd
  refine F.ok sc_fewest (fun vs H Q E h => spd_len (fun _ => rfl) h) (fun cdv A outer s H vs Q E hr h => ⟨_, PSs.nox (pss_cons (ps_set (i := 2) nd rfl (Or.inl rfl) (pe_f O_filling hr rfl (pa_cons (pv 0) (pa_cons (pv 1) pa_nil)))) (pss_cons (ps_if (pt_cmpR op_isN1 (pv 2) pe_non (nomark _)) (pss_one (ps_ret (pe_tup (pa_cons (pe_callB (cr_minK (K := K) rfl rfl (hu64 hr)) rfl T.min (by decide +kernel) (pa_cons (pv 0) pa_nil)) pa_nil)))) pss_nil) (pss_cons (ps_set (i := 3) nd rfl (Or.inl rfl) (pe_lst pa_nil)) (pss_cons (ps_for PassesOwn.never rfl (pi_anyK (K := K) rfl (pe_revTK (K := K) rfl (pv 2))) (pg_tupK (K := K) (n := 2) rfl rfl (pgs_cons (pg_name (i := 4) nd rfl (Or.inl rfl)) (pgs_cons (pg_name (i := 5) nd rfl (Or.inl rfl)) pgs_nil))) (pss_one (ps_expr (pe_bmK (K := K) rfl PySem.F.plainAttrs_list PySem.F.slot_list_extend PySem.F.type_list_extend mt_extend (pv 3) (pa_cons (pe_f O_few_limits (hr.mono (by decide)) rfl (pa_cons (pv 4) (pa_cons (pv 5) (pa_cons (pv 1) pa_nil)))) pa_nil))))) (pss_one (ps_ret (pe_callTy (call_tupleK (K := K) rfl) rfl T.tuple (by decide +kernel) (pa_cons (pv 3) pa_nil)))))))), run_pure (Ns := N_fewest) h fun a B hp => ?_⟩)
  obtain ⟨h1, h3, h4⟩ := hp
  refine sb_seq (sb_asgD (d := fD (CK.fill a.1 a.2)) (ev_call (α := List Int × Int) a (ea_cons (ev_var rfl) (ea_cons (ev_var rfl) ea_nil)) (by omega)) ?_)
  unfold CK.few
  cases hf : CK.fill a.1 a.2 with
  | none =>
    have h2 : a.1 ≠ [] := fun z => by
      rw [z] at hf
      have h5 := (CK.fill_nil (row := []) (L := a.2)).mpr rfl
      rw [hf] at h5
      cases h5
    refine sb_seq (sb_if (b := true) (et_test (ev_isN (d := .none) (ev_var rfl))) (fun _ => ?_) fun h => by cases h)
    refine sb_retD (ev_tup (ea_cons (ev_minT (ns := a.1) (m := CK.minR a.1) (ev_var rfl) h2 fun x hx hy => ?_) ea_nil) (by simp)) rfl
    obtain ⟨k1, k2⟩ := minR_spec a.1 h2
    have := hy _ k1
    have := k2 x hx
    omega
  | some bs =>
    have hv : ∀ b ∈ bs, b.2 - b.1 ≤ 100000 := fun b hb => by
      obtain ⟨e1, e2⟩ := CK.fill_ends hf b hb
      have := h4 _ e1
      have := h4 _ e2
      omega
    have hbl : bs.length ≤ 160 := Nat.le_trans (fill_len hf) h1
    refine sb_seq (sb_if (b := false) (et_test (ev_isN (d := tB bs) (ev_var rfl))) (fun h => by cases h) fun _ => sb_next ?_)
    refine sb_seq (sb_asgM (ef_lst ea_nil (by simp)) fun p => ?_)
    have hrev : EvD K (B.push K p (.lst [])) (tRevT K (tVar 2)) [.dat (tI a.1), .dat (.int a.2), .dat (tB bs), .at p, .no, .no] (.tuple (bs.reverse.map bD)) := by
      rw [List.map_reverse]
      exact ev_revT (ev_var rfl)
    refine sb_seq (sb_fold0 (xs := bs.reverse) (enc := bD) (ei_anyT hrev) (fun acc q => acc ++ CK.fewL q.1 q.2 a.2) (fun s W' ρ' => W' = B.push K p (.lst (s.map .int)) ∧ ∃ o1 o2, ρ' = [.dat (tI a.1), .dat (.int a.2), .dat (tB bs), .at p, o1, o2]) [] ⟨rfl, _, _, rfl⟩ ?_ ?_)
    · rintro ys x zs W' ρ' e x' ⟨rfl, o1, o2, rfl⟩
      refine ⟨_, _, eg_pair, ?_⟩
      have hx : x ∈ bs := by
        have : x ∈ bs.reverse := by rw [e]; simp
        exact List.mem_reverse.mp this
      have hl := few_len_fold a.2 h3 ys [] fun b hb => hv b (by
        have : b ∈ bs.reverse := by rw [e]; simp [hb]
        exact List.mem_reverse.mp this)
      have hyl : ys.length ≤ 160 := by
        have := congrArg List.length e
        simp at this
        omega
      have hgo : (CK.fewL x.1 x.2 a.2).length ≤ (x.2 - x.1).toNat + 1 := fewGo_len (x.2 - x.1).toNat x.1 a.2 x.2
      have := hv x hx
      refine sb_extendR rfl Mu.here (fun _ _ => Ext.push) (er_call (α := Int × Int × Int) (x.1, x.2, a.2) (ea_cons (ev_var rfl) (ea_cons (ev_var rfl) (ea_cons (ev_var rfl) ea_nil))) ⟨h3, hv x hx⟩) ?_ ?_
      · rw [List.length_map, List.length_map]
        rw [List.length_nil, Nat.zero_add] at hl
        refine Nat.le_trans (Nat.add_le_add hl (Nat.le_trans hgo (show _ ≤ 100001 by omega))) ?_
        omega
      · refine ⟨?_, _, _, rfl⟩
        rw [List.map_append]
    · rintro W' ρ' ⟨rfl, o1, o2, rfl⟩
      refine sb_ret_view (i := 3) rfl (Ext.refl B) (ev_tupL (ev_var rfl)) fun d hd => ?_
      rw [hd]
      have e : ∀ (bs : List (Int × Int)) (acc : List Int), bs.foldl (fun acc q => acc ++ CK.fewL q.1 q.2 a.2) acc = acc ++ bs.flatMap fun p => CK.fewL p.1 p.2 a.2 := by
        intro bs
        induction bs with
        | nil => intro acc; simp
        | cons b bs ih => intro acc; rw [List.foldl_cons, ih]; simp
      rw [e, List.nil_append]
      rfl

end
end CW
end B7x
section B8x
set_option Elab.async false
set_option linter.all false
set_option maxRecDepth 100000
namespace CW
open PySem PySem.Spec PyProof.Rows L2 StX RZ
section
variable {P : Program} {w : World} {K : PySem.W.Frag} {mg : PySem.Str → Option Value} {base : Heap} {f : Addr} {fd : FuncData}
def zsg (ps : List (List Int)) (s : Int) : List ((Int × Int) × List Int) := (CK.segs s ps).zip ps
theorem zsg_flat (l : Int) : ∀ (ps : List (List Int)) (s : Int), (zsg ps s).flatMap (fun q => CK.hopP l q.1.1 q.2) = CK.newP l s ps
  | [], s => rfl
  | p :: ps, s => by
    have ih := zsg_flat l ps (s + p.length)
    unfold zsg at ih ⊢
    simp only [CK.segs, List.zip_cons_cons, List.flatMap_cons, CK.newP]
    rw [ih]
theorem zsg_at {ps : List (List Int)} {ys zs : List ((Int × Int) × List Int)} {q : (Int × Int) × List Int} (e : zsg ps 0 = ys ++ q :: zs) :
    ∃ a : Nat, q.1 = ((a : Int), (a : Int) + q.2.length) ∧ (ps.flatten.take (a + q.2.length)).drop a = q.2 ∧ a + q.2.length ≤ ps.flatten.length ∧ q.2 ∈ ps := by
  have h : (zsg ps 0)[ys.length]? = some q := by rw [e]; simp
  have h' := List.getElem?_zip_eq_some.mp h
  obtain ⟨a, h1, h2, h3⟩ := CK.segs_get ps 0 ys.length q.2 h'.2
  rw [h'.1] at h1
  have h4 := Option.some.inj h1
  exact ⟨a, by rw [h4]; simp, h2, h3, List.mem_of_getElem? h'.2⟩
theorem hopGo_len (l : Int) : ∀ (ys : List Int) (t p : Int), (CK.hopGo l t p ys).length ≤ ys.length
  | [], _, _ => by simp [CK.hopGo]
  | y :: ys, t, p => by
    have h1 := hopGo_len l ys y (p + 1)
    have h2 := hopGo_len l ys (t + y) (p + 1)
    unfold CK.hopGo
    split <;> simp <;> omega
theorem hopP_len (l s : Int) (p : List Int) : (CK.hopP l s p).length ≤ p.length := by
  cases p with
  | nil => simp [CK.hopP]
  | cons x xs =>
    have := hopGo_len l xs x (s + 1)
    simp only [CK.hopP, List.length_cons]
    omega
abbrev sp_cuts (K : PySem.W.Frag) : Sp := SpD K (α := List Int × List Int) (fun a => [tI a.1, tI a.2]) (fun a => a.1.length ≤ 10000 ∧ a.2.length ≤ 4000 ∧ a.2 ≠ []) (fun a d => ∃ ps : List (Int × Int), d = lB ps ∧ ps.map (·.1) = CK.endsOf 0 (CK.partsM a.1 a.2))
theorem ends_len (row b : List Int) (hb : b ≠ []) : (CK.endsOf 0 (CK.partsM row b)).length ≤ b.length := by
  rw [CK.endsOf_length]
  have h1 := CK.parts_flat row b
  have h2 : (CK.partsM row b).length ≤ (CK.partsM row b).flatten.length := by
    have hne := CK.parts_ne (row := row) hb
    generalize CK.partsM row b = ps at hne
    induction ps with
    | nil => simp
    | cons p ps ih =>
      have h3 := ih fun q hq => hne q (List.mem_cons_of_mem _ hq)
      have h4 := List.length_pos_iff.mpr (hne p List.mem_cons_self)
      rw [List.flatten_cons, List.length_append, List.length_cons]
      omega
  rw [h1] at h2
  omega
theorem fold_app {α β : Type} (f : α → List β) : ∀ (xs : List α) (acc : List β), xs.foldl (fun acc q => acc ++ f q) acc = acc ++ xs.flatMap f
  | [], acc => by simp
  | x :: xs, acc => by rw [List.foldl_cons, fold_app f xs]; simp
theorem flat_sum {α β : Type} (f : α → List β) (g : α → Nat) : ∀ xs : List α, (∀ x ∈ xs, (f x).length ≤ g x) → (xs.flatMap f).length ≤ (xs.map g).sum
  | [], _ => by simp
  | x :: xs, h => by
    have h1 := h x List.mem_cons_self
    have h2 := flat_sum f g xs fun y hy => h y (List.mem_cons_of_mem _ hy)
    rw [List.flatMap_cons, List.length_append, List.map_cons, List.sum_cons]
    omega
theorem sum_const {α : Type} : ∀ (us : List α) (m : Nat), (us.map fun _ => m).sum = us.length * m
  | [], m => by simp
  | _ :: us, m => by rw [List.map_cons, List.sum_cons, sum_const us m, List.length_cons, Nat.succ_mul]; omega
theorem cut_step (row b : List Int) (l : Int) (hb : b ≠ []) {ps : List (Int × Int)} (h : (ps.map (·.1)).Perm (CK.endsOf 0 (CK.partsM row b))) (hop : Int) :
    ((ps ++ (zsg (CK.partsM row b) 0).flatMap fun q => (CK.hopP l q.1.1 q.2).map fun x => (x, hop)).map (·.1)).Perm (CK.endsOf 0 (CK.partsM (row ++ [l]) b)) := by
  rw [List.map_append, CK.parts_snoc]
  have e : ((zsg (CK.partsM row b) 0).flatMap fun q => (CK.hopP l q.1.1 q.2).map fun x => (x, hop)).map (·.1) = CK.newP l 0 (CK.partsM row b) := by
    rw [← zsg_flat, List.map_flatMap]
    congr 1
    funext q
    rw [List.map_map]
    exact (List.map_congr_left fun x _ => rfl).trans (List.map_id _)
  rw [e]
  exact (h.append (List.Perm.refl _)).trans (CK.newP_perm l _ 0 (CK.parts_ne hb)).symm
theorem ok_cuts (F : FnP K "cuts" s_cuts f fd) (T : Tx mg) (O_hop_places : Ok P w K mg base "hop_places" 1 ["limit", "batch", "start", "end"] (sp_hop_places K)) : FnOk P w K mg base CX0 2 f fd ["row", "batch"] (sp_cuts K) := by
  have nd := sc_cuts.nd
  refine F.ok sc_cuts (fun vs H Q E h => spd_len (fun _ => rfl) h) (fun cdv A outer s H vs Q E hr h => ⟨_, PSs.nox (pss_cons (ps_par (i := 2) (j := 3) rfl nd rfl rfl (by decide) rfl rfl (pa_cons (pe_callTy (call_tupleK (K := K) rfl) rfl T.tuple (by decide +kernel) (pa_cons (pv 1) pa_nil)) (pa_cons (pe_lst pa_nil) pa_nil)) rfl) (pss_cons (ps_for PassesOwn.never rfl (pi_enumK (K := K) rfl rfl T.enumerate (pa_cons (pv 0) pa_nil)) (pg_tupK (K := K) (n := 2) rfl rfl (pgs_cons (pg_name (i := 4) nd rfl (Or.inr rfl)) (pgs_cons (pg_name (i := 5) nd rfl (Or.inl rfl)) pgs_nil))) (pss_cons (ps_set (i := 6) nd rfl (Or.inl rfl) (pe_callB (cr_sortedIK (K := K) rfl) rfl T.sorted (by decide +kernel) (pa_cons (pe_lc (own := [("place", 9), ("other", 10)]) rfl nd (pi_anyK (K := K) rfl (pv 3)) (blkOk_by (own := [("place", 9), ("other", 10)]) (N := N_cuts) (sc := defScope s_cuts) (by decide +kernel)) (fun _ _ _ _ _ => (pg_tupK (K := K) (n := 2) rfl rfl (pgs_cons (pg_name (i := 9) nd rfl (Or.inl rfl)) (pgs_cons (pg_name (i := 10) nd rfl (Or.inl rfl)) pgs_nil)))) (fun _ _ _ _ _ => pts_nil) (fun _ _ _ _ _ => (pv 9))) pa_nil))) (pss_one (ps_for PassesOwn.never rfl (pi_zipX (K := K) rfl rfl T.zip (pa_cons (pe_lst (pa_cons pe_int (pa_starK (K := K) rfl (pv 6) pa_nil))) (pa_cons (pe_lst (pa_starK (K := K) rfl (pv 6) (pa_cons (pe_callB (call_lenK (K := K) rfl) rfl T.len (by decide +kernel) (pa_cons (pv 2) pa_nil)) pa_nil))) pa_nil))) (pg_tupK (K := K) (n := 2) rfl rfl (pgs_cons (pg_name (i := 7) nd rfl (Or.inl rfl)) (pgs_cons (pg_name (i := 8) nd rfl (Or.inl rfl)) pgs_nil))) (pss_one (ps_expr (pe_bmK (K := K) rfl PySem.F.plainAttrs_list PySem.F.slot_list_extend PySem.F.type_list_extend mt_extend (pv 3) (pa_cons (pe_lc (own := [("place", 9)]) rfl nd (pi_anyK (K := K) rfl (pe_f O_hop_places hr rfl (pa_cons (pv 5) (pa_cons (pv 2) (pa_cons (pv 7) (pa_cons (pv 8) pa_nil)))))) (blkOk_by (own := [("place", 9)]) (N := N_cuts) (sc := defScope s_cuts) (by decide +kernel)) (fun _ _ _ _ _ => (pg_name (i := 9) nd rfl (Or.inl rfl))) (fun _ _ _ _ _ => pts_nil) (fun _ _ _ _ _ => (pe_tup (pa_cons (pv 9) (pa_cons (pv 4) pa_nil))))) pa_nil)))))))) (pss_one (ps_ret (pe_callB (cr_sortedPT (K := K) rfl) rfl T.sorted (by decide +kernel) (pa_cons (pv 3) pa_nil)))))), run_pure (Ns := N_cuts) h fun a B hp => ?_⟩)
  obtain ⟨h1, h2, h3⟩ := hp
  refine sb_seq (sb_par (es_k (ek_ev (P := fun d => d = tI a.2) (ev_tupT (ev_var rfl)))) (fun W1 s1 h => es_new (ef_lst ea_nil (by simp))) ?_)
  rintro W1 s1 W2 s2 ⟨e1, d, rfl, rfl⟩ ⟨p, e2, rfl⟩
  rw [e1] at e2
  subst e2
  have hen : ((List.range a.1.length).zip a.1).map (fun q => PyData.tuple [.int (q.1 : Int), .int q.2]) = enumD (a.1.map .int) := (enumD_map PyData.int a.1).symm
  refine sb_seq (sb_fold0 (xs := (List.range a.1.length).zip a.1) (enc := fun q => PyData.tuple [.int (q.1 : Int), .int q.2]) (by rw [hen]; exact ei_enumXT (ev_var rfl))
    (fun row q => row ++ [q.2]) (fun row W' ρ' => ∃ ps : List (Int × Int), (ps.map (·.1)).Perm (CK.endsOf 0 (CK.partsM row a.2)) ∧ W' = B.push K p (.lst (ps.map bD)) ∧ ∃ o4 o5 o6 o7 o8 o9 o10, ρ' = [.dat (tI a.1), .dat (tI a.2), .dat (tI a.2), .at p, o4, o5, o6, o7, o8, o9, o10]) [] ⟨[], ?_, rfl, _, _, _, _, _, _, _, rfl⟩ ?_ ?_)
  · show ([] : List Int).Perm (CK.endsOf 0 [a.2])
    simp [CK.endsOf]
  · rintro ys q zs W' ρ' e x' ⟨ps, hps, rfl, o4, o5, o6, o7, o8, o9, o10, rfl⟩
    refine ⟨_, _, eg_pair, ?_⟩
    generalize ys.foldl (fun row q => row ++ [q.2]) [] = row at hps ⊢
    have hel := ends_len row a.2 h3
    have hpl : ps.length ≤ a.2.length := by
      have := hps.length_eq
      rw [List.length_map] at this
      omega
    -- ends
    have hends : EvF K (B.push K p (.lst (ps.map bD))) (tCB (rSortedI K) (tCons (tLc (iAny K (tVar 3)) (gTup K 2 (gCons (gName 9) (gCons (gName 10) gNil))) tYes (tVar 9) [9, 10]) tNil)) [.dat (tI a.1), .dat (tI a.2), .dat (tI a.2), .at p, .dat (.int (q.1 : Int)), .dat (.int q.2), o6, o7, o8, o9, o10] ((CK.endsOf 0 (CK.partsM row a.2)).map .int) := by
      refine ef_view (i := 3) rfl ?_ ?_
      · refine ef_sorted (ns := ps.map (·.1)) (evd_to (EvF.ev (ef_lcA (ds := ps) (enc := bD) (ei_anyL (ev_var rfl)) (fun b => .int b.1) _ (by decide) (fun b _ => eg_pair) (fun D acc b _ => ev_var rfl) (by omega))) ?_) hps.symm ?_
        · rw [List.map_map]; rfl
        · exact (CK.endsOf_asc _ 0 (CK.parts_ne h3)).imp fun h => by omega
      · rw [List.all_eq_true]
        intro d hd
        obtain ⟨x, _, rfl⟩ := List.mem_map.mp hd
        rfl
    refine sb_seq (sb_asgD (EvF.ev hends) ?_)
    have hzip : EvI K (B.push K p (.lst (ps.map bD))) (iZipX K (tCons (tLst (tCons (tC (.int 0)) (tStar K (tVar 6) tNil))) (tCons (tLst (tStar K (tVar 6) (tCons (tLenK K (tVar 2)) tNil))) tNil)))
        [.dat (tI a.1), .dat (tI a.2), .dat (tI a.2), .at p, .dat (.int (q.1 : Int)), .dat (.int q.2), .dat (lI (CK.endsOf 0 (CK.partsM row a.2))), o7, o8, o9, o10] ((zsg (CK.partsM row a.2) 0).map fun q => .tuple [.int q.1.1, .int q.1.2]) := by
      have e1 := ei_zipXL (K := K) (W := B.push K p (.lst (ps.map bD))) (ρ := [.dat (tI a.1), .dat (tI a.2), .dat (tI a.2), .at p, .dat (.int (q.1 : Int)), .dat (.int q.2), .dat (lI (CK.endsOf 0 (CK.partsM row a.2))), o7, o8, o9, o10])
        (EvF.ev (ef_lst (ea_cons (ev_int 0) (ea_starL (ta := tVar 6) (es := (CK.endsOf 0 (CK.partsM row a.2)).map .int) (ev_var rfl) ea_nil)) (by simp; omega))) (EvF.ev (ef_lst (ea_starL (ta := tVar 6) (es := (CK.endsOf 0 (CK.partsM row a.2)).map .int) (ev_var rfl) (ea_cons (ev_lenT (ta := tVar 2) (ds := a.2.map .int) (ev_var rfl)) ea_nil)) (by simp; omega)))
      have e2 : ((zsg (CK.partsM row a.2) 0).map fun q => PyData.tuple [.int q.1.1, .int q.1.2]) = (CK.segs 0 (CK.partsM row a.2)).map fun q => PyData.tuple [.int q.1, .int q.2] := by
        have e3 : (zsg (CK.partsM row a.2) 0).map Prod.fst = CK.segs 0 (CK.partsM row a.2) := by
          unfold zsg
          rw [List.map_fst_zip]
          rw [CK.segs_length]
          exact Nat.le_refl _
        conv => rhs; rw [← e3]
        rw [List.map_map]; rfl
      have e4 := CK.segs_zip (CK.partsM row a.2) 0 (CK.parts_nil h3)
      rw [CK.parts_flat, Int.zero_add] at e4
      have e5 : zipD (.int 0 :: ((CK.endsOf 0 (CK.partsM row a.2)).map .int ++ [])) ((CK.endsOf 0 (CK.partsM row a.2)).map .int ++ [.int ((a.2.map PyData.int).length : Int)]) = (CK.segs 0 (CK.partsM row a.2)).map fun q => PyData.tuple [.int q.1, .int q.2] := by
        rw [← e4, List.append_nil, List.length_map]
        have := zipD_map PyData.int PyData.int ((0 : Int) :: CK.endsOf 0 (CK.partsM row a.2)) (CK.endsOf 0 (CK.partsM row a.2) ++ [(a.2.length : Int)])
        rw [List.map_cons, List.map_append] at this
        exact this
      rw [e5] at e1
      rw [e2]
      exact e1
    refine sb_fold0 (xs := zsg (CK.partsM row a.2) 0) (enc := fun q => .tuple [.int q.1.1, .int q.1.2]) hzip (fun acc z => acc ++ (CK.hopP q.2 z.1.1 z.2).map fun x => (x, (q.1 : Int)))
      (fun acc W' ρ' => W' = B.push K p (.lst (acc.map bD)) ∧ ∃ o6 o7 o8 o9 o10, ρ' = [.dat (tI a.1), .dat (tI a.2), .dat (tI a.2), .at p, .dat (.int (q.1 : Int)), .dat (.int q.2), o6, o7, o8, o9, o10]) ps ⟨rfl, _, _, _, _, _, rfl⟩ ?_ ?_
    · rintro us z vs W' ρ' e x' ⟨rfl, o6, o7, o8, o9, o10, rfl⟩
      refine ⟨_, _, eg_pair, ?_⟩
      obtain ⟨m, m1, m2, m3, m4⟩ := zsg_at e
      rw [CK.parts_flat] at m2 m3
      have hzne := CK.parts_ne h3 z.2 m4
      obtain ⟨x, xs, hx⟩ : ∃ x xs, z.2 = x :: xs := by
        cases hz : z.2 with
        | nil => exact absurd hz hzne
        | cons x xs => exact ⟨x, xs, rfl⟩
      have hall : a.2 = a.2.take m ++ (x :: xs ++ a.2.drop (m + z.2.length)) := by
        rw [← hx, ← m2]
        have t1 : (a.2.take (m + z.2.length)).take m = a.2.take m := by rw [List.take_take]; congr 1; omega
        rw [m2]
        conv => lhs; rw [← List.take_append_drop (m + z.2.length) a.2]
        conv => lhs; arg 1; rw [← List.take_append_drop m (a.2.take (m + z.2.length)), t1, m2]
        rw [List.append_assoc]
      have hhl := hopP_len q.2 z.1.1 z.2
      rw [fold_app]
      have hul : (us.flatMap fun z => (CK.hopP q.2 z.1.1 z.2).map fun x => (x, (q.1 : Int))).length ≤ 4000 * 4000 := by
        have k1 := flat_sum (fun z : (Int × Int) × List Int => (CK.hopP q.2 z.1.1 z.2).map fun x => (x, (q.1 : Int))) (fun _ => 4000) us fun y hy => by
          rw [List.length_map]
          have hym : y ∈ zsg (CK.partsM row a.2) 0 := by rw [e]; simp [hy]
          have hy2 : y.2 ∈ CK.partsM row a.2 := (List.of_mem_zip hym).2
          have k2 := hopP_len q.2 y.1.1 y.2
          have k3 : y.2.length ≤ a.2.length := by
            have := CK.parts_flat row a.2
            rw [← this]
            exact (List.sublist_flatten_of_mem hy2).length_le
          omega
        have k4 : us.length ≤ 4000 := by
          have k5 := congrArg List.length e
          have k6 : (zsg (CK.partsM row a.2) 0).length ≤ (CK.partsM row a.2).length := by unfold zsg; rw [List.length_zip]; omega
          have k7 := CK.endsOf_length (CK.partsM row a.2) 0
          simp at k5
          omega
        have k8 := sum_const us 4000
        rw [k8] at k1
        exact Nat.le_trans k1 (Nat.mul_le_mul_right _ k4)
      have hhop : EvF K (B.push K p (.lst ((ps ++ us.flatMap fun z => (CK.hopP q.2 z.1.1 z.2).map fun x => (x, (q.1 : Int))).map bD))) (tLc (iAny K (tCall (sp_hop_places K) [] E0 (tCons (tVar 5) (tCons (tVar 2) (tCons (tVar 7) (tCons (tVar 8) tNil)))))) (gName 9) tYes (tTup (tCons (tVar 9) (tCons (tVar 4) tNil))) [9])
          [.dat (tI a.1), .dat (tI a.2), .dat (tI a.2), .at p, .dat (.int (q.1 : Int)), .dat (.int q.2), o6, .dat (.int z.1.1), .dat (.int z.1.2), o9, o10] (((CK.hopP q.2 z.1.1 z.2).map fun x => (x, (q.1 : Int))).map bD) := by
        have e0 : ((CK.hopP q.2 z.1.1 z.2).map fun x => (x, (q.1 : Int))).map bD = (CK.hopP q.2 z.1.1 z.2).map fun x => .tuple [.int x, .int (q.1 : Int)] := by rw [List.map_map]; rfl
        rw [e0]
        refine ef_lcA (ds := CK.hopP q.2 z.1.1 z.2) (enc := .int) (ei_anyL (ev_to (ev_call (α := HopA) ⟨q.2, a.2.take m, x, xs, a.2.drop (m + z.2.length)⟩ (ea_cons (ev_var rfl) (ea_cons (evd_to (ev_var rfl) ?_) (ea_cons (evd_to (ev_var rfl) ?_) (ea_cons (evd_to (ev_var rfl) ?_) ea_nil)))) ?_) fun d hd => ?_)) _ _ (by decide) (fun b _ => eg_name) (fun D acc b _ => ev_tup (ea_cons (ev_var rfl) (ea_cons (ev_var rfl) ea_nil)) (by simp)) (by omega)
        · show tI a.2 = tI (a.2.take m ++ (x :: xs ++ a.2.drop (m + z.2.length)))
          rw [← hall]
        · rw [m1]; simp; omega
        · rw [m1, hx]; simp; omega
        · show (a.2.take m ++ (x :: xs ++ a.2.drop (m + z.2.length))).length ≤ 10000
          rw [← hall]; omega
        · rw [hd]; simp only
          have t2 : ((a.2.take m).length : Int) = z.1.1 := by rw [m1]; simp; omega
          rw [t2, hx]; rfl
      refine sb_extend rfl Mu.here (fun _ _ => Ext.push) hhop ?_ ?_
      · rw [List.length_map, List.length_append, List.length_map, List.length_map]
        have : z.2.length ≤ 4000 := by omega
        omega
      · refine ⟨?_, _, _, _, _, _, rfl⟩
        simp only [List.map_append]
    · rintro W' ρ' ⟨rfl, o6, o7, o8, o9, o10, rfl⟩
      rw [fold_app]
      exact ⟨_, cut_step row a.2 q.2 h3 hps q.1, rfl, _, _, _, _, _, _, _, rfl⟩
  · rintro W' ρ' ⟨ps, hps, rfl, o4, o5, o6, o7, o8, o9, o10, rfl⟩
    refine sb_ret_view (i := 3) rfl (Ext.refl B) (ev_sortedP (ps := ps) (ev_var rfl)) fun d hd => ?_
    obtain ⟨qs, rfl, hq, hs⟩ := hd
    refine ⟨qs, rfl, ?_⟩
    have e1 : ((List.range a.1.length).zip a.1).foldl (fun row q => row ++ [q.2]) [] = a.1 := by
      rw [fold_app (fun q : Nat × Int => [q.2]), List.nil_append, ← List.map_eq_flatMap, List.map_snd_zip]
      simp
    rw [e1] at hps
    exact List.Perm.eq_of_pairwise (fun x y _ _ h1 h2 => Int.le_antisymm h1 h2) hs ((CK.endsOf_asc _ 0 (CK.parts_ne h3)).imp fun h => by omega) ((hq.map _).trans hps)

end
end CW
end B8x
section B9x
set_option Elab.async false
set_option linter.all false
set_option maxRecDepth 100000
namespace CW
open PySem PySem.Spec PyProof.Rows L2 StX RZ
section
variable {P : Program} {w : World} {K : PySem.W.Frag} {mg : PySem.Str → Option Value} {base : Heap} {f : Addr} {fd : FuncData}
abbrev sp_parts (K : PySem.W.Frag) : Sp := SpD K (α := List Int × List Int) (fun a => [tI a.1, tI a.2]) (fun a => a.1.length ≤ 10000 ∧ a.2.length ≤ 4000 ∧ a.2 ≠ []) (fun a d => d = lT (CK.partsM a.1 a.2))
theorem zsg_zip (row b : List Int) (hb : b ≠ []) : zipD (.int 0 :: ((CK.endsOf 0 (CK.partsM row b)).map .int ++ [])) ((CK.endsOf 0 (CK.partsM row b)).map .int ++ [.int ((b.map PyData.int).length : Int)]) = (zsg (CK.partsM row b) 0).map fun q => PyData.tuple [.int q.1.1, .int q.1.2] := by
  have e2 : ((zsg (CK.partsM row b) 0).map fun q => PyData.tuple [.int q.1.1, .int q.1.2]) = (CK.segs 0 (CK.partsM row b)).map fun q => PyData.tuple [.int q.1, .int q.2] := by
    have e3 : (zsg (CK.partsM row b) 0).map Prod.fst = CK.segs 0 (CK.partsM row b) := by
      unfold zsg
      rw [List.map_fst_zip]
      rw [CK.segs_length]
      exact Nat.le_refl _
    conv => rhs; rw [← e3]
    rw [List.map_map]; rfl
  have e4 := CK.segs_zip (CK.partsM row b) 0 (CK.parts_nil hb)
  rw [CK.parts_flat, Int.zero_add] at e4
  rw [e2, ← e4, List.append_nil, List.length_map]
  have := zipD_map PyData.int PyData.int ((0 : Int) :: CK.endsOf 0 (CK.partsM row b)) (CK.endsOf 0 (CK.partsM row b) ++ [(b.length : Int)])
  rw [List.map_cons, List.map_append] at this
  exact this
theorem ok_parts (F : FnP K "parts" s_parts f fd) (T : Tx mg) (O_cuts : Ok P w K mg base "cuts" 2 ["row", "batch"] (sp_cuts K)) : FnOk P w K mg base CX0 3 f fd ["row", "batch"] (sp_parts K) := by
  have nd := sc_parts.nd
  refine F.ok sc_parts (fun vs H Q E h => spd_len (fun _ => rfl) h) (fun cdv A outer s H vs Q E hr h => ⟨_, PSs.nox (pss_cons (ps_asg (pe_tup (pa_cons (pe_callTy (call_tupleK (K := K) rfl) rfl T.tuple (by decide +kernel) (pa_cons (pv 1) pa_nil)) (pa_cons (pe_lc (own := [("place", 4), ("hop", 5)]) rfl nd (pi_anyK (K := K) rfl (pe_f O_cuts hr rfl (pa_cons (pv 0) (pa_cons (pv 1) pa_nil)))) (blkOk_by (own := [("place", 4), ("hop", 5)]) (N := N_parts) (sc := defScope s_parts) (by decide +kernel)) (fun _ _ _ _ _ => (pg_tupK (K := K) (n := 2) rfl rfl (pgs_cons (pg_name (i := 4) nd rfl (Or.inl rfl)) (pgs_cons (pg_name (i := 5) nd rfl (Or.inl rfl)) pgs_nil)))) (fun _ _ _ _ _ => pts_nil) (fun _ _ _ _ _ => (pv 4))) pa_nil))) (pg_tupK (K := K) (n := 2) rfl rfl (pgs_cons (pg_name (i := 2) nd rfl (Or.inr rfl)) (pgs_cons (pg_name (i := 3) nd rfl (Or.inl rfl)) pgs_nil)))) (pss_one (ps_ret (pe_lc (own := [("start", 6), ("end", 7)]) rfl nd (pi_zipX (K := K) rfl rfl T.zip (pa_cons (pe_lst (pa_cons pe_int (pa_starK (K := K) rfl (pv 3) pa_nil))) (pa_cons (pe_lst (pa_starK (K := K) rfl (pv 3) (pa_cons (pe_callB (call_lenK (K := K) rfl) rfl T.len (by decide +kernel) (pa_cons (pv 2) pa_nil)) pa_nil))) pa_nil))) (blkOk_by (own := [("start", 6), ("end", 7)]) (N := N_parts) (sc := defScope s_parts) (by decide +kernel)) (fun _ _ _ _ _ => (pg_tupK (K := K) (n := 2) rfl rfl (pgs_cons (pg_name (i := 6) nd rfl (Or.inl rfl)) (pgs_cons (pg_name (i := 7) nd rfl (Or.inl rfl)) pgs_nil)))) (fun _ _ _ _ _ => pts_nil) (fun _ _ _ _ _ => (pe_slice (sl_seqK (K := K) rfl) (pv 2) (po_some (pv 6)) (po_some (pv 7)))))))), run_pure (Ns := N_parts) h fun a B hp => ?_⟩)
  obtain ⟨h1, h2, h3⟩ := hp
  have hel := ends_len a.1 a.2 h3
  refine sb_seq (sb_tup (k1 := 0) (k2 := 0) (es_k (ek_ev (P := fun d => d = tI a.2) (ev_tupT (ev_var rfl)))) (fun W1 s1 h => ?_) ?_ (T2 := fun W1 s1 W2 s2 => W2 = W1 ∧ isD (fun d => d = lI (CK.endsOf 0 (CK.partsM a.1 a.2))) s2))
  · refine es_k (P := isD fun d => d = lI (CK.endsOf 0 (CK.partsM a.1 a.2))) (ek_ev (EvF.ev (ef_lcTP (enc := bD) (P := fun ps => ps.map (·.1) = CK.endsOf 0 (CK.partsM a.1 a.2)) (ei_anyLP (ev_call (α := List Int × List Int) a (ea_cons (ev_var rfl) (ea_cons (ev_var rfl) ea_nil)) ⟨h1, h2, h3⟩) fun d hd => ?_) (fun _ => true) (fun b => .int b.1) _ (by decide) (fun b => eg_pair) (fun D acc b => et_yes) (fun D acc b _ => ev_var rfl) fun ps hps => ?_)))
    · obtain ⟨ps, rfl, hps⟩ := hd
      exact ⟨_, rfl, ps, rfl, hps⟩
    · have := congrArg List.length hps
      rw [List.length_map] at this
      refine ⟨by omega, ?_⟩
      rw [List.filter_eq_self.mpr fun _ _ => rfl, ← hps, List.map_map]
      rfl
  · rintro W1 s1 W2 s2 ⟨e1, d, rfl, rfl⟩ ⟨e2, d2, rfl, rfl⟩
    rw [e1] at e2
    subst e2
    refine sb_retD (EvF.ev (ef_lcA (ds := zsg (CK.partsM a.1 a.2) 0) (enc := fun q => PyData.tuple [.int q.1.1, .int q.1.2]) ?_ (fun q => tI q.2) _ (by decide) (fun q _ => eg_pair) (fun D acc q hq => ?_) ?_)) ?_
    · have e1 := ei_zipXL (K := K) (W := W2) (ρ := [.dat (tI a.1), .dat (tI a.2), .dat (tI a.2), .dat (lI (CK.endsOf 0 (CK.partsM a.1 a.2))), .no, .no, .no, .no])
        (EvF.ev (ef_lst (ea_cons (ev_int 0) (ea_starL (ta := tVar 3) (es := (CK.endsOf 0 (CK.partsM a.1 a.2)).map .int) (ev_var rfl) ea_nil)) (by simp; omega))) (EvF.ev (ef_lst (ea_starL (ta := tVar 3) (es := (CK.endsOf 0 (CK.partsM a.1 a.2)).map .int) (ev_var rfl) (ea_cons (ev_lenT (ta := tVar 2) (ds := a.2.map .int) (ev_var rfl)) ea_nil)) (by simp; omega)))
      rw [zsg_zip a.1 a.2 h3] at e1
      exact e1
    · obtain ⟨us, vs, e⟩ := List.append_of_mem hq
      obtain ⟨m, m1, m2, m3, m4⟩ := zsg_at e
      rw [CK.parts_flat] at m2 m3
      refine evd_to (ev_slT (ev_var (d := tI a.2) rfl) (eo_some (i := (m : Int)) (evd_to (ev_var rfl) (by rw [m1]))) (eo_some (i := ((m + q.2.length : Nat) : Int)) (evd_to (ev_var rfl) (by rw [m1]; simp)))) ?_
      rw [cut_mid, ← List.map_drop, ← List.map_take]
      congr 2
      rw [← m2, List.drop_take]
      simp [m2]
    · have : (zsg (CK.partsM a.1 a.2) 0).length ≤ (CK.partsM a.1 a.2).length := by unfold zsg; rw [List.length_zip]; omega
      have k7 := CK.endsOf_length (CK.partsM a.1 a.2) 0
      omega
    · unfold zsg lT
      have : ((CK.segs 0 (CK.partsM a.1 a.2)).zip (CK.partsM a.1 a.2)).map (fun q => tI q.2) = (((CK.segs 0 (CK.partsM a.1 a.2)).zip (CK.partsM a.1 a.2)).map Prod.snd).map tI := by rw [List.map_map]; rfl
      rw [this, List.map_snd_zip]
      rw [CK.segs_length]
      exact Nat.le_refl _

end
end CW
end B9x
section B10x
set_option Elab.async false
set_option linter.all false
set_option maxRecDepth 100000
namespace CW
open PySem PySem.Spec PyProof.Rows L2 StX RZ
section
variable {P : Program} {w : World} {K : PySem.W.Frag} {mg : PySem.Str → Option Value} {base : Heap} {f : Addr} {fd : FuncData}
theorem parts_each {row b : List Int} {p : List Int} (h : p ∈ CK.partsM row b) : p.length ≤ b.length ∧ ∀ x ∈ p, x ∈ b := by
  have e := CK.parts_flat row b
  refine ⟨?_, fun x hx => ?_⟩
  · conv => rhs; rw [← e]
    exact (List.sublist_flatten_of_mem h).length_le
  · rw [← e]
    exact List.mem_flatten.mpr ⟨p, h, hx⟩
theorem parts_len {row b : List Int} (hb : b ≠ []) : (CK.partsM row b).length ≤ b.length := by
  have h1 := CK.parts_flat row b
  have hne := CK.parts_ne (row := row) hb
  conv => rhs; rw [← h1]
  generalize CK.partsM row b = ps at hne
  induction ps with
  | nil => simp
  | cons p ps ih =>
    have h3 := ih fun q hq => hne q (List.mem_cons_of_mem _ hq)
    have h4 := List.length_pos_iff.mpr (hne p List.mem_cons_self)
    rw [List.flatten_cons, List.length_append, List.length_cons]
    omega
abbrev sp_passed (K : PySem.W.Frag) : Sp := SpD K (α := List Int × List (List Int)) (fun a => [tI a.1, tT a.2]) (fun a => a.1.length ≤ 10000 ∧ a.2.length ≤ 1000 ∧ ∀ b ∈ a.2, b.length ≤ 4000 ∧ b ≠ []) (fun a d => d = tT (CK.passM a.1 a.2))
theorem ok_passed (F : FnP K "passed" s_passed f fd) (T : Tx mg) (O_parts : Ok P w K mg base "parts" 3 ["row", "batch"] (sp_parts K)) : FnOk P w K mg base CX0 4 f fd ["row", "stream"] (sp_passed K) := by
  have nd := sc_passed.nd
  refine F.ok sc_passed (fun vs H Q E h => spd_len (fun _ => rfl) h) (fun cdv A outer s H vs Q E hr h => ⟨_, PSs.nox (pss_one (ps_ret (pe_callTy (call_tupleK (K := K) rfl) rfl T.tuple (by decide +kernel) (pa_cons (pe_lc2 (own := [("batch", 2), ("part", 3)]) (vs1 := [3]) rfl nd (pi_anyK (K := K) rfl (pv 1)) (blkOk_by (own := [("batch", 2), ("part", 3)]) (N := N_passed) (sc := defScope s_passed) (by decide +kernel)) (by decide) (fun _ _ _ _ _ => (pg_name (i := 2) nd rfl (Or.inl rfl))) (fun _ _ _ _ _ => pts_nil) (fun _ _ _ _ _ => (pi_anyK (K := K) rfl (pe_f O_parts hr rfl (pa_cons (pv 0) (pa_cons (pv 2) pa_nil))))) (fun _ _ _ _ _ => (pg_name (i := 3) nd rfl (Or.inl rfl))) (fun _ _ _ _ _ => pts_nil) (fun _ _ _ _ _ => (pv 3))) pa_nil)))), run_pure (Ns := N_passed) h fun a B hp => ?_⟩)
  obtain ⟨h1, h2, h3⟩ := hp
  refine sb_retD (ev_tupL (EvF.ev (ef_lc2T (ds := a.2) (enc := tI) (enc1 := tI) (ei_anyT (ev_var rfl)) (fun b => CK.partsM a.1 b) (fun _ p => tI p) _ _ (by decide) (by decide) (fun b _ => eg_name) (fun D acc b hb => ei_anyL (ev_call (α := List Int × List Int) (a.1, b) (ea_cons (ev_var rfl) (ea_cons (ev_var rfl) ea_nil)) ⟨h1, h3 b hb⟩)) (fun b _ p _ => eg_name) (fun D acc b _ p _ => ev_var rfl) ?_))) ?_
  · have k := flat_sum (fun b => CK.partsM a.1 b) (fun _ => 4000) a.2 fun b hb => by
      have := parts_len (row := a.1) (h3 b hb).2
      have := (h3 b hb).1
      omega
    rw [sum_const] at k
    have : a.2.length * 4000 ≤ 1000 * 4000 := Nat.mul_le_mul_right _ h2
    omega
  · unfold CK.passM tT
    rw [List.map_flatMap]
abbrev sp_answers_of (K : PySem.W.Frag) : Sp := SpD K (α := List Int × List (List Int)) (fun a => [tI a.1, lT a.2]) (fun a => a.1.length ≤ 10000 ∧ a.2.length ≤ 10000 ∧ ∀ b ∈ a.2, b.length ≤ 4000 ∧ b ≠ []) (fun a d => d = lI (CK.answersOf a.1 a.2))
theorem ok_answers_of (F : FnP K "answers_of" s_answers_of f fd) (T : Tx mg) (O_parts : Ok P w K mg base "parts" 3 ["row", "batch"] (sp_parts K)) : FnOk P w K mg base CX0 4 f fd ["row", "tests"] (sp_answers_of K) := by
  have nd := sc_answers_of.nd
  refine F.ok sc_answers_of (fun vs H Q E h => spd_len (fun _ => rfl) h) (fun cdv A outer s H vs Q E hr h => ⟨_, PSs.nox (pss_one (ps_ret (pe_lc (own := [("batch", 2)]) rfl nd (pi_anyK (K := K) rfl (pv 1)) (blkOk_by (own := [("batch", 2)]) (N := N_answers_of) (sc := defScope s_answers_of) (by decide +kernel)) (fun _ _ _ _ _ => (pg_name (i := 2) nd rfl (Or.inl rfl))) (fun _ _ _ _ _ => pts_nil) (fun _ _ _ _ _ => (pe_callB (call_lenK (K := K) rfl) rfl T.len (by decide +kernel) (pa_cons (pe_f O_parts hr rfl (pa_cons (pv 0) (pa_cons (pv 2) pa_nil))) pa_nil)))))), run_pure (Ns := N_answers_of) h fun a B hp => ?_⟩)
  obtain ⟨h1, h2, h3⟩ := hp
  refine sb_retD (EvF.ev (ef_lcA (ds := a.2) (enc := tI) (ei_anyL (ev_var rfl)) (fun b => .int (CK.cnt a.1 b)) _ (by decide) (fun b _ => eg_name) (fun D acc b hb => evd_to (ev_lenL (ev_call (α := List Int × List Int) (a.1, b) (ea_cons (ev_var rfl) (ea_cons (ev_var rfl) ea_nil)) ⟨h1, h3 b hb⟩)) (by rw [List.length_map]; rfl)) (by omega))) ?_
  rw [lI, CK.answersOf, List.map_map]; rfl
/-- p + e, p a list that changes -/
theorem ef_catM {W : Wd} {ρ : List Sl} {i : Nat} {p : Addr} {ds es : List PyData} {nxt : List PyData → Wd} {tb : TE} (hi : ρ[i]? = some (.at p)) (mu : Mu K W p ds nxt) (hb : EvR K W tb ρ es) (hl : ds.length + es.length ≤ 16777216) : EvF K W (tOp (rPlus K) (tVar i) tb) ρ (ds ++ es) := fun σ H n e o Q q => by
  obtain ⟨v, h1, hv⟩ := e.get i _ hi (fun z => by cases z)
  cases hv
  refine ⟨_, h1, hb σ H n e o _ fun r H2 ws s2 h2 a2 => ?_⟩
  obtain ⟨vs, g1, a1⟩ := mu.get _ _ _ (Wd.ok.to o s2)
  exact .inr (.inl ⟨p, r, vs, ws, rfl, rfl, g1, off_le _ _ _ _ h2, by rw [a1.len, a2.len]; exact sz hl, fun l hl => q l _ _ (free_back s2 hl) (Same.put s2 (free_back s2 hl)) upd_same (new_off hl (a1.append a2))⟩)
abbrev sp_tests_for (K : PySem.W.Frag) : Sp := SpD K (α := Int × Int) (fun a => [.int a.1, .int a.2]) (fun a => PosN a.1 ∧ PosN a.2) (fun a d => d = lT (CK.testsFor a.1 a.2))
theorem range_len (i j : Int) : (CK.rangeI i j).length = (j - i).toNat := by unfold CK.rangeI; simp
theorem pt_len {top L : Int} (h : PosN top) (hL : PosN L) : (CK.pairTotals top L).length ≤ 2000001 := by
  obtain ⟨h1, h2⟩ := h
  obtain ⟨h3, h4⟩ := hL
  unfold CK.pairTotals
  split
  · simp
  · split
    · simp
    · rw [range_len]; omega
theorem ws_len {top L : Int} (h : PosN top) (hL : PosN L) : (CK.windowStarts top L).length ≤ 1000001 := by
  obtain ⟨h1, h2⟩ := h
  obtain ⟨h3, h4⟩ := hL
  unfold CK.windowStarts
  rw [range_len]; omega
theorem ok_tests_for (F : FnP K "tests_for" s_tests_for f fd) (T : Tx mg) (O_pair_totals : Ok P w K mg base "pair_totals" 1 ["top", "least"] (sp_pair_totals K)) (O_window_starts : Ok P w K mg base "window_starts" 1 ["top", "least"] (sp_window_starts K)) : FnOk P w K mg base CX0 2 f fd ["top", "least"] (sp_tests_for K) := by
  have nd := sc_tests_for.nd
  refine F.ok sc_tests_for (fun vs H Q E h => spd_len (fun _ => rfl) h) (fun cdv A outer s H vs Q E hr h => ⟨_, PSs.nox (pss_cons (ps_setLc (i := 2) (own := [("total", 3)]) rfl nd rfl rfl rfl (pi_anyK (K := K) rfl (pe_f O_pair_totals hr rfl (pa_cons (pv 0) (pa_cons (pv 1) pa_nil)))) (blkOk_by (own := [("total", 3)]) (N := N_tests_for) (sc := defScope s_tests_for) (by decide +kernel)) (fun _ _ _ _ _ => (pg_name (i := 3) nd rfl (Or.inl rfl))) (fun _ _ _ _ _ => pts_nil) (fun _ _ _ _ _ => (pe_tup (pa_cons (pe_op op_sub (pv 3) (pv 1)) (pa_cons (pv 1) pa_nil))))) (pss_one (ps_ret (pe_op (op_plusK (K := K) rfl) (pv 2) (pe_lc (own := [("start", 4)]) rfl nd (pi_anyK (K := K) rfl (pe_f O_window_starts hr rfl (pa_cons (pv 0) (pa_cons (pv 1) pa_nil)))) (blkOk_by (own := [("start", 4)]) (N := N_tests_for) (sc := defScope s_tests_for) (by decide +kernel)) (fun _ _ _ _ _ => (pg_name (i := 4) nd rfl (Or.inl rfl))) (fun _ _ _ _ _ => pts_nil) (fun _ _ _ _ _ => (pe_tup (pa_cons (pe_op op_sub (pv 4) (pv 1)) (pa_cons (pv 1) (pa_cons (pv 1) pa_nil)))))))))), run_pure (Ns := N_tests_for) h fun a B hp => ?_⟩)
  have l1 := pt_len hp.1 hp.2
  have l2 := ws_len hp.1 hp.2
  refine sb_seq (sb_asgM (ef_lcA (ds := CK.pairTotals a.1 a.2) (enc := .int) (ei_anyL (ev_call (α := Int × Int) a (ea_cons (ev_var rfl) (ea_cons (ev_var rfl) ea_nil)) hp)) (fun t => tI [t - a.2, a.2]) _ (by decide) (fun b _ => eg_name) (fun D acc b hb => ev_tup (ea_cons (ev_sub (ev_var rfl) (ev_var rfl)) (ea_cons (ev_var rfl) ea_nil)) (by simp)) (by omega)) fun p => ?_)
  refine sb_retD (EvF.ev (ef_catM (nxt := fun ds' => B.push K p (.lst ds')) rfl Mu.here (EvF.tr (ef_lcA (ds := CK.windowStarts a.1 a.2) (enc := .int) (ei_anyL (ev_call (α := Int × Int) a (ea_cons (ev_var rfl) (ea_cons (ev_var rfl) ea_nil)) hp)) (fun t => tI [t - a.2, a.2, a.2]) _ (by decide) (fun b _ => eg_name) (fun D acc b hb => ev_tup (ea_cons (ev_sub (ev_var rfl) (ev_var rfl)) (ea_cons (ev_var rfl) (ea_cons (ev_var rfl) ea_nil))) (by simp)) (by omega))) ?_)) ?_
  · rw [List.length_map, List.length_map]; omega
  · unfold CK.testsFor lT
    rw [List.map_append, List.map_map, List.map_map]
    rfl
abbrev sp_lowest_from (K : PySem.W.Frag) : Sp := SpD K (α := Int × Int × List Int) (fun a => [.int a.1, .int a.2.1, tI a.2.2]) (fun a => PosN a.1 ∧ PosN a.2.1 ∧ ((CK.singleOf a.1 a.2.1 a.2.2).length < (CK.pairTotals a.1 a.2.1).length → CK.singleOf a.1 a.2.1 a.2.2 ≠ [])) (fun a d => d = oI (CK.lowestFrom a.1 a.2.1 a.2.2))
theorem ok_lowest_from (F : FnP K "lowest_from" s_lowest_from f fd) (T : Tx mg) (O_pair_totals : Ok P w K mg base "pair_totals" 1 ["top", "least"] (sp_pair_totals K)) (O_window_starts : Ok P w K mg base "window_starts" 1 ["top", "least"] (sp_window_starts K)) : FnOk P w K mg base CX0 2 f fd ["top", "least", "answers"] (sp_lowest_from K) := by
  have nd := sc_lowest_from.nd
  refine F.ok sc_lowest_from (fun vs H Q E h => spd_len (fun _ => rfl) h) (fun cdv A outer s H vs Q E hr h => ⟨_, PSs.nox (pss_cons (ps_set (i := 3) nd rfl (Or.inl rfl) (pe_f O_pair_totals hr rfl (pa_cons (pv 0) (pa_cons (pv 1) pa_nil)))) (pss_cons (ps_setLc (i := 4) (own := [("total", 6), ("told", 7)]) rfl nd rfl rfl rfl (pi_zipX (K := K) rfl rfl T.zip (pa_cons (pv 3) (pa_cons (pv 2) pa_nil))) (blkOk_by (own := [("total", 6), ("told", 7)]) (N := N_lowest_from) (sc := defScope s_lowest_from) (by decide +kernel)) (fun _ _ _ _ _ => (pg_tupK (K := K) (n := 2) rfl rfl (pgs_cons (pg_name (i := 6) nd rfl (Or.inl rfl)) (pgs_cons (pg_name (i := 7) nd rfl (Or.inl rfl)) pgs_nil)))) (fun _ _ _ _ _ => pts_one (pt_cmpR (op_eqK (K := K) rfl (hu64 hr)) (pv 7) pe_int (nomark _))) (fun _ _ _ _ _ => (pv 6))) (pss_cons (ps_if (pt_cmpR op_lt (pe_callB (call_lenK (K := K) rfl) rfl T.len (by decide +kernel) (pa_cons (pv 4) pa_nil)) (pe_callB (call_lenK (K := K) rfl) rfl T.len (by decide +kernel) (pa_cons (pv 3) pa_nil)) (nomark _)) (pss_one (ps_ret (pe_ix (ix_seqK (K := K) rfl) (pv 4) (pe_un un_neg pe_int) fun _ _ => rfl))) pss_nil) (pss_cons (ps_setLc (i := 5) (own := [("start", 8), ("told", 7)]) rfl nd rfl rfl rfl (pi_zipX (K := K) rfl rfl T.zip (pa_cons (pe_f O_window_starts hr rfl (pa_cons (pv 0) (pa_cons (pv 1) pa_nil))) (pa_cons (pe_slice (sl_seqK (K := K) rfl) (pv 2) (po_some (pe_callB (call_lenK (K := K) rfl) rfl T.len (by decide +kernel) (pa_cons (pv 3) pa_nil))) po_none) pa_nil))) (blkOk_by (own := [("start", 8), ("told", 7)]) (N := N_lowest_from) (sc := defScope s_lowest_from) (by decide +kernel)) (fun _ _ _ _ _ => (pg_tupK (K := K) (n := 2) rfl rfl (pgs_cons (pg_name (i := 8) nd rfl (Or.inl rfl)) (pgs_cons (pg_name (i := 7) nd rfl (Or.inl rfl)) pgs_nil)))) (fun _ _ _ _ _ => pts_one (pt_cmpR (op_neK (K := K) rfl (hu64 hr)) (pv 7) pe_int (nomark _))) (fun _ _ _ _ _ => (pv 8))) (pss_one (ps_ret (pe_ifExp (pt_cmpR op_gt (pe_callB (call_lenK (K := K) rfl) rfl T.len (by decide +kernel) (pa_cons (pv 5) pa_nil)) pe_int (nomark _)) (pe_callB (call_min2K rfl) rfl T.min (by decide +kernel) (pa_cons (pv 0) (pa_cons (pe_op op_sub (pe_op (op_plusK (K := K) rfl) (pe_ix (ix_seqK (K := K) rfl) (pv 5) pe_int fun _ _ => rfl) (pv 1)) pe_int) pa_nil))) pe_non))))))), run_pure (Ns := N_lowest_from) h fun a B hp => ?_⟩)
  obtain ⟨h1, h2, h3⟩ := hp
  have l1 := pt_len h1 h2
  have l2 := ws_len h1 h2
  refine sb_seq (sb_asgD (d := lI (CK.pairTotals a.1 a.2.1)) (ev_call (α := Int × Int) (a.1, a.2.1) (ea_cons (ev_var rfl) (ea_cons (ev_var rfl) ea_nil)) ⟨h1, h2⟩) ?_)
  refine sb_seq (sb_asgD (d := lI (CK.singleOf a.1 a.2.1 a.2.2)) (evd_to (EvF.ev (ef_lcT (ds := (CK.pairTotals a.1 a.2.1).zip a.2.2) (enc := fun p => PyData.tuple [.int p.1, .int p.2]) ?_ (fun p => decide (p.2 = 1)) (fun p => .int p.1) _ (by decide) (fun b _ => eg_pair) (fun D acc b _ => et_test (ev_eqI (ev_var rfl) (ev_int 1))) (fun D acc b _ _ => ev_var rfl) (by rw [List.length_zip]; omega))) (by rw [lI, CK.singleOf, List.map_map]; rfl)) ?_)
  · rw [← zipD_map]
    exact ei_zipXM (ev_var rfl) (ev_var rfl)
  unfold CK.lowestFrom
  refine sb_seq (sb_if (b := decide ((CK.singleOf a.1 a.2.1 a.2.2).length < (CK.pairTotals a.1 a.2.1).length)) (et_test (evd_to (ev_lt (ev_lenL (ev_var rfl)) (ev_lenL (ev_var rfl))) (by simp))) (fun hb => ?_) fun hb => sb_next ?_)
  · have hb' : (CK.singleOf a.1 a.2.1 a.2.2).length < (CK.pairTotals a.1 a.2.1).length := by simpa using hb
    rw [if_pos hb']
    have hne := h3 hb'
    cases hg : (CK.singleOf a.1 a.2.1 a.2.2).getLast? with
    | none => exact absurd (List.getLast?_eq_none_iff.mp hg) hne
    | some x => exact sb_retD (ev_ixL (ev_var rfl) (ev_neg (ev_int 1)) (atI_last (last_map _ hg))) rfl
  have hb' : ¬ (CK.singleOf a.1 a.2.1 a.2.2).length < (CK.pairTotals a.1 a.2.1).length := by simpa using hb
  rw [if_neg hb']
  refine sb_seq (sb_asgD (d := lI (CK.longerOf a.1 a.2.1 a.2.2)) (evd_to (EvF.ev (ef_lcT (ds := (CK.windowStarts a.1 a.2.1).zip (a.2.2.drop (CK.pairTotals a.1 a.2.1).length)) (enc := fun p => PyData.tuple [.int p.1, .int p.2]) ?_ (fun p => !decide (p.2 = 1)) (fun p => .int p.1) _ (by decide) (fun b _ => eg_pair) (fun D acc b _ => et_test (ev_neI (ev_var rfl) (ev_int 1))) (fun D acc b _ _ => ev_var rfl) (by rw [List.length_zip]; omega))) (by rw [lI, CK.longerOf, List.map_map]; rfl)) ?_)
  · rw [← zipD_map]
    refine ei_zipXM (ev_call (α := Int × Int) (a.1, a.2.1) (ea_cons (ev_var rfl) (ea_cons (ev_var rfl) ea_nil)) ⟨h1, h2⟩) (evd_to (ev_slT (ev_var (d := tI a.2.2) rfl) (eo_some (ev_lenL (ev_var (d := lI (CK.pairTotals a.1 a.2.1)) rfl))) eo_none) ?_)
    rw [List.length_map, cut_from, List.map_drop]
  generalize CK.longerOf a.1 a.2.1 a.2.2 = ls
  cases ls with
  | nil => exact sb_ret (P' := fun d => d = .none) (ev_if (c := false) (et_test (evd_to (ev_gt (ev_lenL (ev_var rfl)) (ev_int 0)) (by simp))) (fun h => by cases h) fun _ => ev_non) fun d hd => hd
  | cons l ls => exact sb_ret (P' := fun d => d = .int (min a.1 (l + a.2.1 - 1))) (ev_if (c := true) (et_test (evd_to (ev_gt (ev_lenL (ev_var rfl)) (ev_int 0)) (by simp))) (fun _ => ev_min (ev_var rfl) (ev_sub (ev_add (ev_ixL (ev_var rfl) (ev_int 0) (atI_zero rfl)) (ev_var rfl)) (ev_int 1))) fun h => by cases h) fun d hd => hd

end
end CW
end B10x
section B11x
set_option Elab.async false
set_option linter.all false
set_option maxRecDepth 100000
namespace CW
open PySem PySem.Spec PyProof.Rows L2 StX RZ
section
variable {P : Program} {w : World} {K : PySem.W.Frag} {mg : PySem.Str → Option Value} {base : Heap} {f : Addr} {fd : FuncData}
theorem canLay_is (ns : List Int) : PyData.canLayAll0 (ns.map .int) = true := by
  induction ns with
  | nil => rfl
  | cons b bs ih => simp [PyData.canLayAll0, PyData.canLay0, ih]
theorem depth_is (ns : List Int) : PyData.depthAll (ns.map .int) ≤ 1 := by
  induction ns with
  | nil => simp [PyData.depthAll]
  | cons b bs ih =>
    simp only [List.map_cons, PyData.depthAll, PyData.depth]
    omega
theorem shaped_tI (ns : List Int) : SeqAt.shaped (tI ns) = true := by
  have h1 := canLay_is ns
  have h2 := depth_is ns
  simp [tI, SeqAt.shaped, PyData.canLay0, PyData.depth, h1]
  omega
theorem shaped_lI (ns : List Int) : SeqAt.shaped (lI ns) = true := by
  have h1 := canLay_is ns
  have h2 := depth_is ns
  simp [lI, SeqAt.shaped, PyData.canLay0, PyData.depth, h1]
  omega
theorem eqv_is : ∀ (xs ys : List Int), PyData.eqvAll (xs.map .int) (ys.map .int) = decide (xs = ys)
  | [], [] => by simp [PyData.eqvAll]
  | [], _ :: _ => by simp [PyData.eqvAll]
  | _ :: _, [] => by simp [PyData.eqvAll]
  | x :: xs, y :: ys => by
    have h2 := eqv_is xs ys
    simp only [List.map_cons, PyData.eqvAll, PyData.eqv, h2]
    by_cases e : x = y <;> by_cases e2 : xs = ys <;> simp [e, e2]
theorem eqv_tI (xs ys : List Int) : PyData.eqv (tI xs) (tI ys) = decide (xs = ys) := by
  simp only [tI, PyData.eqv]
  exact eqv_is xs ys
theorem eqv_lI (xs ys : List Int) : PyData.eqv (lI xs) (lI ys) = decide (xs = ys) := by
  simp only [lI, PyData.eqv]
  exact eqv_is xs ys
abbrev sp_is_offer (K : PySem.W.Frag) : Sp := SpD K (α := Int × Int) (fun a => [bD a]) (fun a => 1 ≤ a.1 ∧ 0 ≤ a.2) (fun a d => d = .bool true)
theorem ok_is_offer (F : FnP K "is_offer" s_is_offer f fd) (T : Tx mg) (O_is_number : Ok P w K mg base "is_number" 1 ["thing", "least"] (sp_is_number K)) (O_is_tuple : Ok P w K mg base "is_tuple" 1 ["thing", "many"] (sp_is_tuple K)) : FnOk P w K mg base CX0 2 f fd ["thing"] (sp_is_offer K) := by
  have nd := sc_is_offer.nd
  refine F.ok sc_is_offer (fun vs H Q E h => spd_len (fun _ => rfl) h) (fun cdv A outer s H vs Q E hr h => ⟨_, PSs.nox (pss_one (ps_ret (pe_and (pe_f O_is_tuple hr rfl (pa_cons (pv 0) (pa_cons pe_int pa_nil))) (pe_and (pe_f O_is_number hr rfl (pa_cons (pe_ix (ix_seqK (K := K) rfl) (pv 0) pe_int fun _ _ => rfl) (pa_cons pe_int pa_nil))) (pe_one (pe_f O_is_number hr rfl (pa_cons (pe_ix (ix_seqK (K := K) rfl) (pv 0) pe_int fun _ _ => rfl) (pa_cons pe_int pa_nil)))))))), run_pure (Ns := N_is_offer) h fun a B hp => ?_⟩)
  refine sb_retD (ev_andV (ev_call (α := List PyData × Int) ([.int a.1, .int a.2], 2) (ea_cons (ev_var rfl) (ea_cons (ev_int 2) ea_nil)) trivial) fun _ => ev_andV (ev_call (α := Int × Int) (a.1, 1) (ea_cons (ev_ixT (ev_var rfl) (ev_int 0) (atI_zero rfl)) (ea_cons (ev_int 1) ea_nil)) trivial) fun _ => ev_call (α := Int × Int) (a.2, 0) (ea_cons (ev_ixT (ev_var rfl) (ev_int 1) (atI_one rfl)) (ea_cons (ev_int 0) ea_nil)) trivial) ?_
  simp [hp.1, hp.2]
abbrev sp_is_offers (K : PySem.W.Frag) : Sp := SpD K (α := List (Int × Int)) (fun a => [tB a]) (fun a => a.length ≤ 10000 ∧ ∀ o ∈ a, 1 ≤ o.1 ∧ 0 ≤ o.2) (fun a d => d = .bool (ascB (a.map (·.1))))
theorem ok_is_offers (F : FnP K "is_offers" s_is_offers f fd) (T : Tx mg) (O_ascends : Ok P w K mg base "ascends" 1 ["row"] (sp_ascends K)) (O_is_offer : Ok P w K mg base "is_offer" 2 ["thing"] (sp_is_offer K)) : FnOk P w K mg base CX0 3 f fd ["thing"] (sp_is_offers K) := by
  have nd := sc_is_offers.nd
  refine F.ok sc_is_offers (fun vs H Q E h => spd_len (fun _ => rfl) h) (fun cdv A outer s H vs Q E hr h => ⟨_, PSs.nox (pss_cons (ps_if (PW.pt (pw_or (pt_not (pt_val (pe_callB (call_isiK1 (K := K) rfl) rfl T.isinstance (by decide +kernel) (pa_cons (pv 0) (pa_cons (pe_bltn (v := .ty "tuple") rfl T.tuple (by decide +kernel) rfl) pa_nil))))) (pw_or1 (pt_not (pt_val (pe_callB (cr_allK (K := K) rfl rfl) rfl T.all (by decide +kernel) (pa_cons (pe_lc (own := [("offer", 1)]) rfl nd (pi_anyK (K := K) rfl (pv 0)) (blkOk_by (own := [("offer", 1)]) (N := N_is_offers) (sc := defScope s_is_offers) (by decide +kernel)) (fun _ _ _ _ _ => (pg_name (i := 1) nd rfl (Or.inl rfl))) (fun _ _ _ _ _ => pts_nil) (fun _ _ _ _ _ => (pe_f O_is_offer hr rfl (pa_cons (pv 1) pa_nil)))) pa_nil))))))) (pss_one (ps_ret pe_bl)) pss_nil) (pss_one (ps_ret (pe_f O_ascends (hr.mono (by decide)) rfl (pa_cons (pe_lc (own := [("limit", 2), ("price", 3)]) rfl nd (pi_anyK (K := K) rfl (pv 0)) (blkOk_by (own := [("limit", 2), ("price", 3)]) (N := N_is_offers) (sc := defScope s_is_offers) (by decide +kernel)) (fun _ _ _ _ _ => (pg_tupK (K := K) (n := 2) rfl rfl (pgs_cons (pg_name (i := 2) nd rfl (Or.inl rfl)) (pgs_cons (pg_name (i := 3) nd rfl (Or.inl rfl)) pgs_nil)))) (fun _ _ _ _ _ => pts_nil) (fun _ _ _ _ _ => (pv 2))) pa_nil))))), run_pure (Ns := N_is_offers) h fun a B hp => ?_⟩)
  obtain ⟨h1, h2⟩ := hp
  refine sb_seq (sb_if (b := false) (et_to (et_or (x := false) (et_not (x := true) (et_B (ev_isi (d := tB a) (ev_var rfl) kit_tuple_tuple))) (y := false) fun _ => et_not (x := true) (et_B (evd_to (ev_all (bs := a.map fun _ => true) (evd_to (EvF.ev (ef_lcA (ds := a) (enc := bD) (ei_anyT (ev_var rfl)) (fun _ => .bool true) _ (by decide) (fun p _ => eg_name) (fun D acc p hp => ev_call (α := Int × Int) p (ea_cons (ev_var rfl) ea_nil) (h2 p hp)) (by omega))) ?_)) ?_))) rfl) (fun h => by cases h) fun _ => sb_next ?_)
  · rw [List.map_map]; rfl
  · simp
  refine sb_ret (ev_call (α := List Int) (a.map (·.1)) (ea_cons (evd_to (EvF.ev (ef_lcA (ds := a) (enc := bD) (ei_anyT (ev_var rfl)) (fun b => .int b.1) _ (by decide) (fun p _ => eg_pair) (fun D acc p hp => ev_var rfl) (by omega))) ?_) ea_nil) ?_) fun d hd => hd
  · rw [lI, List.map_map]; rfl
  · show (a.map _).length ≤ 10000
    rw [List.length_map]; exact h1
structure NfA where
  m : Int
  top : Int
  L : Int
  ans : List Int
abbrev sp_numbers_from (K : PySem.W.Frag) : Sp := SpD K (α := NfA) (fun a => [.int a.m, .int a.top, .int a.L, tI a.ans]) (fun a => PosN a.top ∧ PosN a.L) (fun a d => d = lI (CK.numbersFrom a.m a.top a.L a.ans))
theorem num_len (m L : Int) : ∀ (xs : List (Int × Int)) (s : CK.NS), (xs.foldl (CK.numStep m L) s).found.length ≤ s.found.length + xs.length := by
  intro xs
  induction xs with
  | nil => intro s; simp
  | cons x xs ih =>
    intro s
    have h1 := ih (CK.numStep m L s x)
    have h2 : (CK.numStep m L s x).found.length ≤ s.found.length + 1 := by
      unfold CK.numStep
      split
      · simp only; split <;> split <;> simp
      · omega
    rw [List.foldl_cons, List.length_cons]
    omega
theorem ok_numbers_from (F : FnP K "numbers_from" s_numbers_from f fd) (T : Tx mg) (O_window_starts : Ok P w K mg base "window_starts" 1 ["top", "least"] (sp_window_starts K)) : FnOk P w K mg base CX0 2 f fd ["lowest", "top", "least", "answers"] (sp_numbers_from K) := by
  have nd := sc_numbers_from.nd
  refine F.ok sc_numbers_from (fun vs H Q E h => spd_len (fun _ => rfl) h) (fun cdv A outer s H vs Q E hr h => ⟨_, PSs.nox (pss_cons (ps_par (i := 4) (j := 5) rfl nd rfl rfl (by decide) rfl rfl (pa_cons (pe_lst (pa_cons (pv 0) pa_nil)) (pa_cons pe_int pa_nil)) rfl) (pss_cons (ps_set (i := 6) nd rfl (Or.inl rfl) pe_bl) (pss_cons (ps_for PassesOwn.never rfl (pi_zipX (K := K) rfl rfl T.zip (pa_cons (pe_f O_window_starts hr rfl (pa_cons (pv 1) (pa_cons (pv 2) pa_nil))) (pa_cons (pv 3) pa_nil))) (pg_tupK (K := K) (n := 2) rfl rfl (pgs_cons (pg_name (i := 7) nd rfl (Or.inl rfl)) (pgs_cons (pg_name (i := 8) nd rfl (Or.inl rfl)) pgs_nil))) (pss_one (ps_if (pt_cmpR op_gt (pv 7) (pv 0) (nomark _)) (pss_cons (ps_set (i := 5) nd rfl (Or.inl rfl) (pe_ifExp (pt_cmpR (op_eqK (K := K) rfl (hu64 hr)) (pv 8) (pe_glob rfl T.gLONE.1 T.gLONE.2) (nomark _)) (pe_op (op_plusK (K := K) rfl) (pv 5) pe_int) pe_int)) (pss_cons (ps_set (i := 6) nd rfl (Or.inl rfl) (pe_and (pv 6) (pe_one (pe_cmpR (op_eqK (K := K) rfl (hu64 hr)) (pv 8) (pe_glob rfl T.gLONE.1 T.gLONE.2) (nomark _))))) (pss_one (ps_if (PW.pt (pw_and (pt_cmpR op_gt (pv 5) pe_int (nomark _)) (pw_and1 (PW.pt (pw_or (pt_val (pv 6)) (pw_or1 (pt_cmpR op_ge (pv 5) (pv 2) (nomark _)))))))) (pss_one (ps_expr (pe_bmK (K := K) rfl PySem.F.plainAttrs_list PySem.F.slot_list_append PySem.F.type_list_append mt_append (pv 4) (pa_cons (pv 7) pa_nil)))) pss_nil)))) pss_nil))) (pss_one (ps_ret (pv 4)))))), run_pure (Ns := N_numbers_from) h fun a B hp => ?_⟩)
  obtain ⟨h1, h2⟩ := hp
  have l2 := ws_len h1 h2
  refine sb_seq (sb_par (es_new (ef_lst (ea_cons (ev_var rfl) ea_nil) (by simp))) (fun W1 s1 h => es_k (ek_ev (P := fun d => d = .int 0) (ev_int 0))) ?_)
  rintro W1 s1 W2 s2 ⟨p, rfl, rfl⟩ ⟨rfl, d, rfl, rfl⟩
  refine sb_seq (sb_asgD (ev_bl true) ?_)
  refine sb_seq (sb_fold0 (xs := (CK.windowStarts a.top a.L).zip a.ans) (enc := fun q => PyData.tuple [.int q.1, .int q.2]) ?_ (CK.numStep a.m a.L)
    (fun s W' ρ' => W' = B.push K p (.lst (s.found.map .int)) ∧ ∃ o1 o2, ρ' = [.dat (.int a.m), .dat (.int a.top), .dat (.int a.L), .dat (tI a.ans), .at p, .dat (.int s.run), .dat (.bool s.first), o1, o2]) ⟨[a.m], 0, true⟩ ⟨rfl, _, _, rfl⟩ ?_ ?_)
  · rw [← zipD_map]
    exact ei_zipXM (ev_call (α := Int × Int) (a.top, a.L) (ea_cons (ev_var rfl) (ea_cons (ev_var rfl) ea_nil)) ⟨h1, h2⟩) (ev_var rfl)
  · rintro ys x zs W' ρ' e x' ⟨rfl, o1, o2, rfl⟩
    refine ⟨_, _, eg_pair, ?_⟩
    have hl := num_len a.m a.L ys ⟨[a.m], 0, true⟩
    have hyl : ys.length ≤ 1000001 := by
      have := congrArg List.length e
      rw [List.length_zip, List.length_append] at this
      omega
    generalize ys.foldl (CK.numStep a.m a.L) ⟨[a.m], 0, true⟩ = s at hl ⊢
    refine sb_if (b := decide (a.m < x.1)) (et_test (ev_gt (ev_var rfl) (ev_var rfl))) (fun hb => ?_) fun hb => sb_next ?_
    · have hb' : a.m < x.1 := by simpa using hb
      refine sb_seq (sb_asgD (d := .int (if x.2 = 3 then s.run + 1 else 0)) (ev_if (c := decide (x.2 = 3)) (et_test (ev_eqI (ev_var rfl) (ev_int 3))) (fun h => ?_) fun h => ?_) ?_)
      · have h' : x.2 = 3 := by simpa using h
        rw [if_pos h']
        exact ev_add (ev_var rfl) (ev_int 1)
      · have h' : ¬ x.2 = 3 := by simpa using h
        rw [if_neg h']
        exact ev_int 0
      refine sb_seq (sb_asgD (d := .bool (s.first && decide (x.2 = 3))) (ev_andV (ev_var rfl) fun _ => ev_eqI (ev_var rfl) (ev_int 3)) ?_)
      have hst : CK.numStep a.m a.L s x = ⟨if 0 < (if x.2 = 3 then s.run + 1 else 0) ∧ ((s.first && decide (x.2 = 3)) = true ∨ a.L ≤ (if x.2 = 3 then s.run + 1 else 0)) then s.found ++ [x.1] else s.found, if x.2 = 3 then s.run + 1 else 0, s.first && decide (x.2 = 3)⟩ := by
        unfold CK.numStep
        rw [if_pos hb']
      generalize (if x.2 = 3 then s.run + 1 else 0) = r at hst ⊢
      generalize (s.first && decide (x.2 = 3)) = f at hst ⊢
      rw [hst]
      refine sb_if (b := decide (0 < r) && (f || decide (a.L ≤ r))) (et_and (et_test (ev_gt (ev_var rfl) (ev_int 0))) fun _ => et_or (et_B (ev_var rfl)) fun _ => et_test (ev_ge (ev_var rfl) (ev_var rfl))) (fun hc => ?_) fun hc => sb_next ?_
      · have hc' : 0 < r ∧ (f = true ∨ a.L ≤ r) := by simpa using hc
        refine sb_append rfl Mu.here (fun _ _ => Ext.push) (ek_ev (P := fun d => d = .int x.1) (ev_var rfl)) (by rw [List.length_map]; simp at hl; omega) fun d hd => ?_
        subst hd
        refine ⟨?_, _, _, rfl⟩
        rw [if_pos hc', List.map_append]
        rfl
      · have hc' : ¬ (0 < r ∧ (f = true ∨ a.L ≤ r)) := by
          intro z
          have : (decide (0 < r) && (f || decide (a.L ≤ r))) = true := by simpa using z
          rw [this] at hc; cases hc
        refine ⟨?_, _, _, rfl⟩
        rw [if_neg hc']
    · have hb' : ¬ a.m < x.1 := by simpa using hb
      refine ⟨?_, .dat (.int x.1), .dat (.int x.2), ?_⟩
      · unfold CK.numStep; rw [if_neg hb']
      · unfold CK.numStep; rw [if_neg hb']; rfl
  · rintro W' ρ' ⟨rfl, o1, o2, rfl⟩
    exact sb_ret_view (i := 4) rfl (Ext.refl B) (ev_var rfl) fun d hd => hd
structure FfA where
  row : List Int
  top : Int
  L : Int
def FfA.ans (a : FfA) : List Int := CK.answersOf a.row (CK.testsFor a.top a.L)
abbrev sp_filling_from (K : PySem.W.Frag) : Sp := SpD K (α := FfA) (fun a => [.int a.top, .int a.L, tI a.ans]) (fun a => (1 ≤ a.top ∧ a.top ≤ 1000) ∧ (1 ≤ a.L ∧ a.L ≤ 1000) ∧ a.row.length ≤ 10000 ∧ ∀ l ∈ a.row, 1 ≤ l ∧ l ≤ a.top) (fun a d => d = fD (CK.fill a.row a.L))
theorem tests_small {top L : Int} (h : 1 ≤ top ∧ top ≤ 1000) (hL : 1 ≤ L ∧ L ≤ 1000) : (CK.testsFor top L).length ≤ 10000 ∧ ∀ b ∈ CK.testsFor top L, b.length ≤ 4000 ∧ b ≠ [] := by
  unfold CK.testsFor
  refine ⟨?_, fun b hb => ?_⟩
  · rw [List.length_append, List.length_map, List.length_map]
    have h1 : (CK.windowStarts top L).length ≤ 1001 := by unfold CK.windowStarts; rw [range_len]; omega
    have h2 : (CK.pairTotals top L).length ≤ 2001 := by
      unfold CK.pairTotals
      split
      · simp
      · split
        · simp
        · rw [range_len]; omega
    omega
  · rcases List.mem_append.mp hb with hb | hb
    · obtain ⟨t, _, rfl⟩ := List.mem_map.mp hb
      simp
    · obtain ⟨t, _, rfl⟩ := List.mem_map.mp hb
      simp
theorem ok_filling_from (F : FnP K "filling_from" s_filling_from f fd) (T : Tx mg) (O_pair_totals : Ok P w K mg base "pair_totals" 1 ["top", "least"] (sp_pair_totals K)) (O_row_of : Ok P w K mg base "row_of" 1 ["numbers"] (sp_row_of K)) (O_filling : Ok P w K mg base "filling" 2 ["row", "least"] (sp_filling K)) (O_tests_for : Ok P w K mg base "tests_for" 2 ["top", "least"] (sp_tests_for K)) (O_lowest_from : Ok P w K mg base "lowest_from" 2 ["top", "least", "answers"] (sp_lowest_from K)) (O_numbers_from : Ok P w K mg base "numbers_from" 2 ["lowest", "top", "least", "answers"] (sp_numbers_from K)) (O_answers_of : Ok P w K mg base "answers_of" 4 ["row", "tests"] (sp_answers_of K)) : FnOk P w K mg base CX0 5 f fd ["top", "least", "answers"] (sp_filling_from K) := by
  have nd := sc_filling_from.nd
  refine F.ok sc_filling_from (fun vs H Q E h => spd_len (fun _ => rfl) h) (fun cdv A outer s H vs Q E hr h => ⟨_, PSs.nox (pss_cons (ps_set (i := 3) nd rfl (Or.inl rfl) (pe_f O_tests_for (hr.mono (by decide)) rfl (pa_cons (pv 0) (pa_cons (pv 1) pa_nil)))) (pss_cons (ps_if (pt_cmpR (op_neK (K := K) rfl (hu64 hr)) (pe_callB (call_lenK (K := K) rfl) rfl T.len (by decide +kernel) (pa_cons (pv 2) pa_nil)) (pe_callB (call_lenK (K := K) rfl) rfl T.len (by decide +kernel) (pa_cons (pv 3) pa_nil)) (nomark _)) (pss_one ps_never) pss_nil) (pss_cons (ps_if (pt_cmpR (op_neK (K := K) rfl (hu64 hr)) (pe_ix (ix_seqK (K := K) rfl) (pv 2) pe_int fun _ _ => rfl) pe_int (nomark _)) (pss_one (ps_set (i := 4) nd rfl (Or.inl rfl) (pe_tup (pa_cons pe_int pa_nil)))) (pss_cons (ps_set (i := 5) nd rfl (Or.inl rfl) (pe_f O_lowest_from (hr.mono (by decide)) rfl (pa_cons (pv 0) (pa_cons (pv 1) (pa_cons (pv 2) pa_nil))))) (pss_cons (ps_set (i := 6) nd rfl (Or.inl rfl) (pe_callB (call_lenK (K := K) rfl) rfl T.len (by decide +kernel) (pa_cons (pe_f O_pair_totals (hr.mono (by decide)) rfl (pa_cons (pv 0) (pa_cons (pv 1) pa_nil))) pa_nil))) (pss_one (ps_set (i := 4) nd rfl (Or.inl rfl) (pe_ifExp (pt_cmpR op_isN1 (pv 5) pe_non (nomark _)) (pe_tup pa_nil) (pe_f O_row_of (hr.mono (by decide)) rfl (pa_cons (pe_f O_numbers_from (hr.mono (by decide)) rfl (pa_cons (pv 5) (pa_cons (pv 0) (pa_cons (pv 1) (pa_cons (pe_slice (sl_seqK (K := K) rfl) (pv 2) (po_some (pv 6)) po_none) pa_nil))))) pa_nil)))))))) (pss_cons (ps_if (pt_cmpR (op_neK (K := K) rfl (hu64 hr)) (pe_f O_answers_of hr rfl (pa_cons (pv 4) (pa_cons (pv 3) pa_nil))) (pe_callTy (call_listK (K := K) rfl) rfl T.list (by decide +kernel) (pa_cons (pv 2) pa_nil)) (nomark _)) (pss_one ps_never) pss_nil) (pss_one (ps_ret (pe_f O_filling (hr.mono (by decide)) rfl (pa_cons (pv 4) (pa_cons (pv 1) pa_nil))))))))), run_pure (Ns := N_filling_from) h fun a B hp => ?_⟩)
  obtain ⟨row, top, L⟩ := a
  obtain ⟨h1, h2, h3, h4⟩ := hp
  simp only at h1 h2 h3 h4
  have hL : 0 < L := by omega
  have hP : PosN top ∧ PosN L := ⟨⟨h1.1, by omega⟩, h2.1, by omega⟩
  obtain ⟨t1, t2⟩ := tests_small h1 h2
  have alen : (CK.answersOf row (CK.testsFor top L)).length = (CK.testsFor top L).length := by unfold CK.answersOf; simp
  obtain ⟨r, hr0⟩ := CK.answers_first (row := row) (top := top) hL
  refine sb_seq (sb_asgD (d := lT (CK.testsFor top L)) (ev_call (α := Int × Int) (top, L) (ea_cons (ev_var rfl) (ea_cons (ev_var rfl) ea_nil)) hP) ?_)
  refine sb_seq (sb_if (b := false) (et_test (evd_to (ev_neI (ev_lenT (ev_var (d := tI (CK.answersOf row (CK.testsFor top L))) rfl)) (ev_lenL (ev_var rfl))) (by simp [alen]))) (fun h => by cases h) fun _ => sb_next ?_)
  -- from the row that is found on
  have rest : ∀ (row' : List Int) (o5 o6 : Sl), row'.length ≤ 10000 → CK.fill row' L = CK.fill row L → Sb K B B 0
      (tSeq (tIfS (tTest (tOp (rNeX K) (tCall (sp_answers_of K) [] E0 (tCons (tVar 4) (tCons (tVar 3) tNil))) (tListK K (tVar 2)))) tNever tNext) (tRet (tCall (sp_filling K) [] E0 (tCons (tVar 4) (tCons (tVar 1) tNil)))))
      [.dat (.int top), .dat (.int L), .dat (tI (CK.answersOf row (CK.testsFor top L))), .dat (lT (CK.testsFor top L)), .dat (tI row'), o5, o6] (fun _ _ => PyData.none = fD (CK.fill row L)) (Rt K B fun d => d = fD (CK.fill row L)) := by
    intro row' o5 o6 hl hf
    refine sb_seq (sb_if (b := false) (et_test (evd_to (ev_neD (a := lI (CK.answersOf row' (CK.testsFor top L))) (b := lI (CK.answersOf row (CK.testsFor top L))) (ev_call (α := List Int × List (List Int)) (row', CK.testsFor top L) (ea_cons (ev_var rfl) (ea_cons (ev_var rfl) ea_nil)) ⟨hl, t1, t2⟩) (EvF.ev (ef_list (ev_var rfl))) (shaped_lI _) (shaped_lI _) (eqv_lI _ _)) ?_)) (fun h => by cases h) fun _ => sb_next ?_)
    · rw [CK.same_answers hL hf top]; simp
    · refine sb_ret (ev_call (α := List Int × Int) (row', L) (ea_cons (ev_var rfl) (ea_cons (ev_var rfl) ea_nil)) hl) fun d hd => ?_
      rw [hd, hf]
  have hat : L2.atI ((CK.answersOf row (CK.testsFor top L)).map PyData.int) 0 = some (.int (if CK.lone row L = true then 2 else 1)) := atI_zero (by rw [hr0]; rfl)
  cases hf : CK.fill row L with
  | none =>
    have hlone : CK.lone row L = true := CK.fill_none.mp hf
    rw [if_pos hlone] at hat
    refine sb_seq (sb_if (b := true) (et_test (evd_to (ev_neI (ev_ixT (ev_var rfl) (ev_int 0) hat) (ev_int 1)) (by simp))) (fun _ => ?_) fun h => by cases h)
    refine sb_asgD (d := tI [1]) (ev_tup (ea_cons (ev_int 1) ea_nil) (by simp)) ?_
    have hf1 : CK.fill [1] L = none := CK.fill_none.mpr (by unfold CK.lone; simp; omega)
    rw [← hf]
    exact rest [1] .no .no (by simp) (by rw [hf1, hf])
  | some bs =>
    have hlone : ¬ CK.lone row L = true := fun z => by rw [CK.fill_none.mpr z] at hf; cases hf
    rw [if_neg hlone] at hat
    refine sb_seq (sb_if (b := false) (et_test (evd_to (ev_neI (ev_ixT (ev_var rfl) (ev_int 0) hat) (ev_int 1)) (by simp))) (fun h => by cases h) fun _ => ?_)
    have hbs : CK.lowestFrom top L (CK.answersOf row (CK.testsFor top L)) = (bs.head?.map (·.1)) ∧ ((CK.singleOf top L (CK.answersOf row (CK.testsFor top L))).length < (CK.pairTotals top L).length → CK.singleOf top L (CK.answersOf row (CK.testsFor top L)) ≠ []) := by
      cases bs with
      | nil =>
        have e := CK.fill_nil.mp hf
        subst e
        refine ⟨CK.lowest_nil hL, fun hlt hz => ?_⟩
        have e : CK.singleOf top L (CK.answersOf [] (CK.testsFor top L)) = CK.pairTotals top L := by
          rw [CK.single_eq]
          refine List.filter_eq_self.mpr fun t _ => ?_
          simp only [decide_eq_true_eq]
          exact (CK.cnt_two_one (row := []) (bs := []) (L := L) hf t).mpr fun n hn => by simp [CK.inB] at hn
        rw [e] at hlt
        exact absurd hlt (Nat.lt_irrefl _)
      | cons p bs => exact CK.lowest_some hL hf fun l hl => (h4 l hl).2
    refine sb_seq (sb_asgD (d := oI (bs.head?.map (·.1))) (ev_to (ev_call (α := Int × Int × List Int) (top, L, CK.answersOf row (CK.testsFor top L)) (ea_cons (ev_var rfl) (ea_cons (ev_var rfl) (ea_cons (ev_var rfl) ea_nil))) ⟨hP.1, hP.2, hbs.2⟩) fun d hd => by rw [hd, hbs.1]) ?_)
    refine sb_seq (sb_asgD (d := .int ((CK.pairTotals top L).length : Int)) (evd_to (ev_lenL (ev_call (α := Int × Int) (top, L) (ea_cons (ev_var rfl) (ea_cons (ev_var rfl) ea_nil)) hP)) (by simp)) ?_)
    cases bs with
    | nil =>
      have e := CK.fill_nil.mp hf
      refine sb_asgD (d := tI []) (ev_if (c := true) (et_test (ev_isN (d := .none) (ev_var rfl))) (fun _ => ev_tup ea_nil (by simp)) fun h => by cases h) ?_
      rw [← hf]
      exact rest [] _ _ (by simp) (by rw [e])
    | cons p bs =>
      obtain ⟨n1, n2⟩ := CK.numbers_spec (top := top) hL hf fun l hl => (h4 l hl).2
      rw [← CK.drop_eq] at n1 n2
      generalize hns : CK.numbersFrom p.1 top L ((CK.answersOf row (CK.testsFor top L)).drop (CK.pairTotals top L).length) = ns at n1 n2
      refine sb_asgD (d := tI ns.reverse) (ev_if (c := false) (et_test (ev_isN (d := .int p.1) (ev_var rfl))) (fun h => by cases h) fun _ => ?_) ?_
      · refine ev_to (ev_call (α := List Int × List Int) (ns, ns.reverse) (ea_cons (ev_to (ev_call (α := NfA) ⟨p.1, top, L, (CK.answersOf row (CK.testsFor top L)).drop (CK.pairTotals top L).length⟩ (ea_cons (ev_var rfl) (ea_cons (ev_var rfl) (ea_cons (ev_var rfl) (ea_cons (evd_to (ev_slT (ev_var (d := tI (CK.answersOf row (CK.testsFor top L))) rfl) (eo_some (ev_var rfl)) eo_none) ?_) ea_nil)))) ⟨hP.1, hP.2⟩) fun d hd => ?_) ea_nil) ⟨List.reverse_perm _, ?_⟩) fun d hd => hd
        · rw [cut_from, ← List.map_drop]; rfl
        · rw [hd, hns]
        · rw [List.pairwise_reverse]
          exact n1.imp fun h => by omega
      · rw [← hf]
        refine rest ns.reverse _ _ ?_ (CK.found_fill hL hf n1 n2)
        rw [List.length_reverse, ← hns]
        have := num_len p.1 L ((CK.windowStarts top L).zip ((CK.answersOf row (CK.testsFor top L)).drop (CK.pairTotals top L).length)) ⟨[p.1], 0, true⟩
        have hw : (CK.windowStarts top L).length ≤ 1001 := by unfold CK.windowStarts; rw [range_len]; omega
        unfold CK.numbersFrom
        rw [List.length_zip] at this
        simp at this ⊢
        omega

end
end CW
end B11x
section B12x
set_option Elab.async false
set_option linter.all false
set_option maxRecDepth 100000
namespace CW
open PySem PySem.Spec PyProof.Rows L2 StX RZ
section
variable {P : Program} {w : World} {K : PySem.W.Frag} {mg : PySem.Str → Option Value} {base : Heap} {f : Addr} {fd : FuncData}
/-- the last blocks of both alike, down to the first that differ -/
theorem split_apart : ∀ (as bs : List (Int × Int)), as.Pairwise (fun p q => p.1 < q.1) → bs.Pairwise (fun p q => p.1 < q.1) → as ≠ bs → as ≠ [] → bs ≠ [] → as.head?.map (·.1) = bs.head?.map (·.1) →
    ∃ a0 p b0 q c, as = a0 ++ p :: c ∧ bs = b0 ++ q :: c ∧ p ≠ q := by
  intro as
  generalize hn : as.length = n
  induction n generalizing as with
  | zero => intro bs _ _ _ h; exact absurd (List.length_eq_zero_iff.mp hn) h
  | succ n ih =>
    intro bs pa pb hne ha hb hh
    rcases List.eq_nil_or_concat as with e | ⟨a0, p, e⟩
    · exact absurd e ha
    rcases List.eq_nil_or_concat bs with e' | ⟨b0, q, e'⟩
    · exact absurd e' hb
    rw [List.concat_eq_append] at e e'
    subst e e'
    by_cases hpq : p = q
    · subst hpq
      have h1 : a0 ≠ b0 := fun z => hne (by rw [z])
      have ga : a0 ≠ [] := by
        intro z
        subst z
        cases b0 with
        | nil => exact h1 rfl
        | cons y b0 =>
          simp at hh
          have := (List.pairwise_cons.mp pb).1 p (by simp)
          omega
      have gb : b0 ≠ [] := by
        intro z
        subst z
        cases a0 with
        | nil => exact h1 rfl
        | cons y a0 =>
          simp at hh
          have := (List.pairwise_cons.mp pa).1 p (by simp)
          omega
      have hh' : a0.head?.map (·.1) = b0.head?.map (·.1) := by
        cases a0 with
        | nil => exact absurd rfl ga
        | cons y a0 =>
          cases b0 with
          | nil => exact absurd rfl gb
          | cons z b0 => simpa using hh
      obtain ⟨c0, p', d0, q', c, e1, e2, e3⟩ := ih a0 (by simp at hn; exact hn) b0 (List.pairwise_append.mp pa).1 (List.pairwise_append.mp pb).1 h1 ga gb hh'
      exact ⟨c0, p', d0, q', c ++ [p], by rw [e1]; simp, by rw [e2]; simp, e3⟩
    · exact ⟨a0, p, b0, q, [], rfl, rfl, hpq⟩
theorem ga_split (a0 : List (Int × Int)) (p : Int × Int) (b0 : List (Int × Int)) (q : Int × Int) (c : List (Int × Int)) (h : p ≠ q) : CK.greatestApart (a0 ++ p :: c) (b0 ++ q :: c) = if p.2 ≠ q.2 then max p.2 q.2 else max p.1 q.1 - 1 := by
  have go : ∀ (d x y : List (Int × Int)), CK.gaGo (d ++ x) (d ++ y) = CK.gaGo x y := by
    intro d
    induction d with
    | nil => intro x y; rfl
    | cons z d ih => intro x y; simp only [List.cons_append, CK.gaGo, if_pos, ih]
  unfold CK.greatestApart
  rw [List.reverse_append, List.reverse_append, List.reverse_cons, List.reverse_cons, List.append_assoc, List.append_assoc, go]
  simp only [List.singleton_append, CK.gaGo]
  rw [if_neg h]
theorem val_low {L : Int} (hL : 0 < L) {bs : List (Int × Int)} (h : CK.Val L bs) : bs.Pairwise fun p q => p.1 < q.1 := by
  have h1 := h.pair hL
  have h2 : ∀ p ∈ bs, p.1 ≤ p.2 := h.each
  induction bs with
  | nil => exact .nil
  | cons b bs ih =>
    refine List.pairwise_cons.mpr ⟨fun q hq => ?_, ih h.tail (List.pairwise_cons.mp h1).2 fun p hp => h2 p (List.mem_cons_of_mem _ hp)⟩
    have k1 := (List.pairwise_cons.mp h1).1 q hq
    have k2 := h2 b List.mem_cons_self
    omega
def pD : Option (List Int) → PyData
  | none => .none
  | some ns => tI ns
abbrev sp_parting (K : PySem.W.Frag) : Sp := SpD K (α := List Int × List Int × Int) (fun a => [tI a.1, tI a.2.1, .int a.2.2]) (fun a => a.1.length ≤ 5000 ∧ a.2.1.length ≤ 5000 ∧ 0 < a.2.2) (fun a d => d = pD (CK.partingM a.1 a.2.1 a.2.2))
theorem ok_parting (F : FnP K "parting" s_parting f fd) (T : Tx mg) (O_greatest_apart : Ok P w K mg base "greatest_apart" 1 ["mine", "its"] (sp_greatest_apart K)) (O_filling : Ok P w K mg base "filling" 2 ["row", "least"] (sp_filling K)) (O_holds : Ok P w K mg base "holds" 5 ["blocks", "number"] (sp_holds K)) (O_next_above : Ok P w K mg base "next_above" 5 ["blocks", "number"] (sp_next_above K)) : FnOk P w K mg base CX0 6 f fd ["row", "other", "least"] (sp_parting K) := by
  have nd := sc_parting.nd
  refine F.ok sc_parting (fun vs H Q E h => spd_len (fun _ => rfl) h) (fun cdv A outer s H vs Q E hr h => ⟨_, PSs.nox (pss_cons (ps_par (i := 3) (j := 4) rfl nd rfl rfl (by decide) rfl rfl (pa_cons (pe_f O_filling (hr.mono (by decide)) rfl (pa_cons (pv 0) (pa_cons (pv 2) pa_nil))) (pa_cons (pe_f O_filling (hr.mono (by decide)) rfl (pa_cons (pv 1) (pa_cons (pv 2) pa_nil))) pa_nil)) rfl) (pss_cons (ps_if (pt_cmpR (op_eqK (K := K) rfl (hu64 hr)) (pv 3) (pv 4) (nomark _)) (pss_one (ps_ret pe_non)) pss_nil) (pss_cons (ps_if (PW.pt (pw_or (pt_cmpR op_isN1 (pv 3) pe_non (nomark _)) (pw_or1 (pt_cmpR op_isN1 (pv 4) pe_non (nomark _))))) (pss_one (ps_ret (pe_tup (pa_cons (pv 2) (pa_cons (pv 2) pa_nil))))) pss_nil) (pss_cons (ps_if (PW.pt (pw_or (pt_cmpR (op_eqK (K := K) rfl (hu64 hr)) (pv 3) (pe_tup pa_nil) (nomark _)) (pw_or1 (pt_cmpR (op_eqK (K := K) rfl (hu64 hr)) (pv 4) (pe_tup pa_nil) (nomark _))))) (pss_one (ps_ret (pe_tup (pa_cons (pe_op op_sub (pe_op (op_plusK (K := K) rfl) (pe_ix (ix_seqK (K := K) rfl) (pe_ix (ix_seqK (K := K) rfl) (pe_op (op_plusK (K := K) rfl) (pv 3) (pv 4)) pe_int fun _ _ => rfl) pe_int fun _ _ => rfl) pe_int) (pv 2)) (pa_cons (pv 2) pa_nil))))) pss_nil) (pss_cons (ps_if (pt_cmpR (op_neK (K := K) rfl (hu64 hr)) (pe_ix (ix_seqK (K := K) rfl) (pe_ix (ix_seqK (K := K) rfl) (pv 3) pe_int fun _ _ => rfl) pe_int fun _ _ => rfl) (pe_ix (ix_seqK (K := K) rfl) (pe_ix (ix_seqK (K := K) rfl) (pv 4) pe_int fun _ _ => rfl) pe_int fun _ _ => rfl) (nomark _)) (pss_one (ps_ret (pe_tup (pa_cons (pe_op op_sub (pe_callB (call_max2K rfl) rfl T.max (by decide +kernel) (pa_cons (pe_ix (ix_seqK (K := K) rfl) (pe_ix (ix_seqK (K := K) rfl) (pv 3) pe_int fun _ _ => rfl) pe_int fun _ _ => rfl) (pa_cons (pe_ix (ix_seqK (K := K) rfl) (pe_ix (ix_seqK (K := K) rfl) (pv 4) pe_int fun _ _ => rfl) pe_int fun _ _ => rfl) pa_nil))) (pv 2)) (pa_cons (pv 2) pa_nil))))) pss_nil) (pss_cons (ps_set (i := 5) nd rfl (Or.inl rfl) (pe_f O_greatest_apart (hr.mono (by decide)) rfl (pa_cons (pv 3) (pa_cons (pv 4) pa_nil)))) (pss_cons (ps_set (i := 6) nd rfl (Or.inl rfl) (pe_f O_next_above hr rfl (pa_cons (pe_ifExp (pt_val (pe_f O_holds hr rfl (pa_cons (pv 3) (pa_cons (pv 5) pa_nil)))) (pv 3) (pv 4)) (pa_cons (pv 5) pa_nil)))) (pss_cons (ps_set (i := 7) nd rfl (Or.inl rfl) (pe_ifExp (pt_cmpR op_isN1 (pv 6) pe_non (nomark _)) (pv 5) (pe_callB (call_min2K rfl) rfl T.min (by decide +kernel) (pa_cons (pv 5) (pa_cons (pe_op op_sub (pv 6) (pv 2)) pa_nil))))) (pss_one (ps_ret (pe_tup (pa_cons (pe_op op_sub (pv 7) (pv 2)) (pa_cons (pv 2) (pa_cons (pv 2) pa_nil)))))))))))))), run_pure (Ns := N_parting) h fun a B hp => ?_⟩)
  obtain ⟨row, other, L⟩ := a
  obtain ⟨h1, h2, hL⟩ := hp
  simp only at h1 h2 hL
  refine sb_seq (sb_par (k1 := 0) (k2 := 0) (es_k (ek_ev (P := fun d => d = fD (CK.fill row L)) (ev_call (α := List Int × Int) (row, L) (ea_cons (ev_var rfl) (ea_cons (ev_var rfl) ea_nil)) (show row.length ≤ 10000 by omega)))) (fun W1 s1 h => es_k (ek_ev (P := fun d => d = fD (CK.fill other L)) (ev_call (α := List Int × Int) (other, L) (ea_cons (ev_var rfl) (ea_cons (ev_var rfl) ea_nil)) (show other.length ≤ 10000 by omega)))) ?_)
  rintro W1 s1 W2 s2 ⟨e1, d, rfl, rfl⟩ ⟨e2, d2, rfl, rfl⟩
  rw [e1] at e2
  subst e2
  unfold CK.partingM
  refine sb_seq (sb_if (b := decide (CK.fill row L = CK.fill other L)) (et_test (ev_eqD (ev_var rfl) (ev_var rfl) (shaped_fD _) (shaped_fD _) (eqv_fD _ _))) (fun hb => ?_) fun hb => sb_next ?_)
  · have hb' : CK.fill row L = CK.fill other L := by simpa using hb
    rw [if_pos hb']
    exact sb_retD ev_non rfl
  have hb' : ¬ CK.fill row L = CK.fill other L := by simpa using hb
  rw [if_neg hb']
  cases hf : CK.fill row L with
  | none =>
    refine sb_seq (sb_if (b := true) (et_to (et_or (x := true) (et_test (ev_isN (d := .none) (ev_var (d := PyData.none) rfl))) (y := true) fun h => by cases h) rfl) (fun _ => ?_) fun h => by cases h)
    cases CK.fill other L <;> exact sb_retD (ev_tup (ea_cons (ev_var rfl) (ea_cons (ev_var rfl) ea_nil)) (by simp)) rfl
  | some as =>
    cases hg : CK.fill other L with
    | none =>
      refine sb_seq (sb_if (b := true) (et_to (et_or (x := false) (et_test (ev_isN (d := tB as) (ev_var rfl))) (y := true) fun _ => et_test (ev_isN (d := .none) (ev_var rfl))) rfl) (fun _ => ?_) fun h => by cases h)
      exact sb_retD (ev_tup (ea_cons (ev_var rfl) (ea_cons (ev_var rfl) ea_nil)) (by simp)) rfl
    | some bs =>
      have la := fill_len hf
      have lb := fill_len hg
      have hne : as ≠ bs := fun z => hb' (by rw [hf, hg, z])
      have va := CK.fill_val (Int.le_of_lt hL) hf
      have vb := CK.fill_val (Int.le_of_lt hL) hg
      refine sb_seq (sb_if (b := false) (et_to (et_or (x := false) (et_test (ev_isN (d := tB as) (ev_var rfl))) (y := false) fun _ => et_test (ev_isN (d := tB bs) (ev_var rfl))) rfl) (fun h => by cases h) fun _ => sb_next ?_)
      have heq : ∀ (xs : List (Int × Int)) (i : Nat), ([.dat (tI row), .dat (tI other), .dat (.int L), .dat (tB as), .dat (tB bs), .no, .no, .no] : List Sl)[i]? = some (.dat (tB xs)) → EvT K W2 (tTest (tOp (rEqX K) (tVar i) (tTup tNil))) [.dat (tI row), .dat (tI other), .dat (.int L), .dat (tB as), .dat (tB bs), .no, .no, .no] (decide (xs = [])) := fun xs i hi =>
        et_test (ev_eqD (b := tB []) (ev_var hi) (ev_tup ea_nil (by simp)) (shaped_tB _) (shaped_tB _) (eqv_tB _ _))
      show Sb K _ _ 0 _ _ _ (Rt K _ fun d => d = tI (CK.partingB L as bs))
      unfold CK.partingB
      refine sb_seq (sb_if (b := decide (as = []) || decide (bs = [])) (et_or (heq as 3 rfl) fun _ => heq bs 4 rfl) (fun hc => ?_) fun hc => sb_next ?_)
      · have hc' : as = [] ∨ bs = [] := by simpa using hc
        rw [if_pos hc']
        have hcat : ∃ x r, as ++ bs = x :: r := by
          cases hz : as ++ bs with
          | nil => exact absurd (by rw [(List.append_eq_nil_iff.mp hz).1, (List.append_eq_nil_iff.mp hz).2]) hne
          | cons x r => exact ⟨x, r, rfl⟩
        obtain ⟨x, r, hx⟩ := hcat
        have e3 : (as.map bD ++ bs.map bD) = bD x :: r.map bD := by rw [← List.map_append, hx]; rfl
        refine sb_retD (ev_tup (ea_cons (ev_sub (ev_add (ev_ixT (ev_ixT (ev_catT (ev_var (d := tB as) rfl) (ev_var (d := tB bs) rfl) (by simp; omega)) (ev_int 0) (atI_zero (x := bD x) (by rw [e3]; rfl))) (ev_int 0) (atI_zero (x := PyData.int x.1) rfl)) (ev_int 1)) (ev_var rfl)) (ea_cons (ev_var rfl) ea_nil)) (by simp)) ?_
        rw [hx]; rfl
      · have hc' : ¬ (as = [] ∨ bs = []) := by
          intro z
          have : (decide (as = []) || decide (bs = [])) = true := by simpa using z
          rw [this] at hc; cases hc
        rw [if_neg hc']
        obtain ⟨x, as', hx⟩ : ∃ x as', as = x :: as' := by
          cases as with
          | nil => exact absurd (.inl rfl) hc'
          | cons x as' => exact ⟨x, as', rfl⟩
        obtain ⟨y, bs', hy⟩ : ∃ y bs', bs = y :: bs' := by
          cases bs with
          | nil => exact absurd (.inr rfl) hc'
          | cons y bs' => exact ⟨y, bs', rfl⟩
        have ix3 : EvD K W2 (tOp (rIx K) (tOp (rIx K) (tVar 3) (tC (.int 0))) (tC (.int 0))) [.dat (tI row), .dat (tI other), .dat (.int L), .dat (tB as), .dat (tB bs), .no, .no, .no] (.int x.1) := ev_ixT (ev_ixT (ev_var rfl) (ev_int 0) (atI_zero (x := bD x) (by rw [hx]; rfl))) (ev_int 0) (atI_zero (x := PyData.int x.1) rfl)
        have ix4 : EvD K W2 (tOp (rIx K) (tOp (rIx K) (tVar 4) (tC (.int 0))) (tC (.int 0))) [.dat (tI row), .dat (tI other), .dat (.int L), .dat (tB as), .dat (tB bs), .no, .no, .no] (.int y.1) := ev_ixT (ev_ixT (ev_var rfl) (ev_int 0) (atI_zero (x := bD y) (by rw [hy]; rfl))) (ev_int 0) (atI_zero (x := PyData.int y.1) rfl)
        have hxa : as.headD (0, 0) = x := by rw [hx]; rfl
        have hyb : bs.headD (0, 0) = y := by rw [hy]; rfl
        rw [hxa, hyb]
        refine sb_seq (sb_if (b := !decide (x.1 = y.1)) (et_test (ev_neI ix3 ix4)) (fun hd => ?_) fun hd => sb_next ?_)
        · have hd' : x.1 ≠ y.1 := by simpa using hd
          rw [if_pos hd']
          exact sb_retD (ev_tup (ea_cons (ev_sub (ev_max ix3 ix4) (ev_var rfl)) (ea_cons (ev_var rfl) ea_nil)) (by simp)) rfl
        · have hd' : ¬ x.1 ≠ y.1 := by simpa using hd
          rw [if_neg hd']
          obtain ⟨a0, p, b0, q, c, ea, eb, hpq⟩ := split_apart as bs (val_low hL va) (val_low hL vb) hne (fun z => hc' (.inl z)) (fun z => hc' (.inr z)) (by rw [hx, hy]; simp; omega)
          have hga : CK.greatestApart as bs = if p.2 ≠ q.2 then max p.2 q.2 else max p.1 q.1 - 1 := by rw [ea, eb]; exact ga_split a0 p b0 q c hpq
          refine sb_seq (sb_asgD (d := .int (CK.greatestApart as bs)) (ev_to (ev_call (α := GaA) ⟨a0, p, b0, q, c⟩ (ea_cons (evd_to (ev_var (d := tB as) rfl) (by rw [ea])) (ea_cons (evd_to (ev_var (d := tB bs) rfl) (by rw [eb])) ea_nil)) hpq) fun d hd => by rw [hd, hga]) ?_)
          generalize CK.greatestApart as bs = num
          refine sb_seq (sb_asgD (d := oI (CK.nextAbove (if CK.holdsB as num then as else bs) num)) (ev_call (α := List (Int × Int) × Int) (if CK.holdsB as num then as else bs, num) (ea_cons (ev_if (c := CK.holdsB as num) (et_B (ev_call (α := List (Int × Int) × Int) (as, num) (ea_cons (ev_var rfl) (ea_cons (ev_var rfl) ea_nil)) (show as.length ≤ 10000 by omega))) (fun h => evd_to (ev_var (d := tB as) rfl) (by rw [if_pos h])) fun h => evd_to (ev_var (d := tB bs) rfl) (by rw [if_neg (by rw [h]; decide)])) (ea_cons (ev_var rfl) ea_nil)) (by simp only; split <;> omega)) ?_)
          generalize CK.nextAbove (if CK.holdsB as num then as else bs) num = ab
          refine sb_seq (sb_asgD (d := .int (CK.totalOf L num ab)) ?_ ?_)
          · cases ab with
            | none => exact ev_if (c := true) (et_test (ev_isN (d := .none) (ev_var rfl))) (fun _ => ev_var rfl) fun h => by cases h
            | some m => exact ev_if (c := false) (et_test (ev_isN (d := .int m) (ev_var rfl))) (fun h => by cases h) fun _ => ev_min (ev_var rfl) (ev_sub (ev_var (d := PyData.int m) rfl) (ev_var rfl))
          · exact sb_retD (ev_tup (ea_cons (ev_sub (ev_var rfl) (ev_var rfl)) (ea_cons (ev_var rfl) (ea_cons (ev_var rfl) ea_nil))) (by simp)) rfl
structure IpA where
  row : List Int
  other : List Int
  L : Int
  b : List Int
abbrev sp_is_parting (K : PySem.W.Frag) : Sp := SpD K (α := IpA) (fun a => [tI a.row, tI a.other, .int a.L, tI a.b]) (fun a => a.row.length ≤ 10000 ∧ a.other.length ≤ 10000 ∧ a.b ≠ [] ∧ a.b.length ≤ 3 ∧ ∀ x ∈ a.b, 1 ≤ x ∧ a.L ≤ x) (fun a d => d = .bool (!decide ((CK.partsM a.row a.b).length = (CK.partsM a.other a.b).length)))
theorem ok_is_parting (F : FnP K "is_parting" s_is_parting f fd) (T : Tx mg) (O_keeps : Ok P w K mg base "keeps" 1 ["least", "batch"] (sp_keeps K)) (O_is_batch : Ok P w K mg base "is_batch" 3 ["thing"] (sp_is_batch K)) (O_parts : Ok P w K mg base "parts" 3 ["row", "batch"] (sp_parts K)) : FnOk P w K mg base CX0 4 f fd ["row", "other", "least", "thing"] (sp_is_parting K) := by
  have nd := sc_is_parting.nd
  refine F.ok sc_is_parting (fun vs H Q E h => spd_len (fun _ => rfl) h) (fun cdv A outer s H vs Q E hr h => ⟨_, PSs.nox (pss_cons (ps_if (PW.pt (pw_or (pt_not (pt_val (pe_f O_is_batch hr rfl (pa_cons (pv 3) pa_nil)))) (pw_or (pt_cmpR op_gt (pe_callB (call_lenK (K := K) rfl) rfl T.len (by decide +kernel) (pa_cons (pv 3) pa_nil)) (pe_glob rfl T.gMOST_ITEMS.1 T.gMOST_ITEMS.2) (nomark _)) (pw_or1 (pt_not (pt_val (pe_f O_keeps (hr.mono (by decide)) rfl (pa_cons (pv 2) (pa_cons (pv 3) pa_nil))))))))) (pss_one (ps_ret pe_bl)) pss_nil) (pss_one (ps_ret (pe_cmpR (op_neK (K := K) rfl (hu64 hr)) (pe_callB (call_lenK (K := K) rfl) rfl T.len (by decide +kernel) (pa_cons (pe_f O_parts hr rfl (pa_cons (pv 0) (pa_cons (pv 3) pa_nil))) pa_nil)) (pe_callB (call_lenK (K := K) rfl) rfl T.len (by decide +kernel) (pa_cons (pe_f O_parts hr rfl (pa_cons (pv 1) (pa_cons (pv 3) pa_nil))) pa_nil)) (nomark _))))), run_pure (Ns := N_is_parting) h fun a B hp => ?_⟩)
  obtain ⟨h1, h2, h3, h4, h5⟩ := hp
  have g1 : (a.b.all fun x => decide (1 ≤ x)) = true := List.all_eq_true.mpr fun x hx => decide_eq_true (h5 x hx).1
  have g2 : (a.b.all fun x => decide (a.L ≤ x)) = true := List.all_eq_true.mpr fun x hx => decide_eq_true (h5 x hx).2
  refine sb_seq (sb_if (b := false) (et_to (et_or (x := false) (et_not (x := true) (et_B (evd_to (ev_call (α := List Int) a.b (ea_cons (ev_var rfl) ea_nil) (show a.b.length ≤ 10000 by omega)) (by rw [g1]; simp [h3])))) (y := false) fun _ => et_or (x := false) (et_test (evd_to (ev_gt (ev_lenT (ev_var (d := tI a.b) rfl)) (ev_int 3)) (by simp; omega))) (y := false) fun _ => et_not (x := true) (et_B (evd_to (ev_call (α := Int × List Int) (a.L, a.b) (ea_cons (ev_var rfl) (ea_cons (ev_var rfl) ea_nil)) (show a.b.length ≤ 10000 by omega)) (by rw [g2])))) rfl) (fun h => by cases h) fun _ => sb_next ?_)
  refine sb_retD (ev_neI (ev_lenL (ev_call (α := List Int × List Int) (a.row, a.b) (ea_cons (ev_var rfl) (ea_cons (ev_var rfl) ea_nil)) ⟨h1, show a.b.length ≤ 4000 by omega, h3⟩)) (ev_lenL (ev_call (α := List Int × List Int) (a.other, a.b) (ea_cons (ev_var rfl) (ea_cons (ev_var rfl) ea_nil)) ⟨h2, show a.b.length ≤ 4000 by omega, h3⟩))) ?_
  simp
  omega

end
end CW
end B12x
section W8x
set_option Elab.async false
set_option linter.all false
set_option maxRecDepth 100000
/-! The box. -/
namespace CW
open PySem PySem.Spec PyProof.Rows L2 StX RZ
def Bxd (n : Nat) (vs : List V) : Prop := ∃ a d c : Int, vs = [.int a, .int d, .int c] ∧ 0 ≤ c ∧ c + n ≤ 2 ^ 40
theorem Bxd.low {n m : Nat} {vs : List V} (h : Bxd n vs) (e : m ≤ n) : Bxd m vs := by
  obtain ⟨a, d, c, h1, h2, h3⟩ := h
  exact ⟨a, d, c, h1, h2, by omega⟩
structure Bx (W : Wd) (b : Addr) : Prop where
  mem : b ∈ W.ps
  get : ∀ n H O, W.I n H O → ∃ vs, H b = some (.lst vs) ∧ Bxd n vs
  put : ∀ n m H O vs, W.I n H O → m ≤ n → Bxd m vs → W.I m (upd H b (.lst vs)) O
theorem Bx.up {K : PySem.W.Frag} {W : Wd} {b p : Addr} {m : MO} (h : Bx W b) : Bx (W.push K p m) b :=
  ⟨List.mem_cons_of_mem _ h.mem, fun n H O e => h.get n H O e.2.1, fun n m H O vs e hm hv => by
    have hq : p ≠ b := fun z => e.1 (z ▸ h.mem)
    exact ⟨e.1, h.put n m H O vs e.2.1 hm hv, e.2.2.to (upd_ne hq) (Same.refl _)⟩⟩
/-- the world of the box alone -/
def Wd.box (W : Wd) (hW : W.ps = []) (b : Addr) : Wd where
  ps := [b]
  I := fun n H _ => ∃ vs, H b = some (.lst vs) ∧ Bxd n vs
  has := fun h p hp => by
    obtain ⟨vs, h1, _⟩ := h
    rw [List.mem_singleton.mp hp, h1]; simp
  loc := fun h e _ => by
    obtain ⟨vs, h1, h2⟩ := h
    exact ⟨vs, (e _ (List.mem_singleton.mpr rfl)).trans h1, h2⟩
  low := fun l h => by
    obtain ⟨vs, h1, h2⟩ := h
    exact ⟨vs, h1, h2.low l⟩
/-- the world without the box, nothing else changes -/
def Wd.but (W : Wd) (b : Addr) (H0 : Hp) : Wd where
  ps := W.ps.filter fun p => decide (p ≠ b)
  I := fun _ H _ => ∀ p ∈ W.ps.filter (fun p => decide (p ≠ b)), H p = H0 p ∧ H0 p ≠ none
  has := fun h p hp => by rw [(h p hp).1]; exact (h p hp).2
  loc := fun h e _ p hp => ⟨(e p hp).trans (h p hp).1, (h p hp).2⟩
  low := fun _ h => h
def Bt (lo hi : Int) (d : PyData) : Prop := ∃ r : Int, d = .int r ∧ lo ≤ r ∧ r ≤ hi
section
variable {K : PySem.W.Frag} {B W : Wd} {k k1 k2 : Nat} {ρ : List Sl} {te ta tb : TE} {i : Nat} {b : Addr} {l h l1 l2 h1 h2 : Int}
theorem but_ok {n : Nat} {H : Hp} {x d c : Int} (o : W.ok n H) (hb : H b = some (.lst [.int x, .int d, .int c])) : ((W.but b H).push K b (.lst [.int x, .int d, .int c])).ok n H := by
  refine ⟨?_, ?_, ?_⟩
  · show b ∉ W.ps.filter _
    simp
  · intro p hp
    refine ⟨rfl, ?_⟩
    exact W.has o p (List.mem_filter.mp hp).1
  · exact ⟨_, hb, .cons (.int _) (.cons (.int _) (.cons (.int _) .nil))⟩
theorem fr_but {H H' : Hp} (bx : Bx W b) : off (b :: (W.but b H).ps) H' = W.fr H' := by
  funext p
  show off (b :: W.ps.filter _) H' p = off W.ps H' p
  unfold off
  by_cases hp : p ∈ W.ps
  · rw [if_pos hp, if_pos]
    by_cases e : p = b
    · rw [e]; exact List.mem_cons_self
    · exact List.mem_cons_of_mem _ (List.mem_filter.mpr ⟨hp, decide_eq_true e⟩)
  · rw [if_neg hp, if_neg]
    intro z
    rcases List.mem_cons.mp z with z | z
    · exact hp (z ▸ bx.mem)
    · exact hp (List.mem_filter.mp z).1
/-- the box is put back -/
theorem but_back {n m : Nat} {H H' : Hp} {vs' : List V} (bx : Bx W b) (o : W.ok n H) (o' : ((W.but b H).ok 0 H')) (s : Same (W.fr H) (W.fr H')) (hm : m ≤ n) (hb : H' b = some (.lst vs')) (hv : Bxd m vs') : W.ok m H' := by
  have h1 := bx.put n m H (off W.ps H) vs' o hm hv
  refine W.loc h1 (fun p hp => ?_) s
  by_cases e : p = b
  · rw [e, hb, upd_same]
  · rw [upd_ne e]
    exact (o' p (List.mem_filter.mpr ⟨hp, decide_eq_true e⟩)).1
/-- what a return is when the box is tracked -/
def RtB (K : PySem.W.Frag) (b : Addr) (c : Int) (P : PyData → Prop) : Hp → V → Hp → Prop := fun _ v H' => ∃ r x d c', v = .int r ∧ P (.int r) ∧ H' b = some (.lst [.int x, .int d, .int c']) ∧ c ≤ c' ∧ c' ≤ c + 1
theorem sb_ret_box {N : Wd → List Sl → Prop} {P : PyData → Prop} {r x d c c' : Int} (hx : Ext B W) (hh : EvD K (W.push K b (.lst [.int x, .int d, .int c'])) te ρ (.int r)) (hr : P (.int r)) (hc : c ≤ c' ∧ c' ≤ c + 1) : Sb K B (W.push K b (.lst [.int x, .int d, .int c'])) k (tRet te) ρ N (RtB K b c P) := fun x' D σ H n F e f o kn kr =>
  hh σ H _ e o _ fun v H' z s hv ez => by
    subst ez
    cases hv
    have o2 := Wd.ok.to o s
    refine kr _ H' (Same.trans f (Same.trans (fr_to s) (x'.fr H'))) (x'.ok (o2.low (by omega))) ?_
    obtain ⟨vs, g1, g2⟩ := o2.2.2
    cases g2 with
    | cons a1 t => cases t with
      | cons a2 t => cases t with
        | cons a3 t =>
          cases t; cases a1; cases a2; cases a3
          exact ⟨r, _, _, _, rfl, hr, g1, hc.1, hc.2⟩
theorem run_take {α : Type} {As : α → List Sl} {bo : α → Addr} {pre : α → Prop} {P : α → PyData → Prop} {t : TS} {Ns : List Str} {E : XK} {H : Hp} {vs : List V} {Q : VK} (hh : SpB K As (fun W a => Bx W (bo a) ∧ pre a) 1 P vs H Q E)
    (hb : ∀ a B x d c, pre a → 0 ≤ c → c ≤ 2 ^ 40 → Sb K B (B.push K (bo a) (.lst [.int x, .int d, .int c])) 0 t (As a ++ List.replicate (Ns.length - (As a).length) .no) (fun _ _ => False) (RtB K (bo a) c (P a))) :
    t { nx := fun _ H' => Q .non H', rt := Q } (L2.start Ns vs) H := by
  obtain ⟨W, n, a, hv, o, ⟨bx, hp⟩, q⟩ := hh
  obtain ⟨vs0, g0, x, d, c, e0, c1, c2⟩ := bx.get _ _ _ o
  subst e0
  have o1 := but_ok (K := K) o g0
  have fe := fr_but (H := H) (H' := H) bx
  have e : Env K (((W.but (bo a) H).push K (bo a) (.lst [.int x, .int d, .int c])).fr H) (L2.start Ns vs) (As a ++ List.replicate (Ns.length - (As a).length) .no) := by
    show Env K (off (bo a :: (W.but (bo a) H).ps) H) _ _
    rw [fe]
    unfold L2.start
    have hl := hv.len
    rw [hl]
    exact Env.of_all hv _
  refine hb a (W.but (bo a) H) x d c hp c1 (by omega) Ext.push _ _ H 0 (W.fr H) e (by show Same _ (off (bo a :: (W.but (bo a) H).ps) H); rw [fe]; exact Same.refl _) (o1.low (by omega)) (fun _ _ _ _ _ z => z.elim) fun v H' f' o' r => ?_
  obtain ⟨r, x', d', c', e1, hP, g, k1, k2⟩ := r
  subst e1
  have s : Same (W.fr H) (W.fr H') := fun p z hz => by
    have h1 := f' p z hz
    by_cases hp : p ∈ W.ps
    · have hz' : off W.ps H p = some z := hz
      unfold off at hz'; rw [if_pos hp] at hz'; cases hz'
    · show off W.ps H' p = some z
      have h2 : off (W.but (bo a) H).ps H' p = some z := h1
      unfold off at h2 ⊢
      rw [if_neg hp]
      by_cases hq : p ∈ (W.but (bo a) H).ps
      · rw [if_pos hq] at h2; cases h2
      · rw [if_neg hq] at h2; exact h2
  show Q (.int r) H'
  exact q _ H' (.int r) s (but_back bx o o' s (by omega) g ⟨x', d', c', rfl, by omega, by omega⟩) (.int r) hP
/-! draws -/
theorem bt_of {x : Int} (h1 : l ≤ x) (h2 : x ≤ h) : Bt l h (.int x) := ⟨x, rfl, h1, h2⟩
theorem ek_bt {x lo hi : Int} (hh : EvD K W te ρ (.int x)) (e1 : lo ≤ x) (e2 : x ≤ hi) : EvK K W 0 te ρ (isD (Bt lo hi)) := ek_ev (hh.is (bt_of e1 e2))
theorem bt_to {lo hi : Int} {d : PyData} (hh : Bt l h d) (e1 : lo ≤ l) (e2 : h ≤ hi) : Bt lo hi d := by
  obtain ⟨r, e, a, b⟩ := hh
  exact ⟨r, e, by omega, by omega⟩
theorem ek_bto {lo hi : Int} (hh : EvK K W k te ρ (isD (Bt l h))) (e1 : lo ≤ l) (e2 : h ≤ hi) : EvK K W k te ρ (isD (Bt lo hi)) := ek_to hh fun s ⟨d, e, q⟩ => ⟨d, e, bt_to q e1 e2⟩
theorem ek_add (ha : EvK K W k1 ta ρ (isD (Bt l1 h1))) (hb : EvK K W k2 tb ρ (isD (Bt l2 h2))) : EvK K W (k1 + k2) (tOp (rPlus K) ta tb) ρ (isD (Bt (l1 + l2) (h1 + h2))) := ek_op ha hb fun a b ⟨r, ea, p1, p2⟩ ⟨r', eb, q1, q2⟩ => by
  subst ea eb
  exact ⟨_, rv_add, fun d hd => ⟨_, hd, by omega, by omega⟩⟩
theorem ek_sub (ha : EvK K W k1 ta ρ (isD (Bt l1 h1))) (hb : EvK K W k2 tb ρ (isD (Bt l2 h2))) : EvK K W (k1 + k2) (tOp (rI0 fun i j => .int (i - j)) ta tb) ρ (isD (Bt (l1 - h2) (h1 - l2))) := ek_op ha hb fun a b ⟨r, ea, p1, p2⟩ ⟨r', eb, q1, q2⟩ => by
  subst ea eb
  exact ⟨_, rv_I0 fun _ => .int _, fun d hd => ⟨_, hd, by omega, by omega⟩⟩
/-- least * (..) -/
theorem ek_mul {x : Int} (ha : EvD K W ta ρ (.int x)) (hx : 0 ≤ x) (hx' : x < 2 ^ 60) (hb : EvK K W k2 tb ρ (isD (Bt l2 h2))) : EvK K W (0 + k2) (tOp (rI CMul fun i j => .int (i * j)) ta tb) ρ (isD (Bt (x * l2) (x * h2))) := ek_op (ek_ev ha) hb fun a b ea ⟨r', eb, q1, q2⟩ => by
  subst ea eb
  exact ⟨_, rv_I (Or.inl ⟨by omega, by omega⟩) fun _ => .int _, fun d hd => ⟨_, hd, Int.mul_le_mul_of_nonneg_left q1 hx, Int.mul_le_mul_of_nonneg_left q2 hx⟩⟩
theorem ek_max {x : Int} (ha : EvD K W ta ρ (.int x)) (hb : EvK K W k2 tb ρ (isD (Bt l2 h2))) : EvK K W (0 + (k2 + 0)) (tCB rMax2 (tCons ta (tCons tb tNil))) ρ (isD (Bt (max x l2) (max x h2))) := ek_cb (eak_cons (ek_ev ha) fun _ _ => eak_cons hb fun _ _ => eak_nil) fun ss hs => by
  obtain ⟨s, r, e, ⟨d, e1, e2⟩, s2, r2, e3, ⟨d2, e4, r', e5, q1, q2⟩, e6⟩ := hs
  subst e e1 e2 e3 e4 e5 e6
  exact ⟨[.int x, .int r'], _, rfl, rc_max, fun d hd => ⟨_, hd, by omega, by omega⟩⟩
end
end CW
end W8x
section C1x
set_option Elab.async false
set_option linter.all false
set_option maxRecDepth 100000
namespace CW
open PySem PySem.Spec PyProof.Rows L2 StX RZ
section
variable {P : Program} {w : World} {K : PySem.W.Frag} {mg : PySem.Str → Option Value} {base : Heap} {f : Addr} {fd : FuncData}
abbrev sp__law_take (K : PySem.W.Frag) : Sp := SpB K (α := Addr × Int) (fun a => [.at a.1, .dat (.int a.2)]) (fun W a => Bx W a.1 ∧ (0 < a.2 ∧ a.2 < 1073741824)) 1 (fun a => Bt 0 (a.2 - 1))
theorem mod_bt {x y : Int} (h : 0 < y) : Bt 0 (y - 1) (.int (x % y)) := ⟨_, rfl, Int.emod_nonneg _ (by omega), by have := Int.emod_lt_of_pos x h; omega⟩
theorem ok__law_take (F : FnP K "_law_take" s__law_take f fd) (T : Tx mg)  : FnOk P w K mg base CX0 1 f fd ["_law_box_here", "_law_below"] (sp__law_take K) := by
  have nd := sc__law_take.nd
  refine F.ok sc__law_take (fun vs H Q E h => spb_len (fun _ => rfl) h) (fun cdv A outer s H vs Q E hr h => ⟨_, PSs.nox (pss_cons (ps_if (pt_cmpR op_gt (pe_ix (ix_seqK (K := K) rfl) (pv 0) pe_int fun _ _ => rfl) pe_int (nomark _)) (pss_cons (ps_set (i := 2) nd rfl (Or.inl rfl) (pe_op op_mod (pe_callTy call_int1K rfl T.int (by decide +kernel) (pa_cons (pe_ix (ix_seqK (K := K) rfl) (pv 0) pe_int fun _ _ => rfl) pa_nil)) (pv 1))) (pss_cons (ps_asg (pe_op op_fdiv (pe_ix (ix_seqK (K := K) rfl) (pv 0) pe_int fun _ _ => rfl) (pv 1)) (pg_sub (pv 0) pe_int set_list)) (pss_one (ps_ret (pv 2))))) pss_nil) (pss_cons (ps_asg (pe_op (op_plusK (K := K) rfl) (pe_ix (ix_seqK (K := K) rfl) (pv 0) pe_int fun _ _ => rfl) pe_int) (pg_sub (pv 0) pe_int set_list)) (pss_cons (ps_set (i := 3) nd rfl (Or.inl rfl) (pe_op op_mod (pe_callTy call_int1K rfl T.int (by decide +kernel) (pa_cons (pe_op op_mul (pe_op (op_plusK (K := K) rfl) (pe_ix (ix_seqK (K := K) rfl) (pv 0) pe_int fun _ _ => rfl) (pe_op op_mul pe_int (pe_ix (ix_seqK (K := K) rfl) (pv 0) pe_int fun _ _ => rfl))) (pe_op (op_plusK (K := K) rfl) pe_int (pe_ix (ix_seqK (K := K) rfl) (pv 0) pe_int fun _ _ => rfl))) pa_nil)) pe_int)) (pss_cons (ps_set (i := 4) nd rfl (Or.inl rfl) (pe_op (op_plusK (K := K) rfl) (pe_op op_mod (pe_callTy call_int1K rfl T.int (by decide +kernel) (pa_cons (pv 3) pa_nil)) pe_int) pe_int)) (pss_cons (ps_set (i := 5) nd rfl (Or.inl rfl) (pe_op op_mod (pe_callTy call_int1K rfl T.int (by decide +kernel) (pa_cons (pe_op op_mul (pe_op (op_plusK (K := K) rfl) (pe_op (op_plusK (K := K) rfl) (pv 3) (pe_ix (ix_seqK (K := K) rfl) (pv 0) pe_int fun _ _ => rfl)) (pe_op op_fdiv (pe_ix (ix_seqK (K := K) rfl) (pv 0) pe_int fun _ _ => rfl) pe_int)) (pv 4)) pa_nil)) pe_int)) (pss_one (ps_ret (pe_op op_mod (pe_callTy call_int1K rfl T.int (by decide +kernel) (pa_cons (pe_op op_fdiv (pe_op op_mod (pe_callTy call_int1K rfl T.int (by decide +kernel) (pa_cons (pe_op (op_plusK (K := K) rfl) (pe_op op_mul (pv 5) pe_int) (pv 3)) pa_nil)) pe_int) pe_int) pa_nil)) (pv 1))))))))), run_take (bo := fun (a : Addr × Int) => a.1) (Ns := N__law_take) h fun a B x d c hp c1 c2 => ?_⟩)
  obtain ⟨b, m⟩ := a
  obtain ⟨m1, m2⟩ := hp
  refine sb_seq (sb_if (b := decide (0 < x)) (et_test (ev_gt (ev_ixM rfl Mu.here (ev_int 0) rfl) (ev_int 0))) (fun _ => ?_) fun _ => sb_next ?_)
  · refine sb_seq (sb_asgD (ev_mod (ev_int1 (ev_ixM rfl Mu.here (ev_int 0) rfl)) (ev_var rfl) m1) ?_)
    refine sb_seq (sb_setL (j := 0) rfl Mu.here (fun _ _ => Ext.push) (ev_fdiv (ev_ixM rfl Mu.here (ev_int 0) rfl) (ev_var rfl) ⟨m1, m2⟩) (ev_int 0) rfl ?_)
    exact sb_ret_box (Ext.refl _) (ev_var rfl) (mod_bt m1) (by omega)
  · refine sb_seq (sb_setL (j := 2) rfl Mu.here (fun _ _ => Ext.push) (ev_add (ev_ixM rfl Mu.here (ev_int 2) rfl) (ev_int 1)) (ev_int 2) rfl ?_)
    refine sb_seq (sb_asgD (ev_mod (ev_int1 (ev_mul (ev_add (ev_ixM rfl Mu.here (ev_int 1) rfl) (ev_mul (ev_int _) (ev_ixM rfl Mu.here (ev_int 2) rfl) (.inl (by omega)))) (ev_add (ev_int _) (ev_ixM rfl Mu.here (ev_int 2) rfl)) (.inr (by constructor <;> omega)))) (ev_int _) (by omega)) ?_)
    refine sb_seq (sb_asgD (ev_add (ev_mod (ev_int1 (ev_var rfl)) (ev_int _) (by omega)) (ev_int _)) ?_)
    refine sb_seq (sb_asgD (ev_mod (ev_int1 (ev_mul (ev_add (ev_add (ev_var rfl) (ev_ixM rfl Mu.here (ev_int 2) rfl)) (ev_fdiv (ev_ixM rfl Mu.here (ev_int 1) rfl) (ev_int _) (by constructor <;> omega))) (ev_var rfl) (.inr (by constructor <;> omega)))) (ev_int _) (by omega)) ?_)
    exact sb_ret_box (Ext.refl _) (ev_mod (ev_int1 (ev_fdiv (ev_mod (ev_int1 (ev_add (ev_mul (ev_var rfl) (ev_int _) (.inr (by constructor <;> omega))) (ev_var rfl))) (ev_int _) (by omega)) (ev_int _) (by constructor <;> omega))) (ev_var rfl) m1) (mod_bt m1) (by omega)

end
end CW
end C1x
section C2x
set_option Elab.async false
set_option linter.all false
set_option maxRecDepth 100000
namespace CW
open PySem PySem.Spec PyProof.Rows L2 StX RZ
section
variable {P : Program} {w : World} {K : PySem.W.Frag} {mg : PySem.Str → Option Value} {base : Heap} {f : Addr} {fd : FuncData}
variable {B W : Wd} {k k1 k2 : Nat} {ρ : List Sl} {te ta tb : TE} {i : Nat} {b : Addr}
theorem ek_take {m : Int} {E : XK} (hi : ρ[i]? = some (.at b)) (bx : Bx W b) (h : EvD K W te ρ (.int m)) (h1 : 0 < m) (h2 : m < 1073741824) : EvK K W 1 (tCall (sp__law_take K) [] E (tCons (tVar i) (tCons te tNil))) ρ (isD (Bt 0 (m - 1))) :=
  ek_call (k1 := 0) (k2 := 1) (eak_cons (k1 := 0) (k2 := 0) (ek_at hi) fun _ _ => eak_cons (k1 := 0) (k2 := 0) (ek_ev h) fun _ _ => eak_nil) fun ss hs => by
    obtain ⟨s, r, e, e1, s2, r2, e3, ⟨d2, e4, e5⟩, e6⟩ := hs
    subst e e1 e3 e4 e5 e6
    exact ⟨(b, m), rfl, ⟨bx, h1, h2⟩, fun d hd => hd⟩
def Bts (n : Nat) (lo hi : Int) (ss : List Sl) : Prop := ∃ xs : List Int, ss = xs.map (fun x => Sl.dat (.int x)) ∧ xs.length = n ∧ ∀ x ∈ xs, lo ≤ x ∧ x ≤ hi
theorem bts_nil {lo hi : Int} : EvAK K W 0 tNil ρ (Bts 0 lo hi) := eak_to eak_nil fun ss e => ⟨[], by rw [e]; rfl, rfl, fun x h => by cases h⟩
theorem bts_cons {n : Nat} {tr : TA} {lo hi : Int} (h : EvK K W k1 te ρ (isD (Bt lo hi))) (hr : EvAK K W k2 tr ρ (Bts n lo hi)) : EvAK K W (k1 + k2) (tCons te tr) ρ (Bts (n + 1) lo hi) := eak_to (eak_cons h fun _ _ => hr) fun ss hs => by
  obtain ⟨s, r, e, ⟨d, e1, x, e2, a1, a2⟩, xs, e3, e4, e5⟩ := hs
  subst e e1 e2 e3
  refine ⟨x :: xs, rfl, by simp [e4], fun y hy => ?_⟩
  rcases List.mem_cons.mp hy with z | z
  · rw [z]; exact ⟨a1, a2⟩
  · exact e5 y z
theorem bts_cons0 {n : Nat} {tr : TA} {lo hi x : Int} (h : EvD K W te ρ (.int x)) (h1 : lo ≤ x) (h2 : x ≤ hi) (hr : EvAK K W k2 tr ρ (Bts n lo hi)) : EvAK K W k2 (tCons te tr) ρ (Bts (n + 1) lo hi) := by
  have := bts_cons (k1 := 0) (ek_bt h h1 h2) hr
  rwa [Nat.zero_add] at this
abbrev sp__law_of (K : PySem.W.Frag) : Sp := SpB K (α := Addr × List Int) (fun a => [.at a.1, .dat (lI a.2)]) (fun W a => Bx W a.1 ∧ (a.2 ≠ [] ∧ a.2.length < 1000)) 1 (fun a d => ∃ x ∈ a.2, d = .int x)
theorem ok__law_of (F : FnP K "_law_of" s__law_of f fd) (T : Tx mg) (O__law_take : Ok P w K mg base "_law_take" 1 ["_law_box_here", "_law_below"] (sp__law_take K)) : FnOk P w K mg base CX0 2 f fd ["_law_box_here", "_law_some"] (sp__law_of K) := by
  have nd := sc__law_of.nd
  refine F.ok sc__law_of (fun vs H Q E h => spb_len (fun _ => rfl) h) (fun cdv A outer s H vs Q E hr h => ⟨_, PSs.nox (pss_one (ps_ret (pe_ix (ix_seqK (K := K) rfl) (pv 1) (pe_f O__law_take hr rfl (pa_cons (pv 0) (pa_cons (pe_callB (call_lenK (K := K) rfl) rfl T.len (by decide +kernel) (pa_cons (pv 1) pa_nil)) pa_nil))) fun _ _ => rfl))), run_box (Ns := N__law_of) h fun a B hp => ?_⟩)
  obtain ⟨b, xs⟩ := a
  obtain ⟨bx, h1, h2⟩ := hp
  have h2 : xs.length < 1000 := h2
  have hl : 0 < xs.length := List.length_pos_iff.mpr h1
  refine sb_retK (ek_op (k1 := 0) (k2 := 1) (ek_ev (ev_var (d := lI xs) rfl)) (ek_take rfl bx (ev_lenL (ds := xs.map .int) (ev_var rfl)) (by simp; omega) (by simp; omega)) fun a b ea ⟨r, eb, q1, q2⟩ => ?_)
  subst ea eb
  simp only [List.length_map] at q2
  obtain ⟨j, rfl⟩ := Int.eq_ofNat_of_zero_le q1
  have hj : j < xs.length := by omega
  refine ⟨_, rv_ixL (d := .int xs[j]) (atI_nat (by rw [List.getElem?_map, List.getElem?_eq_getElem hj]; rfl)), fun d hd => ⟨xs[j], List.getElem_mem hj, hd⟩⟩
theorem ek_of {n : Nat} {lo hi : Int} {tr : TA} {E : XK} (hi' : ρ[i]? = some (.at b)) (bx : Bx W b) (h : EvAK K W k tr ρ (Bts (n + 1) lo hi)) (hn : n < 100) : EvK K W (k + 1) (tCall (sp__law_of K) [] E (tCons (tVar i) (tCons (tLst tr) tNil))) ρ (isD (Bt lo hi)) := by
  have h2 := ek_lst (R := fun d => ∃ xs : List Int, d = lI xs ∧ xs.length = n + 1 ∧ ∀ x ∈ xs, lo ≤ x ∧ x ≤ hi) h fun ss ⟨xs, e1, e2, e3⟩ => ⟨xs.map .int, by rw [e1, List.map_map]; rfl, by simp; omega, xs, rfl, e2, e3⟩
  have := ek_call (As := fun a : Addr × List Int => [.at a.1, .dat (lI a.2)]) (pre := fun W a => Bx W a.1 ∧ (a.2 ≠ [] ∧ a.2.length < 1000)) (B := fun a d => ∃ x ∈ a.2, d = .int x) (E := E) (R := Bt lo hi) (k1 := 0 + (k + 0)) (k2 := 1) (eak_cons (k1 := 0) (k2 := k + 0) (ek_at hi') fun _ _ => eak_cons (k1 := k) (k2 := 0) h2 fun _ _ => eak_nil) fun ss hs => by
    obtain ⟨s, r, e, e1, s2, r2, e3, ⟨d2, e4, xs, e5, e7, e8⟩, e6⟩ := hs
    subst e e1 e3 e4 e5 e6
    refine ⟨(b, xs), rfl, ⟨bx, ?_, by simp only; omega⟩, fun d ⟨x, hx, hd⟩ => ⟨x, hd, e8 x hx⟩⟩
    intro z
    simp only at z
    rw [z] at e7; cases e7
  rwa [Nat.zero_add, Nat.add_zero] at this

end
end CW
end C2x
section W9x
set_option Elab.async false
set_option linter.all false
set_option maxRecDepth 100000
/-! Walks and comprehensions in which the box is drawn from. -/
namespace CW
open PySem PySem.Spec PyProof.Rows L2 StX RZ
def EvIK (K : PySem.W.Frag) (W : Wd) (k : Nat) (wi : TI) (ρ : List Sl) (P : List PyData → Prop) : Prop := ∀ (σ : L2.St) (H : Hp) (n : Nat), Env K (W.fr H) σ ρ → W.ok (n + k) H → ∀ R : It → Hp → Prop, (∀ J H' ds, Same (W.fr H) (W.fr H') → W.ok n H' → P ds → Wk K (W.fr H') J ds → R J H') → wi σ H R
section
variable {K : PySem.W.Frag} {B W : Wd} {k k0 kb : Nat} {ρ : List Sl} {te : TE} {t : TS} {wi : TI} {g : TG} {N : Wd → List Sl → Prop} {R : Hp → V → Hp → Prop}
/-- range(a draw) -/
theorem eik_range {lo m : Int} (h : EvK K W k te ρ (isD (Bt lo m))) (hl : -(2 ^ 62) ≤ lo) (hm : m < 2 ^ 62) : EvIK K W k (iRng1 (tCons te tNil)) ρ fun ds => ∃ n : Nat, ds = rangeD 0 n ∧ lo ≤ n ∧ (n : Int) ≤ max m 0 := fun σ H n e o R q =>
  h σ H n e o _ fun v H1 s f1 o1 hv ⟨d, es, r, ed, r1, r2⟩ => by
    subst es ed
    cases hv
    exact ⟨r, rfl, by omega, by omega, q _ _ _ f1 o1 ⟨r.toNat, rfl, by omega, by omega⟩ wk_range⟩
theorem eik_ev {ds : List PyData} (h : EvI K W wi ρ ds) : EvIK K W 0 wi ρ fun es => es = ds := fun σ H n e o R q =>
  h σ H n e o _ fun J H' s wk => q J H' ds (fr_to s) (o.to s) rfl wk
/-- for over a walk that draws -/
theorem sb_forK {P : PyData → Prop} {Pd : List PyData → Prop} {mx : Nat} (hi : EvIK K W k0 wi ρ Pd) (hmx : ∀ es, Pd es → es.length ≤ mx) (V : Nat → Wd → List Sl → Prop) (h0 : V 0 W ρ)
    (hb : ∀ es, Pd es → ∀ i d W' ρ', es[i]? = some d → Ext B W' → V i W' ρ' → ∃ ρ'' js, EvG K g ρ' d ρ'' js ∧ Sb K B W' kb t ρ'' (V (i + 1)) (Rt K B P))
    (hd : ∀ es, Pd es → ∀ W' ρ', V es.length W' ρ' → N W' ρ') (hk : k0 + mx * kb ≤ k) : Sb K B W k (tFor wi g t) ρ N (Rt K B P) := fun x D σ H n F e f o kn kr => by
  refine hi σ H (n + mx * kb) e (o.low (by omega)) _ fun J H1 es f0 o1 hP wk => ?_
  have hes := hmx es hP
  have e1 := e.mono f0
  have f1 := Same.trans f f0
  have o1' : W.ok (n + es.length * kb) H1 := o1.low (by have := Nat.mul_le_mul_right kb hes; omega)
  let Pv : Nat → L2.St → Hp → Prop := fun i σ H => ∃ W' ρ', Ext B W' ∧ V i W' ρ' ∧ Env K (W'.fr H) σ ρ' ∧ Same (W.fr H1) (W'.fr H) ∧ W'.ok (n + (es.length - i) * kb) H
  refine ⟨fun i m σ H => m = es.length - i ∧ i ≤ es.length ∧ Pv i σ H, ⟨es.length, by simp, Nat.zero_le _, W, ρ, x, h0, e1, Same.refl _, o1'⟩, ?_⟩
  rintro i m σ2 H2 ⟨rfl, hle, W', ρ', x', hV, e2, f2, o2⟩
  by_cases hlt : i < es.length
  · refine .inr ⟨wk.goes i H2 hlt (Same.trans f2 fr_le), Pv (i + 1), fun σ' H' p => ⟨es.length - (i + 1), by omega, rfl, hlt, p⟩, fun v H3 y => ?_⟩
    obtain ⟨s3, d, hd3, iv⟩ := wk.yields W' _ i H2 v H3 hlt f2 o2 y
    obtain ⟨ρ'', js, hg, hbody⟩ := hb es hP i d W' ρ' hd3 x' hV
    refine hg v σ2 (W'.fr H3) H3 (e2.mono (fr_to s3)) fr_le iv _ fun σ3 l3 e3 _ => ?_
    have ek : n + (es.length - i) * kb = n + (es.length - (i + 1)) * kb + kb := by
      have : es.length - i = (es.length - (i + 1)) + 1 := by omega
      rw [this, Nat.succ_mul]
      omega
    rw [ek] at o2
    refine hbody x' _ σ3 H3 (n + (es.length - (i + 1)) * kb) (W.fr H1) e3 (Same.trans f2 (fr_to s3)) (o2.to s3) (fun W4 ρ4 σ4 H4 x4 v4 e4 f4 o4 => ⟨W4, ρ4, x4, v4, e4, f4, o4⟩) fun v4 H4 f4 o4 r4 => ?_
    exact kr v4 H4 (Same.trans f1 f4) (o4.low (by omega)) r4
  · have ei : i = es.length := by omega
    subst ei
    refine .inl ⟨wk.stops H2 (Same.trans f2 fr_le), kn W' ρ' σ2 H2 x' (hd es hP W' ρ' hV) e2 (Same.trans f1 f2) (o2.low (by omega))⟩
/-- [e for .. in ..], where e draws -/
theorem ek_lcK {P : PyData → Prop} {Pd : List PyData → Prop} {mx : Nat} {vs js : List Nat} (hi : EvIK K W k0 wi ρ Pd) (hmx : ∀ es, Pd es → es.length ≤ mx) (ρd : PyData → List Sl) (hjs : ∀ j ∈ js, j ∈ vs)
    (hg : ∀ es, Pd es → ∀ d ∈ es, EvG K g (wipeR ρ vs) d (ρd d) js)
    (he : ∀ D acc, ∀ es, Pd es → ∀ d ∈ es, EvK K (W.push K D (.lst acc)) kb te (ρd d) (isD P)) (hz : mx < 16777216) (hk : k0 + mx * kb ≤ k) :
    EvK K W k (tLc wi g tYes te vs) ρ (isD fun d => ∃ ds, d = .list ds ∧ (∃ es, Pd es ∧ ds.length = es.length) ∧ ∀ x ∈ ds, P x) := fun σ H n e o Q q => by
  refine hi σ H (n + mx * kb) e (o.low (by omega)) _ fun J H1 es f0 o1 hP wk D hD => ?_
  have hes := hmx es hP
  have e1 := e.mono f0
  have o1' : W.ok (n + es.length * kb) H1 := o1.low (by have := Nat.mul_le_mul_right kb hes; omega)
  let Pv : Nat → Hp → Prop := fun i H2 => ∃ acc, acc.length = i ∧ (∀ x ∈ acc, P x) ∧ Same (W.fr H1) ((W.push K D (.lst acc)).fr H2) ∧ (W.push K D (.lst acc)).ok (n + (es.length - i) * kb) H2
  refine ⟨fun i m H2 => m = es.length - i ∧ i ≤ es.length ∧ Pv i H2, ⟨es.length, by simp, Nat.zero_le _, [], rfl, fun x h => (List.not_mem_nil h).elim, fr_push o1' hD (Same.new hD), push_new o1' hD (Same.new hD) ⟨[], upd_same, .nil⟩⟩, ?_⟩
  rintro i m H2 ⟨rfl, hle, acc, hacc, hPa, f2, o2⟩
  by_cases hlt : i < es.length
  · refine .inr ⟨wk.goes i H2 hlt (Same.trans f2 (off_le _ _)), Pv (i + 1), fun H' p => ⟨es.length - (i + 1), by omega, rfl, hlt, p⟩, fun x H3 y => ?_⟩
    obtain ⟨s3, d, hd, ix⟩ := wk.yields _ _ i H2 x H3 hlt f2 o2 y
    have hm := List.mem_of_getElem? hd
    have ek : n + (es.length - i) * kb = n + (es.length - (i + 1)) * kb + kb := by
      have : es.length - i = (es.length - (i + 1)) + 1 := by omega
      rw [this, Nat.succ_mul]
      omega
    rw [ek] at o2
    have o3 := o2.to s3
    have f3 : Same (W.fr H1) ((W.push K D (.lst acc)).fr H3) := Same.trans f2 (off_same s3)
    refine hg es hP d hm x (wipe σ vs) _ H3 ((e1.mono f3).wipe vs) (off_le _ _) ix _ fun σ2 l2 e2 hs => ?_
    refine ⟨js_wipe (by rw [l2, wipe_length]) hjs hs, ?_⟩
    simp only [tYes, ↓reduceIte]
    refine he D acc es hP d hm σ2 H3 _ e2 o3 _ fun y4 H4 s4 f4 o4 hy ⟨d4, e4, hd4⟩ => ?_
    subst e4
    obtain ⟨vs5, h5, a5⟩ := o4.2.2
    obtain ⟨ok5, fr5⟩ := (Mu.here (K := K) (W := W) (p := D) (ds := acc)).ok o4 (a5.snoc hy)
    refine ⟨vs5, h5, ?_, acc ++ [d4], by simp [hacc], ?_, ?_, ok5⟩
    · rw [a5.len, sizeLine_eq]
      omega
    · intro z hz
      rcases List.mem_append.mp hz with hz | hz
      · exact hPa z hz
      · rw [List.mem_singleton.mp hz]; exact hd4
    · rw [fr5]; exact Same.trans f3 f4
  · have ei : i = es.length := by omega
    subst ei
    refine .inl ⟨wk.stops H2 (Same.trans f2 (off_le _ _)), ?_⟩
    obtain ⟨vs2, h2, a2⟩ := o2.2.2
    have fw : Same (off (D :: W.ps) H2) (W.fr H2) := off_sub (fun _ h => List.mem_cons_of_mem _ h) H2
    have hDn : D ∉ W.ps := o2.1
    refine q (.ref D) H2 (.dat (.list acc)) (Same.trans f0 (Same.trans f2 fw)) ((Ext.push.ok o2).low (by omega)) (Is.lst (.inl (.inl ?_)) (a2.mono fw)) ⟨_, rfl, acc, rfl, ⟨es, hP, hacc⟩, hPa⟩
    show off W.ps H2 D = _
    unfold off
    rw [if_neg hDn]
    exact h2
end
end CW
end W9x
section C3x
set_option Elab.async false
set_option linter.all false
set_option maxRecDepth 100000
namespace CW
open PySem PySem.Spec PyProof.Rows L2 StX RZ
section
variable {P : Program} {w : World} {K : PySem.W.Frag} {mg : PySem.Str → Option Value} {base : Heap} {f : Addr} {fd : FuncData}
variable {B W : Wd} {k k1 k2 : Nat} {ρ : List Sl} {te ta tb : TE} {i : Nat} {b : Addr}
structure BoxA where
  b : Addr
  L : Int
  m : Int
def RowP (n : Nat) (lo hi : Int) (d : PyData) : Prop := ∃ xs : List Int, d = tI xs ∧ xs.length ≤ n ∧ ∀ x ∈ xs, lo ≤ x ∧ x ≤ hi
abbrev sp__law_batch (K : PySem.W.Frag) : Sp := SpB K (α := BoxA) (fun a => [.at a.b, .dat (.int a.L), .dat (.int a.m)]) (fun W a => Bx W a.b ∧ (1 ≤ a.L ∧ a.L ≤ 12 ∧ 1 ≤ a.m ∧ a.m ≤ 10)) 40 (fun a d => ∃ xs : List Int, d = tI xs ∧ xs ≠ [] ∧ xs.length ≤ a.m.toNat ∧ ∀ x ∈ xs, a.L ≤ x ∧ x ≤ 100)
theorem ok__law_batch (F : FnP K "_law_batch" s__law_batch f fd) (T : Tx mg) (O__law_take : Ok P w K mg base "_law_take" 1 ["_law_box_here", "_law_below"] (sp__law_take K)) (O__law_of : Ok P w K mg base "_law_of" 2 ["_law_box_here", "_law_some"] (sp__law_of K)) : FnOk P w K mg base CX0 3 f fd ["_law_box_here", "_law_least_so", "_law_at_most"] (sp__law_batch K) := by
  have nd := sc__law_batch.nd
  refine F.ok sc__law_batch (fun vs H Q E h => spb_len (fun _ => rfl) h) (fun cdv A outer s H vs Q E hr h => ⟨_, PSs.nox (pss_cons (ps_set (i := 3) nd rfl (Or.inl rfl) (pe_lst pa_nil)) (pss_cons (ps_for PassesOwn.never rfl (pi_range1 rfl T.range (pa_cons (pe_op (op_plusK (K := K) rfl) pe_int (pe_f O__law_take (hr.mono (by decide)) rfl (pa_cons (pv 0) (pa_cons (pv 2) pa_nil)))) pa_nil)) (pg_name (i := 4) nd rfl (Or.inl rfl)) (pss_cons (ps_set (i := 5) nd rfl (Or.inl rfl) (pe_f O__law_of hr rfl (pa_cons (pv 0) (pa_cons (pe_lst (pa_cons pe_int (pa_cons pe_int (pa_cons pe_int (pa_cons (pe_f O__law_take (hr.mono (by decide)) rfl (pa_cons (pv 0) (pa_cons (pe_op (op_plusK (K := K) rfl) (pv 1) pe_int) pa_nil))) (pa_cons (pe_f O__law_take (hr.mono (by decide)) rfl (pa_cons (pv 0) (pa_cons (pe_op (op_plusK (K := K) rfl) (pe_op op_mul pe_int (pv 1)) pe_int) pa_nil))) pa_nil)))))) pa_nil)))) (pss_one (ps_expr (pe_bmK (K := K) rfl PySem.F.plainAttrs_list PySem.F.slot_list_append PySem.F.type_list_append mt_append (pv 3) (pa_cons (pe_op (op_plusK (K := K) rfl) (pv 1) (pv 5)) pa_nil)))))) (pss_one (ps_ret (pe_callTy (call_tupleK (K := K) rfl) rfl T.tuple (by decide +kernel) (pa_cons (pv 3) pa_nil)))))), run_box (Ns := N__law_batch) h fun a B hp => ?_⟩)
  obtain ⟨b, L, m⟩ := a
  obtain ⟨bx, h1, h2, h3, h4⟩ := hp
  simp only at h1 h2 h3 h4 bx
  refine sb_seq (sb_asgM (ef_lst ea_nil (by simp)) fun p => ?_)
  refine sb_seqK (k1 := 35) (k2 := 5) (sb_forK (mx := 10) (kb := 3) (k0 := 1) (eik_range (lo := 1) (m := m) (ek_bto (ek_add (k1 := 0) (k2 := 1) (ek_bt (lo := 1) (hi := 1) (ev_int 1) (by omega) (by omega)) (ek_take (m := m) rfl bx.up (ev_var rfl) (by omega) (by omega))) (by omega) (by omega)) (by omega) (by omega)) ?_
    (fun i W' ρ' => ∃ xs : List Int, W' = B.push K p (.lst (xs.map .int)) ∧ xs.length = i ∧ (∀ x ∈ xs, L ≤ x ∧ x ≤ 100) ∧ ∃ o1 o2, ρ' = [.at b, .dat (.int L), .dat (.int m), .at p, o1, o2]) ⟨[], rfl, rfl, fun x h => (List.not_mem_nil h).elim, _, _, rfl⟩ ?_ ?_ (by omega)) (by omega)
  · rintro es ⟨n, rfl, n1, n2⟩
    rw [rangeD_len]; omega
  · rintro es ⟨n, rfl, n1, n2⟩ i d W' ρ' hd x' ⟨xs, rfl, hl, hx, o1, o2, rfl⟩
    refine ⟨_, _, eg_name, ?_⟩
    have hi' := (List.getElem?_eq_some_iff.mp hd).1
    rw [rangeD_len] at hi'
    refine sb_seqK (k1 := 3) (k2 := 0) (sb_asgK (ek_of (n := 4) (lo := 0) (hi := 6 * L + 1) (k := 2) rfl bx.up (bts_cons0 (ev_int 0) (by omega) (by omega) (bts_cons0 (ev_int 0) (by omega) (by omega) (bts_cons0 (ev_int 1) (by omega) (by omega) (bts_cons (k1 := 1) (k2 := 1) (ek_bto (ek_take rfl bx.up (ev_add (ev_var rfl) (ev_int 1)) (by omega) (by omega)) (by omega) (by omega)) (bts_cons (k1 := 1) (k2 := 0) (ek_bto (ek_take rfl bx.up (ev_add (ev_mul (ev_int 6) (ev_var rfl) (.inl (by omega))) (ev_int 2)) (by omega) (by omega)) (by omega) (by omega)) bts_nil))))) (by omega)) ?_) (by omega)
    rintro d2 ⟨r, rfl, r1, r2⟩
    refine sb_append (k := 0) rfl Mu.here (fun _ _ => Ext.push) (ek_ev (ev_add (ev_var rfl) (ev_var rfl))) (by simp; omega) ?_
    rintro d3 rfl
    refine ⟨xs ++ [L + r], by simp, by simp [hl], ?_, _, _, rfl⟩
    intro z hz
    rcases List.mem_append.mp hz with hz | hz
    · exact hx z hz
    · rw [List.mem_singleton.mp hz]; omega
  · rintro es ⟨n, rfl, n1, n2⟩ W' ρ' ⟨xs, rfl, hl, hx, o1, o2, rfl⟩
    rw [rangeD_len] at hl
    refine sb_low (k1 := 0) (sb_ret_view (i := 3) rfl (Ext.refl _) (ev_tupL (ds := xs.map .int) (ev_var rfl)) fun d hd => ⟨xs, hd, ?_, ?_, hx⟩) (by omega)
    · intro z; rw [z] at hl; simp at hl; omega
    · show _ ≤ m.toNat
      omega
abbrev sp__law_row (K : PySem.W.Frag) : Sp := SpB K (α := BoxA) (fun a => [.at a.b, .dat (.int a.L), .dat (.int a.m)]) (fun W a => Bx W a.b ∧ (1 ≤ a.L ∧ a.L ≤ 12 ∧ 0 ≤ a.m ∧ a.m ≤ 10)) 40 (fun a => RowP a.m.toNat 1 200)
theorem ok__law_row (F : FnP K "_law_row" s__law_row f fd) (T : Tx mg) (O__law_take : Ok P w K mg base "_law_take" 1 ["_law_box_here", "_law_below"] (sp__law_take K)) (O__law_of : Ok P w K mg base "_law_of" 2 ["_law_box_here", "_law_some"] (sp__law_of K)) : FnOk P w K mg base CX0 3 f fd ["_law_box_here", "_law_least_so", "_law_at_most"] (sp__law_row K) := by
  have nd := sc__law_row.nd
  refine F.ok sc__law_row (fun vs H Q E h => spb_len (fun _ => rfl) h) (fun cdv A outer s H vs Q E hr h => ⟨_, PSs.nox (pss_cons (ps_par (i := 3) (j := 4) rfl nd rfl rfl (by decide) rfl rfl (pa_cons (pe_f O__law_take (hr.mono (by decide)) rfl (pa_cons (pv 0) (pa_cons pe_int pa_nil))) (pa_cons (pe_lst pa_nil) pa_nil)) rfl) (pss_cons (ps_set (i := 5) nd rfl (Or.inl rfl) (pe_op (op_plusK (K := K) rfl) (pe_op op_mul (pv 1) (pe_op (op_plusK (K := K) rfl) pe_int (pe_f O__law_take (hr.mono (by decide)) rfl (pa_cons (pv 0) (pa_cons pe_int pa_nil))))) (pe_f O__law_take (hr.mono (by decide)) rfl (pa_cons (pv 0) (pa_cons (pe_op (op_plusK (K := K) rfl) (pv 1) pe_int) pa_nil))))) (pss_cons (ps_for PassesOwn.never rfl (pi_range1 rfl T.range (pa_cons (pe_f O__law_take (hr.mono (by decide)) rfl (pa_cons (pv 0) (pa_cons (pe_op (op_plusK (K := K) rfl) (pv 2) pe_int) pa_nil))) pa_nil)) (pg_name (i := 6) nd rfl (Or.inl rfl)) (pss_one (ps_if (pt_cmpR (op_eqK (K := K) rfl (hu64 hr)) (pv 3) pe_int (nomark _)) (pss_one (ps_expr (pe_bmK (K := K) rfl PySem.F.plainAttrs_list PySem.F.slot_list_append PySem.F.type_list_append mt_append (pv 4) (pa_cons (pe_op (op_plusK (K := K) rfl) pe_int (pe_f O__law_take (hr.mono (by decide)) rfl (pa_cons (pv 0) (pa_cons (pe_op (op_plusK (K := K) rfl) (pe_op op_mul pe_int (pv 1)) pe_int) pa_nil)))) pa_nil)))) (pss_one (ps_if (pt_cmpR (op_eqK (K := K) rfl (hu64 hr)) (pv 3) pe_int (nomark _)) (pss_cons (ps_expr (pe_bmK (K := K) rfl PySem.F.plainAttrs_list PySem.F.slot_list_append PySem.F.type_list_append mt_append (pv 4) (pa_cons (pe_callB (call_max2K rfl) rfl T.max (by decide +kernel) (pa_cons pe_int (pa_cons (pv 5) pa_nil))) pa_nil))) (pss_one (ps_set (i := 5) nd rfl (Or.inl rfl) (pe_op op_sub (pe_op op_sub (pv 5) pe_int) (pe_f O__law_take (hr.mono (by decide)) rfl (pa_cons (pv 0) (pa_cons (pe_op (op_plusK (K := K) rfl) (pv 1) pe_int) pa_nil))))))) (pss_one (ps_if (pt_cmpR (op_eqK (K := K) rfl (hu64 hr)) (pv 3) pe_int (nomark _)) (pss_cons (ps_expr (pe_bmK (K := K) rfl PySem.F.plainAttrs_list PySem.F.slot_list_append PySem.F.type_list_append mt_append (pv 4) (pa_cons (pe_callB (call_max2K rfl) rfl T.max (by decide +kernel) (pa_cons pe_int (pa_cons (pv 5) pa_nil))) pa_nil))) (pss_one (ps_set (i := 5) nd rfl (Or.inl rfl) (pe_op op_sub (pe_op op_sub (pv 5) pe_int) (pe_f O__law_take (hr.mono (by decide)) rfl (pa_cons (pv 0) (pa_cons (pe_op (op_plusK (K := K) rfl) (pe_op op_mul pe_int (pv 1)) pe_int) pa_nil))))))) (pss_one (ps_if (pt_cmpR (op_eqK (K := K) rfl (hu64 hr)) (pv 3) pe_int (nomark _)) (pss_one (ps_expr (pe_bmK (K := K) rfl PySem.F.plainAttrs_list PySem.F.slot_list_append PySem.F.type_list_append mt_append (pv 4) (pa_cons (pe_callB (call_max2K rfl) rfl T.max (by decide +kernel) (pa_cons pe_int (pa_cons (pe_op op_sub (pv 5) (pe_f O__law_take (hr.mono (by decide)) rfl (pa_cons (pv 0) (pa_cons (pe_op (op_plusK (K := K) rfl) (pe_op op_mul pe_int (pv 1)) pe_int) pa_nil)))) pa_nil))) pa_nil)))) (pss_one (ps_expr (pe_bmK (K := K) rfl PySem.F.plainAttrs_list PySem.F.slot_list_append PySem.F.type_list_append mt_append (pv 4) (pa_cons (pe_f O__law_of hr rfl (pa_cons (pv 0) (pa_cons (pe_lst (pa_cons (pv 5) (pa_cons (pe_callB (call_max2K rfl) rfl T.max (by decide +kernel) (pa_cons pe_int (pa_cons (pe_op op_sub (pv 5) (pv 1)) pa_nil))) (pa_cons (pe_callB (call_max2K rfl) rfl T.max (by decide +kernel) (pa_cons pe_int (pa_cons (pe_op op_sub (pe_op op_sub (pv 5) (pv 1)) pe_int) pa_nil))) (pa_cons (pe_op op_mul pe_int (pv 1)) pa_nil))))) pa_nil))) pa_nil))))))))))))) (pss_one (ps_ret (pe_callTy (call_tupleK (K := K) rfl) rfl T.tuple (by decide +kernel) (pa_cons (pv 4) pa_nil))))))), run_box (Ns := N__law_row) h fun a B hp => ?_⟩)
  obtain ⟨b, L, m⟩ := a
  obtain ⟨bx, h1, h2, h3, h4⟩ := hp
  simp only at h1 h2 h3 h4 bx
  refine sb_seqK (k1 := 1) (k2 := 39) (sb_par (k1 := 1) (k2 := 0) (es_k (ek_take (m := 5) rfl bx (ev_int 5) (by omega) (by omega))) (fun W1 s1 h => es_new (ef_lst ea_nil (by simp))) ?_) (by omega)
  rintro W1 s1 W2 s2 ⟨e1, d, e3, way, e4, w1, w2⟩ ⟨p, e2, e5⟩
  subst e3 e4 e5
  rw [e1] at e2
  subst e2
  refine sb_seqK (k1 := 2) (k2 := 37) (sb_asgK (k := 2) (ek_bto (lo := 2 * L) (hi := 14 * L) (ek_add (k1 := 1) (k2 := 1) (ek_mul (k2 := 1) (x := L) (ev_var rfl) (by omega) (by omega) (ek_add (k1 := 0) (k2 := 1) (ek_bt (lo := 2) (hi := 2) (ev_int 2) (by omega) (by omega)) (ek_take (m := 12) rfl bx.up (ev_int 12) (by omega) (by omega)))) (ek_take (m := L + 1) rfl bx.up (ev_add (ev_var rfl) (ev_int 1)) (by omega) (by omega))) (by omega) (by omega)) ?_) (by omega)
  rintro d ⟨top0, rfl, t1, t2⟩
  refine sb_seqK (k1 := 37) (k2 := 0) (sb_forK (mx := 10) (kb := 1) (k0 := 1) (eik_range (lo := 0) (m := m) (ek_bto (ek_take (m := m + 1) rfl bx.up (ev_add (ev_var rfl) (ev_int 1)) (by omega) (by omega)) (by omega) (by omega)) (by omega) (by omega)) ?_
    (fun i W' ρ' => ∃ xs : List Int, W' = B.push K p (.lst (xs.map .int)) ∧ xs.length = i ∧ (∀ x ∈ xs, 1 ≤ x ∧ x ≤ 200) ∧ ∃ top o2, ρ' = [.at b, .dat (.int L), .dat (.int m), .dat (.int way), .at p, .dat (.int top), o2] ∧ top ≤ 14 * L ∧ (way = 4 → 2 * L ≤ top)) ⟨[], rfl, rfl, fun x h => (List.not_mem_nil h).elim, _, _, rfl, t2, fun _ => t1⟩ ?_ ?_ (by omega)) (by omega)
  · rintro es ⟨n, rfl, n1, n2⟩
    rw [rangeD_len]; omega
  · rintro es ⟨n, rfl, n1, n2⟩ i d W' ρ' hd x' ⟨xs, rfl, hl, hx, top, o2, rfl, g1, g2⟩
    refine ⟨_, _, eg_name, ?_⟩
    have hi' := (List.getElem?_eq_some_iff.mp hd).1
    rw [rangeD_len] at hi'
    have hlen : (xs.map PyData.int).length < 16777216 := by simp; omega
    have happ : ∀ r : Int, 1 ≤ r → r ≤ 200 → ∀ z ∈ xs ++ [r], 1 ≤ z ∧ z ≤ 200 := fun r r1 r2 z hz => by
      rcases List.mem_append.mp hz with hz | hz
      · exact hx z hz
      · rw [List.mem_singleton.mp hz]; omega
    refine sb_if (b := decide (way = 0)) (et_test (ev_eqI (ev_var rfl) (ev_int 0))) (fun _ => ?_) fun hw0 => ?_
    · refine sb_append (k := 1) rfl Mu.here (fun _ _ => Ext.push) (ek_bto (lo := 1) (hi := 200) (ek_add (k1 := 0) (k2 := 1) (ek_bt (lo := 1) (hi := 1) (ev_int 1) (by omega) (by omega)) (ek_take (m := 12 * L + 5) rfl bx.up (ev_add (ev_mul (ev_int 12) (ev_var rfl) (.inl (by omega))) (ev_int 5)) (by omega) (by omega))) (by omega) (by omega)) hlen ?_
      rintro d3 ⟨r, rfl, r1, r2⟩
      exact ⟨xs ++ [r], by simp, by simp [hl], happ r r1 r2, _, _, rfl, g1, g2⟩
    refine sb_if (b := decide (way = 1)) (et_test (ev_eqI (ev_var rfl) (ev_int 1))) (fun hw => ?_) fun hw1 => ?_
    · refine sb_seqK (k1 := 0) (k2 := 1) (sb_append (k := 0) rfl Mu.here (fun _ _ => Ext.push) (ek_ev (ev_max (ev_int 1) (ev_var rfl))) hlen ?_) (by omega)
      rintro d3 rfl
      refine sb_asgK (ek_sub (k1 := 0) (k2 := 1) (ek_bt (lo := top - 1) (hi := top - 1) (ev_sub (ev_var rfl) (ev_int 1)) (by omega) (by omega)) (ek_take (m := L + 2) rfl bx.up (ev_add (ev_var rfl) (ev_int 2)) (by omega) (by omega))) ?_
      rintro d4 ⟨r, rfl, r1, r2⟩
      have hw' : way = 1 := by simpa using hw
      exact ⟨xs ++ [max 1 top], by simp, by simp [hl], happ _ (by omega) (by omega), _, _, rfl, by omega, by omega⟩
    refine sb_if (b := decide (way = 2)) (et_test (ev_eqI (ev_var rfl) (ev_int 2))) (fun hw => ?_) fun hw2 => ?_
    · refine sb_seqK (k1 := 0) (k2 := 1) (sb_append (k := 0) rfl Mu.here (fun _ _ => Ext.push) (ek_ev (ev_max (ev_int 1) (ev_var rfl))) hlen ?_) (by omega)
      rintro d3 rfl
      refine sb_asgK (ek_sub (k1 := 0) (k2 := 1) (ek_bt (lo := top - 1) (hi := top - 1) (ev_sub (ev_var rfl) (ev_int 1)) (by omega) (by omega)) (ek_take (m := 2 * L + 3) rfl bx.up (ev_add (ev_mul (ev_int 2) (ev_var rfl) (.inl (by omega))) (ev_int 3)) (by omega) (by omega))) ?_
      rintro d4 ⟨r, rfl, r1, r2⟩
      have hw' : way = 2 := by simpa using hw
      exact ⟨xs ++ [max 1 top], by simp, by simp [hl], happ _ (by omega) (by omega), _, _, rfl, by omega, by omega⟩
    refine sb_if (b := decide (way = 3)) (et_test (ev_eqI (ev_var rfl) (ev_int 3))) (fun _ => ?_) fun hw3 => ?_
    · refine sb_append (k := 1) rfl Mu.here (fun _ _ => Ext.push) (ek_bto (lo := 1) (hi := 200) (ek_max (k2 := 1) (ev_int 1) (ek_sub (k1 := 0) (k2 := 1) (ek_bt (lo := top) (hi := top) (ev_var rfl) (by omega) (by omega)) (ek_take (m := 3 * L + 1) rfl bx.up (ev_add (ev_mul (ev_int 3) (ev_var rfl) (.inl (by omega))) (ev_int 1)) (by omega) (by omega)))) (by omega) (by omega)) hlen ?_
      rintro d3 ⟨r, rfl, r1, r2⟩
      exact ⟨xs ++ [r], by simp, by simp [hl], happ r r1 r2, _, _, rfl, g1, g2⟩
    · have hw4 : way = 4 := by
        simp only [decide_eq_false_iff_not] at hw0 hw1 hw2 hw3
        omega
      have g3 := g2 hw4
      refine sb_append (k := 1) rfl Mu.here (fun _ _ => Ext.push) (ek_of (n := 3) (k := 0) (lo := 1) (hi := 200) rfl bx.up (bts_cons0 (x := top) (ev_var rfl) (by omega) (by omega) (bts_cons0 (x := max 1 (top - L)) (ev_max (ev_int 1) (ev_sub (ev_var rfl) (ev_var rfl))) (by omega) (by omega) (bts_cons0 (x := max 1 (top - L - 1)) (ev_max (ev_int 1) (ev_sub (ev_sub (ev_var rfl) (ev_var rfl)) (ev_int 1))) (by omega) (by omega) (bts_cons0 (x := 2 * L) (ev_mul (ev_int 2) (ev_var rfl) (.inl (by omega))) (by omega) (by omega) bts_nil)))) (by omega)) hlen ?_
      rintro d3 ⟨r, rfl, r1, r2⟩
      exact ⟨xs ++ [r], by simp, by simp [hl], happ r r1 r2, _, _, rfl, g1, g2⟩
  · rintro es ⟨n, rfl, n1, n2⟩ W' ρ' ⟨xs, rfl, hl, hx, o1, o2, rfl, _⟩
    rw [rangeD_len] at hl
    refine sb_low (k1 := 0) (sb_ret_view (i := 4) rfl (Ext.refl _) (ev_tupL (ds := xs.map .int) (ev_var rfl)) fun d hd => ⟨xs, hd, ?_, hx⟩) (by omega)
    show _ ≤ m.toNat
    omega

end
end CW
end C3x
section C4x
set_option Elab.async false
set_option linter.all false
set_option maxRecDepth 100000
namespace CW
open PySem PySem.Spec PyProof.Rows L2 StX RZ
section
variable {P : Program} {w : World} {K : PySem.W.Frag} {mg : PySem.Str → Option Value} {base : Heap} {f : Addr} {fd : FuncData}
variable {B W : Wd} {k k1 k2 : Nat} {ρ : List Sl} {te ta tb : TE} {i : Nat} {b : Addr}
structure NearA where
  b : Addr
  row : List Int
  L : Int
abbrev sp__law_near (K : PySem.W.Frag) : Sp := SpB K (α := NearA) (fun a => [.at a.b, .dat (tI a.row), .dat (.int a.L)]) (fun W a => Bx W a.b ∧ (1 ≤ a.L ∧ a.L ≤ 12 ∧ a.row.length ≤ 5 ∧ ∀ x ∈ a.row, 1 ≤ x ∧ x ≤ 200)) 50 (fun a => RowP 6 1 300)
theorem rowP_cut {xs ys zs : List Int} {n : Nat} {lo hi : Int} (e : zs = xs ++ ys) (hx : ∀ x ∈ xs, lo ≤ x ∧ x ≤ hi) (hy : ∀ x ∈ ys, lo ≤ x ∧ x ≤ hi) (hl : xs.length + ys.length ≤ n) : RowP n lo hi (tI zs) := ⟨zs, rfl, by rw [e, List.length_append]; exact hl, fun x h => by
  rw [e] at h
  rcases List.mem_append.mp h with h | h
  · exact hx x h
  · exact hy x h⟩
theorem ev_to_k {j : Nat} (h : EvD K W te ρ (tI xs)) (hk : ρ[i]? = some (.dat (.int (j : Int)))) : EvD K W (tSl (rSlX K) te tNoPart (tPart (tVar i))) ρ (tI (xs.take j)) := evd_to (ev_slT h eo_none (eo_some (ev_var hk))) (by rw [cutD_map, cut_upto]; rfl)
theorem ev_from_k {j : Nat} (h : EvD K W te ρ (tI xs)) (hk : EvD K W ta ρ (.int (j : Int))) : EvD K W (tSl (rSlX K) te (tPart ta) tNoPart) ρ (tI (xs.drop j)) := evd_to (ev_slT h (eo_some hk) eo_none) (by rw [cutD_map, cut_from]; rfl)
theorem ev_catI {xs ys : List Int} (ha : EvD K W ta ρ (tI xs)) (hb : EvD K W tb ρ (tI ys)) (hl : xs.length + ys.length ≤ 16777216) : EvD K W (tOp (rPlus K) ta tb) ρ (tI (xs ++ ys)) := evd_to (ev_catT ha hb (by simpa using hl)) (by rw [tI, List.map_append])
theorem ok__law_near (F : FnP K "_law_near" s__law_near f fd) (T : Tx mg) (O__law_take : Ok P w K mg base "_law_take" 1 ["_law_box_here", "_law_below"] (sp__law_take K)) (O__law_of : Ok P w K mg base "_law_of" 2 ["_law_box_here", "_law_some"] (sp__law_of K)) (O__law_row : Ok P w K mg base "_law_row" 3 ["_law_box_here", "_law_least_so", "_law_at_most"] (sp__law_row K)) : FnOk P w K mg base CX0 4 f fd ["_law_box_here", "_law_row_so", "_law_least_so"] (sp__law_near K) := by
  have nd := sc__law_near.nd
  refine F.ok sc__law_near (fun vs H Q E h => spb_len (fun _ => rfl) h) (fun cdv A outer s H vs Q E hr h => ⟨_, PSs.nox (pss_cons (ps_par (i := 3) (j := 4) rfl nd rfl rfl (by decide) rfl rfl (pa_cons (pe_f O__law_take (hr.mono (by decide)) rfl (pa_cons (pv 0) (pa_cons pe_int pa_nil))) (pa_cons (pe_f O__law_take (hr.mono (by decide)) rfl (pa_cons (pv 0) (pa_cons (pe_op (op_plusK (K := K) rfl) (pe_callB (call_lenK (K := K) rfl) rfl T.len (by decide +kernel) (pa_cons (pv 1) pa_nil)) pe_int) pa_nil))) pa_nil)) rfl) (pss_cons (ps_if (PW.pt (pw_or (pt_cmpR (op_eqK (K := K) rfl (hu64 hr)) (pv 3) pe_int (nomark _)) (pw_or1 (pt_cmpR (op_eqK (K := K) rfl (hu64 hr)) (pv 1) (pe_tup pa_nil) (nomark _))))) (pss_one (ps_ret (pe_f O__law_row hr rfl (pa_cons (pv 0) (pa_cons (pv 2) (pa_cons pe_int pa_nil)))))) pss_nil) (pss_cons (ps_set (i := 5) nd rfl (Or.inl rfl) (pe_ix (ix_seqK (K := K) rfl) (pv 1) (pe_f O__law_take (hr.mono (by decide)) rfl (pa_cons (pv 0) (pa_cons (pe_callB (call_lenK (K := K) rfl) rfl T.len (by decide +kernel) (pa_cons (pv 1) pa_nil)) pa_nil))) fun _ _ => rfl)) (pss_cons (ps_set (i := 6) nd rfl (Or.inl rfl) (pe_callB (call_max2K rfl) rfl T.max (by decide +kernel) (pa_cons pe_int (pa_cons (pe_op (op_plusK (K := K) rfl) (pv 5) (pe_f O__law_of (hr.mono (by decide)) rfl (pa_cons (pv 0) (pa_cons (pe_lst (pa_cons pe_int (pa_cons (pe_un un_neg pe_int) (pa_cons (pv 2) (pa_cons (pe_un un_neg (pv 2)) (pa_cons (pe_op (op_plusK (K := K) rfl) (pv 2) pe_int) (pa_cons (pe_op op_sub (pe_un un_neg (pv 2)) pe_int) (pa_cons pe_int pa_nil)))))))) pa_nil)))) pa_nil)))) (pss_cons (ps_if (pt_cmpR op_lt (pv 3) pe_int (nomark _)) (pss_one (ps_ret (pe_op (op_plusK (K := K) rfl) (pe_op (op_plusK (K := K) rfl) (pe_slice (sl_seqK (K := K) rfl) (pv 1) po_none (po_some (pv 4))) (pe_tup (pa_cons (pv 6) pa_nil))) (pe_slice (sl_seqK (K := K) rfl) (pv 1) (po_some (pv 4)) po_none)))) pss_nil) (pss_cons (ps_if (pt_cmpR op_lt (pv 3) pe_int (nomark _)) (pss_one (ps_ret (pe_op (op_plusK (K := K) rfl) (pe_slice (sl_seqK (K := K) rfl) (pv 1) po_none (po_some (pv 4))) (pe_slice (sl_seqK (K := K) rfl) (pv 1) (po_some (pe_op (op_plusK (K := K) rfl) (pv 4) pe_int)) po_none)))) pss_nil) (pss_cons (ps_set (i := 7) nd rfl (Or.inl rfl) (pe_op (op_plusK (K := K) rfl) (pe_slice (sl_seqK (K := K) rfl) (pv 1) po_none (po_some (pv 4))) (pe_slice (sl_seqK (K := K) rfl) (pv 1) (po_some (pe_op (op_plusK (K := K) rfl) (pv 4) pe_int)) po_none))) (pss_cons (ps_set (i := 8) nd rfl (Or.inl rfl) (pe_f O__law_take (hr.mono (by decide)) rfl (pa_cons (pv 0) (pa_cons (pe_op (op_plusK (K := K) rfl) (pe_callB (call_lenK (K := K) rfl) rfl T.len (by decide +kernel) (pa_cons (pv 7) pa_nil)) pe_int) pa_nil)))) (pss_one (ps_ret (pe_op (op_plusK (K := K) rfl) (pe_op (op_plusK (K := K) rfl) (pe_slice (sl_seqK (K := K) rfl) (pv 7) po_none (po_some (pv 8))) (pe_tup (pa_cons (pe_ifExp (pt_cmpR (op_eqK (K := K) rfl (hu64 hr)) (pv 3) pe_int (nomark _)) (pv 5) (pv 6)) pa_nil))) (pe_slice (sl_seqK (K := K) rfl) (pv 7) (po_some (pv 8)) po_none)))))))))))), run_box (Ns := N__law_near) h fun a B hp => ?_⟩)
  obtain ⟨b, row, L⟩ := a
  obtain ⟨bx, h1, h2, h3, h4⟩ := hp
  simp only at h1 h2 h3 h4 bx
  refine sb_seqK (k1 := 2) (k2 := 48) (sb_par (k1 := 1) (k2 := 1) (es_k (ek_take (m := 7) rfl bx (ev_int 7) (by omega) (by omega))) (fun W1 s1 h => es_k (ek_take (m := (row.length : Int) + 1) rfl (by rw [h.1]; exact bx) (ev_add (evd_to (ev_lenT (ds := row.map .int) (ev_var rfl)) (by simp)) (ev_int 1)) (by omega) (by omega))) ?_) (by omega)
  rintro W1 s1 W2 s2 ⟨e1, d, e3, way, e4, w1, w2⟩ ⟨e2, d2, e5, kk, e6, k1, k2⟩
  subst e3 e4 e5 e6
  rw [e1] at e2
  subst e2
  obtain ⟨j, rfl⟩ := Int.eq_ofNat_of_zero_le k1
  have hj : j ≤ row.length := by omega
  refine sb_seqK (k1 := 45) (k2 := 3) (sb_if (b := decide (way = 0) || decide (row = [])) (et_or (x := decide (way = 0)) (et_test (ev_eqI (ev_var rfl) (ev_int 0))) (y := decide (row = [])) fun _ => et_test (ev_eqD (ev_var (d := tI row) rfl) (ev_tup ea_nil (by simp)) (shaped_tI _) (shaped_tI []) (eqv_tI row []))) (fun _ => ?_) fun hc => sb_next ?_) (by omega)
  · refine sb_low (k1 := 40) (sb_retK (ek_call (k1 := 0) (k2 := 40) (eak_cons (k1 := 0) (k2 := 0) (ek_at rfl) fun _ _ => eak_cons (k1 := 0) (k2 := 0) (ek_ev (ev_var (d := .int L) rfl)) fun _ _ => eak_cons (k1 := 0) (k2 := 0) (ek_ev (ev_int 5)) fun _ _ => eak_nil) fun ss hs => ?_)) (by omega)
    obtain ⟨s, r, e, e1, s2, r2, e3, ⟨d2, e4, e5⟩, s3, r3, e6, ⟨d3, e7, e8⟩, e9⟩ := hs
    subst e e1 e3 e4 e5 e6 e7 e8 e9
    refine ⟨⟨b, L, 5⟩, rfl, ⟨bx, h1, h2, by simp, by simp⟩, fun d ⟨xs, hd, x1, x2⟩ => ⟨xs, hd, ?_, fun x hx => ?_⟩⟩
    · have : xs.length ≤ (5 : Int).toNat := x1
      omega
    · have := x2 x hx
      omega
  have hne : row ≠ [] := by
    intro z
    rw [z] at hc; simp at hc
  have hpos : 0 < row.length := List.length_pos_iff.mpr hne
  refine sb_seqK (k1 := 1) (k2 := 2) (sb_asgK (P := fun d => ∃ r : Int, d = .int r ∧ 1 ≤ r ∧ r ≤ 200) (ek_op (k1 := 0) (k2 := 1) (ek_ev (ev_var (d := tI row) rfl)) (ek_take (m := (row.length : Int)) rfl bx (evd_to (ev_lenT (ds := row.map .int) (ev_var rfl)) (by simp)) (by omega) (by omega)) fun a b ea ⟨r, eb, q1, q2⟩ => ?_) ?_) (by omega)
  · subst ea eb
    obtain ⟨m, rfl⟩ := Int.eq_ofNat_of_zero_le q1
    have hm : m < row.length := by omega
    refine ⟨_, rv_ixT (d := .int row[m]) (atI_nat (by rw [List.getElem?_map, List.getElem?_eq_getElem hm]; rfl)), fun d hd => ⟨row[m], hd, h4 _ (List.getElem_mem hm)⟩⟩
  rintro d ⟨own, rfl, o1, o2⟩
  refine sb_seqK (k1 := 1) (k2 := 1) (sb_asgK (ek_bto (lo := 1) (hi := 300) (ek_max (k2 := 1) (ev_int 1) (ek_add (k1 := 0) (k2 := 1) (ek_bt (lo := own) (hi := own) (ev_var rfl) (by omega) (by omega)) (ek_of (n := 6) (k := 0) (lo := -13) (hi := 13) rfl bx (bts_cons0 (ev_int 1) (by omega) (by omega) (bts_cons0 (ev_neg (ev_int 1)) (by omega) (by omega) (bts_cons0 (x := L) (ev_var rfl) (by omega) (by omega) (bts_cons0 (x := -L) (ev_neg (ev_var rfl)) (by omega) (by omega) (bts_cons0 (x := L + 1) (ev_add (ev_var rfl) (ev_int 1)) (by omega) (by omega) (bts_cons0 (x := -L - 1) (ev_sub (ev_neg (ev_var rfl)) (ev_int 1)) (by omega) (by omega) (bts_cons0 (ev_int 0) (by omega) (by omega) bts_nil))))))) (by omega)))) (by omega) (by omega)) ?_) (by omega)
  rintro d ⟨off, rfl, f1, f2⟩
  have h4' : ∀ x ∈ row, 1 ≤ x ∧ x ≤ 300 := fun x hx => by have := h4 x hx; omega
  have ht : ∀ m, ∀ x ∈ row.take m, 1 ≤ x ∧ x ≤ 300 := fun m x hx => h4' x (List.mem_of_mem_take hx)
  have hdr : ∀ m, ∀ x ∈ row.drop m, 1 ≤ x ∧ x ≤ 300 := fun m x hx => h4' x (List.mem_of_mem_drop hx)
  have hone : ∀ y : Int, 1 ≤ y → y ≤ 300 → ∀ x ∈ [y], 1 ≤ x ∧ x ≤ 300 := fun y a b x hx => by rw [List.mem_singleton.mp hx]; exact ⟨a, b⟩
  have happ : ∀ {xs ys : List Int}, (∀ x ∈ xs, 1 ≤ x ∧ x ≤ (300 : Int)) → (∀ x ∈ ys, 1 ≤ x ∧ x ≤ (300 : Int)) → ∀ x ∈ xs ++ ys, 1 ≤ x ∧ x ≤ (300 : Int) := fun ha hb x hx => by
    rcases List.mem_append.mp hx with h | h
    · exact ha x h
    · exact hb x h
  refine sb_seqK (k1 := 0) (k2 := 1) (sb_if (b := decide (way < 3)) (et_test (ev_lt (ev_var rfl) (ev_int 3))) (fun _ => ?_) fun _ => sb_next ?_) (by omega)
  · refine sb_retD (ev_catI (ev_catI (ev_to_k (j := j) (ev_var (d := tI row) rfl) rfl) (ev_tup (ea_cons (ev_var (d := .int off) rfl) ea_nil) (by simp)) (ys := [off]) (by simp; omega)) (ev_from_k (j := j) (ev_var (d := tI row) rfl) (ev_var rfl)) (by simp; omega)) ?_
    exact rowP_cut rfl (happ (ht j) (hone off f1 f2)) (hdr j) (by simp; omega)
  refine sb_seqK (k1 := 0) (k2 := 1) (sb_if (b := decide (way < 5)) (et_test (ev_lt (ev_var rfl) (ev_int 5))) (fun _ => ?_) fun _ => sb_next ?_) (by omega)
  · refine sb_retD (ev_catI (ev_to_k (j := j) (ev_var (d := tI row) rfl) rfl) (ev_from_k (j := j + 1) (ev_var (d := tI row) rfl) (evd_to (ev_add (i := (j : Int)) (j := 1) (ev_var rfl) (ev_int 1)) (by simp))) (by simp; omega)) ?_
    exact rowP_cut rfl (ht j) (hdr (j + 1)) (by simp; omega)
  refine sb_seqK (k1 := 0) (k2 := 1) (sb_asgD (d := tI (row.take j ++ row.drop (j + 1))) (ev_catI (ev_to_k (j := j) (ev_var (d := tI row) rfl) rfl) (ev_from_k (j := j + 1) (ev_var (d := tI row) rfl) (evd_to (ev_add (i := (j : Int)) (j := 1) (ev_var rfl) (ev_int 1)) (by simp))) (by simp; omega)) ?_) (by omega)
  have hr1 : ∀ x ∈ row.take j ++ row.drop (j + 1), 1 ≤ x ∧ x ≤ (300 : Int) := happ (ht j) (hdr (j + 1))
  have hr2 : (row.take j ++ row.drop (j + 1)).length ≤ 5 := by simp; omega
  generalize row.take j ++ row.drop (j + 1) = rest at hr1 hr2 ⊢
  refine sb_seqK (k1 := 1) (k2 := 0) (sb_asgK (ek_take (m := (rest.length : Int) + 1) rfl bx (ev_add (evd_to (ev_lenT (ds := rest.map .int) (ev_var rfl)) (by simp)) (ev_int 1)) (by omega) (by omega)) ?_) (by omega)
  rintro d ⟨spot, rfl, s1, s2⟩
  obtain ⟨m, rfl⟩ := Int.eq_ofNat_of_zero_le s1
  refine sb_retD (ev_catI (ev_catI (ev_to_k (j := m) (ev_var (d := tI rest) rfl) rfl) (ev_tup (ea_cons (d := .int (if way = 5 then own else off)) (ev_if (c := decide (way = 5)) (et_test (ev_eqI (ev_var rfl) (ev_int 5))) (fun h => evd_to (ev_var rfl) (by simp only [decide_eq_true_eq] at h; rw [if_pos h])) fun h => evd_to (ev_var rfl) (by simp only [decide_eq_false_iff_not] at h; rw [if_neg h])) ea_nil) (by simp)) (ys := [if way = 5 then own else off]) (by simp; omega)) (ev_from_k (j := m) (ev_var (d := tI rest) rfl) (ev_var rfl)) (by simp; omega)) ?_
  refine rowP_cut rfl (happ (fun x hx => hr1 x (List.mem_of_mem_take hx)) (hone _ (by split <;> omega) (by split <;> omega))) (fun x hx => hr1 x (List.mem_of_mem_drop hx)) (by simp; omega)

end
end CW
end C4x
section W10x
set_option Elab.async false
set_option linter.all false
set_option maxRecDepth 100000
/-! New lists that come back new; or. -/
namespace CW
open PySem PySem.Spec PyProof.Rows L2 StX RZ
def RtF (K : PySem.W.Frag) (B : Wd) (ds : List PyData) : Hp → V → Hp → Prop := fun F v H' => ∃ p vs, v = .ref p ∧ p ∉ B.ps ∧ F p = none ∧ H' p = some (.lst vs) ∧ IsAll K (off (p :: B.ps) H') vs ds
def SpF (K : PySem.W.Frag) {α : Type} (As : α → List PyData) (pre : α → Prop) (B : α → List PyData) : Sp := fun vs H Q _ => ∃ (W : Wd) (n : Nat) (a : α), IsAll K (W.fr H) vs (As a) ∧ W.ok n H ∧ pre a ∧ ∀ p H' ws, H p = none → Same H H' → H' p = some (.lst ws) → IsAll K (off (p :: W.ps) H') ws (B a) → Q (.ref p) H'
section
variable {K : PySem.W.Frag} {B W : Wd} {k : Nat} {ρ : List Sl} {te ta tb : TE} {t : TS} {N : Wd → List Sl → Prop} {ds es : List PyData} {d : PyData} {i j : Int}
theorem sb_retF (h : EvF K B te ρ ds) : Sb K B B k (tRet te) ρ N (RtF K B ds) := fun x D σ H n F e f o kn kr =>
  h σ H _ e o _ fun p H' vs hp s h1 h2 => by
    have q1 : F p = none := by
      cases q : F p with
      | none => rfl
      | some z =>
        have q2 : off B.ps H p = some z := f p z q
        rw [off_free hp] at q2
        cases q2
    exact kr _ H' (Same.trans f (fr_to s)) ((Wd.ok.to o s).low (by omega)) ⟨p, vs, rfl, o.free hp, q1, h1, h2⟩
theorem ef_call {α : Type} {As : α → List PyData} {pre : α → Prop} {P : α → List PyData} {E : XK} {tr : TA} (a : α) (h : EvA K W tr ρ (As a)) (hp : pre a) : EvF K W (tCall (SpF K As pre P) [] E tr) ρ (P a) := fun σ H n e o Q q =>
  h σ H n e o _ fun vs H1 s1 dv => ⟨W, n, a, by rw [List.append_nil]; exact dv, o.to s1, hp, fun p H2 ws hp s2 => q p H2 ws (free_back s1 hp) (s1.trans s2)⟩
theorem spf_len {α : Type} {As : α → List PyData} {pre : α → Prop} {P : α → List PyData} {m : Nat} {vs : List V} {H : Hp} {Q : VK} {E : XK} (hm : ∀ a, (As a).length = m) (h : SpF K As pre P vs H Q E) : vs.length = m := by
  obtain ⟨W, n, a, dv, _⟩ := h
  rw [dv.len, hm]
theorem run_F {α : Type} {As : α → List PyData} {pre : α → Prop} {P : α → List PyData} {Ns : List PySem.Str} {E : XK} {H : Hp} {vs : List V} {Q : VK} (h : SpF K As pre P vs H Q E)
    (hb : ∀ a B, pre a → Sb K B B 0 t ((As a).map .dat ++ List.replicate (Ns.length - (As a).length) .no) (fun _ _ => False) (RtF K B (P a))) :
    t { nx := fun _ H' => Q .non H', rt := Q } (L2.start Ns vs) H := by
  obtain ⟨W, n, a, dv, o, hp, q⟩ := h
  have o0 : (W.still H).ok 0 H := fun p hp => ⟨rfl, W.has o p hp⟩
  have hl := dv.len
  have e : Env K ((W.still H).fr H) (L2.start Ns vs) ((As a).map .dat ++ List.replicate (Ns.length - (As a).length) .no) := by
    unfold L2.start
    rw [hl]
    exact Env.of_all (slAll_of dv) _
  refine hb a (W.still H) hp (Ext.refl _) _ _ H 0 (W.fr H) e (Same.refl _) o0 (fun W' ρ' σ' H' x' hN e' f' o' => hN.elim) fun v H' f' o' r => ?_
  obtain ⟨p, ws, rfl, hn, hf, h1, h2⟩ := r
  have hn' : p ∉ W.ps := hn
  have hf' : off W.ps H p = none := hf
  rw [off_get hn'] at hf'
  exact q p H' ws hf' (still_same o' f') h1 h2
theorem tru_list {H : Hp} {p : Addr} {vs : List V} (h : H p = some (.lst vs)) : TruV K (.ref p) H (decide (0 < vs.length)) := by
  refine .inl ⟨vs, .inl (.inl h), ?_⟩
  cases vs <;> simp
/-- a or b -/
theorem ef_orT (h1 : EvF K W ta ρ ds) (h2 : EvF K W tb ρ es) : EvF K W (tOrT K ta tb) ρ (if 0 < ds.length then ds else es) := fun σ H n e o Q q =>
  h1 σ H n e o _ fun p H1 vs hp s1 g1 a1 => by
    refine ⟨_, tru_list g1, ?_⟩
    rw [a1.len]
    by_cases hl : 0 < ds.length
    · rw [if_pos (decide_eq_true hl)]
      rw [if_pos hl] at q
      exact q p H1 vs hp s1 g1 a1
    · rw [if_neg (by simpa using hl)]
      rw [if_neg hl] at q
      exact h2 σ H1 n (e.mono (fr_to s1)) (o.to s1) Q fun p2 H2 vs2 hp2 s2 g2 a2 => q p2 H2 vs2 (free_back s1 hp2) (s1.trans s2) g2 a2
theorem ev_pow (ha : EvD K W ta ρ (.int i)) (hb : EvD K W tb ρ (.int j)) (hc : CPow i j) : EvD K W (tOp (rI CPow fun i j => .int (i ^ j.toNat)) ta tb) ρ (.int (i ^ j.toNat)) := ev_op ha hb (rv_I hc fun _ => .int _)
end
end CW
end W10x
section C5x
set_option Elab.async false
set_option linter.all false
set_option maxRecDepth 100000
namespace CW
open PySem PySem.Spec PyProof.Rows L2 StX RZ
section
variable {P : Program} {w : World} {K : PySem.W.Frag} {mg : PySem.Str → Option Value} {base : Heap} {f : Addr} {fd : FuncData}
variable {B W : Wd} {k k1 k2 : Nat} {ρ : List Sl} {te ta tb : TE} {i : Nat} {b : Addr}
def cellAt (cs : List Int) (j : Nat) : Int := if h : j < cs.length then cs[j] else 0
def boxOf (cs : List Int) (j : Nat) : List Int := [(if cellAt cs j < 0 then -cellAt cs j else cellAt cs j) * (if decide ((10 : Int) ^ (18 : Int).toNat ≤ (if cellAt cs j < 0 then -cellAt cs j else cellAt cs j)) then 1 else 0), cellAt cs j % 2305843009213693951 + 39373 * (j : Int) + 966, 0]
abbrev sp__law_box (K : PySem.W.Frag) : Sp := SpF K (α := List Int × Nat) (fun a => [lI a.1, .int (a.2 : Int)]) (fun a => a.1.length ≤ 100) (fun a => (boxOf a.1 a.2).map .int)
theorem ok__law_box (F : FnP K "_law_box" s__law_box f fd) (T : Tx mg)  : FnOk P w K mg base CX0 1 f fd ["_law_script", "_law_k"] (sp__law_box K) := by
  have nd := sc__law_box.nd
  refine F.ok sc__law_box (fun vs H Q E h => spf_len (fun _ => rfl) h) (fun cdv A outer s H vs Q E hr h => ⟨_, PSs.nox (pss_cons (ps_set (i := 2) nd rfl (Or.inl rfl) (pe_ifExp (pt_cmpR op_lt (pv 1) (pe_callB (call_lenK (K := K) rfl) rfl T.len (by decide +kernel) (pa_cons (pv 0) pa_nil)) (nomark _)) (pe_ix (ix_seqK (K := K) rfl) (pv 0) (pv 1) fun _ _ => rfl) pe_int)) (pss_one (ps_ret (pe_lst (pa_cons (pe_op op_mul (pe_callB call_absK rfl T.abs (by decide +kernel) (pa_cons (pv 2) pa_nil)) (pe_callTy call_int1K rfl T.int (by decide +kernel) (pa_cons (pe_cmpR op_ge (pe_callB call_absK rfl T.abs (by decide +kernel) (pa_cons (pv 2) pa_nil)) (pe_op op_pow pe_int pe_int) (nomark _)) pa_nil))) (pa_cons (pe_op (op_plusK (K := K) rfl) (pe_op (op_plusK (K := K) rfl) (pe_op op_mod (pe_callTy call_int1K rfl T.int (by decide +kernel) (pa_cons (pv 2) pa_nil)) pe_int) (pe_op op_mul pe_int (pv 1))) pe_int) (pa_cons pe_int pa_nil))))))), run_F (Ns := N__law_box) h fun a B hp => ?_⟩)
  obtain ⟨cs, j⟩ := a
  refine sb_seq (sb_asgD (d := .int (cellAt cs j)) (ev_if (c := decide ((j : Int) < (cs.length : Int))) (et_test (ev_lt (ev_var rfl) (evd_to (ev_lenL (ds := cs.map .int) (ev_var rfl)) (by simp)))) (fun h => ?_) fun h => ?_) ?_)
  · simp only [decide_eq_true_eq] at h
    have h' : j < cs.length := by omega
    refine ev_ixL (ev_var rfl) (ev_var rfl) (atI_nat (xs := cs.map PyData.int) ?_)
    rw [List.getElem?_map, List.getElem?_eq_getElem h', cellAt, dif_pos h']
    rfl
  · simp only [decide_eq_false_iff_not] at h
    have h' : ¬ j < cs.length := by omega
    exact evd_to (ev_int 0) (by rw [cellAt, dif_neg h'])
  · refine sb_retF (ef_lst (ea_cons (ev_mul (ev_abs (ev_var rfl)) (ev_intB (ev_ge (ev_abs (ev_var rfl)) (ev_pow (ev_int 10) (ev_int 18) (by constructor <;> decide)))) ?_) (ea_cons (ev_add (ev_add (ev_mod (ev_int1 (ev_var rfl)) (ev_int _) (by omega)) (ev_mul (ev_int _) (ev_var rfl) (.inl (by omega)))) (ev_int _)) (ea_cons (ev_int 0) ea_nil))) (by show 3 ≤ 16777216; omega))
    right
    split <;> omega
def cellStep (m : Int) (cs : List Int) (p : Nat × Int) : List Int := cs.set (p.1 % m.toNat) (cellAt cs (p.1 % m.toNat) + p.2 * ((p.1 : Int) + 2))
abbrev sp__law_cells (K : PySem.W.Frag) : Sp := SpD K (α := List Int) (fun a => [lI a, .int 2]) (fun a => a.length ≤ 63) (fun a d => ∃ cs : List Int, d = lI cs ∧ cs.length ≤ 2)
theorem cutI (xs : List Int) (lo hi : Option Int) : cutD (xs.map PyData.int) lo hi = (cutD xs lo hi).map .int := cutD_map _ _ _ _
theorem ok__law_cells (F : FnP K "_law_cells" s__law_cells f fd) (T : Tx mg)  : FnOk P w K mg base CX0 1 f fd ["_law_script", "_law_most_so"] (sp__law_cells K) := by
  have nd := sc__law_cells.nd
  refine F.ok sc__law_cells (fun vs H Q E h => spd_len (fun _ => rfl) h) (fun cdv A outer s H vs Q E hr h => ⟨_, PSs.nox (pss_cons (ps_set (i := 2) nd rfl (Or.inl rfl) (pe_orTK (K := K) rfl (pe_callTy (call_listK (K := K) rfl) rfl T.list (by decide +kernel) (pa_cons (pe_slice (sl_seqK (K := K) rfl) (pv 0) po_none (po_some (pv 1))) pa_nil)) (pe_one (pe_lst (pa_cons pe_int pa_nil))))) (pss_cons (ps_for PassesOwn.never rfl (pi_enumK (K := K) rfl rfl T.enumerate (pa_cons (pe_slice (sl_seqK (K := K) rfl) (pv 0) (po_some (pv 1)) (po_some pe_int)) pa_nil)) (pg_tupK (K := K) (n := 2) rfl rfl (pgs_cons (pg_name (i := 3) nd rfl (Or.inl rfl)) (pgs_cons (pg_name (i := 4) nd rfl (Or.inl rfl)) pgs_nil))) (pss_cons (ps_set (i := 5) nd rfl (Or.inl rfl) (pe_op op_mod (pe_callTy call_int1K rfl T.int (by decide +kernel) (pa_cons (pv 3) pa_nil)) (pv 1))) (pss_one (ps_asg (pe_op (op_plusK (K := K) rfl) (pe_ix (ix_seqK (K := K) rfl) (pv 2) (pv 5) fun _ _ => rfl) (pe_op op_mul (pv 4) (pe_op (op_plusK (K := K) rfl) (pv 3) pe_int))) (pg_sub (pv 2) (pv 5) set_list))))) (pss_one (ps_ret (pv 2))))), run_pure (Ns := N__law_cells) h fun a B hp => ?_⟩)
  have c2 : cutD (a.map PyData.int) none (some 2) = (a.take 2).map .int := by rw [cutI]; congr 1; exact cut_upto a 2
  have c3 : cutD (a.map PyData.int) (some 2) (some 63) = ((a.drop 2).take 61).map .int := by rw [cutI]; congr 1; exact cut_mid a 2 63
  have e1 : EvF K B (tListK K (tSl (rSlX K) (tVar 0) tNoPart (tPart (tVar 1)))) ([Sl.dat (lI a), .dat (.int 2), .no, .no, .no, .no]) ((a.take 2).map .int) := ef_listL (evd_to (EvF.ev (ef_slL (ds := a.map .int) (ev_var rfl) eo_none (eo_some (i := 2) (ev_var rfl)))) (by rw [c2]))
  refine sb_seq (sb_asgM (ef_orT e1 (ef_lst (ea_cons (ev_int 0) ea_nil) (by simp))) fun p => ?_)
  have e0 : (if 0 < ((a.take 2).map PyData.int).length then (a.take 2).map PyData.int else [.int 0]) = (if 0 < (a.take 2).length then a.take 2 else [0]).map PyData.int := by
    rw [List.length_map]
    split <;> rfl
  rw [e0]
  have hl0 : (if 0 < (a.take 2).length then a.take 2 else [0]).length ≤ 2 ∧ (2 < a.length → (if 0 < (a.take 2).length then a.take 2 else [0]).length = 2) := by
    split
    · rw [List.length_take]; omega
    · rename_i h
      rw [List.length_take] at h
      show 1 ≤ 2 ∧ (2 < a.length → 1 = 2)
      omega
  generalize (if 0 < (a.take 2).length then a.take 2 else [0]) = c0 at hl0
  refine sb_seq (sb_fold0 (xs := (List.range ((a.drop 2).take 61).length).zip ((a.drop 2).take 61)) (enc := fun q => PyData.tuple [.int (q.1 : Int), .int q.2]) ?_ (cellStep 2)
    (fun s W' ρ' => W' = B.push K p (.lst (s.map .int)) ∧ s.length = c0.length ∧ ∃ o1 o2 o3, ρ' = [.dat (lI a), .dat (.int 2), .at p, o1, o2, o3]) c0 ⟨rfl, rfl, _, _, _, rfl⟩ ?_ ?_)
  · rw [← enumD_map (fun x => PyData.int x), ← c3]
    exact ei_enumXL (EvF.ev (ef_slL (ds := a.map .int) (ev_var rfl) (eo_some (i := 2) (ev_var rfl)) (eo_some (ev_int 63))))
  · rintro ys x zs W' ρ' hz x' ⟨rfl, hl, o1, o2, o3, rfl⟩
    refine ⟨_, _, eg_pair, ?_⟩
    have hlen : 2 < a.length := by
      by_cases h : 2 < a.length
      · exact h
      · exfalso
        have h2 : a.drop 2 = [] := List.drop_eq_nil_of_le (by omega)
        rw [h2] at hz
        simp at hz
    have hx1 : x.1 < 61 := by
      have h1 : x ∈ (List.range ((a.drop 2).take 61).length).zip ((a.drop 2).take 61) := by rw [hz]; simp
      have h2 := (List.of_mem_zip (a := x.1) (b := x.2) h1).1
      rw [List.mem_range] at h2
      simp at h2
      omega
    have hs := hl0.2 hlen
    rw [← hl] at hs
    generalize ys.foldl (cellStep 2) c0 = cs at hl hs
    have hj : x.1 % 2 < cs.length := by omega
    refine sb_seq (sb_asgD (d := .int ((x.1 % 2 : Nat) : Int)) (evd_to (ev_mod (ev_int1 (ev_var rfl)) (ev_var (d := .int 2) rfl) (by omega)) (by congr 1)) ?_)
    refine sb_setL (j := x.1 % 2) rfl Mu.here (fun _ _ => Ext.push) (ev_add (i := cellAt cs (x.1 % 2)) (ev_ixM rfl Mu.here (ev_var rfl) (atI_nat ?_)) (ev_mul (ev_var rfl) (ev_add (ev_var rfl) (ev_int 2)) ?_)) (ev_var rfl) ?_ ?_
    · rw [List.getElem?_map, List.getElem?_eq_getElem hj, cellAt, dif_pos hj]
      rfl
    · right
      constructor <;> omega
    · unfold ixN
      rw [List.length_map, if_pos (by omega), if_pos (by omega)]
      congr 1
    · refine ⟨by rw [cellStep, List.map_set]; rfl, by rw [cellStep, List.length_set]; exact hl, _, _, _, rfl⟩
  · rintro W' ρ' ⟨rfl, hl, o1, o2, o3, rfl⟩
    exact sb_ret_view (i := 2) rfl (Ext.refl _) (ev_var rfl) fun d hd => ⟨_, hd, by omega⟩

end
end CW
end C5x
section C6x
set_option Elab.async false
set_option linter.all false
set_option maxRecDepth 100000
namespace CW
open PySem PySem.Spec PyProof.Rows L2 StX RZ
section
variable {P : Program} {w : World} {K : PySem.W.Frag} {mg : PySem.Str → Option Value} {base : Heap} {f : Addr} {fd : FuncData}
variable {B W : Wd} {k k1 k2 : Nat} {ρ : List Sl} {te ta tb : TE} {i : Nat} {b : Addr}
theorem zipD_self {α : Type} (enc : α → PyData) (xs : List α) : zipD (xs.map enc) (xs.map enc) = xs.map fun x => .tuple [enc x, enc x] := by
  rw [zipD_map]
  induction xs with
  | nil => rfl
  | cons x xs ih => simp only [List.zip_cons_cons, List.map_cons, ih]
abbrev sp_same0 (K : PySem.W.Frag) : Sp := SpD K (α := Int) (fun a => [.int a, .int a]) (fun _ => True) (fun a d => d = .bool true)
theorem ok__law_same0 {k : Nat} (F : FnP K "_law_same" s__law_same f fd) (T : Tx mg) (O_self : Ok P w K mg base "_law_same" k ["_law_got", "_law_due"] spNo) : FnOk P w K mg base CX0 (k + 1) f fd ["_law_got", "_law_due"] (sp_same0 K) := by
  have nd := sc__law_same.nd
  refine F.ok sc__law_same (fun vs H Q E h => spd_len (fun _ => rfl) h) (fun cdv A outer s H vs Q E hr h => ⟨_, PSs.nox (pss_cons (ps_if (pt_val (pe_callB (call_isiTK (K := K) rfl) rfl T.isinstance (by decide +kernel) (pa_cons (pv 1) (pa_cons (pe_tup (pa_cons (pe_bltn (v := .ty "list") rfl T.list (by decide +kernel) rfl) (pa_cons (pe_bltn (v := .ty "tuple") rfl T.tuple (by decide +kernel) rfl) pa_nil))) pa_nil)))) (pss_cons (ps_if (PW.pt (pw_or (pt_cmpR (op_neK (K := K) rfl (hu64 hr)) (pe_callB (call_isiK1 (K := K) rfl) rfl T.isinstance (by decide +kernel) (pa_cons (pv 0) (pa_cons (pe_bltn (v := .ty "list") rfl T.list (by decide +kernel) rfl) pa_nil))) (pe_callB (call_isiK1 (K := K) rfl) rfl T.isinstance (by decide +kernel) (pa_cons (pv 1) (pa_cons (pe_bltn (v := .ty "list") rfl T.list (by decide +kernel) rfl) pa_nil))) (nomark _)) (pw_or1 (pt_cmpR (op_neK (K := K) rfl (hu64 hr)) (pe_callB (call_isiK1 (K := K) rfl) rfl T.isinstance (by decide +kernel) (pa_cons (pv 0) (pa_cons (pe_bltn (v := .ty "tuple") rfl T.tuple (by decide +kernel) rfl) pa_nil))) (pe_callB (call_isiK1 (K := K) rfl) rfl T.isinstance (by decide +kernel) (pa_cons (pv 1) (pa_cons (pe_bltn (v := .ty "tuple") rfl T.tuple (by decide +kernel) rfl) pa_nil))) (nomark _))))) (pss_one (ps_ret pe_bl)) pss_nil) (pss_one (ps_ret (pe_and (pe_cmpR (op_eqK (K := K) rfl (hu64 hr)) (pe_callB (call_lenK (K := K) rfl) rfl T.len (by decide +kernel) (pa_cons (pv 0) pa_nil)) (pe_callB (call_lenK (K := K) rfl) rfl T.len (by decide +kernel) (pa_cons (pv 1) pa_nil)) (nomark _)) (pe_one (pe_callB (cr_allK (K := K) rfl rfl) rfl T.all (by decide +kernel) (pa_cons (pe_lc (own := [("_law_mine", 2), ("_law_its", 3)]) rfl nd (pi_zipX (K := K) rfl rfl T.zip (pa_cons (pv 0) (pa_cons (pv 1) pa_nil))) (blkOk_by (own := [("_law_mine", 2), ("_law_its", 3)]) (N := N__law_same) (sc := defScope s__law_same) (by decide +kernel)) (fun _ _ _ _ _ => (pg_tupK (K := K) (n := 2) rfl rfl (pgs_cons (pg_name (i := 2) nd rfl (Or.inl rfl)) (pgs_cons (pg_name (i := 3) nd rfl (Or.inl rfl)) pgs_nil)))) (fun _ _ _ _ _ => pts_nil) (fun _ _ _ _ _ => (pe_f O_self hr rfl (pa_cons (pv 2) (pa_cons (pv 3) pa_nil))))) pa_nil))))))) pss_nil) (pss_cons (ps_if (PW.pt (pw_or (pt_cmpR op_isN1 (pv 1) pe_non (nomark _)) (pw_or1 (pt_val (pe_callB (call_isiTK (K := K) rfl) rfl T.isinstance (by decide +kernel) (pa_cons (pv 1) (pa_cons (pe_tup (pa_cons (pe_bltn (v := .ty "bool") rfl T.bool (by decide +kernel) rfl) (pa_cons (pe_bltn (v := .ty "str") rfl T.str (by decide +kernel) rfl) pa_nil))) pa_nil))))))) (pss_one (ps_ret (pe_and (pe_cmpR (op_eqK (K := K) rfl (hu64 hr)) (pv 0) (pv 1) (nomark _)) (pe_and (pe_cmpR (op_eqK (K := K) rfl (hu64 hr)) (pe_callB (call_isiK1 (K := K) rfl) rfl T.isinstance (by decide +kernel) (pa_cons (pv 0) (pa_cons (pe_bltn (v := .ty "bool") rfl T.bool (by decide +kernel) rfl) pa_nil))) (pe_callB (call_isiK1 (K := K) rfl) rfl T.isinstance (by decide +kernel) (pa_cons (pv 1) (pa_cons (pe_bltn (v := .ty "bool") rfl T.bool (by decide +kernel) rfl) pa_nil))) (nomark _)) (pe_one (pe_cmpR (op_eqK (K := K) rfl (hu64 hr)) (pe_cmpR op_isN1 (pv 0) pe_non (nomark _)) (pe_cmpR op_isN1 (pv 1) pe_non (nomark _)) (nomark _))))))) pss_nil) (pss_one (ps_ret (pe_and (pe_callB (call_isiK1 (K := K) rfl) rfl T.isinstance (by decide +kernel) (pa_cons (pv 0) (pa_cons (pe_bltn (v := .ty "int") rfl T.int (by decide +kernel) rfl) pa_nil))) (pe_and (pe_not (pe_callB (call_isiK1 (K := K) rfl) rfl T.isinstance (by decide +kernel) (pa_cons (pv 0) (pa_cons (pe_bltn (v := .ty "bool") rfl T.bool (by decide +kernel) rfl) pa_nil)))) (pe_one (pe_cmpR (op_eqK (K := K) rfl (hu64 hr)) (pv 0) (pv 1) (nomark _))))))))), run_pure (Ns := N__law_same) h fun a B hp => ?_⟩)
  refine sb_seq (sb_if (b := false) (et_B (ev_isi2 (d := .int a) (ev_var rfl) kit_int_list kit_int_tuple)) (fun h => by cases h) fun _ => sb_next ?_)
  refine sb_seq (sb_if (b := false) (et_or (x := false) (et_test (ev_isN (d := .int a) (ev_var rfl))) (y := false) fun _ => et_B (ev_isi2 (d := .int a) (ev_var rfl) kit_int_bool kit_int_str)) (fun h => by cases h) fun _ => sb_next ?_)
  exact sb_retD (ev_andV (x := true) (ev_isi (d := .int a) (ev_var rfl) kit_int_int) fun _ => ev_andV (x := true) (ev_notV (x := false) (ev_isi (d := .int a) (ev_var rfl) kit_int_bool)) fun _ => ev_eqI (i := a) (j := a) (ev_var rfl) (ev_var rfl)) (by simp)
abbrev sp_same1 (K : PySem.W.Frag) : Sp := SpD K (α := Int × Int) (fun a => [bD a, bD a]) (fun _ => True) (fun a d => d = .bool true)
theorem ok__law_same1 {k : Nat} (F : FnP K "_law_same" s__law_same f fd) (T : Tx mg) (O_self : Ok P w K mg base "_law_same" k ["_law_got", "_law_due"] (sp_same0 K)) : FnOk P w K mg base CX0 (k + 1) f fd ["_law_got", "_law_due"] (sp_same1 K) := by
  have nd := sc__law_same.nd
  refine F.ok sc__law_same (fun vs H Q E h => spd_len (fun _ => rfl) h) (fun cdv A outer s H vs Q E hr h => ⟨_, PSs.nox (pss_cons (ps_if (pt_val (pe_callB (call_isiTK (K := K) rfl) rfl T.isinstance (by decide +kernel) (pa_cons (pv 1) (pa_cons (pe_tup (pa_cons (pe_bltn (v := .ty "list") rfl T.list (by decide +kernel) rfl) (pa_cons (pe_bltn (v := .ty "tuple") rfl T.tuple (by decide +kernel) rfl) pa_nil))) pa_nil)))) (pss_cons (ps_if (PW.pt (pw_or (pt_cmpR (op_neK (K := K) rfl (hu64 hr)) (pe_callB (call_isiK1 (K := K) rfl) rfl T.isinstance (by decide +kernel) (pa_cons (pv 0) (pa_cons (pe_bltn (v := .ty "list") rfl T.list (by decide +kernel) rfl) pa_nil))) (pe_callB (call_isiK1 (K := K) rfl) rfl T.isinstance (by decide +kernel) (pa_cons (pv 1) (pa_cons (pe_bltn (v := .ty "list") rfl T.list (by decide +kernel) rfl) pa_nil))) (nomark _)) (pw_or1 (pt_cmpR (op_neK (K := K) rfl (hu64 hr)) (pe_callB (call_isiK1 (K := K) rfl) rfl T.isinstance (by decide +kernel) (pa_cons (pv 0) (pa_cons (pe_bltn (v := .ty "tuple") rfl T.tuple (by decide +kernel) rfl) pa_nil))) (pe_callB (call_isiK1 (K := K) rfl) rfl T.isinstance (by decide +kernel) (pa_cons (pv 1) (pa_cons (pe_bltn (v := .ty "tuple") rfl T.tuple (by decide +kernel) rfl) pa_nil))) (nomark _))))) (pss_one (ps_ret pe_bl)) pss_nil) (pss_one (ps_ret (pe_and (pe_cmpR (op_eqK (K := K) rfl (hu64 hr)) (pe_callB (call_lenK (K := K) rfl) rfl T.len (by decide +kernel) (pa_cons (pv 0) pa_nil)) (pe_callB (call_lenK (K := K) rfl) rfl T.len (by decide +kernel) (pa_cons (pv 1) pa_nil)) (nomark _)) (pe_one (pe_callB (cr_allK (K := K) rfl rfl) rfl T.all (by decide +kernel) (pa_cons (pe_lc (own := [("_law_mine", 2), ("_law_its", 3)]) rfl nd (pi_zipX (K := K) rfl rfl T.zip (pa_cons (pv 0) (pa_cons (pv 1) pa_nil))) (blkOk_by (own := [("_law_mine", 2), ("_law_its", 3)]) (N := N__law_same) (sc := defScope s__law_same) (by decide +kernel)) (fun _ _ _ _ _ => (pg_tupK (K := K) (n := 2) rfl rfl (pgs_cons (pg_name (i := 2) nd rfl (Or.inl rfl)) (pgs_cons (pg_name (i := 3) nd rfl (Or.inl rfl)) pgs_nil)))) (fun _ _ _ _ _ => pts_nil) (fun _ _ _ _ _ => (pe_f O_self hr rfl (pa_cons (pv 2) (pa_cons (pv 3) pa_nil))))) pa_nil))))))) pss_nil) (pss_cons (ps_if (PW.pt (pw_or (pt_cmpR op_isN1 (pv 1) pe_non (nomark _)) (pw_or1 (pt_val (pe_callB (call_isiTK (K := K) rfl) rfl T.isinstance (by decide +kernel) (pa_cons (pv 1) (pa_cons (pe_tup (pa_cons (pe_bltn (v := .ty "bool") rfl T.bool (by decide +kernel) rfl) (pa_cons (pe_bltn (v := .ty "str") rfl T.str (by decide +kernel) rfl) pa_nil))) pa_nil))))))) (pss_one (ps_ret (pe_and (pe_cmpR (op_eqK (K := K) rfl (hu64 hr)) (pv 0) (pv 1) (nomark _)) (pe_and (pe_cmpR (op_eqK (K := K) rfl (hu64 hr)) (pe_callB (call_isiK1 (K := K) rfl) rfl T.isinstance (by decide +kernel) (pa_cons (pv 0) (pa_cons (pe_bltn (v := .ty "bool") rfl T.bool (by decide +kernel) rfl) pa_nil))) (pe_callB (call_isiK1 (K := K) rfl) rfl T.isinstance (by decide +kernel) (pa_cons (pv 1) (pa_cons (pe_bltn (v := .ty "bool") rfl T.bool (by decide +kernel) rfl) pa_nil))) (nomark _)) (pe_one (pe_cmpR (op_eqK (K := K) rfl (hu64 hr)) (pe_cmpR op_isN1 (pv 0) pe_non (nomark _)) (pe_cmpR op_isN1 (pv 1) pe_non (nomark _)) (nomark _))))))) pss_nil) (pss_one (ps_ret (pe_and (pe_callB (call_isiK1 (K := K) rfl) rfl T.isinstance (by decide +kernel) (pa_cons (pv 0) (pa_cons (pe_bltn (v := .ty "int") rfl T.int (by decide +kernel) rfl) pa_nil))) (pe_and (pe_not (pe_callB (call_isiK1 (K := K) rfl) rfl T.isinstance (by decide +kernel) (pa_cons (pv 0) (pa_cons (pe_bltn (v := .ty "bool") rfl T.bool (by decide +kernel) rfl) pa_nil)))) (pe_one (pe_cmpR (op_eqK (K := K) rfl (hu64 hr)) (pv 0) (pv 1) (nomark _))))))))), run_pure (Ns := N__law_same) h fun a B hp => ?_⟩)
  refine sb_seq (sb_if (b := true) (et_B (ev_isi2 (d := bD a) (ev_var rfl) kit_tuple_list kit_tuple_tuple)) (fun _ => ?_) fun h => by cases h)
  refine sb_seq (sb_if (b := false) (et_or (x := false) (et_test (ev_neB (x := false) (y := false) (ev_isi (d := bD a) (ev_var rfl) kit_tuple_list) (ev_isi (d := bD a) (ev_var rfl) kit_tuple_list))) (y := false) fun _ => et_test (ev_neB (x := true) (y := true) (ev_isi (d := bD a) (ev_var rfl) kit_tuple_tuple) (ev_isi (d := bD a) (ev_var rfl) kit_tuple_tuple))) (fun h => by cases h) fun _ => sb_next ?_)
  refine sb_retD (ev_andV (x := true) (evd_to (ev_eqI (ev_lenT (ds := [.int a.1, .int a.2]) (ev_var rfl)) (ev_lenT (ds := [.int a.1, .int a.2]) (ev_var rfl))) (by simp)) fun _ => ev_all (bs := [true, true]) (evd_to (EvF.ev (ef_lcA (ds := [a.1, a.2]) (enc := fun x => .tuple [.int x, .int x]) (?_) (fun _ => .bool true) _ (by decide) (fun p _ => eg_pair) (fun D acc p _ => ev_call (α := Int) p (ea_cons (ev_var rfl) (ea_cons (ev_var rfl) ea_nil)) trivial) (by simp))) rfl)) (by rfl)
  rw [← zipD_self]
  exact ei_zipXT (ev_var (d := bD a) rfl) (ev_var (d := bD a) rfl)
abbrev sp__law_same (K : PySem.W.Frag) : Sp := SpD K (α := Option (List (Int × Int))) (fun a => [fD a, fD a]) (fun a => ∀ bs, a = some bs → bs.length ≤ 10000) (fun a d => d = .bool true)
theorem ok__law_same2 {k : Nat} (F : FnP K "_law_same" s__law_same f fd) (T : Tx mg) (O_self : Ok P w K mg base "_law_same" k ["_law_got", "_law_due"] (sp_same1 K)) : FnOk P w K mg base CX0 (k + 1) f fd ["_law_got", "_law_due"] (sp__law_same K) := by
  have nd := sc__law_same.nd
  refine F.ok sc__law_same (fun vs H Q E h => spd_len (fun _ => rfl) h) (fun cdv A outer s H vs Q E hr h => ⟨_, PSs.nox (pss_cons (ps_if (pt_val (pe_callB (call_isiTK (K := K) rfl) rfl T.isinstance (by decide +kernel) (pa_cons (pv 1) (pa_cons (pe_tup (pa_cons (pe_bltn (v := .ty "list") rfl T.list (by decide +kernel) rfl) (pa_cons (pe_bltn (v := .ty "tuple") rfl T.tuple (by decide +kernel) rfl) pa_nil))) pa_nil)))) (pss_cons (ps_if (PW.pt (pw_or (pt_cmpR (op_neK (K := K) rfl (hu64 hr)) (pe_callB (call_isiK1 (K := K) rfl) rfl T.isinstance (by decide +kernel) (pa_cons (pv 0) (pa_cons (pe_bltn (v := .ty "list") rfl T.list (by decide +kernel) rfl) pa_nil))) (pe_callB (call_isiK1 (K := K) rfl) rfl T.isinstance (by decide +kernel) (pa_cons (pv 1) (pa_cons (pe_bltn (v := .ty "list") rfl T.list (by decide +kernel) rfl) pa_nil))) (nomark _)) (pw_or1 (pt_cmpR (op_neK (K := K) rfl (hu64 hr)) (pe_callB (call_isiK1 (K := K) rfl) rfl T.isinstance (by decide +kernel) (pa_cons (pv 0) (pa_cons (pe_bltn (v := .ty "tuple") rfl T.tuple (by decide +kernel) rfl) pa_nil))) (pe_callB (call_isiK1 (K := K) rfl) rfl T.isinstance (by decide +kernel) (pa_cons (pv 1) (pa_cons (pe_bltn (v := .ty "tuple") rfl T.tuple (by decide +kernel) rfl) pa_nil))) (nomark _))))) (pss_one (ps_ret pe_bl)) pss_nil) (pss_one (ps_ret (pe_and (pe_cmpR (op_eqK (K := K) rfl (hu64 hr)) (pe_callB (call_lenK (K := K) rfl) rfl T.len (by decide +kernel) (pa_cons (pv 0) pa_nil)) (pe_callB (call_lenK (K := K) rfl) rfl T.len (by decide +kernel) (pa_cons (pv 1) pa_nil)) (nomark _)) (pe_one (pe_callB (cr_allK (K := K) rfl rfl) rfl T.all (by decide +kernel) (pa_cons (pe_lc (own := [("_law_mine", 2), ("_law_its", 3)]) rfl nd (pi_zipX (K := K) rfl rfl T.zip (pa_cons (pv 0) (pa_cons (pv 1) pa_nil))) (blkOk_by (own := [("_law_mine", 2), ("_law_its", 3)]) (N := N__law_same) (sc := defScope s__law_same) (by decide +kernel)) (fun _ _ _ _ _ => (pg_tupK (K := K) (n := 2) rfl rfl (pgs_cons (pg_name (i := 2) nd rfl (Or.inl rfl)) (pgs_cons (pg_name (i := 3) nd rfl (Or.inl rfl)) pgs_nil)))) (fun _ _ _ _ _ => pts_nil) (fun _ _ _ _ _ => (pe_f O_self hr rfl (pa_cons (pv 2) (pa_cons (pv 3) pa_nil))))) pa_nil))))))) pss_nil) (pss_cons (ps_if (PW.pt (pw_or (pt_cmpR op_isN1 (pv 1) pe_non (nomark _)) (pw_or1 (pt_val (pe_callB (call_isiTK (K := K) rfl) rfl T.isinstance (by decide +kernel) (pa_cons (pv 1) (pa_cons (pe_tup (pa_cons (pe_bltn (v := .ty "bool") rfl T.bool (by decide +kernel) rfl) (pa_cons (pe_bltn (v := .ty "str") rfl T.str (by decide +kernel) rfl) pa_nil))) pa_nil))))))) (pss_one (ps_ret (pe_and (pe_cmpR (op_eqK (K := K) rfl (hu64 hr)) (pv 0) (pv 1) (nomark _)) (pe_and (pe_cmpR (op_eqK (K := K) rfl (hu64 hr)) (pe_callB (call_isiK1 (K := K) rfl) rfl T.isinstance (by decide +kernel) (pa_cons (pv 0) (pa_cons (pe_bltn (v := .ty "bool") rfl T.bool (by decide +kernel) rfl) pa_nil))) (pe_callB (call_isiK1 (K := K) rfl) rfl T.isinstance (by decide +kernel) (pa_cons (pv 1) (pa_cons (pe_bltn (v := .ty "bool") rfl T.bool (by decide +kernel) rfl) pa_nil))) (nomark _)) (pe_one (pe_cmpR (op_eqK (K := K) rfl (hu64 hr)) (pe_cmpR op_isN1 (pv 0) pe_non (nomark _)) (pe_cmpR op_isN1 (pv 1) pe_non (nomark _)) (nomark _))))))) pss_nil) (pss_one (ps_ret (pe_and (pe_callB (call_isiK1 (K := K) rfl) rfl T.isinstance (by decide +kernel) (pa_cons (pv 0) (pa_cons (pe_bltn (v := .ty "int") rfl T.int (by decide +kernel) rfl) pa_nil))) (pe_and (pe_not (pe_callB (call_isiK1 (K := K) rfl) rfl T.isinstance (by decide +kernel) (pa_cons (pv 0) (pa_cons (pe_bltn (v := .ty "bool") rfl T.bool (by decide +kernel) rfl) pa_nil)))) (pe_one (pe_cmpR (op_eqK (K := K) rfl (hu64 hr)) (pv 0) (pv 1) (nomark _))))))))), run_pure (Ns := N__law_same) h fun a B hp => ?_⟩)
  cases a with
  | none =>
    refine sb_seq (sb_if (b := false) (et_B (ev_isi2 (d := .none) (ev_var rfl) kit_NoneType_list kit_NoneType_tuple)) (fun h => by cases h) fun _ => sb_next ?_)
    refine sb_seq (sb_if (b := true) (et_or (x := true) (et_test (ev_isN (d := .none) (ev_var rfl))) (y := true) fun h => by cases h) (fun _ => ?_) fun h => by cases h)
    exact sb_retD (ev_andV (x := true) (ev_eqD (a := .none) (b := .none) (ev_var rfl) (ev_var rfl) rfl rfl rfl) fun _ => ev_andV (x := true) (ev_eqB (x := false) (y := false) (ev_isi (d := .none) (ev_var rfl) kit_NoneType_bool) (ev_isi (d := .none) (ev_var rfl) kit_NoneType_bool)) fun _ => ev_eqB (x := true) (y := true) (ev_isN (d := .none) (ev_var rfl)) (ev_isN (d := .none) (ev_var rfl))) rfl
  | some bs =>
    have hl : bs.length ≤ 10000 := hp bs rfl
    refine sb_seq (sb_if (b := true) (et_B (ev_isi2 (d := tB bs) (ev_var rfl) kit_tuple_list kit_tuple_tuple)) (fun _ => ?_) fun h => by cases h)
    refine sb_seq (sb_if (b := false) (et_or (x := false) (et_test (ev_neB (x := false) (y := false) (ev_isi (d := tB bs) (ev_var rfl) kit_tuple_list) (ev_isi (d := tB bs) (ev_var rfl) kit_tuple_list))) (y := false) fun _ => et_test (ev_neB (x := true) (y := true) (ev_isi (d := tB bs) (ev_var rfl) kit_tuple_tuple) (ev_isi (d := tB bs) (ev_var rfl) kit_tuple_tuple))) (fun h => by cases h) fun _ => sb_next ?_)
    refine sb_retD (ev_andV (x := true) (evd_to (ev_eqI (ev_lenT (ds := bs.map bD) (ev_var rfl)) (ev_lenT (ds := bs.map bD) (ev_var rfl))) (by simp)) fun _ => ev_all (bs := bs.map fun _ => true) (evd_to (EvF.ev (ef_lcA (ds := bs) (enc := fun x => .tuple [bD x, bD x]) (?_) (fun _ => .bool true) _ (by decide) (fun p _ => eg_pair) (fun D acc p _ => ev_call (α := Int × Int) p (ea_cons (ev_var rfl) (ea_cons (ev_var rfl) ea_nil)) trivial) (by omega))) (by rw [List.map_map]; rfl))) (by simp)
    rw [← zipD_self]
    exact ei_zipXT (ev_var (d := tB bs) rfl) (ev_var (d := tB bs) rfl)

end
end CW
end C6x
section C7x
set_option Elab.async false
set_option linter.all false
set_option maxRecDepth 100000
namespace CW
open PySem PySem.Spec PyProof.Rows L2 StX RZ
section
variable {P : Program} {w : World} {K : PySem.W.Frag} {mg : PySem.Str → Option Value} {base : Heap} {f : Addr} {fd : FuncData}
variable {B W : Wd} {k k1 k2 : Nat} {ρ : List Sl} {te ta tb : TE} {i : Nat} {b : Addr}
theorem rc_tupL {ds : List PyData} : RcD K W (rTupX K) [.list ds] fun x => x = .tuple ds := fun vs H n dv o Q q => by
  cases dv with
  | cons h1 h2 =>
    cases h2
    cases h1 with
    | lst h3 h4 => exact ⟨_, _, rfl, .inl ⟨Same.seq fr_le h3, fun l hl => q _ _ _ (Same.new hl) (is_tup o hl h4) rfl⟩⟩
theorem ek_tupL {P : PyData → Prop} (h : EvK K W k te ρ (isD P)) (hP : ∀ d, P d → ∃ ds, d = .list ds) : EvK K W (k + 0) (tTupK K te) ρ (isD fun d => ∃ ds, d = .tuple ds ∧ P (.list ds)) := ek_cb (eak_cons h fun _ _ => eak_nil) fun ss hs => by
  obtain ⟨s, r, e, ⟨d, e1, e2⟩, e3⟩ := hs
  subst e e1 e3
  obtain ⟨ds, rfl⟩ := hP d e2
  exact ⟨[.list ds], _, rfl, rc_tupL, fun d hd => ⟨ds, hd, e2⟩⟩
theorem ints_of {lo hi : Int} : ∀ {ds : List PyData}, (∀ x ∈ ds, Bt lo hi x) → ∃ xs : List Int, ds = xs.map .int ∧ ∀ x ∈ xs, lo ≤ x ∧ x ≤ hi
  | [], _ => ⟨[], rfl, fun x h => by cases h⟩
  | d :: ds, h => by
    obtain ⟨xs, e, hx⟩ := ints_of (ds := ds) fun x hx => h x (List.mem_cons_of_mem _ hx)
    obtain ⟨r, e2, r1, r2⟩ := h d List.mem_cons_self
    refine ⟨r :: xs, by rw [e, e2]; rfl, fun x hx' => ?_⟩
    rcases List.mem_cons.mp hx' with z | z
    · rw [z]; exact ⟨r1, r2⟩
    · exact hx x z
theorem fill_bn {row : List Int} {L : Int} (hr : CK.NN row) (hl : row.length ≤ 10000) : ∀ bs, CK.fill row L = some bs → CK.BN bs ∧ bs.length ≤ 10000 := fun bs h => ⟨fun p hp => by
  obtain ⟨h1, h2⟩ := CK.fill_ends h p hp
  exact ⟨hr _ h1, hr _ h2⟩, Nat.le_trans (fill_len h) hl⟩
abbrev sp__law_answers_right (K : PySem.W.Frag) : Sp := SpB K (α := Addr) (fun a => [.at a]) (fun W a => Bx W a) 20 (fun a d => d = .bool true)
theorem ok__law_answers_right (F : FnP K "_law_answers_right" s__law_answers_right f fd) (T : Tx mg) (O__law_take : Ok P w K mg base "_law_take" 1 ["_law_box_here", "_law_below"] (sp__law_take K)) (O_filling : Ok P w K mg base "filling" 2 ["row", "least"] (sp_filling K)) (O_filling_text : Ok P w K mg base "filling_text" 2 ["filling"] (sp_filling_text K)) (O_tests_for : Ok P w K mg base "tests_for" 2 ["top", "least"] (sp_tests_for K)) (O_answers_of : Ok P w K mg base "answers_of" 4 ["row", "tests"] (sp_answers_of K)) (O_filling_from : Ok P w K mg base "filling_from" 5 ["top", "least", "answers"] (sp_filling_from K)) : FnOk P w K mg base CX0 6 f fd ["_law_box_here"] (sp__law_answers_right K) := by
  have nd := sc__law_answers_right.nd
  refine F.ok sc__law_answers_right (fun vs H Q E h => spb_len (fun _ => rfl) h) (fun cdv A outer s H vs Q E hr h => ⟨_, PSs.nox (pss_cons (ps_asg (pe_tup (pa_cons (pe_op (op_plusK (K := K) rfl) pe_int (pe_f O__law_take (hr.mono (by decide)) rfl (pa_cons (pv 0) (pa_cons pe_int pa_nil)))) (pa_cons (pe_op (op_plusK (K := K) rfl) pe_int (pe_f O__law_take (hr.mono (by decide)) rfl (pa_cons (pv 0) (pa_cons pe_int pa_nil)))) pa_nil))) (pg_tupK (K := K) (n := 2) rfl rfl (pgs_cons (pg_name (i := 1) nd rfl (Or.inl rfl)) (pgs_cons (pg_name (i := 2) nd rfl (Or.inr rfl)) pgs_nil)))) (pss_cons (ps_set (i := 3) nd rfl (Or.inl rfl) (pe_callTy (call_tupleK (K := K) rfl) rfl T.tuple (by decide +kernel) (pa_cons (pe_lc (own := [("_law_turn", 5)]) rfl nd (pi_range1 rfl T.range (pa_cons (pe_f O__law_take (hr.mono (by decide)) rfl (pa_cons (pv 0) (pa_cons pe_int pa_nil))) pa_nil)) (blkOk_by (own := [("_law_turn", 5)]) (N := N__law_answers_right) (sc := defScope s__law_answers_right) (by decide +kernel)) (fun _ _ _ _ _ => (pg_name (i := 5) nd rfl (Or.inl rfl))) (fun _ _ _ _ _ => pts_nil) (fun _ _ _ _ _ => (pe_op (op_plusK (K := K) rfl) pe_int (pe_f O__law_take (hr.mono (by decide)) rfl (pa_cons (pv 0) (pa_cons (pv 2) pa_nil)))))) pa_nil))) (pss_cons (ps_set (i := 4) nd rfl (Or.inl rfl) (pe_f O_filling_from hr rfl (pa_cons (pv 2) (pa_cons (pv 1) (pa_cons (pe_callTy (call_tupleK (K := K) rfl) rfl T.tuple (by decide +kernel) (pa_cons (pe_f O_answers_of (hr.mono (by decide)) rfl (pa_cons (pv 3) (pa_cons (pe_f O_tests_for (hr.mono (by decide)) rfl (pa_cons (pv 2) (pa_cons (pv 1) pa_nil))) pa_nil))) pa_nil)) pa_nil))))) (pss_one (ps_ret (pe_cmpR (op_eqK (K := K) rfl (hu64 hr)) (pe_f O_filling_text (hr.mono (by decide)) rfl (pa_cons (pv 4) pa_nil)) (pe_f O_filling_text (hr.mono (by decide)) rfl (pa_cons (pe_f O_filling (hr.mono (by decide)) rfl (pa_cons (pv 3) (pa_cons (pv 1) pa_nil))) pa_nil)) (nomark _))))))), run_box (Ns := N__law_answers_right) h fun a B hp => ?_⟩)
  refine sb_seqK (k1 := 2) (k2 := 18) (sb_tup (k1 := 1) (k2 := 1) (es_k (ek_add (k1 := 0) (k2 := 1) (ek_bt (lo := 1) (hi := 1) (ev_int 1) (by omega) (by omega)) (ek_take (m := 6) rfl hp (ev_int 6) (by omega) (by omega)))) (fun W1 s1 h => es_k (ek_add (k1 := 0) (k2 := 1) (ek_bt (lo := 1) (hi := 1) (ev_int 1) (by omega) (by omega)) (ek_take (m := 40) rfl (by rw [h.1]; exact hp) (ev_int 40) (by omega) (by omega)))) ?_) (by omega)
  rintro W1 s1 W2 s2 ⟨e1, d, e3, L, e4, w1, w2⟩ ⟨e2, d2, e5, top, e6, k1, k2⟩
  subst e3 e4 e5 e6
  rw [e1] at e2
  subst e2
  refine sb_seqK (k1 := 18) (k2 := 0) (sb_asgK (ek_tupL (k := 18) (ek_lcK (kb := 1) (mx := 4) (k0 := 1) (P := Bt 1 top) (eik_range (lo := 0) (m := 4) (ek_take (m := 5) rfl hp (ev_int 5) (by omega) (by omega)) (by omega) (by omega)) ?_ _ (by decide) (fun es hes d hd => eg_name) (fun D acc es hes d hd => ek_bto (ek_add (k1 := 0) (k2 := 1) (ek_bt (lo := 1) (hi := 1) (ev_int 1) (by omega) (by omega)) (ek_take (m := top) rfl hp.up (ev_var rfl) (by omega) (by omega))) (by omega) (by omega)) (by omega) (by omega)) ?_) ?_) (by omega)
  · rintro es ⟨n, rfl, n1, n2⟩
    rw [rangeD_len]; omega
  · rintro d ⟨ds, rfl, _⟩
    exact ⟨ds, rfl⟩
  · rintro d ⟨ds, rfl, ds', e, ⟨es, ⟨n, rfl, n1, n2⟩, hl⟩, hx⟩
    cases e
    obtain ⟨row, rfl, hr⟩ := ints_of hx
    rw [rangeD_len, List.length_map] at hl
    have hlen : row.length ≤ 4 := by omega
    have hnn : CK.NN row := fun x hx => by have := hr x hx; omega
    obtain ⟨t1, t2⟩ := tests_small (top := top) (L := L) (by omega) (by omega)
    refine sb_seq (sb_asgD (d := fD (CK.fill row L)) (ev_call (α := FfA) ⟨row, top, L⟩ (ea_cons (ev_var rfl) (ea_cons (ev_var rfl) (ea_cons (ev_tupL (ds := (CK.answersOf row (CK.testsFor top L)).map .int) (ev_call (α := List Int × List (List Int)) (row, CK.testsFor top L) (ea_cons (ev_var (d := tI row) rfl) (ea_cons (ev_call (α := Int × Int) (top, L) (ea_cons (ev_var rfl) (ea_cons (ev_var rfl) ea_nil)) ?_) ea_nil)) ⟨by simp only; omega, t1, t2⟩)) ea_nil))) ⟨by simp only; omega, by simp only; omega, by simp only; omega, hr⟩) ?_)
    · constructor <;> constructor <;> simp only <;> omega
    · refine sb_retD (ev_eqS (x := CK.fillS (CK.fill row L)) (y := CK.fillS (CK.fill row L)) (ev_call (α := Option (List (Int × Int))) (CK.fill row L) (ea_cons (ev_var rfl) ea_nil) (fill_bn hnn (by omega))) (ev_call (α := Option (List (Int × Int))) (CK.fill row L) (ea_cons (ev_call (α := List Int × Int) (row, L) (ea_cons (ev_var (d := tI row) rfl) (ea_cons (ev_var rfl) ea_nil)) (show row.length ≤ 10000 by omega)) ea_nil) (fill_bn hnn (by omega)))) (by simp)

end
end CW
end C7x
section C8x
set_option Elab.async false
set_option linter.all false
set_option maxRecDepth 100000
namespace CW
open PySem PySem.Spec PyProof.Rows L2 StX RZ
section
variable {P : Program} {w : World} {K : PySem.W.Frag} {mg : PySem.Str → Option Value} {base : Heap} {f : Addr} {fd : FuncData}
variable {B W : Wd} {k k1 k2 : Nat} {ρ : List Sl} {te ta tb : TE} {i : Nat} {b : Addr}
theorem gaGo_le {M : Int} (hM : 0 ≤ M) : ∀ (as bs : List (Int × Int)), (∀ p ∈ as, p.1 ≤ M ∧ p.2 ≤ M) → (∀ p ∈ bs, p.1 ≤ M ∧ p.2 ≤ M) → CK.gaGo as bs ≤ M
  | [], _, _, _ => by simpa [CK.gaGo] using hM
  | _ :: _, [], _, _ => by simpa [CK.gaGo] using hM
  | p :: as, q :: bs, ha, hb => by
    have h1 := ha p List.mem_cons_self
    have h2 := hb q List.mem_cons_self
    have ih := gaGo_le hM as bs (fun x hx => ha x (List.mem_cons_of_mem _ hx)) fun x hx => hb x (List.mem_cons_of_mem _ hx)
    rw [CK.gaGo]
    split
    · exact ih
    · split <;> omega
theorem parting_le {M L : Int} (hM : 0 ≤ M) (hL : 0 < L) (hLM : L ≤ M) {row other b : List Int} (hr : ∀ x ∈ row, x ≤ M) (ho : ∀ x ∈ other, x ≤ M) (h : CK.partingM row other L = some b) : ∀ x ∈ b, x ≤ M + 1 := by
  unfold CK.partingM at h
  split at h
  · cases h
  split at h
  · rename_i as bs h1 h2
    have ha : ∀ p ∈ as, p.1 ≤ M ∧ p.2 ≤ M := fun p hp => ⟨hr _ (CK.fill_ends h1 p hp).1, hr _ (CK.fill_ends h1 p hp).2⟩
    have hb : ∀ p ∈ bs, p.1 ≤ M ∧ p.2 ≤ M := fun p hp => ⟨ho _ (CK.fill_ends h2 p hp).1, ho _ (CK.fill_ends h2 p hp).2⟩
    have hd : ∀ cs : List (Int × Int), (∀ p ∈ cs, p.1 ≤ M ∧ p.2 ≤ M) → (cs.headD (0, 0)).1 ≤ M := fun cs hc => by
      cases cs with
      | nil => exact hM
      | cons c cs => exact (hc c List.mem_cons_self).1
    have e := Option.some.inj h
    subst e
    unfold CK.partingB
    split
    · have := hd (as ++ bs) fun p hp => by
        rcases List.mem_append.mp hp with z | z
        · exact ha p z
        · exact hb p z
      intro x hx
      simp only [List.mem_cons, List.not_mem_nil, or_false] at hx
      omega
    · split
      · have h3 := hd as ha
        have h4 := hd bs hb
        intro x hx
        simp only [List.mem_cons, List.not_mem_nil, or_false] at hx
        omega
      · have h5 : CK.greatestApart as bs ≤ M := gaGo_le hM _ _ (fun p hp => ha p (List.mem_reverse.mp hp)) fun p hp => hb p (List.mem_reverse.mp hp)
        have h6 : ∀ a, CK.totalOf L (CK.greatestApart as bs) a ≤ M := fun a => by
          cases a with
          | none => exact h5
          | some a => simp only [CK.totalOf]; omega
        intro x hx
        simp only [List.mem_cons, List.not_mem_nil, or_false] at hx
        rcases hx with hx | hx | hx
        · have := h6 (CK.nextAbove (if CK.holdsB as (CK.greatestApart as bs) then as else bs) (CK.greatestApart as bs))
          omega
        · omega
        · omega
  · have e := Option.some.inj h
    subst e
    intro x hx
    simp only [List.mem_cons, List.not_mem_nil, or_false] at hx
    omega
abbrev sp__law_parting_right (K : PySem.W.Frag) : Sp := SpB K (α := NearA) (fun a => [.at a.b, .dat (tI a.row), .dat (.int a.L)]) (fun W a => Bx W a.b ∧ (1 ≤ a.L ∧ a.L ≤ 12 ∧ a.row.length ≤ 5 ∧ ∀ x ∈ a.row, 1 ≤ x ∧ x ≤ 200)) 50 (fun a d => d = .bool true)
theorem ek_near {E : XK} {row : List Int} {L : Int} {j l : Nat} (hi : ρ[i]? = some (.at b)) (hr : ρ[j]? = some (.dat (tI row))) (hL : ρ[l]? = some (.dat (.int L))) (bx : Bx W b) (h1 : 1 ≤ L) (h2 : L ≤ 12) (h3 : row.length ≤ 5) (h4 : ∀ x ∈ row, 1 ≤ x ∧ x ≤ 200) :
    EvK K W 50 (tCall (sp__law_near K) [] E (tCons (tVar i) (tCons (tVar j) (tCons (tVar l) tNil)))) ρ (isD (RowP 6 1 300)) :=
  ek_call (k1 := 0) (k2 := 50) (eak_cons (k1 := 0) (k2 := 0) (ek_at hi) fun _ _ => eak_cons (k1 := 0) (k2 := 0) (ek_ev (ev_var hr)) fun _ _ => eak_cons (k1 := 0) (k2 := 0) (ek_ev (ev_var hL)) fun _ _ => eak_nil) fun ss hs => by
    obtain ⟨s, r, e, e1, s2, r2, e3, ⟨d2, e4, e5⟩, s3, r3, e6, ⟨d3, e7, e8⟩, e9⟩ := hs
    subst e e1 e3 e4 e5 e6 e7 e8 e9
    exact ⟨⟨b, row, L⟩, rfl, ⟨bx, h1, h2, h3, h4⟩, fun d hd => hd⟩
theorem ok__law_parting_right (F : FnP K "_law_parting_right" s__law_parting_right f fd) (T : Tx mg) (O_filling : Ok P w K mg base "filling" 2 ["row", "least"] (sp_filling K)) (O_batch_text : Ok P w K mg base "batch_text" 2 ["batch"] (sp_batch_text K)) (O_filling_text : Ok P w K mg base "filling_text" 2 ["filling"] (sp_filling_text K)) (O_batch_in : Ok P w K mg base "batch_in" 3 ["string"] (sp_batch_in K)) (O_is_parting : Ok P w K mg base "is_parting" 4 ["row", "other", "least", "thing"] (sp_is_parting K)) (O__law_near : Ok P w K mg base "_law_near" 4 ["_law_box_here", "_law_row_so", "_law_least_so"] (sp__law_near K)) (O_parting : Ok P w K mg base "parting" 6 ["row", "other", "least"] (sp_parting K)) : FnOk P w K mg base CX0 7 f fd ["_law_box_here", "_law_row_so", "_law_least_so"] (sp__law_parting_right K) := by
  have nd := sc__law_parting_right.nd
  refine F.ok sc__law_parting_right (fun vs H Q E h => spb_len (fun _ => rfl) h) (fun cdv A outer s H vs Q E hr h => ⟨_, PSs.nox (pss_cons (ps_set (i := 3) nd rfl (Or.inl rfl) (pe_f O__law_near (hr.mono (by decide)) rfl (pa_cons (pv 0) (pa_cons (pv 1) (pa_cons (pv 2) pa_nil))))) (pss_cons (ps_set (i := 4) nd rfl (Or.inl rfl) (pe_f O_parting hr rfl (pa_cons (pv 1) (pa_cons (pv 3) (pa_cons (pv 2) pa_nil))))) (pss_cons (ps_if (pt_cmpR op_isN1 (pv 4) pe_non (nomark _)) (pss_one (ps_ret (pe_cmpR (op_eqK (K := K) rfl (hu64 hr)) (pe_f O_filling_text (hr.mono (by decide)) rfl (pa_cons (pe_f O_filling (hr.mono (by decide)) rfl (pa_cons (pv 1) (pa_cons (pv 2) pa_nil))) pa_nil)) (pe_f O_filling_text (hr.mono (by decide)) rfl (pa_cons (pe_f O_filling (hr.mono (by decide)) rfl (pa_cons (pv 3) (pa_cons (pv 2) pa_nil))) pa_nil)) (nomark _)))) pss_nil) (pss_cons (ps_set (i := 5) nd rfl (Or.inl rfl) (pe_f O_batch_in (hr.mono (by decide)) rfl (pa_cons (pe_f O_batch_text (hr.mono (by decide)) rfl (pa_cons (pv 4) pa_nil)) pa_nil))) (pss_one (ps_ret (pe_and (pe_cmpR (op_eqK (K := K) rfl (hu64 hr)) (pv 5) (pv 4) (nomark _)) (pe_one (pe_cmpR op_isBl (pe_f O_is_parting (hr.mono (by decide)) rfl (pa_cons (pv 1) (pa_cons (pv 3) (pa_cons (pv 2) (pa_cons (pv 5) pa_nil))))) pe_bl (nomark _)))))))))), run_box (Ns := N__law_parting_right) h fun a B hp => ?_⟩)
  obtain ⟨b, row, L⟩ := a
  obtain ⟨bx, h1, h2, h3, h4⟩ := hp
  simp only at h1 h2 h3 h4 bx
  refine sb_seqK (k1 := 50) (k2 := 0) (sb_asgK (ek_near (row := row) (L := L) rfl rfl rfl bx h1 h2 h3 h4) ?_) (by omega)
  rintro d ⟨other, rfl, o1, o2⟩
  have nr : CK.NN row := fun x hx => by have := h4 x hx; omega
  have no : CK.NN other := fun x hx => by have := o2 x hx; omega
  refine sb_seq (sb_asgD (d := pD (CK.partingM row other L)) (ev_call (α := List Int × List Int × Int) (row, other, L) (ea_cons (ev_var rfl) (ea_cons (ev_var rfl) (ea_cons (ev_var rfl) ea_nil))) ⟨by simp only; omega, by simp only; omega, by simp only; omega⟩) ?_)
  cases hq : CK.partingM row other L with
  | none =>
    have hf := CK.parting_none.mp hq
    refine sb_seq (sb_if (b := true) (et_test (ev_isN (d := .none) (ev_var rfl))) (fun _ => ?_) fun h => by cases h)
    refine sb_retD (ev_eqS (x := CK.fillS (CK.fill row L)) (y := CK.fillS (CK.fill other L)) (ev_call (α := Option (List (Int × Int))) (CK.fill row L) (ea_cons (ev_call (α := List Int × Int) (row, L) (ea_cons (ev_var rfl) (ea_cons (ev_var rfl) ea_nil)) (show row.length ≤ 10000 by omega)) ea_nil) (fill_bn nr (by omega))) (ev_call (α := Option (List (Int × Int))) (CK.fill other L) (ea_cons (ev_call (α := List Int × Int) (other, L) (ea_cons (ev_var rfl) (ea_cons (ev_var rfl) ea_nil)) (show other.length ≤ 10000 by omega)) ea_nil) (fill_bn no (by omega)))) (by simp [hf])
  | some bt =>
    obtain ⟨p1, p2, p3, p4⟩ := CK.parting_ok (by omega) hq
    have p5 := parting_le (M := 300) (by omega) (by omega) (by omega) (fun x hx => by have := h4 x hx; omega) (fun x hx => (o2 x hx).2) hq
    have nb : CK.NN bt := fun x hx => by have := p3 x hx; have := p5 x hx; omega
    refine sb_seq (sb_if (b := false) (et_test (ev_isN (d := tI bt) (ev_var rfl))) (fun h => by cases h) fun _ => sb_next ?_)
    refine sb_seq (sb_asgD (d := tI bt) (ev_call (α := List Int) bt (ea_cons (ev_call (α := List Int) bt (ea_cons (ev_var rfl) ea_nil) ⟨nb, by omega⟩) ea_nil) ⟨nb, p1, by omega, fun n hn => by have := p3 n hn; omega⟩) ?_)
    refine sb_retD (ev_andV (x := true) (ev_eqD (ev_var (d := tI bt) rfl) (ev_var (d := tI bt) rfl) (shaped_tI _) (shaped_tI _) (by rw [eqv_tI]; simp)) fun _ => ev_isB (x := true) (y := true) (evd_to (ev_call (α := IpA) ⟨row, other, L, bt⟩ (ea_cons (ev_var rfl) (ea_cons (ev_var rfl) (ea_cons (ev_var rfl) (ea_cons (ev_var rfl) ea_nil)))) ⟨by simp only; omega, by simp only; omega, p1, p2, fun x hx => by have := p3 x hx; simp only; omega⟩) (by simp [p4])) (ev_bl true)) rfl

end
end CW
end C8x
section C9x
set_option Elab.async false
set_option linter.all false
set_option maxRecDepth 100000
namespace CW
open PySem PySem.Spec PyProof.Rows L2 StX RZ
section
variable {P : Program} {w : World} {K : PySem.W.Frag} {mg : PySem.Str → Option Value} {base : Heap} {f : Addr} {fd : FuncData}
variable {B W : Wd} {k k1 k2 : Nat} {ρ : List Sl} {te ta tb : TE} {i : Nat} {b : Addr}
theorem joinL_len {m : Nat} {S : List Nat} (hS : S.length = 1) : ∀ {ps : List (List Nat)}, (∀ p ∈ ps, p.length ≤ m) → (TL.joinL S ps).length ≤ (m + 1) * ps.length
  | [], _ => by simp [TL.joinL]
  | [p], h => by
    have := h p List.mem_cons_self
    show p.length ≤ _
    simp only [List.length_cons, List.length_nil]
    omega
  | p :: q :: r, h => by
    have h1 := h p List.mem_cons_self
    have ih := joinL_len hS (ps := q :: r) fun x hx => h x (List.mem_cons_of_mem _ hx)
    show (p ++ (S ++ TL.joinL S (q :: r))).length ≤ _
    rw [List.length_append, List.length_append, hS]
    have e : (m + 1) * (p :: q :: r).length = (m + 1) + (m + 1) * (q :: r).length := by
      simp only [List.length_cons]
      rw [Nat.mul_succ]
      omega
    rw [e]
    omega
theorem str_len {st : List (List Int)} (h : ∀ b ∈ st, CK.NN b ∧ b.length ≤ 100) : (Txt.join CK.fdT (st.map CK.numsS)).length ≤ 2101 * st.length := by
  rw [TL.len_tl, CK.tl_joinT, CK.tl_fd]
  have := joinL_len (m := 2100) (S := [10]) rfl (ps := (st.map CK.numsS).map TL.tl) fun p hp => by
    obtain ⟨w, hw, rfl⟩ := List.mem_map.mp hp
    obtain ⟨b, hb, rfl⟩ := List.mem_map.mp hw
    rw [← TL.len_tl]
    have h1 := nums_len (h b hb).1
    have h2 := (h b hb).2
    omega
  simpa using this
theorem fold_snd {α β : Type} : ∀ (ys : List (α × β)) (s : List β), ys.foldl (fun s q => s ++ [q.2]) s = s ++ ys.map (·.2)
  | [], s => by simp
  | y :: ys, s => by rw [List.foldl_cons, fold_snd ys, List.map_cons, List.append_assoc]; rfl
abbrev sp_stream_in (K : PySem.W.Frag) : Sp := SpD K (α := List (List Int)) (fun a => [.str (CK.strS a)]) (fun a => (∀ b ∈ a, CK.NN b ∧ b ≠ [] ∧ b.length ≤ 100 ∧ ∀ n ∈ b, 1 ≤ n) ∧ a.length ≤ 500) (fun a d => d = tT a)
theorem ok_stream_in (F : FnP K "stream_in" s_stream_in f fd) (T : Tx mg) (O_batch_in : Ok P w K mg base "batch_in" 3 ["string"] (sp_batch_in K)) : FnOk P w K mg base CX0 4 f fd ["string"] (sp_stream_in K) := by
  have nd := sc_stream_in.nd
  refine F.ok sc_stream_in (fun vs H Q E h => spd_len (fun _ => rfl) h) (fun cdv A outer s H vs Q E hr h => ⟨_, PSs.nox (pss_cons (ps_if (pt_cmpR (op_eqK (K := K) rfl (hu64 hr)) (pv 0) (pe_glob rfl T.gNONE.1 T.gNONE.2) (nomark _)) (pss_one (ps_ret (pe_tup pa_nil))) pss_nil) (pss_cons (ps_set (i := 1) nd rfl (Or.inl rfl) (pe_lst pa_nil)) (pss_cons (ps_for PassesOwn.never rfl (pi_enumK (K := K) rfl rfl T.enumerate (pa_cons (pe_splitK (pv 0) (pe_glob rfl T.gFEED.1 T.gFEED.2)) pa_nil)) (pg_tupK (K := K) (n := 2) rfl rfl (pgs_cons (pg_name (i := 2) nd rfl (Or.inl rfl)) (pgs_cons (pg_name (i := 3) nd rfl (Or.inl rfl)) pgs_nil))) (pss_one (ps_try_thru0 (pss_one (ps_expr (pe_bmK (K := K) rfl PySem.F.plainAttrs_list PySem.F.slot_list_append PySem.F.type_list_append mt_append (pv 1) (pa_cons (pe_f O_batch_in hr rfl (pa_cons (pv 3) pa_nil)) pa_nil))))))) (pss_one (ps_ret (pe_callTy (call_tupleK (K := K) rfl) rfl T.tuple (by decide +kernel) (pa_cons (pv 1) pa_nil))))))), run_pure (Ns := N_stream_in) h fun a B hp => ?_⟩)
  obtain ⟨h1, h2⟩ := hp
  refine sb_seq (sb_if (b := decide (CK.strS a = CK.dsT)) (et_test (ev_eqS (ev_var rfl) (ev_str CK.dsT))) (fun h => ?_) fun h => sb_next ?_)
  · have h' : CK.strS a = CK.dsT := by simpa using h
    have ha : a = [] := by
      refine Classical.byContradiction fun hne => ?_
      unfold CK.strS at h'
      rw [if_neg hne] at h'
      exact CK.not_ds (CK.str_head (fun b hb => ⟨(h1 b hb).1, (h1 b hb).2.1⟩) hne) h'
    subst ha
    exact sb_retD (ev_tup ea_nil (by simp)) rfl
  have ha : a ≠ [] := fun z => by subst z; revert h; decide +kernel
  have e : CK.strS a = Txt.join CK.fdT (a.map CK.numsS) := by unfold CK.strS; rw [if_neg ha]
  have hl := str_len fun b hb => ⟨(h1 b hb).1, (h1 b hb).2.2.1⟩
  refine sb_seq (sb_asgM (ef_lst ea_nil (by simp)) fun p => ?_)
  refine sb_seq (sb_fold0 (xs := (List.range a.length).zip a) (enc := fun q => PyData.tuple [.int (q.1 : Int), .str (CK.numsS q.2)]) ?_ (fun (s : List (List Int)) q => s ++ [q.2])
    (fun s W' ρ' => W' = B.push K p (.lst (s.map tI)) ∧ ∃ o1 o2 o3, ρ' = [.dat (.str (CK.strS a)), .at p, o1, o2, o3]) [] ⟨rfl, _, _, _, rfl⟩ ?_ ?_)
  · have e2 : ((List.range a.length).zip a).map (fun q => PyData.tuple [.int (q.1 : Int), .str (CK.numsS q.2)]) = enumD ((a.map CK.numsS).map .str) := by
      rw [List.map_map]
      exact (enumD_map (fun b => PyData.str (CK.numsS b)) a).symm
    rw [e2]
    refine ei_enumXL (EvF.ev (ev_split (z := Txt.join CK.fdT (a.map CK.numsS)) (evd_to (ev_var rfl) (by rw [e])) (ev_str CK.fdT) (by decide +kernel) (by omega) (CK.str_split (fun b hb => (h1 b hb).1) ha)))
  · rintro ys x zs W' ρ' hz x' ⟨rfl, o1, o2, o3, rfl⟩
    refine ⟨_, _, eg_pair, ?_⟩
    have hx : x.2 ∈ a := by
      have h3 : x ∈ (List.range a.length).zip a := by rw [hz]; simp
      exact (List.of_mem_zip (a := x.1) (b := x.2) h3).2
    obtain ⟨n1, n2, n3, n4⟩ := h1 _ hx
    have hs : ys.length < a.length := by
      have h3 := congrArg List.length hz
      rw [List.length_zip, List.length_range, List.length_append, List.length_cons] at h3
      omega
    refine sb_append (k := 0) rfl Mu.here (fun _ _ => Ext.push) (ek_ev (ev_call (α := List Int) x.2 (ea_cons (ev_var rfl) ea_nil) ⟨n1, n2, by omega, n4⟩)) (by rw [List.length_map, fold_snd]; simp; omega) ?_
    rintro d rfl
    exact ⟨by rw [List.map_append]; rfl, _, _, _, rfl⟩
  · rintro W' ρ' ⟨rfl, o1, o2, o3, rfl⟩
    refine sb_ret_view (i := 1) rfl (Ext.refl _) (ev_tupL (ds := a.map tI) (evd_to (ev_var rfl) ?_)) fun d hd => hd
    rw [fold_snd, List.nil_append, List.map_snd_zip (by simp)]

end
end CW
end C9x
section C10x
set_option Elab.async false
set_option linter.all false
set_option maxRecDepth 100000
namespace CW
open PySem PySem.Spec PyProof.Rows L2 StX RZ
section
variable {P : Program} {w : World} {K : PySem.W.Frag} {mg : PySem.Str → Option Value} {base : Heap} {f : Addr} {fd : FuncData}
variable {B W : Wd} {k k1 k2 : Nat} {ρ : List Sl} {te ta tb : TE} {i : Nat} {b : Addr}
theorem canLay_ts : ∀ xs : List (List Int), PyData.canLayAll0 (xs.map tI) = true
  | [] => rfl
  | x :: xs => by
    have h1 := canLay_is x
    have h2 := canLay_ts xs
    simp [PyData.canLayAll0, PyData.canLay0, tI, h1, h2]
theorem depth_ts : ∀ xs : List (List Int), PyData.depthAll (xs.map tI) ≤ 2
  | [] => by simp [PyData.depthAll]
  | x :: xs => by
    have h1 := depth_is x
    have h2 := depth_ts xs
    simp only [List.map_cons, PyData.depthAll, PyData.depth, tI]
    omega
theorem shaped_tT (xs : List (List Int)) : SeqAt.shaped (tT xs) = true := by
  have h1 := canLay_ts xs
  have h2 := depth_ts xs
  simp [tT, SeqAt.shaped, PyData.canLay0, PyData.depth, h1]
  omega
theorem eqv_ts : ∀ xs : List (List Int), PyData.eqvAll (xs.map tI) (xs.map tI) = true
  | [] => by simp [PyData.eqvAll]
  | x :: xs => by
    have h2 := eqv_ts xs
    have h1 := eqv_tI x x
    simp only [List.map_cons, PyData.eqvAll, h1, h2]
    simp
theorem eqv_tT (xs : List (List Int)) : PyData.eqv (tT xs) (tT xs) = true := by
  simp only [tT, PyData.eqv]
  exact eqv_ts xs
theorem canLay_ss : ∀ xs : List PySem.Str, (∀ x ∈ xs, PyData.strOk x = true) → PyData.canLayAll0 (xs.map .str) = true
  | [], _ => rfl
  | x :: xs, h => by simp [PyData.canLayAll0, PyData.canLay0, canLay_ss xs fun y hy => h y (List.mem_cons_of_mem _ hy), h x List.mem_cons_self]
theorem nums_ok {ns : List Int} (h : CK.NN ns) : PyData.strOk (CK.numsS ns) = true := by
  unfold PyData.strOk
  rw [← Array.all_toList]
  refine List.all_eq_true.mpr fun c hc => decide_eq_true ?_
  refine Classical.byContradiction fun hn => ?_
  exact CK.nums_free h (c := c) (by omega) hc
theorem depth_ss : ∀ xs : List PySem.Str, PyData.depthAll (xs.map .str) ≤ 1
  | [] => by simp [PyData.depthAll]
  | x :: xs => by
    have h2 := depth_ss xs
    simp only [List.map_cons, PyData.depthAll, PyData.depth]
    omega
theorem shaped_lS (xs : List PySem.Str) (h : ∀ x ∈ xs, PyData.strOk x = true) : SeqAt.shaped (.list (xs.map .str)) = true := by
  have h1 := canLay_ss xs h
  have h2 := depth_ss xs
  simp [SeqAt.shaped, PyData.canLay0, PyData.depth, h1]
  omega
theorem eqv_lS (xs : List PySem.Str) : PyData.eqv (.list (xs.map .str)) (.list []) = decide (xs = []) := by
  cases xs <;> simp [PyData.eqv, PyData.eqvAll]
theorem rows_of {P : List Int → Prop} : ∀ {ds : List PyData}, (∀ x ∈ ds, ∃ xs : List Int, x = tI xs ∧ P xs) → ∃ st : List (List Int), ds = st.map tI ∧ ∀ x ∈ st, P x
  | [], _ => ⟨[], rfl, fun x h => by cases h⟩
  | d :: ds, h => by
    obtain ⟨st, e, hx⟩ := rows_of (ds := ds) fun x hx => h x (List.mem_cons_of_mem _ hx)
    obtain ⟨r, e2, r1⟩ := h d List.mem_cons_self
    refine ⟨r :: st, by rw [e, e2]; rfl, fun x hx' => ?_⟩
    rcases List.mem_cons.mp hx' with z | z
    · rw [z]; exact r1
    · exact hx x z
theorem fold_flat {α β : Type} (f : α → List β) : ∀ (ys : List α) (s : List β), ys.foldl (fun s b => s ++ f b) s = s ++ ys.flatMap f
  | [], s => by simp
  | y :: ys, s => by rw [List.foldl_cons, fold_flat f ys, List.flatMap_cons, List.append_assoc]
structure StOk (st : List (List Int)) : Prop where
  len : st.length ≤ 100
  each : ∀ b ∈ st, CK.NN b ∧ b ≠ [] ∧ b.length ≤ 100 ∧ ∀ n ∈ b, 1 ≤ n
theorem stOk_pass {row : List Int} {st : List (List Int)} (h : ∀ b ∈ st, b ≠ [] ∧ b.length ≤ 4 ∧ ∀ n ∈ b, 1 ≤ n ∧ n ≤ 100) (hl : st.length ≤ 3) : StOk (CK.passM row st) := by
  have each : ∀ p ∈ CK.passM row st, CK.NN p ∧ p ≠ [] ∧ p.length ≤ 100 ∧ ∀ n ∈ p, 1 ≤ n := fun p hp => by
    obtain ⟨b, hb, hpb⟩ := List.mem_flatMap.mp hp
    obtain ⟨b1, b2, b3⟩ := h b hb
    obtain ⟨e1, e2⟩ := parts_each hpb
    exact ⟨fun x hx => by have := b3 x (e2 x hx); omega, CK.parts_ne b1 p hpb, by omega, fun x hx => (b3 x (e2 x hx)).1⟩
  have len : ∀ st : List (List Int), (∀ b ∈ st, b ≠ [] ∧ b.length ≤ 4) → (CK.passM row st).length ≤ 4 * st.length := fun st => by
    induction st with
    | nil => intro _; simp [CK.passM]
    | cons b st ih =>
      intro h
      have h1 := ih fun x hx => h x (List.mem_cons_of_mem _ hx)
      have h2 := h b List.mem_cons_self
      have h3 := parts_len (row := row) h2.1
      unfold CK.passM at h1 ⊢
      rw [List.flatMap_cons, List.length_append, List.length_cons]
      omega
  exact ⟨by have := len st fun b hb => ⟨(h b hb).1, (h b hb).2.1⟩; omega, each⟩
abbrev sp__law_streams_right (K : PySem.W.Frag) : Sp := SpB K (α := NearA) (fun a => [.at a.b, .dat (tI a.row), .dat (.int a.L)]) (fun W a => Bx W a.b ∧ (1 ≤ a.L ∧ a.L ≤ 12 ∧ a.row.length ≤ 5 ∧ ∀ x ∈ a.row, 1 ≤ x ∧ x ≤ 200)) 130 (fun a d => d = .bool true)
theorem ev_streamin {E E2 : XK} {te : TE} {st : List (List Int)} (h : EvD K W te ρ (tT st)) (hs : StOk st) : EvD K W (tCall (sp_stream_in K) [] E (tCons (tCall (sp_stream_text K) [] E2 (tCons te tNil)) tNil)) ρ (tT st) :=
  ev_call (α := List (List Int)) st (ea_cons (ev_call (α := List (List Int)) st (ea_cons h ea_nil) ⟨fun b hb => ⟨(hs.each b hb).1, by have := (hs.each b hb).2.2.1; omega⟩, by have := hs.len; omega⟩) ea_nil) ⟨hs.each, by have := hs.len; omega⟩
theorem ev_passed {E : XK} {row : List Int} {st : List (List Int)} (h0 : EvD K W ta ρ (tI row)) (h : EvD K W te ρ (tT st)) (hr : row.length ≤ 5) (hs : StOk st) : EvD K W (tCall (sp_passed K) [] E (tCons ta (tCons te tNil))) ρ (tT (CK.passM row st)) :=
  ev_call (α := List Int × List (List Int)) (row, st) (ea_cons h0 (ea_cons h ea_nil)) ⟨by simp only; omega, by have := hs.len; simp only; omega, fun b hb => ⟨by have := (hs.each b hb).2.2.1; omega, (hs.each b hb).2.1⟩⟩
theorem ok__law_streams_right (F : FnP K "_law_streams_right" s__law_streams_right f fd) (T : Tx mg) (O__law_take : Ok P w K mg base "_law_take" 1 ["_law_box_here", "_law_below"] (sp__law_take K)) (O_batch_text : Ok P w K mg base "batch_text" 2 ["batch"] (sp_batch_text K)) (O_parts : Ok P w K mg base "parts" 3 ["row", "batch"] (sp_parts K)) (O_stream_text : Ok P w K mg base "stream_text" 3 ["stream"] (sp_stream_text K)) (O__law_batch : Ok P w K mg base "_law_batch" 3 ["_law_box_here", "_law_least_so", "_law_at_most"] (sp__law_batch K)) (O_passed : Ok P w K mg base "passed" 4 ["row", "stream"] (sp_passed K)) (O_stream_in : Ok P w K mg base "stream_in" 4 ["string"] (sp_stream_in K)) : FnOk P w K mg base CX0 5 f fd ["_law_box_here", "_law_row_so", "_law_least_so"] (sp__law_streams_right K) := by
  have nd := sc__law_streams_right.nd
  refine F.ok sc__law_streams_right (fun vs H Q E h => spb_len (fun _ => rfl) h) (fun cdv A outer s H vs Q E hr h => ⟨_, PSs.nox (pss_cons (ps_set (i := 3) nd rfl (Or.inl rfl) (pe_callTy (call_tupleK (K := K) rfl) rfl T.tuple (by decide +kernel) (pa_cons (pe_lc (own := [("_law_turn", 7)]) rfl nd (pi_range1 rfl T.range (pa_cons (pe_f O__law_take (hr.mono (by decide)) rfl (pa_cons (pv 0) (pa_cons pe_int pa_nil))) pa_nil)) (blkOk_by (own := [("_law_turn", 7)]) (N := N__law_streams_right) (sc := defScope s__law_streams_right) (by decide +kernel)) (fun _ _ _ _ _ => (pg_name (i := 7) nd rfl (Or.inl rfl))) (fun _ _ _ _ _ => pts_nil) (fun _ _ _ _ _ => (pe_f O__law_batch (hr.mono (by decide)) rfl (pa_cons (pv 0) (pa_cons (pv 2) (pa_cons pe_int pa_nil)))))) pa_nil))) (pss_cons (ps_set (i := 4) nd rfl (Or.inl rfl) (pe_f O_passed hr rfl (pa_cons (pv 1) (pa_cons (pe_f O_stream_in hr rfl (pa_cons (pe_f O_stream_text (hr.mono (by decide)) rfl (pa_cons (pv 3) pa_nil)) pa_nil)) pa_nil)))) (pss_cons (ps_if (PW.pt (pw_or (pt_cmpR (op_neK (K := K) rfl (hu64 hr)) (pe_f O_stream_in hr rfl (pa_cons (pe_f O_stream_text (hr.mono (by decide)) rfl (pa_cons (pv 4) pa_nil)) pa_nil)) (pv 4) (nomark _)) (pw_or1 (pt_cmpR (op_neK (K := K) rfl (hu64 hr)) (pe_f O_passed hr rfl (pa_cons (pv 1) (pa_cons (pv 4) pa_nil))) (pv 4) (nomark _))))) (pss_one (ps_ret pe_bl)) pss_nil) (pss_cons (ps_set (i := 5) nd rfl (Or.inl rfl) (pe_lst pa_nil)) (pss_cons (ps_for PassesOwn.never rfl (pi_anyK (K := K) rfl (pv 3)) (pg_name (i := 6) nd rfl (Or.inl rfl)) (pss_one (ps_set (i := 5) nd rfl (Or.inl rfl) (pe_op (op_plusK (K := K) rfl) (pv 5) (pe_lc (own := [("_law_bit", 8)]) rfl nd (pi_anyK (K := K) rfl (pe_f O_parts (hr.mono (by decide)) rfl (pa_cons (pv 1) (pa_cons (pv 6) pa_nil)))) (blkOk_by (own := [("_law_bit", 8)]) (N := N__law_streams_right) (sc := defScope s__law_streams_right) (by decide +kernel)) (fun _ _ _ _ _ => (pg_name (i := 8) nd rfl (Or.inl rfl))) (fun _ _ _ _ _ => pts_nil) (fun _ _ _ _ _ => (pe_f O_batch_text (hr.mono (by decide)) rfl (pa_cons (pv 8) pa_nil)))))))) (pss_one (ps_ret (pe_cmpR (op_eqK (K := K) rfl (hu64 hr)) (pe_f O_stream_text (hr.mono (by decide)) rfl (pa_cons (pv 4) pa_nil)) (pe_ifExp (pt_cmpR (op_neK (K := K) rfl (hu64 hr)) (pv 5) (pe_lst pa_nil) (nomark _)) (pe_joinK (K := K) rfl pe_str (pv 5)) pe_str) (nomark _))))))))), run_box (Ns := N__law_streams_right) h fun a B hp => ?_⟩)
  obtain ⟨b, row, L⟩ := a
  obtain ⟨bx, h1, h2, h3, h4⟩ := hp
  simp only at h1 h2 h3 h4 bx
  refine sb_seqK (k1 := 121) (k2 := 9) (sb_asgK (ek_tupL (k := 121) (ek_lcK (kb := 40) (mx := 3) (k0 := 1) (P := fun d => ∃ xs : List Int, d = tI xs ∧ xs ≠ [] ∧ xs.length ≤ (4 : Int).toNat ∧ ∀ x ∈ xs, L ≤ x ∧ x ≤ 100) (eik_range (lo := 0) (m := 3) (ek_take (m := 4) rfl bx (ev_int 4) (by omega) (by omega)) (by omega) (by omega)) ?_ _ (by decide) (fun es hes d hd => eg_name) (fun D acc es hes d hd => ek_call (k1 := 0) (k2 := 40) (eak_cons (k1 := 0) (k2 := 0) (ek_at rfl) fun _ _ => eak_cons (k1 := 0) (k2 := 0) (ek_ev (ev_var (d := .int L) rfl)) fun _ _ => eak_cons (k1 := 0) (k2 := 0) (ek_ev (ev_int 4)) fun _ _ => eak_nil) fun ss hs => ?_) (by omega) (by omega)) ?_) ?_) (by omega)
  · rintro es ⟨n, rfl, n1, n2⟩
    rw [rangeD_len]; omega
  · obtain ⟨s, r, e, e1, s2, r2, e3, ⟨d2, e4, e5⟩, s3, r3, e6, ⟨d3, e7, e8⟩, e9⟩ := hs
    subst e e1 e3 e4 e5 e6 e7 e8 e9
    exact ⟨⟨b, L, 4⟩, rfl, ⟨bx.up, h1, h2, by simp, by simp⟩, fun d hd => hd⟩
  · rintro d ⟨ds, rfl, _⟩
    exact ⟨ds, rfl⟩
  rintro d ⟨ds, rfl, ds', e, ⟨es, ⟨n, rfl, n1, n2⟩, hl⟩, hx⟩
  cases e
  obtain ⟨st, rfl, hst⟩ := rows_of hx
  rw [rangeD_len, List.length_map] at hl
  have hst' : ∀ b ∈ st, b ≠ [] ∧ b.length ≤ 4 ∧ ∀ n ∈ b, 1 ≤ n ∧ n ≤ 100 := fun b hb => by
    obtain ⟨q1, q2, q3⟩ := hst b hb
    exact ⟨q1, q2, fun n hn => by have := q3 n hn; omega⟩
  have s1 : StOk st := ⟨by omega, fun b hb => by
    obtain ⟨q1, q2, q3⟩ := hst' b hb
    exact ⟨fun n hn => by have := q3 n hn; omega, q1, by omega, fun n hn => (q3 n hn).1⟩⟩
  have s2 : StOk (CK.passM row st) := stOk_pass hst' (by omega)
  have again : CK.passM row (CK.passM row st) = CK.passM row st := CK.pass_again fun b hb => ⟨(hst' b hb).1, fun x hx => by have := (hst' b hb).2.2 x hx; omega⟩
  refine sb_seq (sb_asgD (d := tT (CK.passM row st)) (ev_passed (ev_var rfl) (ev_streamin (ev_var (d := tT st) rfl) s1) h3 s1) ?_)
  refine sb_seq (sb_if (b := false) (et_or (x := false) (et_test (ev_neD (c := true) (ev_streamin (ev_var (d := tT (CK.passM row st)) rfl) s2) (ev_var (d := tT (CK.passM row st)) rfl) (shaped_tT _) (shaped_tT _) (eqv_tT _))) (y := false) fun _ => et_test (ev_neD (c := true) (evd_to (ev_passed (ev_var rfl) (ev_var (d := tT (CK.passM row st)) rfl) h3 s2) (by rw [again])) (ev_var (d := tT (CK.passM row st)) rfl) (shaped_tT _) (shaped_tT _) (eqv_tT _))) (fun h => by cases h) fun _ => sb_next ?_)
  refine sb_seq (sb_asgM (ef_lst ea_nil (by simp)) fun p => ?_)
  refine sb_seq (sb_fold0 (xs := st) (enc := tI) (ei_anyT (ev_var (d := tT st) rfl)) (fun (s : List (List Int)) b => s ++ CK.partsM row b)
    (fun s W' ρ' => ∃ W0 p, W' = W0.push K p (.lst ((s.map CK.numsS).map .str)) ∧ Ext B W0 ∧ ∃ o1 o2 o3, ρ' = [.at b, .dat (tI row), .dat (.int L), .dat (tT st), .dat (tT (CK.passM row st)), .at p, o1, o2, o3]) [] ⟨_, _, rfl, Ext.refl _, _, _, _, rfl⟩ ?_ ?_)
  · rintro ys x zs W' ρ' hz x' ⟨W0, p, rfl, x0, o1, o2, o3, rfl⟩
    refine ⟨_, _, eg_name, ?_⟩
    have hx : x ∈ st := by rw [hz]; simp
    obtain ⟨b1, b2, b3⟩ := hst' x hx
    have hys : (CK.passM row ys).length ≤ 100 := (stOk_pass (row := row) (fun y hy => hst' y (by rw [hz]; simp [hy])) (by
      have h5 := congrArg List.length hz
      rw [List.length_append] at h5
      omega)).len
    have hpl := parts_len (row := row) b1
    have hfold : ys.foldl (fun (s : List (List Int)) b => s ++ CK.partsM row b) [] = CK.passM row ys := by rw [fold_flat]; rfl
    rw [hfold] at x' ⊢
    refine sb_asgM (ds := (((CK.passM row ys ++ CK.partsM row x).map CK.numsS).map .str)) ?_ fun p' => ⟨_, p', rfl, x', _, _, _, rfl⟩
    have ed : ((CK.passM row ys ++ CK.partsM row x).map CK.numsS).map PyData.str = ((CK.passM row ys).map CK.numsS).map .str ++ (CK.partsM row x).map fun b => .str (CK.numsS b) := by
      simp only [List.map_append, List.map_map]
      rfl
    rw [ed]
    exact ef_catM (i := 5) rfl Mu.here (EvF.tr (ef_lcA (ds := CK.partsM row x) (enc := tI) (ei_anyL (ev_call (α := List Int × List Int) (row, x) (ea_cons (ev_var rfl) (ea_cons (ev_var rfl) ea_nil)) ⟨by simp only; omega, by simp only; omega, b1⟩)) (fun b => .str (CK.numsS b)) _ (by decide) (fun p _ => eg_name) (fun D acc p hp => ev_call (α := List Int) p (ea_cons (ev_var rfl) ea_nil) ⟨fun y hy => by
      have := b3 y ((parts_each hp).2 y hy)
      omega, by have := (parts_each hp).1; omega⟩) (by omega))) (by simp; omega)
  · rintro W' ρ' ⟨W0, p, rfl, x0, o1, o2, o3, rfl⟩
    have hfold : st.foldl (fun (s : List (List Int)) b => s ++ CK.partsM row b) [] = CK.passM row st := by rw [fold_flat]; rfl
    rw [hfold]
    have hok : ∀ z ∈ (CK.passM row st).map CK.numsS, PyData.strOk z = true := fun z hz => by
      obtain ⟨b, hb, rfl⟩ := List.mem_map.mp hz
      exact nums_ok (s2.each b hb).1
    refine sb_low (k1 := 0) (sb_retD (ev_eqS (x := CK.strS (CK.passM row st)) (y := CK.strS (CK.passM row st)) (ev_call (α := List (List Int)) (CK.passM row st) (ea_cons (ev_var rfl) ea_nil) ⟨fun b hb => ⟨(s2.each b hb).1, by have := (s2.each b hb).2.2.1; omega⟩, by have := s2.len; omega⟩) (ev_if (c := !decide ((CK.passM row st).map CK.numsS = [])) (et_test (ev_view (i := 5) rfl (ev_neD (a := .list (((CK.passM row st).map CK.numsS).map .str)) (b := .list []) (ev_var rfl) (EvF.ev (ef_lst ea_nil (by simp))) (shaped_lS _ hok) rfl (eqv_lS _)) rfl)) (fun h => ?_) fun h => ?_)) (by simp)) (by omega)
    · have h' : (CK.passM row st).map CK.numsS ≠ [] := by simpa using h
      refine evd_to (ev_view (i := 5) (d := .str (Txt.join CK.fdT ((CK.passM row st).map CK.numsS))) rfl (ev_join (ys := (CK.passM row st).map CK.numsS) (ev_str CK.fdT) (ev_var rfl) ?_) rfl) ?_
      · refine join_fits 2100 _ _ (fun w hw => ?_) ?_
        · obtain ⟨b, hb, rfl⟩ := List.mem_map.mp hw
          have := nums_len (s2.each b hb).1
          have := (s2.each b hb).2.2.1
          omega
        · have : CK.fdT.length = 1 := by decide +kernel
          have := s2.len
          rw [List.length_map, ‹CK.fdT.length = 1›]
          omega
      · rw [← CK.join_lines, if_neg h']
    · have h' : (CK.passM row st).map CK.numsS = [] := by simpa using h
      refine evd_to (ev_str CK.dsT) ?_
      rw [← CK.join_lines, if_pos h']

end
end CW
end C10x
section W11x
set_option Elab.async false
set_option linter.all false
set_option maxRecDepth 100000
/-! Dicts with int keys. -/
namespace CW
open PySem PySem.Spec PyProof.Rows L2 StX RZ
abbrev DI := List (Int × PyData)
def RelD (K : PySem.W.Frag) (O : Hp) (ws : List (Key × V)) (xs : DI) : Prop := ws.map Prod.fst = xs.map (fun e => (Sum.inl e.1 : Key)) ∧ IsAll K O (ws.map Prod.snd) (xs.map Prod.snd)
def dctI (xs : DI) : List (Key × PyData) := xs.map fun e => (Sum.inl e.1, e.2)
def getI (xs : DI) (k : Int) : Option PyData := (xs.find? fun e => decide (e.1 = k)).map (·.2)
def putI (xs : DI) (k : Int) (d : PyData) : DI := if (xs.any fun e => decide (e.1 = k)) = true then xs.map (fun e => if e.1 = k then (e.1, d) else e) else xs ++ [(k, d)]
section
variable {K : PySem.W.Frag} {O O' : Hp} {ws : List (Key × V)} {xs : DI}
theorem RelD.nil : RelD K O [] [] := ⟨rfl, .nil⟩
theorem RelD.mono (h : RelD K O ws xs) (s : Same O O') : RelD K O' ws xs := ⟨h.1, h.2.mono s⟩
theorem RelD.len (h : RelD K O ws xs) : ws.length = xs.length := by
  have := congrArg List.length h.1
  simpa using this
theorem RelD.uncons {w : Key × V} {x : Int × PyData} (h : RelD K O (w :: ws) (x :: xs)) : w.1 = .inl x.1 ∧ Is K O w.2 x.2 ∧ RelD K O ws xs := by
  obtain ⟨h1, h2⟩ := h
  simp only [List.map_cons] at h1 h2
  have h3 := List.cons.inj h1
  cases h2 with
  | cons a b => exact ⟨h3.1, a, h3.2, b⟩
theorem RelD.cons {w : Key × V} {x : Int × PyData} (h1 : w.1 = .inl x.1) (h2 : Is K O w.2 x.2) (h : RelD K O ws xs) : RelD K O (w :: ws) (x :: xs) :=
  ⟨by simp only [List.map_cons, h1, h.1], .cons h2 h.2⟩
theorem RelD.dct : RelD K O ws xs ↔ ws.map Prod.fst = (dctI xs).map Prod.fst ∧ IsAll K O (ws.map Prod.snd) ((dctI xs).map Prod.snd) := by
  unfold RelD dctI
  rw [List.map_map, List.map_map]
  rfl
theorem RelD.val : ∀ {ws : List (Key × V)} {xs : DI} (h : RelD K O ws xs) (k : Int), match valV ws (.inl k), getI xs k with
    | some v, some d => Is K O v d
    | none, none => True
    | _, _ => False
  | [], [], _, _ => trivial
  | [], _ :: _, h, _ => by have := h.len; simp at this
  | _ :: _, [], h, _ => by have := h.len; simp at this
  | w :: ws, x :: xs, h, k => by
    obtain ⟨h1, h2, h3⟩ := h.uncons
    by_cases e : x.1 = k
    · have e1 : w.1 = .inl k := by rw [h1, e]
      have e2 : getI (x :: xs) k = some x.2 := by simp [getI, List.find?_cons, e]
      rw [valV_pos e1, e2]
      exact h2
    · have e1 : ¬ w.1 = .inl k := by rw [h1]; intro z; exact e (Sum.inl.inj z)
      have e2 : getI (x :: xs) k = getI xs k := by simp [getI, List.find?_cons, e]
      rw [valV_neg e1, e2]
      exact h3.val k
theorem RelD.get {k : Int} {d : PyData} (h : RelD K O ws xs) (e : getI xs k = some d) : ∃ v, valV ws (.inl k) = some v ∧ Is K O v d := by
  have := h.val k
  rw [e] at this
  cases q : valV ws (.inl k) with
  | none => rw [q] at this; exact this.elim
  | some v => rw [q] at this; exact ⟨v, rfl, this⟩
theorem RelD.has (h : RelD K O ws xs) (k : Int) : (valV ws (.inl k)).isSome = (getI xs k).isSome := by
  have := h.val k
  cases q : valV ws (.inl k) <;> cases q2 : getI xs k <;> rw [q, q2] at this <;> first | rfl | exact this.elim
theorem RelD.any : ∀ {ws : List (Key × V)} {xs : DI} (h : RelD K O ws xs) (k : Int), (ws.any fun e => decide (e.1 = .inl k)) = xs.any fun e => decide (e.1 = k)
  | [], [], _, _ => rfl
  | [], _ :: _, h, _ => by have := h.len; simp at this
  | _ :: _, [], h, _ => by have := h.len; simp at this
  | w :: ws, x :: xs, h, k => by
    obtain ⟨h1, _, h3⟩ := h.uncons
    rw [List.any_cons, List.any_cons, h3.any k, h1]
    congr 1
    simp
theorem RelD.upd : ∀ {ws : List (Key × V)} {xs : DI} (h : RelD K O ws xs) (k : Int) {v : V} {d : PyData} (hv : Is K O v d), RelD K O (ws.map fun e => if e.1 = .inl k then (e.1, v) else e) (xs.map fun e => if e.1 = k then (e.1, d) else e)
  | [], [], _, _, _, _, _ => RelD.nil
  | [], _ :: _, h, _, _, _, _ => by have := h.len; simp at this
  | _ :: _, [], h, _, _, _, _ => by have := h.len; simp at this
  | w :: ws, x :: xs, h, k, v, d, hv => by
    obtain ⟨h1, h2, h3⟩ := h.uncons
    rw [List.map_cons, List.map_cons]
    refine RelD.cons ?_ ?_ (h3.upd k hv)
    · by_cases e : x.1 = k
      · rw [if_pos (by rw [h1, e]), if_pos e]; exact h1
      · rw [if_neg (by rw [h1]; intro z; exact e (Sum.inl.inj z)), if_neg e]; exact h1
    · by_cases e : x.1 = k
      · rw [if_pos (by rw [h1, e]), if_pos e]; exact hv
      · rw [if_neg (by rw [h1]; intro z; exact e (Sum.inl.inj z)), if_neg e]; exact h2
theorem RelD.put (h : RelD K O ws xs) (k : Int) {v : V} {d : PyData} (hv : Is K O v d) : RelD K O (putK ws (.inl k) v) (putI xs k d) := by
  unfold putK putI
  rw [h.any k]
  split
  · exact h.upd k hv
  · refine ⟨by rw [List.map_append, List.map_append, h.1]; rfl, ?_⟩
    rw [List.map_append, List.map_append]
    exact h.2.snoc hv
end
/-- a dict of the frame that does not change -/
def Wd.ro (K : PySem.W.Frag) (W : Wd) (p : Addr) (mk : List (Key × V) → HO) (xs : DI) : Wd where
  ps := W.ps
  I := fun n H O => W.I n H O ∧ ∃ ws, O p = some (mk ws) ∧ RelD K O ws xs
  has := fun h => W.has h.1
  loc := fun h e s => ⟨W.loc h.1 e s, by
    obtain ⟨ws, h1, h2⟩ := h.2
    exact ⟨ws, s _ _ h1, h2.mono s⟩⟩
  low := fun l h => ⟨W.low l h.1, h.2⟩
/-- what can be read -/
structure Rdr (K : PySem.W.Frag) (W : Wd) (p : Addr) (xs : DI) : Prop where
  get : ∀ n H O, Same O H → W.I n H O → ∃ ws, Rd H p (.dK ws) ∧ RelD K O ws xs
section
variable {K : PySem.W.Frag} {B W : Wd} {k : Nat} {ρ : List Sl} {te ty tv : TE} {t : TS} {N : Wd → List Sl → Prop} {R : Hp → V → Hp → Prop} {p q : Addr} {xs : DI} {d : PyData} {i : Nat} {y : Int} {m : MO} {es : List PyData}
theorem Rdr.up (h : Rdr K W p xs) : Rdr K (W.push K q m) p xs := ⟨fun n H O s e => h.get n H O s e.2.1⟩
theorem Rdr.here : Rdr K (W.push K p (.dct (dctI xs))) p xs := ⟨fun n H O s e => by
  obtain ⟨ws, h1, h2, h3⟩ := e.2.2
  exact ⟨ws, .inl h1, RelD.dct.mpr ⟨h2, h3⟩⟩⟩
theorem Rdr.ro {mk : List (Key × V) → HO} (hm : ∀ H ws, H p = some (mk ws) → Rd H p (.dK ws)) : Rdr K (W.ro K p mk xs) p xs := ⟨fun n H O s e => by
  obtain ⟨ws, h1, h2⟩ := e.2
  exact ⟨ws, hm _ _ (s _ _ h1), h2⟩⟩
theorem Rdr.ok {n : Nat} {H : Hp} (h : Rdr K W p xs) (o : W.ok n H) : ∃ ws, Rd H p (.dK ws) ∧ RelD K (W.fr H) ws xs := h.get n H _ (off_le _ _) o
theorem Ext.ro {mk : List (Key × V) → HO} : Ext W (W.ro K p mk xs) := ⟨fun _ h => h, fun _ _ _ h => h.1⟩
theorem es_dnew : EvS K W 0 tDNewK ρ fun W' s => ∃ p, W' = W.push K p (.dct (dctI [])) ∧ s = .at p := fun σ H n e o Q q => fun p hp =>
  q _ _ (W.push K p (.dct (dctI []))) (.at p) Ext.push (fr_push o hp (Same.new hp)) (push_new o hp (Same.new hp) ⟨[], upd_same, rfl, .nil⟩) rfl ⟨p, rfl, rfl⟩
theorem ev_dget (hi : ρ[i]? = some (.at p)) (r : Rdr K W p xs) (hy : EvD K W ty ρ (.int y)) (hg : getI xs y = some d) : EvD K W (tDGet (tVar i) ty) ρ d := fun σ H n e o Q q => by
  obtain ⟨v, h1, hv⟩ := e.get i _ hi (fun z => by cases z)
  cases hv
  refine ⟨_, h1, hy σ H n e o _ fun z H2 _ s2 hz ez => ?_⟩
  subst ez
  cases hz
  obtain ⟨ws, g1, g2⟩ := r.ok (Wd.ok.to o s2)
  obtain ⟨v, k1, k2⟩ := g2.get hg
  exact ⟨p, v, rfl, .inl ⟨ws, .inl y, g1, rfl, k1.symm⟩, q _ _ _ s2 k2 rfl⟩
theorem ev_dnotin (hi : ρ[i]? = some (.at p)) (r : Rdr K W p xs) (hy : EvD K W ty ρ (.int y)) : EvD K W (tDNotIn ty (tVar i)) ρ (.bool (!(getI xs y).isSome)) := fun σ H n e o Q q =>
  hy σ H n e o _ fun z H2 _ s2 hz ez => by
    subst ez
    cases hz
    have e2 := e.mono (fr_to (W := W) s2)
    obtain ⟨v, h1, hv⟩ := e2.get i _ hi (fun z => by cases z)
    cases hv
    obtain ⟨ws, g1, g2⟩ := r.ok (Wd.ok.to o s2)
    refine ⟨_, h1, p, valV ws (.inl y), rfl, .inl ⟨ws, .inl y, g1, rfl, rfl⟩, q _ _ _ s2 (.bl _) ?_⟩
    rw [g2.has y]
/-- p[y] = v -/
theorem sb_dput {nxt : List (Key × PyData) → Wd} {k2 : Nat} {P : PyData → Prop} {Py : Int → Prop} (hi : ρ[i]? = some (.at p)) (md : Md K W p (dctI xs) nxt) (hx : ∀ ds', Ext B W → Ext B (nxt ds')) (hv : EvK K W k te ρ (isD P)) (hy : EvK K W k2 ty ρ (isD fun d => ∃ y, d = .int y ∧ Py y)) (hz : xs.length < 16777216)
    (hn : ∀ d y, P d → Py y → N (nxt (dctI (putI xs y d))) ρ) : Sb K B W (k + k2) (sDPut (tVar i) ty te) ρ N R := fun x D σ H n F e f o kn kr => by
  refine hv σ H (n + k2) e (o.low (by omega)) _ fun v H1 s1 f1 o1 hv1 ⟨d, e1, hd⟩ => ?_
  subst e1
  have e2 := e.mono f1
  obtain ⟨u, h1, hu⟩ := e2.get i _ hi (fun z => by cases z)
  cases hu
  refine ⟨_, h1, hy σ H1 n e2 o1 _ fun z H2 s2 f2 o2 hz2 ⟨d2, e3, y, e4, hPy⟩ => ?_⟩
  subst e3 e4
  cases hz2
  obtain ⟨ws, g1, g2, g3⟩ := md.get _ _ _ o2
  have rel : RelD K (W.fr H2) ws xs := RelD.dct.mpr ⟨g2, g3⟩
  have rel2 := rel.put y (Is.mono f2 hv1)
  have rd := RelD.dct.mp rel2
  obtain ⟨ok3, fr3⟩ := md.ok o2 rd.1 rd.2
  refine ⟨p, _, rfl, .inl ⟨ws, .inl y, g1, rfl, ?_, rfl⟩, ?_⟩
  · rw [rel.len, sizeLine_eq]; exact hz
  · refine kn _ ρ σ _ (hx _ x) (hn d y hd hPy) ?_ ?_ ok3
    · rw [fr3]; exact e2.mono f2
    · rw [fr3]; exact Same.trans (Same.trans f f1) f2
/-- the keys of a dict of the frame -/
theorem ei_keys {od : Obj} (hi : ρ[i]? = some (.at p)) : EvI K (W.ro K p (fun ws => .frz od (.dK ws)) xs) (iAny K (tVar i)) ρ (xs.map fun e => .int e.1) := fun σ H n e o R q => by
  obtain ⟨v, h1, hv⟩ := e.get i _ hi (fun z => by cases z)
  cases hv
  obtain ⟨ws, g1, g2⟩ := o.2
  have g1' : W.fr H p = some (.frz od (.dK ws)) := g1
  have hl := g2.len
  refine .inr (.inr (.inr ⟨_, h1, p, od, rfl, .inl ⟨ws, off_le _ _ _ _ g1, q _ _ (Same.refl _) ⟨fun j H' hj s => ⟨s _ _ g1', ?_⟩, fun H' s => ⟨s _ _ g1', ?_⟩, fun W' m j H' x H'' hj s o' y => ?_⟩⟩⟩))
  · rw [List.length_map] at hj; omega
  · rw [List.length_map]; omega
  · obtain ⟨e1, kk, v, hk, ex⟩ := y
    subst e1 ex
    rw [List.length_map] at hj
    have h2 : (ws.map Prod.fst)[j]? = some kk := by rw [List.getElem?_map, hk]; rfl
    rw [g2.1, List.getElem?_map, List.getElem?_eq_getElem hj] at h2
    have h3 := Option.some.inj h2
    refine ⟨Same.refl _, .int xs[j].1, by rw [List.getElem?_map, List.getElem?_eq_getElem hj]; rfl, ?_⟩
    rw [← h3]
    exact .int _
theorem rd_drop {H H2 : Hp} {od : Obj} {ws : List (Key × V)} {u : HO} (hp : H p = some (.frz od (.dK ws))) (hs : ∀ b z, b ≠ p → H b = some z → H2 b = some z) (hu : u ≠ .dK ws) (hu2 : u ≠ .frz od (.dK ws)) {a : Addr} (r : Rd H a u) : Rd H2 a u := by
  rcases r with r | ⟨o, r⟩
  · refine .inl (hs a _ (fun z => ?_) r)
    rw [z, hp] at r
    exact hu2 (Option.some.inj r).symm
  · refine .inr ⟨o, hs a _ (fun z => ?_) r⟩
    rw [z, hp] at r
    have e := Option.some.inj r
    injection e with e1 e2
    exact hu e2.symm
mutual
theorem Is.dropD {H H2 : Hp} {od : Obj} {ws : List (Key × V)} (hp : H p = some (.frz od (.dK ws))) (hs : ∀ b z, b ≠ p → H b = some z → H2 b = some z) : ∀ {d : PyData} {v : V}, Is K H v d → Is K H2 v d
  | _, _, .non => .non
  | _, _, .bl b => .bl b
  | _, _, .int i => .int i
  | _, _, .str x => .str x
  | _, _, .lst h a => .lst (h.imp (rd_drop hp hs (fun z => by cases z) (fun z => by cases z)) id) (IsAll.dropD hp hs a)
  | _, _, .tup h a => .tup (h.imp (rd_drop hp hs (fun z => by cases z) (fun z => by cases z)) id) (IsAll.dropD hp hs a)
theorem IsAll.dropD {H H2 : Hp} {od : Obj} {ws : List (Key × V)} (hp : H p = some (.frz od (.dK ws))) (hs : ∀ b z, b ≠ p → H b = some z → H2 b = some z) : ∀ {ds : List PyData} {vs : List V}, IsAll K H vs ds → IsAll K H2 vs ds
  | _, _, .nil => .nil
  | _, _, .cons h t => .cons (Is.dropD hp hs h) (IsAll.dropD hp hs t)
end
/-- the dict is walked and does not change -/
theorem ef_lock (h : ∀ od, EvF K (W.ro K p (fun ws => .frz od (.dK ws)) xs) te ρ es) : EvF K (W.push K p (.dct (dctI xs))) (tLockE te) ρ es := fun σ H n e o Q q => by
  obtain ⟨hp, hI, ws, g1, g2, g3⟩ := id o
  refine ⟨p, .dK ws, g1, trivial, fun od => ?_⟩
  have hsame : Same (off (p :: W.ps) H) (off W.ps (upd H p (.frz od (.dK ws)))) := fun b z hz => by
    unfold off at hz ⊢
    by_cases hb : b ∈ p :: W.ps
    · rw [if_pos hb] at hz; cases hz
    · rw [if_neg hb] at hz
      rw [if_neg fun k => hb (List.mem_cons_of_mem _ k), upd_ne fun (k : b = p) => hb (k ▸ List.mem_cons_self)]
      exact hz
  have hat : off W.ps (upd H p (.frz od (.dK ws))) p = some (.frz od (.dK ws)) := by
    rw [off_get hp]; exact upd_same
  have rel : RelD K (off (p :: W.ps) H) ws xs := RelD.dct.mpr ⟨g2, g3⟩
  refine h od σ _ n (e.mono hsame) ⟨W.loc hI (fun b hb => upd_ne fun z => hp (z ▸ hb)) hsame, ws, hat, rel.mono hsame⟩ _ fun r H' vs hr s h1 h2 => ?_
  have hp' : H' p = some (.frz od (.dK ws)) := s _ _ upd_same
  refine ⟨hp', ?_⟩
  have hrp : r ≠ p := fun z => by rw [z, upd_same] at hr; cases hr
  refine q r _ vs (by rw [upd_ne hrp] at hr; exact hr) (fun b z hz => ?_) (by rw [upd_ne hrp]; exact h1) ?_
  · by_cases hb : b = p
    · rw [hb, g1] at hz
      rw [hb, upd_same]; exact hz
    · rw [upd_ne hb]
      exact s b z (by rw [upd_ne hb]; exact hz)
  · have hat2 : off (r :: W.ps) H' p = some (.frz od (.dK ws)) := by
      rw [off_get fun z => by
        rcases List.mem_cons.mp z with z | z
        · exact hrp z.symm
        · exact hp z]
      exact hp'
    refine IsAll.dropD hat2 (fun b z hb hz => ?_) h2
    show off (r :: p :: W.ps) _ b = some z
    unfold off at hz ⊢
    by_cases hm : b ∈ r :: W.ps
    · rw [if_pos hm] at hz; cases hz
    · rw [if_neg hm] at hz
      rw [if_neg, upd_ne hb]
      · exact hz
      · intro k
        rcases List.mem_cons.mp k with k | k
        · exact hm (k ▸ List.mem_cons_self)
        · rcases List.mem_cons.mp k with k | k
          · exact hb k
          · exact hm (List.mem_cons_of_mem _ k)
end
end CW
end W11x
section W12x
set_option Elab.async false
set_option linter.all false
set_option maxRecDepth 100000
/-! A dict that comes back. -/
namespace CW
open PySem PySem.Spec PyProof.Rows L2 StX RZ
def RtDc (K : PySem.W.Frag) (B : Wd) (xs : DI) : Hp → V → Hp → Prop := fun _ v H' => ∃ p ws, v = .ref p ∧ B.fr H' p = some (.dK ws) ∧ RelD K (B.fr H') ws xs
def SpDc (K : PySem.W.Frag) {α : Type} (As : α → List PyData) (pre : α → Prop) (X : α → DI) : Sp := fun vs H Q _ => ∃ (W : Wd) (n : Nat) (a : α), IsAll K (W.fr H) vs (As a) ∧ W.ok n H ∧ pre a ∧ ∀ p H' ws, Same H H' → W.fr H' p = some (.dK ws) → RelD K (W.fr H') ws (X a) → Q (.ref p) H'
section
variable {K : PySem.W.Frag} {B W : Wd} {k : Nat} {ρ : List Sl} {te : TE} {t : TS} {N : Wd → List Sl → Prop} {p : Addr} {xs : DI} {i : Nat}
theorem sb_ret_dc (hi : ρ[i]? = some (.at p)) (hx : Ext B W) : Sb K B (W.push K p (.dct (dctI xs))) k (tRet (tVar i)) ρ N (RtDc K B xs) := fun x D σ H n F e f o kn kr => by
  obtain ⟨v, h1, h2⟩ := e.get i _ hi (fun z => by cases z)
  cases h2
  obtain ⟨hp, _, ws, h3, h4, h5⟩ := id o
  refine ⟨_, h1, kr _ H (Same.trans f (x.fr H)) ((x.ok o).low (by omega)) ⟨p, ws, rfl, ?_, (RelD.dct.mpr ⟨h4, h5⟩).mono (x.fr H)⟩⟩
  show off B.ps H p = _
  rw [off_get fun z => hp (hx.ps p z)]
  exact h3
theorem es_dcall {α : Type} {As : α → List PyData} {pre : α → Prop} {X : α → DI} {E : XK} {tr : TA} (a : α) (h : EvA K W tr ρ (As a)) (hp : pre a) : EvS K W 0 (tCall (SpDc K As pre X) [] E tr) ρ fun W' s => ∃ p, W' = W.ro K p .dK (X a) ∧ s = .at p := fun σ H n e o Q q =>
  h σ H n e o _ fun vs H1 s1 dv => ⟨W, n, a, by rw [List.append_nil]; exact dv, o.to s1, hp, fun p H2 ws s2 h1 h2 => q _ _ (W.ro K p .dK (X a)) (.at p) Ext.ro (fr_to (s1.trans s2)) ⟨(o.to s1).to s2, ws, h1, h2⟩ rfl ⟨p, rfl, rfl⟩⟩
theorem spdc_len {α : Type} {As : α → List PyData} {pre : α → Prop} {X : α → DI} {m : Nat} {vs : List V} {H : Hp} {Q : VK} {E : XK} (hm : ∀ a, (As a).length = m) (h : SpDc K As pre X vs H Q E) : vs.length = m := by
  obtain ⟨W, n, a, dv, _⟩ := h
  rw [dv.len, hm]
theorem run_Dc {α : Type} {As : α → List PyData} {pre : α → Prop} {X : α → DI} {Ns : List PySem.Str} {E : XK} {H : Hp} {vs : List V} {Q : VK} (h : SpDc K As pre X vs H Q E)
    (hb : ∀ a B, pre a → Sb K B B 0 t ((As a).map .dat ++ List.replicate (Ns.length - (As a).length) .no) (fun _ _ => False) (RtDc K B (X a))) :
    t { nx := fun _ H' => Q .non H', rt := Q } (L2.start Ns vs) H := by
  obtain ⟨W, n, a, dv, o, hp, q⟩ := h
  have o0 : (W.still H).ok 0 H := fun p hp => ⟨rfl, W.has o p hp⟩
  have hl := dv.len
  have e : Env K ((W.still H).fr H) (L2.start Ns vs) ((As a).map .dat ++ List.replicate (Ns.length - (As a).length) .no) := by
    unfold L2.start
    rw [hl]
    exact Env.of_all (slAll_of dv) _
  refine hb a (W.still H) hp (Ext.refl _) _ _ H 0 (W.fr H) e (Same.refl _) o0 (fun W' ρ' σ' H' x' hN e' f' o' => hN.elim) fun v H' f' o' r => ?_
  obtain ⟨p, ws, rfl, h1, h2⟩ := r
  exact q p H' ws (still_same o' f') h1 h2
end
end CW
end W12x
section C11x
set_option Elab.async false
set_option linter.all false
set_option maxRecDepth 100000
namespace CW
open PySem PySem.Spec PyProof.Rows L2 StX RZ
section
variable {P : Program} {w : World} {K : PySem.W.Frag} {mg : PySem.Str → Option Value} {base : Heap} {f : Addr} {fd : FuncData}
variable {B W : Wd} {k k1 k2 : Nat} {ρ : List Sl} {te ta tb : TE} {i : Nat} {b : Addr}
theorem ea_star {tr : TA} {ds es : List PyData} (h : EvD K W te ρ (.tuple ds)) (hr : EvA K W tr ρ es) : EvA K W (tStar K te tr) ρ (ds ++ es) := fun σ H n e o Q q =>
  h σ H n e o _ fun v H1 d s1 hv ed => by
    subst ed
    cases hv with
    | tup h1 h2 => exact ⟨_, _, rfl, .inl (sqT_mono fr_le h1), hr σ H1 n (e.mono (fr_to s1)) (o.to s1) _ fun ys H2 s2 hy => q _ _ (s1.trans s2) ((h2.mono (fr_to s2)).append hy)⟩
def wayD (found : List CK.Way) : DI := found.map fun e => (e.1, .tuple [.int e.2.1, tI e.2.2])
theorem getI_way (found : List CK.Way) (k : Int) : getI (wayD found) k = (CK.wayAt found k).map fun w => .tuple [.int w.1, tI w.2] := by
  induction found with
  | nil => rfl
  | cons e r ih =>
    by_cases h : e.1 = k
    · simp [getI, wayD, CK.wayAt, List.find?_cons, h]
    · have e1 : getI (wayD (e :: r)) k = getI (wayD r) k := by simp [getI, wayD, List.find?_cons, h]
      have e2 : CK.wayAt (e :: r) k = CK.wayAt r k := by simp [CK.wayAt, List.find?_cons, h]
      rw [e1, e2, ih]
theorem putI_new (found : List CK.Way) (k p : Int) (ls : List Int) (h : ∀ e ∈ found, e.1 ≠ k) : putI (wayD found) k (.tuple [.int p, tI ls]) = wayD (found ++ [(k, (p, ls))]) := by
  unfold putI
  rw [if_neg]
  · unfold wayD
    rw [List.map_append]
    rfl
  · intro z
    obtain ⟨e, he, hk⟩ := List.any_eq_true.mp z
    obtain ⟨w, hw, rfl⟩ := List.mem_map.mp he
    exact h w hw (by simpa using hk)
structure WuA where
  blk : Int × Int
  L : Int
  offers : List (Int × Int)
abbrev sp_ways_up (K : PySem.W.Frag) : Sp := SpDc K (α := WuA) (fun a => [bD a.blk, .int a.L, tB a.offers]) (fun a => a.offers.length ≤ 10000 ∧ CK.Asc (a.offers.map (·.1)) ∧ 0 < a.L ∧ a.blk.1 ≤ a.blk.2) (fun a => wayD (CK.waysUp a.blk a.L a.offers))
theorem step_small {low high L : Int} {s : List CK.Way} {o : Int × Int} {n : Nat} {ks : List Int} (h : ∀ e ∈ s, e.1 ∈ ks ∧ e.2.2.length ≤ n) (hl : s.length ≤ n) :
    (∀ e ∈ CK.wayStep low high L s o, e.1 ∈ ks ++ [o.1] ∧ e.2.2.length ≤ n + 1) ∧ (CK.wayStep low high L s o).length ≤ n + 1 := by
  have h0 : ∀ e ∈ s, e.1 ∈ ks ++ [o.1] ∧ e.2.2.length ≤ n + 1 := fun e he => ⟨List.mem_append_left _ (h e he).1, by have := (h e he).2; omega⟩
  have add : ∀ (pr : Int) (ls : List Int), ls.length ≤ n + 1 → (∀ e ∈ s ++ [(o.1, (pr, ls))], e.1 ∈ ks ++ [o.1] ∧ e.2.2.length ≤ n + 1) ∧ (s ++ [(o.1, (pr, ls))]).length ≤ n + 1 := fun pr ls hls => by
    refine ⟨fun e he => ?_, by rw [List.length_append]; simp; omega⟩
    rcases List.mem_append.mp he with he | he
    · exact h0 e he
    · rw [List.mem_singleton.mp he]
      exact ⟨by simp, hls⟩
  unfold CK.wayStep
  split
  · exact add _ _ (by simp)
  · split
    · split
      · exact ⟨h0, by omega⟩
      · rename_i m hm
        refine add _ _ ?_
        rw [List.length_cons]
        cases hw : CK.wayAt s m.2 with
        | none => simp
        | some w =>
          have h5 : w.2.length ≤ n := (h _ (CK.wayAt_some hw)).2
          simp only [Option.getD_some]
          omega
    · exact ⟨h0, by omega⟩
theorem ways_small (low high L : Int) : ∀ (ys : List (Int × Int)) (s : List CK.Way) (n : Nat) (ks : List Int), (∀ e ∈ s, e.1 ∈ ks ∧ e.2.2.length ≤ n) → s.length ≤ n →
    (∀ e ∈ ys.foldl (CK.wayStep low high L) s, e.1 ∈ ks ++ ys.map (·.1) ∧ e.2.2.length ≤ n + ys.length) ∧ (ys.foldl (CK.wayStep low high L) s).length ≤ n + ys.length
  | [], s, n, ks, h, hl => ⟨fun e he => ⟨by simpa using (h e he).1, (h e he).2⟩, hl⟩
  | y :: ys, s, n, ks, h, hl => by
    obtain ⟨a, b⟩ := step_small (low := low) (high := high) (L := L) (o := y) h hl
    obtain ⟨c, d⟩ := ways_small low high L ys _ (n + 1) _ a b
    rw [List.foldl_cons, List.length_cons, List.map_cons]
    refine ⟨fun e he => ?_, by omega⟩
    obtain ⟨c1, c2⟩ := c e he
    exact ⟨by simpa using c1, by omega⟩
theorem sb_any {t : TS} {N : Wd → List Sl → Prop} {R : Hp → V → Hp → Prop} (h : Sb K B W k t ρ N (Rt K B fun _ => False)) : Sb K B W k t ρ N R := fun x D σ H n F e f o kn kr => h x D σ H n F e f o kn fun v H' f' o' r => r.elim fun d hd => hd.2.elim
theorem sb_asgLock {N : Wd → List Sl → Prop} {R : Hp → V → Hp → Prop} {d : PyData} (h : EvD K W (tLockE te) ρ d) (hn : N W (ρ.set i (.dat d))) : Sb K B W 0 (tLock (tAsg te (gName i))) ρ N R :=
  show Sb K B W 0 (tAsg (tLockE te) (gName i)) ρ N R from sb_asgD h hn
theorem ok_ways_up (F : FnP K "ways_up" s_ways_up f fd) (T : Tx mg)  : FnOk P w K mg base CX0 1 f fd ["block", "least", "offers"] (sp_ways_up K) := by
  have nd := sc_ways_up.nd
  refine F.ok sc_ways_up (fun vs H Q E h => spdc_len (fun _ => rfl) h) (fun cdv A outer s H vs Q E hr h => ⟨_, PSs.nox (pss_cons (ps_asg (pv 0) (pg_tupK (K := K) (n := 2) rfl rfl (pgs_cons (pg_name (i := 3) nd rfl (Or.inl rfl)) (pgs_cons (pg_name (i := 4) nd rfl (Or.inl rfl)) pgs_nil)))) (pss_cons (ps_set (i := 5) nd rfl (Or.inr rfl) pe_dnewK) (pss_cons (ps_for PassesOwn.never rfl (pi_anyK (K := K) rfl (pv 2)) (pg_tupK (K := K) (n := 2) rfl rfl (pgs_cons (pg_name (i := 6) nd rfl (Or.inr rfl)) (pgs_cons (pg_name (i := 7) nd rfl (Or.inl rfl)) pgs_nil))) (pss_one (ps_if (pt_cmpR (op_eqK (K := K) rfl (hu64 hr)) (pv 6) (pv 3) (nomark _)) (pss_one (ps_dput (hu_of1 hr) (pv 5) (pv 6) (pe_tup (pa_cons (pv 7) (pa_cons (pe_tup (pa_cons (pv 6) pa_nil)) pa_nil))) rfl)) (pss_one (ps_if (pt_chain op_lt op_le (pv 3) (pv 6) (pv 4)) (pss_cons (ps_lock (ps_setLc (i := 8) (own := [("other", 10)]) rfl nd rfl rfl rfl (pi_anyK (K := K) rfl (pv 5)) (blkOk_by (own := [("other", 10)]) (N := N_ways_up) (sc := defScope s_ways_up) (by decide +kernel)) (fun _ _ _ _ _ => (pg_name (i := 10) nd rfl (Or.inl rfl))) (fun _ _ _ _ _ => pts_one (pt_cmpR op_le (pe_op op_sub (pv 6) (pv 10)) (pv 1) (nomark _))) (fun _ _ _ _ _ => (pe_tup (pa_cons (pe_ix (ix_seqK (K := K) rfl) (pe_dget (hu_of1 hr) (pv 5) (pv 10) fun _ _ => rfl) pe_int fun _ _ => rfl) (pa_cons (pv 10) pa_nil)))))) (pss_one (ps_if (pt_cmpR op_gt (pe_callB (call_lenK (K := K) rfl) rfl T.len (by decide +kernel) (pa_cons (pv 8) pa_nil)) pe_int (nomark _)) (pss_cons (ps_asg (pe_callB (cr_minK (K := K) rfl rfl (hu64 hr)) rfl T.min (by decide +kernel) (pa_cons (pv 8) pa_nil)) (pg_tupK (K := K) (n := 2) rfl rfl (pgs_cons (pg_name (i := 9) nd rfl (Or.inl rfl)) (pgs_cons (pg_name (i := 10) nd rfl (Or.inl rfl)) pgs_nil)))) (pss_one (ps_dput (hu_of1 hr) (pv 5) (pv 6) (pe_tup (pa_cons (pe_op (op_plusK (K := K) rfl) (pv 9) (pv 7)) (pa_cons (pe_tup (pa_cons (pv 6) (pa_starK (K := K) rfl (pe_ix (ix_seqK (K := K) rfl) (pe_dget (hu_of1 hr) (pv 5) (pv 10) fun _ _ => rfl) pe_int fun _ _ => rfl) pa_nil))) pa_nil))) rfl))) pss_nil))) pss_nil))))) (pss_one (ps_ret (pv 5)))))), run_Dc (Ns := N_ways_up) h fun a B hp => ?_⟩)
  obtain ⟨⟨low, high⟩, L, os⟩ := a
  obtain ⟨h1, h2, hL, hlh⟩ := hp
  simp only at h1 h2 hL hlh
  refine sb_seq (sb_asgG (P := fun d => d = bD (low, high)) (ρd := fun _ => [.dat (bD (low, high)), .dat (.int L), .dat (tB os), .dat (.int low), .dat (.int high), .no, .no, .no, .no, .no, .no]) (js := [3, 4]) (ev_var rfl) (fun d hd => by subst hd; exact eg_pair) fun d hd => ?_)
  refine sb_seq (sb_asgS es_dnew fun W1 s1 hs1 => ?_)
  obtain ⟨p, rfl, rfl⟩ := hs1
  refine sb_seq (sb_any (sb_fold0 (xs := os) (enc := bD) (ei_anyT (ev_var (d := tB os) rfl)) (CK.wayStep low high L)
    (fun s W' ρ' => W' = B.push K p (.dct (dctI (wayD s))) ∧ ∃ o6 o7 o8 o9 o10, ρ' = [.dat (bD (low, high)), .dat (.int L), .dat (tB os), .dat (.int low), .dat (.int high), .at p, o6, o7, o8, o9, o10]) [] ⟨rfl, _, _, _, _, _, rfl⟩ ?_ ?_))
  · rintro ys x zs W' ρ' hz x' ⟨rfl, o6, o7, o8, o9, o10, rfl⟩
    refine ⟨_, _, eg_pair, ?_⟩
    obtain ⟨q1, q2⟩ := ways_small low high L ys [] 0 [] (fun e he => (List.not_mem_nil he).elim) (Nat.le_refl _)
    have inv := CK.ways_inv hL hlh h2 ys (x :: zs) hz
    have hyl : ys.length < os.length := by rw [hz, List.length_append, List.length_cons]; omega
    have hnew : ∀ e ∈ ys.foldl (CK.wayStep low high L) [], e.1 ≠ x.1 := fun e he => by
      have h3 := (q1 e he).1
      rw [hz, List.map_append, List.map_cons] at h2
      have h4 := (List.pairwise_append.mp h2).2.2 e.1 (by simpa using h3) x.1 (by simp)
      omega
    have hasc := inv.asc
    generalize hs : ys.foldl (CK.wayStep low high L) [] = s at q1 q2 hnew hasc
    have hz2 : (wayD s).length < 16777216 := by unfold wayD; rw [List.length_map]; omega
    refine sb_if (b := decide (x.1 = low)) (et_test (ev_eqI (ev_var rfl) (ev_var rfl))) (fun hc => ?_) fun hc => ?_
    · have hc' : x.1 = low := by simpa using hc
      refine sb_dput (k := 0) (k2 := 0) (P := fun d => d = .tuple [.int x.2, tI [x.1]]) (Py := fun y => y = x.1) rfl Md.here (fun _ _ => Ext.push) (ek_ev (ev_tup (ea_cons (ev_var rfl) (ea_cons (ev_tup (ea_cons (ev_var rfl) ea_nil) (by simp)) ea_nil)) (by simp))) (ek_ev (ev_to (ev_var (d := .int x.1) rfl) fun d hd => ⟨_, hd, rfl⟩)) hz2 ?_
      rintro d y rfl rfl
      refine ⟨?_, _, _, _, _, _, rfl⟩
      rw [putI_new s x.1 x.2 [x.1] hnew]
      unfold CK.wayStep
      rw [if_pos hc']
    have hc' : ¬ x.1 = low := by simpa using hc
    refine sb_if (b := decide (low < x.1) && decide (x.1 ≤ high)) (et_test (ev_chain (ev_var rfl) (ev_var rfl) rv_lt (ev_var rfl) rv_le)) (fun hd => ?_) fun hd => sb_next ?_
    · have hd' : low < x.1 ∧ x.1 ≤ high := by simpa using hd
      have eks : (wayD s).map (fun e => PyData.int e.1) = s.map fun e => PyData.int e.1 := by unfold wayD; rw [List.map_map]; rfl
      have gat : ∀ e ∈ s, getI (wayD s) e.1 = some (.tuple [.int e.2.1, tI e.2.2]) := fun e he => by rw [getI_way, CK.wayAt_mem hasc he]; rfl
      refine sb_seq (sb_asgLock (d := .list ((CK.nearOf L x.1 s).map (CW.prD false))) (EvF.ev (ef_lock fun od => ?_)) ?_)
      · have e3 : (CK.nearOf L x.1 s).map (prD false) = (s.filter fun e => decide (x.1 - e.1 ≤ L)).map fun e => .tuple [.int e.2.1, .int e.1] := by
          unfold CK.nearOf
          rw [List.map_map]
          rfl
        rw [e3]
        refine ef_lcT (ds := s) (enc := fun e => .int e.1) (by rw [← eks]; exact ei_keys rfl) (fun e => decide (x.1 - e.1 ≤ L)) (fun e => .tuple [.int e.2.1, .int e.1]) _ (by decide) (fun e he => eg_name) (fun D acc e he => et_test (ev_le (ev_sub (ev_var rfl) (ev_var rfl)) (ev_var rfl))) (fun D acc e he _ => ev_tup (ea_cons (ev_ixT (ev_dget rfl (Rdr.up (Rdr.ro fun H ws h => .inr ⟨_, h⟩)) (ev_var rfl) (gat e he)) (ev_int 0) (atI_zero rfl)) (ea_cons (ev_var rfl) ea_nil)) (by simp)) (by omega)
      refine sb_if (b := decide (0 < ((CK.nearOf L x.1 s).length : Int))) (et_test (evd_to (ev_gt (ev_lenL (ds := (CK.nearOf L x.1 s).map (prD false)) (ev_var rfl)) (ev_int 0)) (by simp))) (fun hn => ?_) fun hn => sb_next ?_
      · cases hm : CK.minPair (CK.nearOf L x.1 s) with
        | none =>
          rw [CK.minPair_none.mp hm] at hn
          simp at hn
        | some m =>
          obtain ⟨e, he, em⟩ := List.mem_map.mp (CK.minPair_spec hm).1
          have he' := (List.mem_filter.mp he).1
          have g1 := gat e he'
          have hw := CK.wayAt_mem hasc he'
          have g1' : getI (wayD s) m.2 = some (.tuple [.int e.2.1, tI e.2.2]) := by rw [← em]; exact g1
          have hlen := (q1 e he').2
          refine sb_seq (sb_asgG (P := fun d => d = prD false m) (ρd := fun _ => [.dat (bD (low, high)), .dat (.int L), .dat (tB os), .dat (.int low), .dat (.int high), .at p, .dat (.int x.1), .dat (.int x.2), .dat (.list ((CK.nearOf L x.1 s).map (prD false))), .dat (.int m.1), .dat (.int m.2)]) (js := [9, 10]) (ev_minP (ev_var rfl) hm) (fun d hd => by subst hd; exact eg_pair) fun d hd => ?_)
          refine sb_dput (k := 0) (k2 := 0) (P := fun d => d = .tuple [.int (m.1 + x.2), tI (x.1 :: e.2.2)]) (Py := fun y => y = x.1) rfl Md.here (fun _ _ => Ext.push) (ek_ev (ev_tup (ea_cons (ev_add (ev_var rfl) (ev_var rfl)) (ea_cons (ev_tup (ds := .int x.1 :: (e.2.2.map PyData.int ++ [])) (ea_cons (ev_var rfl) (ea_star (ev_ixT (d := tI e.2.2) (ev_dget rfl Rdr.here (ev_var rfl) g1') (ev_int 1) (atI_one rfl)) ea_nil)) ?_) ea_nil)) (by simp) |> (ev_to · fun d hq => ?_))) (ek_ev (ev_to (ev_var (d := .int x.1) rfl) fun d hd => ⟨_, hd, rfl⟩)) hz2 ?_
          · rw [hq]
            simp [tI]
          · simp at hlen ⊢
            omega
          · rintro d y rfl rfl
            refine ⟨?_, _, _, _, _, _, rfl⟩
            rw [putI_new s x.1 _ _ hnew]
            unfold CK.wayStep
            rw [if_neg hc', if_pos hd', hm]
            simp only
            rw [← em]
            simp only
            rw [hw]
            rfl
      · have hnil : CK.nearOf L x.1 s = [] := by
          simp only [decide_eq_false_iff_not] at hn
          exact List.length_eq_zero_iff.mp (by omega)
        refine ⟨?_, _, _, _, _, _, rfl⟩
        unfold CK.wayStep
        rw [if_neg hc', if_pos hd', hnil]
        rfl
    · refine ⟨?_, _, _, _, _, _, rfl⟩
      unfold CK.wayStep
      rw [if_neg hc', if_neg]
      intro z
      rw [decide_eq_true z.1, decide_eq_true z.2] at hd
      cases hd
  · rintro W' ρ' ⟨rfl, o6, o7, o8, o9, o10, rfl⟩
    exact sb_ret_dc rfl (Ext.refl _)

end
end CW
end C11x
section N1x
set_option Elab.async false
set_option linter.all false
set_option maxRecDepth 100000
set_option maxHeartbeats 2000000
/-! The exception NoWay: made by its own __init__, which calls super().__init__('no way'). -/
namespace CW
open PySem PySem.Spec PySem.W PySem.HandSPX PySem.Calls PyProof.Rows L2 StX RZ
/-- the __init__ of the class that the row's statement 1 makes -/
def clsBody : Stmt → List Stmt
  | .ClassDef _ _ _ b _ _ _ _ _ _ _ => b
  | _ => []
abbrev nwD : Stmt := (clsBody (top 1)).getD 0 (.Pass ⟨0, 0, 0, 0⟩)
abbrev nwA : Arguments := defArgs nwD
abbrev nwB : List Stmt := defBody nwD
abbrev nwS : Scope := defScope nwD
abbrev leMro : List Value := [.type "LookupError", .type "Exception", .type "BaseException", .type "object"]
/-- what the written part says of NoWay, at C, and of its __init__, at fI -/
structure NwTxt (prog : Program) (K : Frag) (mg : PySem.Str → Option Value) (C fI : Addr) : Prop where
  gC : mg "NoWay" = some (.ref C)
  gs : mg "super" = none
  ex : excInitIn K C leMro "LookupError.__new__" = true
  iC : findIn K (.ref C) "__init__" = some (some (.ref fI))
  tI : typeIn K (.ref fI) = some (.type "function")
  kC : keepIn K (.ref C) = true
  exC : subIn K (.ref C) (.type "BaseException") = some true
  leC : subIn K (.ref C) (.type "LookupError") = some true
  tyC : typeIn K (.ref C) = some (.type "type")
  selfC : mroIn K C (.ref C) = some true
  sup : ks_superIn K C C "__init__" = some (some (.builtin "LookupError.__init__"))
  op : nsIn K cStatics "thirdparty.any" = some none
  te : exmOne K (.ref C) (.ref C) = some true
  fn : ∃ (oc : Value) (od : Option Addr) (doc pm : Value) (an : Option Addr) (cda cc : Addr) (ct : Value) (osl : Array (Option Value)),
    K.lookup fI = some ⟨oc, od, .func (ksFn "__init__" "NoWay.__init__" nwA nwB nwS .none .none doc pm an (.ref cda) ct cc), osl⟩ ∧ codeIn K (.ref cda) "NoWay.__init__" = true ∧
      (∃ (ccl : Value) (cdd : Option Addr) (vs : Array Value) (ccs : Array (Option Value)) (file : PySem.Str) (tf : Tok), K.lookup cda = some ⟨ccl, cdd, .fields vs, ccs⟩ ∧ vs[2]? = some (.str file tf) ∧ ((prog.main.file : PySem.Str) == file) = true) ∧
      ∃ (cl : Value) (cld : Option Addr) (csl : Array (Option Value)), K.lookup cc = some ⟨cl, cld, .cell (some (.ref C)), csl⟩
  htop : (prog.main.scope.names.lookup ("super" : PySem.Str)).isSome = false
section
variable {prog : Program} {w : World} {A : Around} {E : Value → Shared → Prop} {R : Result → Shared → Prop} {s : Shared} {K : Frag} {mg mb : PySem.Str → Option Value} {C fI : Addr}
theorem nw_init (T : NwTxt prog K mg C fI) {x t0 : Addr} (X : K.In s.heap) (hlim : s.heap.NoLimit) (G : s.heap.Ns mainGlobals mg) (Bl : s.heap.Ns builtinsNs mb) (hb : mb "super" = some (.type "super")) (hx : s.heap.get? x = some (excO C t0)) (hroom : A.depth < recursionLimit)
    (hq : ∀ h' tk t1, (∀ b o, b ≠ x → s.heap.get? b = some o → h'.get? b = some o) → h'.get? x = some (excO C t1) → R (.ok (.ret .none)) { s with heap := h', toks := tk }) :
    codeAny (model prog w) A (.call (.ref fI) ⟨[.ref x], []⟩) R s := by
  obtain ⟨oc, od, doc, pm, an, cda, cc, ct, osl, ho, hcd, ⟨ccl, cdd, vs, ccs, file, tf, hca, hvs, hfile⟩, cl, cld, csl, hcc⟩ := T.fn
  obtain ⟨nm, N, qn, bs, bm, hdct, sn, sub, ab, col, dd, k0, k1, k2, k3, k5, hC, hT⟩ := excInit_of X T.ex
  refine ks_codeAny_call_defAt (binds := [("self", .ref x)]) hroom (X _ _ ho) rfl hlim (codeRec_of X hcd) rfl (BindsTo.of_eq rfl) (show ∀ y ∈ nwS.names, y.2 ≠ .cell by decide) (fun y hy => by rw [List.mem_singleton.mp hy]; rfl) (fun h₁ hns k => ?_)
  have X₁ : K.In h₁ := X.keeps k
  have hC₁ := k _ _ hC
  have hx₁ := k _ _ hx
  refine ks_wpAt_execs_cons (ks_wpAt_Expr_any (ks_wpAt_MethodCall ?_))
  refine ks_wpAt_super_base (attr := "__init__") rfl rfl rfl rfl (X₁ _ _ ho) rfl rfl rfl (X₁ _ _ hca) rfl hvs hfile T.htop ?_
  refine ks_loadName_global rfl rfl (loadGlobal_builtin (G.keeps k) T.gs (Bl.keeps k) hb ⟨rfl, ?_⟩)
  refine wpAny_loadName_free rfl rfl rfl ⟨_, X₁ _ _ hcc, rfl⟩ ?_
  refine wpAny_loadName_local rfl rfl hns rfl ?_
  refine ks_wpAny_isType_cls hC₁ rfl ⟨rfl, ?_⟩
  refine ks_wpAny_call_super hC₁ rfl hx₁ rfl (fun c e => by cases e) (looks_mroIn X₁ T.selfC) (fun h₂ hso k₂ => ?_)
  have X₂ : K.In h₂ := X₁.keeps k₂
  have hx₂ := k₂ _ _ hx₁
  have hC₂ := k₂ _ _ hC₁
  have I₂ : InstAt h₂ x (excO C t0) C none := ⟨hx₂, rfl, rfl, trivial⟩
  have hI : W.Looks (model prog w) h₂ (isInstance (.ref x) (.type "LookupError")) true := I₂.type.andThen (looks_subIn X₂ T.leC)
  have hsup := T.sup
  cases hcl : clsIn K C with
  | none => unfold ks_superIn at hsup; rw [hcl] at hsup; cases hsup
  | some cd =>
    unfold ks_superIn at hsup
    rw [hcl] at hsup
    refine kxs_getMethod kxs_LookupError hso (looks_opaque X₂ T.op) (l₀ := cd.mro) (fun A Q E s k q => wpAny_bind ((looks_clsIn X₂ hcl) A _ E s k (wpAny_pure q))) rfl X₂ hsup hI (ks_ne X₂ I₂ hcl) rfl ?_
    refine kxs_callWith (i := "LookupError.__init__") (x := x) rfl (evalArgs_plain ?_)
    refine spliced_more (wpAny_Constant_str (spliced_none ⟨Heap.get?_push_at rfl rfl, ?_⟩))
    have hu : (h₂.push (kxs_mw "LookupError.__init__" x)).get? h₂.objs.size = some (kxs_mw "LookupError.__init__" x) := Heap.get?_push_at rfl rfl
    have hx₃ := Heap.get?_push_of_some (kxs_mw "LookupError.__init__" x) hx₂
    have hC₃ := Heap.get?_push_of_some (kxs_mw "LookupError.__init__" x) hC₂
    refine wpAny_call (codeAny_of_tree ?_)
    show wpAny _ _ (callAny (.ref h₂.objs.size) _) _ _ _
    simp only [callAny]
    refine wpAny_bind (wpAny_load hu ?_)
    have e1 : (Value.type "method-wrapper" == Value.type "method" || Value.type "method-wrapper" == Value.type "builtin_function_or_method" || Value.type "method-wrapper" == Value.type "method-wrapper") = true := by decide
    simp only [kxs_mw, e1, if_true]
    refine KFB.if_so (by decide) ?_
    refine wpAny_bind (check_bound_init PySem.F.excBase_LookupError.toExcCallFacts hC₃ hx₃ rfl ?_)
    refine wpAny_bind (wpAny_pure (wpAny_pure ?_))
    refine ⟨plainId_quiet PySem.F.excBase_LookupError.init.plain _, codeAny_builtin PySem.F.excBase_LookupError.initEntry ?_⟩
    refine exc_init_tree (cls := .ref C) (t0 := t0) (dv := none) (c2 := .none) (c3 := .none) (b4 := .bool false) hx₃ (by rw [sizeLine_eq]; show 1 ≤ 16777216; decide) fun h' k3 hx' _ => ?_
    exact wpAt_of_wpAny (wpAny_execs_nil (hq _ _ _ (fun b o hb e => k3 b o hb (Heap.get?_push_of_some _ (k₂ b o (k b o e)))) hx'))
theorem nw_made (T : NwTxt prog K mg C fI) (X : K.In s.heap) (hlim : s.heap.NoLimit) (G : s.heap.Ns mainGlobals mg) (Bl : s.heap.Ns builtinsNs mb) (hb : mb "super" = some (.type "super")) (hroom : A.depth + 1 < recursionLimit)
    (hq : ∀ h' tk e t1, (∀ b o, s.heap.get? b = some o → h'.get? b = some o) → s.heap.objs.size ≤ e → h'.get? e = some (excO C t1) → R (.ok (.ret (.ref e))) { s with heap := h', toks := tk }) :
    codeAny (model prog w) A (.call (.ref C) ⟨[], []⟩) R s := by
  obtain ⟨nm, N, qn, bs, bm, hdct, sn, sub, ab, col, dd, k0, k1, k2, k3, k5, hC, hT⟩ := excInit_of X T.ex
  obtain ⟨hp, g, dr, tk, os⟩ := s
  have k : ∀ b o, hp.get? b = some o → ((hp.push (kdv_tup [])).push (excO C hp.objs.size)).get? b = some o := fun b o e => Heap.get?_push_of_some _ (Heap.get?_push_of_some _ e)
  have hget : ((hp.push (kdv_tup [])).push (excO C hp.objs.size)).get? (hp.objs.size + 1) = some (excO C hp.objs.size) := by heap_get
  refine call_own PySem.F.excBase_LookupError hT hC (looks_findIn X T.iC) (fun self => bind_fn X self T.tI) (Nat.zero_le _) ?_
  refine nw_init (s := ⟨(hp.push (kdv_tup [])).push (excO C hp.objs.size), g, dr, tk, os⟩) T (X.keeps k) (hlim.keeps k) (G.keeps k) (Bl.keeps k) hb hget ?_ fun h' tk' t1 k' hx => ?_
  · show A.depth + 1 < recursionLimit
    exact hroom
  · exact ⟨rfl, hq h' tk' (hp.objs.size + 1) t1 (fun b o e => k' b o (Nat.ne_of_lt (Nat.lt_succ_of_lt (Heap.lt_size e))) (k b o e)) (Nat.le_succ _) hx⟩
end
/-- NoWay() -/
theorem pmk_nw {X : Cx} {C fI : Addr} {k : Nat} {p pos : Pos} (T : NwTxt X.prog X.K X.mg C fI) (hr : Room k X.A) (hk : 1 ≤ k) (hg : Gl X "NoWay") : PMk X (.Call (.Name "NoWay" p) [] [] pos) (fun _ H Q => Q (.ref C) none H) := by
  intro pins s σ H Q I h
  refine wpAny_Call_Name_kw (ld_glob I hg T.gC ?_)
  obtain ⟨mb, b1, b2⟩ := I.mod.blt
  refine callWith_K0 I.kIn T.kC ?_
  refine wpAny_call (nw_made T I.kIn I.nolimit (I.mod.glob.keeps I.bk) (b1.keeps I.bk) ((b2 _ (by decide)).trans (by decide +kernel)) (by have := hr.dp; omega) fun h' tk e t1 keep new he => ?_)
  have hn : s.heap.get? e = none := by
    cases q : s.heap.get? e with
    | none => rfl
    | some o => exact absurd (Heap.lt_size q) (Nat.not_lt.mpr new)
  exact ⟨e, _, _, s, H, .ref C, none, rfl, I, keep, hn, he, ⟨rfl, rfl⟩, rfl, rfl, I.hok.fresh new, rfl, I.bare, raises_own T.exC T.tyC, h⟩
end CW
end N1x
section W13x
set_option Elab.async false
set_option linter.all false
set_option maxRecDepth 100000
/-! A def that may raise. -/
namespace CW
open PySem PySem.Spec PyProof.Rows L2 StX RZ
/-- the base world in which what was stays -/
def Wd.stay (W : Wd) (H0 : Hp) : Wd where
  ps := W.ps
  I := fun _ H O => (∀ p ∈ W.ps, H p = H0 p ∧ H0 p ≠ none) ∧ Same (off W.ps H0) O
  has := fun h p hp => by rw [(h.1 p hp).1]; exact (h.1 p hp).2
  loc := fun h e s => ⟨fun p hp => ⟨(e p hp).trans (h.1 p hp).1, (h.1 p hp).2⟩, Same.trans h.2 s⟩
  low := fun _ h => h
section
variable {K : PySem.W.Frag} {B W : Wd} {k n : Nat} {ρ : List Sl} {N : Wd → List Sl → Prop} {R : Hp → V → Hp → Prop} {H0 H' : Hp}
theorem stay_same (o : (W.stay H0).ok n H') : Same H0 H' := fun b x e => by
  by_cases hb : b ∈ W.ps
  · rw [(o.1 b hb).1]; exact e
  · have q := o.2 b x (by show off W.ps H0 b = _; rw [off_get hb]; exact e)
    exact off_le _ _ _ _ q
theorem sb_raise {E : Hp → Prop} (h : ∀ H n, B.ok n H → E H) : Sb K B W k (fun _ _ H => E H) ρ N R := fun x D σ H n F e f o kn kr => h H _ (x.ok o)
def SpX (K : PySem.W.Frag) (C : Addr) {α : Type} (As : α → List PyData) (pre : α → Prop) (X : α → Option PyData) : Sp := fun vs H Q E => ∃ (W : Wd) (n : Nat) (a : α), IsAll K (W.fr H) vs (As a) ∧ W.ok n H ∧ pre a ∧
  (∀ v H' d, Same H H' → Is K (W.fr H') v d → X a = some d → Q v H') ∧ (X a = none → ∀ H', Same H H' → E (.ref C) none H')
theorem spx_len {C : Addr} {α : Type} {As : α → List PyData} {pre : α → Prop} {X : α → Option PyData} {m : Nat} {vs : List V} {H : Hp} {Q : VK} {E : XK} (hm : ∀ a, (As a).length = m) (h : SpX K C As pre X vs H Q E) : vs.length = m := by
  obtain ⟨W, n, a, dv, _⟩ := h
  rw [dv.len, hm]
theorem run_X {C : Addr} {α : Type} {As : α → List PyData} {pre : α → Prop} {X : α → Option PyData} {Ns : List PySem.Str} {E : XK} {H : Hp} {vs : List V} {Q : VK} {t : TS} (h : SpX K C As pre X vs H Q E)
    (hb : ∀ a B, pre a → (X a = none → ∀ H n, B.ok n H → E (.ref C) none H) → Sb K B B 0 t ((As a).map .dat ++ List.replicate (Ns.length - (As a).length) .no) (fun _ _ => False) (Rt K B fun d => X a = some d)) :
    t { nx := fun _ H' => Q .non H', rt := Q } (L2.start Ns vs) H := by
  obtain ⟨W, n, a, dv, o, hp, q, qx⟩ := h
  have o0 : (W.stay H).ok 0 H := ⟨fun p hp => ⟨rfl, W.has o p hp⟩, Same.refl _⟩
  have hl := dv.len
  have e : Env K ((W.stay H).fr H) (L2.start Ns vs) ((As a).map .dat ++ List.replicate (Ns.length - (As a).length) .no) := by
    unfold L2.start
    rw [hl]
    exact Env.of_all (slAll_of dv) _
  refine hb a (W.stay H) hp (fun hx H' n' o' => qx hx H' (stay_same o')) (Ext.refl _) _ _ H 0 (W.fr H) e (Same.refl _) o0 (fun W' ρ' σ' H' x' hN e' f' o' => hN.elim) fun v H' f' o' r => ?_
  obtain ⟨d, hv, hd⟩ := r
  exact q v H' d (stay_same o') hv hd
end
end CW
end W13x
section C12x
set_option Elab.async false
set_option linter.all false
set_option maxRecDepth 100000
namespace CW
open PySem PySem.Spec PyProof.Rows L2 StX RZ
section
variable {P : Program} {w : World} {K : PySem.W.Frag} {mg : PySem.Str → Option Value} {base : Heap} {f : Addr} {fd : FuncData}
variable {B W : Wd} {k k1 k2 : Nat} {ρ : List Sl} {te ta tb : TE} {i : Nat} {b : Addr}
structure ChA where
  row : List Int
  L : Int
  offers : List (Int × Int)
def resD : Int × List Int → PyData := fun r => .tuple [.int r.1, tI r.2]
abbrev sp_cheapest (K : PySem.W.Frag) (C : Addr) : Sp := SpX K C (α := ChA) (fun a => [tI a.row, .int a.L, tB a.offers]) (fun a => a.row.length ≤ 1000 ∧ a.offers.length ≤ 1000 ∧ CK.Asc (a.offers.map (·.1)) ∧ 0 < a.L ∧ a.L ≤ 1000) (fun a => (CK.cheapest a.row a.L a.offers).map resD)
theorem ok_cheapest {C fI : Addr} (F : FnP K "cheapest" s_cheapest f fd) (T : Tx mg) (TN : NwTxt P K mg C fI) (O_ways_up : Ok P w K mg base "ways_up" 1 ["block", "least", "offers"] (sp_ways_up K)) (O_filling : Ok P w K mg base "filling" 2 ["row", "least"] (sp_filling K)) (O_tupled : Ok P w K mg base "tupled" 3 ["thing"] (sp_tupled K)) : FnOk P w K mg base (L2.CX P w) 4 f fd ["row", "least", "offers"] (sp_cheapest K C) := by
  have nd := sc_cheapest.nd
  refine F.ok sc_cheapest (fun vs H Q E h => spx_len (fun _ => rfl) h) (fun cdv A outer s H vs Q E hr h => ⟨_, (pss_cons (ps_par (i := 3) (j := 4) rfl nd rfl rfl (by decide) rfl rfl (pa_cons (pe_f O_tupled hr rfl (pa_cons (pv 2) pa_nil)) (pa_cons (pe_f O_filling (hr.mono (by decide)) rfl (pa_cons (pv 0) (pa_cons (pv 1) pa_nil))) pa_nil)) rfl) (pss_cons (ps_if (pt_cmpR op_isN1 (pv 4) pe_non (nomark _)) (pss_cons (ps_setLc (i := 5) (own := [("limit", 12), ("price", 10)]) rfl nd rfl rfl rfl (pi_anyK (K := K) rfl (pv 3)) (blkOk_by (own := [("limit", 12), ("price", 10)]) (N := N_cheapest) (sc := defScope s_cheapest) (by decide +kernel)) (fun _ _ _ _ _ => (pg_tupK (K := K) (n := 2) rfl rfl (pgs_cons (pg_name (i := 12) nd rfl (Or.inl rfl)) (pgs_cons (pg_name (i := 10) nd rfl (Or.inl rfl)) pgs_nil)))) (fun _ _ _ _ _ => pts_one (pt_cmpR op_lt (pv 12) (pe_op op_mul pe_int (pv 1)) (nomark _))) (fun _ _ _ _ _ => (pe_tup (pa_cons (pv 10) (pa_cons (pe_tup (pa_cons (pv 12) pa_nil)) pa_nil))))) (pss_cons (ps_if (pt_cmpR (op_eqK (K := K) rfl (hu64 hr)) (pe_callB (call_lenK (K := K) rfl) rfl T.len (by decide +kernel) (pa_cons (pv 5) pa_nil)) pe_int (nomark _)) (pss_one (ps_raise rfl (takes_of rfl rfl rfl rfl) (pmk_nw TN hr (by decide) rfl))) pss_nil) (pss_one (ps_ret (pe_callB (cr_minK (K := K) rfl rfl (hu64 hr)) rfl T.min (by decide +kernel) (pa_cons (pv 5) pa_nil)))))) pss_nil) (pss_cons (ps_asg (pe_tup (pa_cons pe_int (pa_cons (pe_tup pa_nil) pa_nil))) (pg_tupK (K := K) (n := 2) rfl rfl (pgs_cons (pg_name (i := 6) nd rfl (Or.inl rfl)) (pgs_cons (pg_name (i := 7) nd rfl (Or.inl rfl)) pgs_nil)))) (pss_cons (ps_for (passes_of rfl) rfl (pi_anyK (K := K) rfl (pv 4)) (pg_name (i := 8) nd rfl (Or.inl rfl)) (pss_cons (ps_set (i := 9) nd rfl (Or.inl rfl) (pe_f O_ways_up (hr.mono (by decide)) rfl (pa_cons (pv 8) (pa_cons (pv 1) (pa_cons (pv 3) pa_nil))))) (pss_cons (ps_if (pt_cmp (pc_dnotin (hu_of1 hr) (pe_ix (ix_seqK (K := K) rfl) (pv 8) pe_int fun _ _ => rfl) (pv 9))) (pss_one (ps_raise rfl (takes_of rfl rfl rfl rfl) (pmk_nw TN hr (by decide) rfl))) pss_nil) (pss_cons (ps_asg (pe_dget (hu_of1 hr) (pv 9) (pe_ix (ix_seqK (K := K) rfl) (pv 8) pe_int fun _ _ => rfl) fun _ _ => rfl) (pg_tupK (K := K) (n := 2) rfl rfl (pgs_cons (pg_name (i := 10) nd rfl (Or.inl rfl)) (pgs_cons (pg_name (i := 11) nd rfl (Or.inl rfl)) pgs_nil)))) (pss_one (ps_par (i := 6) (j := 7) rfl nd rfl rfl (by decide) rfl rfl (pa_cons (pe_op (op_plusK (K := K) rfl) (pv 6) (pv 10)) (pa_cons (pe_op (op_plusK (K := K) rfl) (pv 11) (pv 7)) pa_nil)) rfl)))))) (pss_one (ps_ret (pe_tup (pa_cons (pv 6) (pa_cons (pv 7) pa_nil))))))))), run_X (Ns := N_cheapest) h fun a B hp hE => ?_⟩)
  obtain ⟨row, L, os⟩ := a
  obtain ⟨r1, r2, hasc, l1, l2⟩ := hp
  simp only at r1 r2 hasc l1 l2 hE
  refine sb_seq (sb_par (k1 := 0) (k2 := 0) (es_k (ek_ev (P := fun d => d = tB os) (ev_to (ev_call (α := List (List Int)) (os.map fun b => [b.1, b.2]) (ea_cons (evd_to (ev_var (d := tB os) rfl) (tB_tT os)) ea_nil) ⟨by rw [List.length_map]; omega, fun x hx => by
    obtain ⟨b, _, rfl⟩ := List.mem_map.mp hx
    show 2 ≤ 10000
    omega⟩) fun d hd => hd.trans (tB_tT os).symm))) (fun W1 s1 h => es_k (ek_ev (P := fun d => d = fD (CK.fill row L)) (ev_call (α := List Int × Int) (row, L) (ea_cons (ev_var rfl) (ea_cons (ev_var rfl) ea_nil)) (show row.length ≤ 10000 by omega)))) ?_)
  rintro W1 s1 W2 s2 ⟨e1, d, e3, e4⟩ ⟨e2, d2, e5, e6⟩
  subst e3 e4 e5 e6
  rw [e1] at e2
  subst e2
  cases hf : CK.fill row L with
  | none =>
    have hch : CK.cheapest row L os = (CK.minPair (CK.smallOf L os)).map fun m => (m.1, [m.2]) := by unfold CK.cheapest; rw [hf]
    rw [hch] at hE ⊢
    refine sb_seq (sb_if (b := true) (et_test (ev_isN (d := .none) (ev_var rfl))) (fun _ => ?_) fun h => by cases h)
    refine sb_seq (sb_asgD (d := .list ((CK.smallOf L os).map (CW.prD true))) (EvF.ev ?_) ?_)
    · have e3 : (CK.smallOf L os).map (prD true) = (os.filter fun o => decide (o.1 < 2 * L)).map fun o => .tuple [.int o.2, .tuple [.int o.1]] := by
        unfold CK.smallOf
        rw [List.map_map]
        rfl
      rw [e3]
      exact ef_lcT (ds := os) (enc := bD) (ei_anyT (ev_var (d := tB os) rfl)) (fun o => decide (o.1 < 2 * L)) (fun o => .tuple [.int o.2, .tuple [.int o.1]]) _ (by decide) (fun e he => eg_pair) (fun D acc e he => et_test (ev_lt (ev_var rfl) (ev_mul (ev_int 2) (ev_var rfl) (.inl (by omega))))) (fun D acc e he _ => ev_tup (ea_cons (ev_var rfl) (ea_cons (ev_tup (ea_cons (ev_var rfl) ea_nil) (by simp)) ea_nil)) (by simp)) (by omega)
    refine sb_seq (sb_if (b := decide (((CK.smallOf L os).length : Int) = 0)) (et_test (evd_to (ev_eqI (ev_lenL (ds := (CK.smallOf L os).map (prD true)) (ev_var rfl)) (ev_int 0)) (by simp))) (fun hn => ?_) fun hn => sb_next ?_)
    · have hnil : CK.smallOf L os = [] := by
        simp only [decide_eq_true_eq] at hn
        exact List.length_eq_zero_iff.mp (by omega)
      exact sb_raise (E := fun H => E (.ref C) none H) fun H n o => hE (by rw [hnil]; rfl) H n o
    · cases hm : CK.minPair (CK.smallOf L os) with
      | none =>
        rw [CK.minPair_none.mp hm] at hn
        simp at hn
      | some m => exact sb_retD (ev_minP (ev_var rfl) hm) rfl
  | some bs =>
    have hch : CK.cheapest row L os = CK.buyGo L os bs (0, []) := by unfold CK.cheapest; rw [hf]
    rw [hch] at hE ⊢
    have hval := CK.Val.each (CK.fill_val (by omega) hf)
    have hbl : bs.length ≤ 1000 := Nat.le_trans (fill_len hf) r1
    refine sb_seq (sb_if (b := false) (et_test (ev_isN (d := tB bs) (ev_var rfl))) (fun h => by cases h) fun _ => sb_next ?_)
    refine sb_seq (sb_tup (k1 := 0) (k2 := 0) (es_k (ek_ev (P := fun d => d = .int 0) (ev_int 0))) (fun W1 s1 h => es_k (ek_ev (P := fun d => d = tI []) (ev_tup ea_nil (by simp)))) ?_)
    rintro W1 s1 W3 s2 ⟨e1, d, e3, e4⟩ ⟨e2, d2, e5, e6⟩
    subst e3 e4 e5 e6
    rw [e1] at e2
    subst e2
    refine sb_seq (sb_any (sb_low (k1 := bs.length * 0) (sb_for (es := bs.map bD) (kb := 0) (ei_anyT (ev_var (d := tB bs) rfl))
      (fun i W' ρ' => ∃ acc : Int × List Int, CK.buyGo L os bs (0, []) = CK.buyGo L os (bs.drop i) acc ∧ acc.2.length ≤ i * 1000 ∧ ∃ o5 o8 o9 o10 o11 o12, ρ' = [.dat (tI row), .dat (.int L), .dat (tB os), .dat (tB os), .dat (tB bs), o5, .dat (.int acc.1), .dat (tI acc.2), o8, o9, o10, o11, o12])
      ⟨(0, []), rfl, by simp, _, _, _, _, _, _, rfl⟩ ?_ ?_) (by simp)))
    · rintro i d W' ρ' hd x' ⟨acc, ha, hl, o5, o8, o9, o10, o11, o12, rfl⟩
      rw [List.getElem?_map] at hd
      obtain ⟨b, hb, rfl⟩ := Option.map_eq_some_iff.mp hd
      have hm := List.mem_of_getElem? hb
      have hi := (List.getElem?_eq_some_iff.mp hb).1
      have hb2 : b.1 ≤ b.2 := hval b hm
      have hdrop : bs.drop i = b :: bs.drop (i + 1) := by
        rw [List.drop_eq_getElem_cons hi]
        congr 1
        exact (List.getElem?_eq_some_iff.mp hb).2
      rw [hdrop] at ha
      simp only [CK.buyGo] at ha
      refine ⟨_, _, eg_name, ?_⟩
      refine sb_seq (sb_asgS (es_dcall (α := WuA) ⟨b, L, os⟩ (ea_cons (ev_var rfl) (ea_cons (ev_var rfl) (ea_cons (ev_var (d := tB os) rfl) ea_nil))) ⟨by simp only; omega, hasc, l1, hb2⟩) fun W2 s2 hs2 => ?_)
      obtain ⟨p, rfl, rfl⟩ := hs2
      have rd : Rdr K (W'.ro K p .dK (wayD (CK.waysUp b L os))) p (wayD (CK.waysUp b L os)) := Rdr.ro fun H ws h => .inl h
      have gI := getI_way (CK.waysUp b L os) b.2
      cases hw : CK.wayAt (CK.waysUp b L os) b.2 with
      | none =>
        rw [hw] at ha gI
        exact sb_seq (sb_if (b := true) (et_B (evd_to (ev_dnotin rfl rd (ev_ixT (ev_var (d := bD b) rfl) (ev_int 1) (atI_one rfl))) (by rw [gI]; rfl))) (fun _ => sb_raise (E := fun H => E (.ref C) none H) fun H n o => hE (by rw [ha]; rfl) H n o) fun h => by cases h)
      | some w =>
        rw [hw] at ha gI
        have hwl : w.2.length ≤ 1000 := by
          have := ((ways_small b.1 b.2 L os [] 0 [] (fun e he => (List.not_mem_nil he).elim) (Nat.le_refl _)).1 _ (CK.wayAt_some hw)).2
          simp only at this
          omega
        refine sb_seq (sb_if (b := false) (et_B (evd_to (ev_dnotin rfl rd (ev_ixT (ev_var (d := bD b) rfl) (ev_int 1) (atI_one rfl))) (by rw [gI]; rfl))) (fun h => by cases h) fun _ => sb_next ?_)
        refine sb_seq (sb_asgG (P := fun d => d = .tuple [.int w.1, tI w.2]) (ρd := fun _ => [.dat (tI row), .dat (.int L), .dat (tB os), .dat (tB os), .dat (tB bs), o5, .dat (.int acc.1), .dat (tI acc.2), .dat (bD b), .at p, .dat (.int w.1), .dat (tI w.2), o12]) (js := [10, 11]) (ev_dget rfl rd (ev_ixT (ev_var (d := bD b) rfl) (ev_int 1) (atI_one rfl)) (by rw [gI]; rfl)) (fun d hd => by subst hd; exact eg_pair) fun d hd => ?_)
        refine sb_par (k1 := 0) (k2 := 0) (es_k (ek_ev (P := fun d => d = .int (acc.1 + w.1)) (ev_add (ev_var rfl) (ev_var rfl)))) (fun W1 s1 h => es_k (ek_ev (P := fun d => d = tI (w.2 ++ acc.2)) (evd_to (ev_catT (ev_var (d := tI w.2) rfl) (ev_var (d := tI acc.2) rfl) (by simp; omega)) (by simp [tI])))) ?_
        rintro W1 s1 W3 s2 ⟨e1, d, e3, e4⟩ ⟨e2, d2, e5, e6⟩
        subst e3 e4 e5 e6
        exact ⟨(acc.1 + w.1, w.2 ++ acc.2), ha, by simp only [List.length_append]; omega, _, _, _, _, _, _, rfl⟩
    · rintro W' ρ' ⟨acc, ha, hl, o5, o8, o9, o10, o11, o12, rfl⟩
      rw [List.length_map, List.drop_length] at ha
      simp only [CK.buyGo] at ha
      exact sb_retD (ev_tup (ea_cons (ev_var rfl) (ea_cons (ev_var rfl) ea_nil)) (by simp)) (by rw [ha]; rfl)

end
end CW
end C12x
section W14x
set_option Elab.async false
set_option linter.all false
set_option maxRecDepth 100000
/-! A tuple whose object is known; dict(..) of it. -/
namespace CW
open PySem PySem.Spec PyProof.Rows L2 StX RZ
/-- at a stands a tuple with no dict of its own -/
def BarAt (K : PySem.W.Frag) (O : Hp) (a : Addr) (ds : List PyData) : Prop := ∃ (o : Obj) (vs : List V), O a = some (.frz o (.tup vs)) ∧ o.dict = none ∧ IsAll K O vs ds
theorem BarAt.mono {K : PySem.W.Frag} {O O' : Hp} {a : Addr} {ds : List PyData} (s : Same O O') (h : BarAt K O a ds) : BarAt K O' a ds := by
  obtain ⟨o, vs, h1, h2, h3⟩ := h
  exact ⟨o, vs, s _ _ h1, h2, h3.mono s⟩
def Wd.bar (K : PySem.W.Frag) (W : Wd) (a : Addr) (ds : List PyData) : Wd where
  ps := W.ps
  I := fun n H O => W.I n H O ∧ BarAt K O a ds
  has := fun h => W.has h.1
  loc := fun h e s => ⟨W.loc h.1 e s, h.2.mono s⟩
  low := fun l h => ⟨W.low l h.1, h.2⟩
structure Bar (K : PySem.W.Frag) (W : Wd) (a : Addr) (ds : List PyData) : Prop where
  get : ∀ n H O, W.I n H O → BarAt K O a ds
def RtBar (K : PySem.W.Frag) (B : Wd) (ds : List PyData) : Hp → V → Hp → Prop := fun _ v H' => ∃ p, v = .ref p ∧ BarAt K (B.fr H') p ds
def SpBar (K : PySem.W.Frag) {α : Type} (As : α → List PyData) (pre : α → Prop) (X : α → List PyData) : Sp := fun vs H Q _ => ∃ (W : Wd) (n : Nat) (a : α), IsAll K (W.fr H) vs (As a) ∧ W.ok n H ∧ pre a ∧ ∀ p H', Same H H' → BarAt K (W.fr H') p (X a) → Q (.ref p) H'
section
variable {K : PySem.W.Frag} {B W : Wd} {k n : Nat} {ρ : List Sl} {te ta tb : TE} {tt : TT} {t : TS} {N : Wd → List Sl → Prop} {p a : Addr} {ds : List PyData} {i : Nat} {c : Bool} {T : Wd → Sl → Prop}
theorem Ext.bar : Ext W (W.bar K a ds) := ⟨fun _ h => h, fun _ _ _ h => h.1⟩
theorem Bar.here : Bar K (W.bar K a ds) a ds := ⟨fun _ _ _ h => h.2⟩
theorem Bar.up {m : MO} (h : Bar K W a ds) : Bar K (W.push K p m) a ds := ⟨fun n H O e => h.get n H O e.2.1⟩
theorem ev_bar (hi : ρ[i]? = some (.at a)) (b : Bar K W a ds) : EvD K W (tVar i) ρ (.tuple ds) := fun σ H n e o Q q => by
  obtain ⟨v, h1, hv⟩ := e.get i _ hi (fun z => by cases z)
  cases hv
  obtain ⟨ob, vs, g1, g2, g3⟩ := b.get _ _ _ o
  exact ⟨_, h1, q _ H _ (Same.refl H) (.tup (.inl (.inr ⟨ob, g1⟩)) g3) rfl⟩
theorem es_if (h : EvT K W tt ρ c) (h1 : c = true → EvS K W k ta ρ T) (h2 : c = false → EvS K W k tb ρ T) : EvS K W k (tIf tt ta tb) ρ T := fun σ H n e o Q q =>
  h σ H _ e o _ fun H1 s1 => by
    have e1 := e.mono (fr_to (W := W) s1)
    cases c with
    | true => exact h1 rfl σ H1 n e1 (Wd.ok.to o s1) Q fun v H2 W' s x f => q v H2 W' s x (Same.trans (fr_to s1) f)
    | false => exact h2 rfl σ H1 n e1 (Wd.ok.to o s1) Q fun v H2 W' s x f => q v H2 W' s x (Same.trans (fr_to s1) f)
theorem bar_new {H : Hp} {ob : Obj} {vs : List V} (o : W.ok n H) (hp : H p = none) (hd : ob.dict = none) (dv : IsAll K (W.fr H) vs ds) : BarAt K (W.fr (upd H p (.frz ob (.tup vs)))) p ds :=
  ⟨ob, vs, o.at hp, hd, dv.mono (fr_new hp)⟩
theorem es_tup0 : EvS K W 0 tTup0 ρ fun W' s => ∃ a, W' = W.bar K a [] ∧ s = .at a := fun σ H n e o Q q => fun l ob hl hd =>
  q _ _ (W.bar K l []) (.at l) Ext.bar (fr_new hl) ⟨(Wd.ok.new o hl).low (by omega), bar_new (W := W) o hl hd .nil⟩ rfl ⟨l, rfl, rfl⟩
theorem es_tupB (h : EvF K W te ρ ds) : EvS K W 0 (tCB (rTupB K) (tCons te tNil)) ρ fun W' s => ∃ a, W' = W.bar K a ds ∧ s = .at a := fun σ H n e o Q q =>
  h σ H n e o _ fun p H1 vs hp s1 g1 g2 => ⟨p, vs, rfl, .inl (.inl g1), fun l ob hl hd => by
    have o1 := Wd.ok.to o s1
    exact q _ _ (W.bar K l ds) (.at l) Ext.bar (Same.trans (fr_to s1) (fr_new hl)) ⟨Wd.ok.new o1 hl, bar_new (W := W) o1 hl hd (g2.mono (off_sub (fun _ h => List.mem_cons_of_mem _ h) _))⟩ rfl ⟨l, rfl, rfl⟩⟩
theorem sb_ret_bar (hi : ρ[i]? = some (.at a)) (b : Bar K W a ds) : Sb K B W k (tRet (tVar i)) ρ N (RtBar K B ds) := fun x D σ H n F e f o kn kr => by
  obtain ⟨v, h1, h2⟩ := e.get i _ hi (fun z => by cases z)
  cases h2
  exact ⟨_, h1, kr _ H (Same.trans f (x.fr H)) ((x.ok o).low (by omega)) ⟨a, rfl, (b.get _ _ _ o).mono (x.fr H)⟩⟩
theorem es_barcall {α : Type} {As : α → List PyData} {pre : α → Prop} {X : α → List PyData} {E : XK} {tr : TA} (a : α) (h : EvA K W tr ρ (As a)) (hp : pre a) : EvS K W 0 (tCall (SpBar K As pre X) [] E tr) ρ fun W' s => ∃ p, W' = W.bar K p (X a) ∧ s = .at p := fun σ H n e o Q q =>
  h σ H n e o _ fun vs H1 s1 dv => ⟨W, n, a, by rw [List.append_nil]; exact dv, o.to s1, hp, fun p H2 s2 h1 => q _ _ (W.bar K p (X a)) (.at p) Ext.bar (fr_to (s1.trans s2)) ⟨(o.to s1).to s2, h1⟩ rfl ⟨p, rfl, rfl⟩⟩
theorem spbar_len {α : Type} {As : α → List PyData} {pre : α → Prop} {X : α → List PyData} {m : Nat} {vs : List V} {H : Hp} {Q : VK} {E : XK} (hm : ∀ a, (As a).length = m) (h : SpBar K As pre X vs H Q E) : vs.length = m := by
  obtain ⟨W, n, a, dv, _⟩ := h
  rw [dv.len, hm]
theorem run_Bar {α : Type} {As : α → List PyData} {pre : α → Prop} {X : α → List PyData} {Ns : List PySem.Str} {E : XK} {H : Hp} {vs : List V} {Q : VK} (h : SpBar K As pre X vs H Q E)
    (hb : ∀ a B, pre a → Sb K B B 0 t ((As a).map .dat ++ List.replicate (Ns.length - (As a).length) .no) (fun _ _ => False) (RtBar K B (X a))) :
    t { nx := fun _ H' => Q .non H', rt := Q } (L2.start Ns vs) H := by
  obtain ⟨W, n, a, dv, o, hp, q⟩ := h
  have o0 : (W.still H).ok 0 H := fun p hp => ⟨rfl, W.has o p hp⟩
  have hl := dv.len
  have e : Env K ((W.still H).fr H) (L2.start Ns vs) ((As a).map .dat ++ List.replicate (Ns.length - (As a).length) .no) := by
    unfold L2.start
    rw [hl]
    exact Env.of_all (slAll_of dv) _
  refine hb a (W.still H) hp (Ext.refl _) _ _ H 0 (W.fr H) e (Same.refl _) o0 (fun W' ρ' σ' H' x' hN e' f' o' => hN.elim) fun v H' f' o' r => ?_
  obtain ⟨p, rfl, h1⟩ := r
  exact q p H' (still_same o' f') h1
/-! dict(..) -/
theorem pairs_is {O : Hp} : ∀ {vs : List V} {os : List (Int × Int)}, IsAll K O vs (os.map bD) → ∃ ps : List Addr, vs = ps.map V.ref ∧ Paired (fun p (kv : Key × V) => SqT K O p [kV kv.1, kv.2]) ps (os.map fun o => (Sum.inl o.1, V.int o.2))
  | _, [], .nil => ⟨[], rfl, .nil⟩
  | _, o :: os, .cons h t => by
    obtain ⟨ps, e, hp⟩ := pairs_is t
    cases h with
    | tup h1 h2 =>
      rename_i p xs
      cases h2 with
      | cons a1 r => cases r with
        | cons a2 r =>
          cases r
          cases a1
          cases a2
          exact ⟨p :: ps, by rw [e]; rfl, .cons h1 hp⟩
theorem merge_new : ∀ (kvs acc : List (Key × V)), (acc ++ kvs).map Prod.fst |>.Nodup → mergeK acc kvs = acc ++ kvs
  | [], acc, _ => by simp [mergeK]
  | kv :: kvs, acc, h => by
    have h1 : acc ++ kv :: kvs = (acc ++ [kv]) ++ kvs := by simp
    have h2 : putK acc kv.1 kv.2 = acc ++ [kv] := by
      unfold putK
      rw [if_neg]
      intro z
      obtain ⟨e, he, hk⟩ := List.any_eq_true.mp z
      rw [List.map_append, List.map_cons] at h
      have := (List.nodup_append.mp h).2.2 e.1 (List.mem_map.mpr ⟨e, he, rfl⟩) kv.1 List.mem_cons_self
      exact this (by simpa using hk)
    have h3 := merge_new kvs (acc ++ [kv]) (by rw [← h1]; exact h)
    rw [h1, ← h3, ← h2]
    rfl
theorem es_dict {os : List (Int × Int)} (hi : ρ[i]? = some (.at a)) (b : Bar K W a (os.map bD)) (hn : (os.map (·.1)).Nodup) : EvS K W 0 (tCB (rDictT K) (tCons (tVar i) tNil)) ρ fun W' s => ∃ p, W' = W.push K p (.dct (dctI (os.map fun o => (o.1, .int o.2)))) ∧ s = .at p := fun σ H n e o Q q => by
  obtain ⟨v, h1, hv⟩ := e.get i _ hi (fun z => by cases z)
  cases hv
  obtain ⟨ob, vs, g1, g2, g3⟩ := b.get _ _ _ o
  obtain ⟨ps, rfl, hp⟩ := pairs_is (g3.mono (fr_le (W := W)))
  have hm : mergeK [] (os.map fun o => ((Sum.inl o.1, V.int o.2) : Key × V)) = os.map fun o => (Sum.inl o.1, V.int o.2) := by
    rw [merge_new]
    · rfl
    · rw [List.nil_append, List.map_map]
      have e2 : (Prod.fst ∘ fun o : Int × Int => ((Sum.inl o.1, V.int o.2) : Key × V)) = (fun z : Int => (Sum.inl z : Key)) ∘ (·.1) := rfl
      rw [e2, ← List.map_map]
      exact List.pairwise_map.mpr (hn.imp fun h e => h (Sum.inl.inj e))
  refine ⟨_, h1, a, ob, ps, _, rfl, fr_le (W := W) _ _ g1, g2, hp, fun p hp => ?_⟩
  · rw [hm]
    refine q _ _ (W.push K p (.dct (dctI (os.map fun o => (o.1, .int o.2))))) (.at p) Ext.push (fr_push o hp (Same.new hp)) (push_new o hp (Same.new hp) ⟨_, upd_same, ?_, ?_⟩) rfl ⟨p, rfl, rfl⟩
    · unfold dctI
      rw [List.map_map, List.map_map, List.map_map]
      rfl
    · unfold dctI
      rw [List.map_map, List.map_map, List.map_map]
      show IsAll K _ (os.map (V.int ∘ (·.2))) (os.map (PyData.int ∘ (·.2)))
      rw [← List.map_map, ← List.map_map]
      exact isAll_ints _
end
end CW
end W14x
section C13x
set_option Elab.async false
set_option linter.all false
set_option maxRecDepth 100000
namespace CW
open PySem PySem.Spec PyProof.Rows L2 StX RZ
section
variable {P : Program} {w : World} {K : PySem.W.Frag} {mg : PySem.Str → Option Value} {base : Heap} {f : Addr} {fd : FuncData}
variable {B W : Wd} {k k1 k2 : Nat} {ρ : List Sl} {te ta tb : TE} {i : Nat} {b : Addr}
theorem words_len {α : Type} {f : α → PySem.Str} {m : Nat} {xs : List α} (h : ∀ x ∈ xs, (f x).length ≤ m) : (Txt.join CK.spT (xs.map f)).length ≤ (m + 1) * xs.length := by
  rw [TL.len_tl, CK.tl_joinT, CK.tl_sp]
  have := joinL_len (m := m) (S := [32]) rfl (ps := (xs.map f).map TL.tl) fun p hp => by
    obtain ⟨w, hw, rfl⟩ := List.mem_map.mp hp
    obtain ⟨x, hx, rfl⟩ := List.mem_map.mp hw
    rw [← TL.len_tl]
    exact h x hx
  simpa using this
abbrev sp_offers_in (K : PySem.W.Frag) : Sp := SpBar K (α := List (Int × Int)) (fun a => [.str (CK.offsS a)]) (fun a => (∀ o ∈ a, BNo o ∧ 1 ≤ o.1) ∧ a.length ≤ 500 ∧ ascB (a.map (·.1)) = true) (fun a => a.map bD)
theorem ok_offers_in (F : FnP K "offers_in" s_offers_in f fd) (T : Tx mg) (O_ascends : Ok P w K mg base "ascends" 1 ["row"] (sp_ascends K)) (O_offer_in : Ok P w K mg base "offer_in" 2 ["word"] (sp_offer_in K)) : FnOk P w K mg base CX0 3 f fd ["string"] (sp_offers_in K) := by
  have nd := sc_offers_in.nd
  refine F.ok sc_offers_in (fun vs H Q E h => spbar_len (fun _ => rfl) h) (fun cdv A outer s H vs Q E hr h => ⟨_, PSs.nox (pss_cons (ps_set (i := 1) nd rfl (Or.inl rfl) (pe_ifExp (pt_cmpR (op_eqK (K := K) rfl (hu64 hr)) (pv 0) (pe_glob rfl T.gNONE.1 T.gNONE.2) (nomark _)) pe_tup0 (pe_callTy (call_tupleB (K := K) rfl) rfl T.tuple (by decide +kernel) (pa_cons (pe_lc (own := [("word", 2)]) rfl nd (pi_anyK (K := K) rfl (pe_splitK (pv 0) (pe_glob rfl T.gBLANK.1 T.gBLANK.2))) (blkOk_by (own := [("word", 2)]) (N := N_offers_in) (sc := defScope s_offers_in) (by decide +kernel)) (fun _ _ _ _ _ => (pg_name (i := 2) nd rfl (Or.inl rfl))) (fun _ _ _ _ _ => pts_nil) (fun _ _ _ _ _ => (pe_f O_offer_in hr rfl (pa_cons (pv 2) pa_nil)))) pa_nil)))) (pss_cons (ps_if (pt_not (pt_val (pe_f O_ascends (hr.mono (by decide)) rfl (pa_cons (pe_lc (own := [("limit", 3), ("price", 4)]) rfl nd (pi_anyK (K := K) rfl (pv 1)) (blkOk_by (own := [("limit", 3), ("price", 4)]) (N := N_offers_in) (sc := defScope s_offers_in) (by decide +kernel)) (fun _ _ _ _ _ => (pg_tupK (K := K) (n := 2) rfl rfl (pgs_cons (pg_name (i := 3) nd rfl (Or.inl rfl)) (pgs_cons (pg_name (i := 4) nd rfl (Or.inl rfl)) pgs_nil)))) (fun _ _ _ _ _ => pts_nil) (fun _ _ _ _ _ => (pv 3))) pa_nil)))) (pss_one ps_never) pss_nil) (pss_one (ps_ret (pv 1))))), run_Bar (Ns := N_offers_in) h fun a B hp => ?_⟩)
  obtain ⟨h1, h2, h3⟩ := hp
  have hbn : CK.BN a := fun o ho => (h1 o ho).1
  refine sb_seq (sb_asgS (es_if (c := decide (CK.offsS a = CK.dsT)) (T := fun W' s => ∃ p, W' = B.bar K p (a.map bD) ∧ s = .at p) (et_test (ev_eqS (ev_var rfl) (ev_str CK.dsT))) (fun h => ?_) fun h => ?_) fun W' s hs => ?_)
  · have h' : CK.offsS a = CK.dsT := by simpa using h
    have ha : a = [] := by
      refine Classical.byContradiction fun hne => ?_
      unfold CK.offsS at h'
      rw [if_neg hne] at h'
      exact CK.not_ds (CK.offs_head hbn hne) h'
    subst ha
    exact es_tup0
  · have ha : a ≠ [] := fun z => by subst z; revert h; decide +kernel
    have e : CK.offsS a = Txt.join CK.spT (a.map CK.offS) := by unfold CK.offsS; rw [if_neg ha]
    have hl := words_len (f := CK.offS) (m := 41) (xs := a) fun o ho => CK.off_len (hbn o ho)
    refine es_tupB (ef_lcA (ds := a) (enc := fun o => .str (CK.offS o)) (ei_anyL (evd_to (EvF.ev (ev_split (z := Txt.join CK.spT (a.map CK.offS)) (evd_to (ev_var rfl) (by rw [e])) (ev_str CK.spT) (by decide +kernel) (by omega) (CK.offs_split hbn ha))) ?_)) (fun o => bD o) _ (by decide) (fun p _ => eg_name) (fun D acc p hp => ev_call (α := Int × Int) p (ea_cons (ev_var rfl) ea_nil) (h1 p hp)) (by omega))
    rw [List.map_map]; rfl
  obtain ⟨p, rfl, rfl⟩ := hs
  refine sb_seq (sb_if (b := false) (et_not (x := true) (et_B (evd_to (ev_call (α := List Int) (a.map (·.1)) (ea_cons (evd_to (EvF.ev (ef_lcA (ds := a) (enc := bD) (ei_anyT (ev_bar (i := 1) rfl Bar.here)) (fun o => .int o.1) _ (by decide) (fun p _ => eg_pair) (fun D acc p hp => ev_var rfl) (by omega))) ?_) ea_nil) ?_ |> (ev_to · fun d hd => hd)) ?_))) (fun h => by cases h) fun _ => sb_next ?_)
  · rw [lI, List.map_map]; rfl
  · show (a.map _).length ≤ 10000
    rw [List.length_map]; omega
  · rw [h3]
  exact sb_ret_bar (i := 1) rfl Bar.here

end
end CW
end C13x
section T1x
set_option Elab.async false
set_option linter.all false
set_option maxRecDepth 100000
/-! Rules that know that so many tokens are out. -/
namespace CW
open PySem PySem.Spec PyProof.Rows L2 StX RZ
section
variable {α : Type} {c : Sem α} {M : Model} {A : Around} {Ex : Value → Shared → Prop} {z : Shared} {U U' : α → Shared → Prop} {nt : Nat}
theorem thnT (hz : nt ≤ z.toks) (h : wpAny M A c U Ex z) (hU : ∀ a z', nt ≤ z'.toks → U a z' → U' a z') : wpAny M A c U' Ex z :=
  wpAny_mono (PySem.wpAny_toks_of hz h) (fun a z' q => hU a z' q.1 q.2) fun _ _ q => q.2
theorem thnTF (hz : nt ≤ z.toks) (h : wpAny M A c U (fun _ _ => False) z) (hU : ∀ a z', nt ≤ z'.toks → U a z' → U' a z') : wpAny M A c U' Ex z :=
  wpAny_mono (PySem.wpAny_toks_of hz h) (fun a z' q => hU a z' q.1 q.2) fun _ _ q => q.2.elim
end
section
variable (nt : Nat) (X : Cx)
structure PEn (e : Expr) (t : TE) : Prop where
  run : ∀ (pins : List (Addr × Obj)) (z : Shared) (σ : L2.St) (H : Hp) (Q : VK), nt ≤ z.toks → Inv X pins σ H z → t σ H Q → wpAny (model X.prog X.w) X.A (eval e X.env) (EP X pins σ Q) X.xe z
structure PTn (e : Expr) (t : TT) : Prop where
  run : ∀ (pins : List (Addr × Obj)) (z : Shared) (σ : L2.St) (H : Hp) (Q : Bool → Hp → Prop), nt ≤ z.toks → Inv X pins σ H z → t σ H Q → wpAny (model X.prog X.w) X.A (isTrue e X.env (eval e X.env)) (TP X pins σ Q) X.xe z
structure PWn (e : Expr) (t : TT) : Prop where
  run : ∀ (wh : Sem Value) (pins : List (Addr × Obj)) (z : Shared) (σ : L2.St) (H : Hp) (Q : Bool → Hp → Prop), nt ≤ z.toks → Inv X pins σ H z → t σ H Q → wpAny (model X.prog X.w) X.A (isTrue e X.env wh) (TP X pins σ Q) X.xe z
structure PAn (es : List Expr) (t : TA) : Prop where
  run : ∀ (pos : Pos) (pins : List (Addr × Obj)) (z : Shared) (σ : L2.St) (H : Hp) (Q : List V → Hp → Prop), nt ≤ z.toks → Inv X pins σ H z → t σ H Q → wpAny (model X.prog X.w) X.A (spliced (backTo pos (starEach es X.env))) (AP X pins σ Q) X.xe z
structure PSn (st : Stmt) (t : TS) : Prop where
  run : ∀ (pins : List (Addr × Obj)) (z : Shared) (σ : L2.St) (H : Hp) (D : Ends), nt ≤ z.toks → Inv X pins σ H z → t D σ H → wpAny (model X.prog X.w) X.A (exec st X.env) (SP X pins D) X.xe z
structure PSsn (st : List Stmt) (t : TS) : Prop where
  run : ∀ (pins : List (Addr × Obj)) (z : Shared) (σ : L2.St) (H : Hp) (D : Ends), nt ≤ z.toks → Inv X pins σ H z → t D σ H → wpAny (model X.prog X.w) X.A (execs st X.env) (SP X pins D) X.xe z
end
section
variable {nt : Nat} {X : Cx} {a b e : Expr} {es rest : List Expr} {ta tb te : TE} {t u : TA} {pos : Pos} {tA tB' : TT} {st : Stmt} {sts : List Stmt} {ts us : TS}
theorem PEn.of (h : PE X e te) : PEn nt X e te := ⟨fun pins z σ H Q _ I q => h.run pins z σ H Q I q⟩
theorem PTn.of (h : PT X e tA) : PTn nt X e tA := ⟨fun pins z σ H Q _ I q => h.run pins z σ H Q I q⟩
theorem PWn.of (h : PW X e tA) : PWn nt X e tA := ⟨fun wh pins z σ H Q _ I q => h.run wh pins z σ H Q I q⟩
theorem PAn.of (h : PA X es t) : PAn nt X es t := ⟨fun pos pins z σ H Q _ I q => h.run pos pins z σ H Q I q⟩
theorem PSn.of (h : PS X st ts) : PSn nt X st ts := ⟨fun pins z σ H D _ I q => h.run pins z σ H D I q⟩
theorem PSsn.of (h : PSs X sts ts) : PSsn nt X sts ts := ⟨fun pins z σ H D _ I q => h.run pins z σ H D I q⟩
theorem PWn.pt (h : PWn nt X e tA) : PTn nt X e tA := ⟨h.run _⟩
theorem pssn_cons (h1 : PSn nt X st ts) (h2 : PSsn nt X sts us) : PSsn nt X (st :: sts) (tSeq ts us) := by
  refine ⟨fun pins z σ H D hz I h => wpAny_execs_cons (thnT hz (h1.run pins z σ H { D with nx := us D } hz I h) fun f z1 hz1 q => ?_)⟩
  cases f with
  | next =>
    obtain ⟨τ, G, J, q⟩ := q
    exact h2.run pins z1 τ G D hz1 J q
  | _ => exact q
theorem pssn_one (h1 : PSn nt X st ts) : PSsn nt X [st] ts := by
  refine ⟨fun pins z σ H D hz I h => wpAny_execs_cons (thn (h1.run pins z σ H D hz I h) fun f z1 q => ?_)⟩
  cases f with
  | next => exact wpAny_execs_nil q
  | _ => exact q
theorem psn_set {i : Nat} {x : PySem.Str} {pos' : Pos} (hN : X.N.Nodup) (hi : X.N[i]? = some x) (hx : Loc X.env.scope x) (he : PEn nt X e te) (hs : swapsWith e (some (.Name x pos')) pos.line X.env = pure false := by rfl) (hf : X.fn x = true ∨ X.env.scope.names.lookup x = some .local := by first | exact .inl rfl | exact .inr rfl | assumption) :
    PSn nt X (.Assign [.Name x pos'] e pos) (tAsg te (gName i)) :=
  ⟨fun pins z σ H D hz I h => wpAny_Assign_Name (thn (he.run pins z σ H _ hz I h) fun v z1 ⟨y, G, J, r, q⟩ => store_ok J hN hi hx r (fun z2 J2 => ⟨_, G, J2, q⟩) hf) hs⟩
theorem psn_ret (he : PEn nt X e te) : PSn nt X (.Return (some e) pos) (tRet te) :=
  ⟨fun pins z σ H D hz I h => wpAny_Return_some (thn (he.run pins z σ H _ hz I h) fun v z1 ⟨y, G, J, r, q⟩ => ⟨y, σ, G, J, r, q⟩)⟩
theorem psn_if {as bs : List Stmt} (hc : PTn nt X e tA) (ha : PSsn nt X as ts) (hb : PSsn nt X bs us) : PSn nt X (.If e as bs pos) (tIfS tA ts us) := by
  refine ⟨fun pins z σ H D hz I h => wpAny_If (thnT hz (hc.run pins z σ H _ hz I h) fun d z1 hz1 ⟨G, J, q⟩ => ?_)⟩
  cases d with
  | true => exact ha.run pins z1 σ G D hz1 J q
  | false => exact hb.run pins z1 σ G D hz1 J q
theorem pen_ifExp (hc : PTn nt X e tA) (ha : PEn nt X a ta) (hb : PEn nt X b tb) : PEn nt X (.IfExp e a b pos) (tIf tA ta tb) := by
  refine ⟨fun pins z σ H Q hz I h => wpAny_IfExp (thnT hz (hc.run pins z σ H _ hz I h) fun d z1 hz1 ⟨G, J, q⟩ => ?_)⟩
  cases d with
  | true => exact ha.run pins z1 σ G Q hz1 J q
  | false => exact hb.run pins z1 σ G Q hz1 J q
theorem ptn_val (h : PEn nt X e te) (he : ∀ wh, isTrue e X.env wh = (do let v ← wh; standAt e.pos; holding [v] (truthy v)) := by intro _; rfl) : PTn nt X e (L2.tB te) := by
  refine ⟨fun pins z σ H Q hz I hw => isTrue_plain (thn (h.run pins z σ H _ hz I hw) fun v z1 ⟨x, G, J, r, q⟩ => ?_) (he _)⟩
  obtain ⟨d, rfl, q⟩ := q
  cases r
  exact wpAny_truthy_bool ⟨G, J, q⟩
theorem ptn_not (h : PTn nt X a tA) : PTn nt X (.UnaryOp .Not a pos) (tNot tA) := ⟨fun pins z σ H Q hz I q => isTrue_not (h.run pins z σ H (fun c G => Q (!c) G) hz I q)⟩
theorem pwn_or (ha : PTn nt X a tA) (hb : PWn nt X (.BoolOp .Or (b :: rest) pos) tB') : PWn nt X (.BoolOp .Or (a :: b :: rest) pos) (tOr tA tB') := by
  refine ⟨fun wh pins z σ H Q hz I h => isTrue_or (thnT hz (ha.run pins z σ H _ hz I h) fun c z1 hz1 ⟨G, J, q⟩ => ?_)⟩
  cases c with
  | true => exact ⟨G, J, q⟩
  | false => exact hb.run wh pins z1 σ G Q hz1 J q
theorem pan_cons (ha : PEn nt X e te) (hr : PAn nt X es t) (hs : starEach (e :: es) X.env = (false, eval e X.env) :: starEach es X.env := by rfl) : PAn nt X (e :: es) (tCons te t) := by
  refine ⟨fun pos pins z σ H Q hz I h => ?_⟩
  rw [hs]
  show wpAny _ _ (spliced ((false, eval e X.env) :: backTo pos (starEach es X.env))) _ _ z
  exact Calls.spliced_cons (thnT hz (ha.run pins z σ H _ hz I h) fun v z1 hz1 ⟨x, G, J, r, q⟩ => thn (hr.run pos pins z1 σ G _ hz1 J q) fun vs z2 ⟨xs, G2, J2, r2, q2⟩ => ⟨x :: xs, G2, J2, .cons r r2, q2⟩)
end
/-! calls -/
structure FnOkn (nt : Nat) (P : Program) (w : World) (K : PySem.W.Frag) (mg : PySem.Str → Option Value) (base : Heap) (k : Nat) (f : Addr) (fd : FuncData) (ps : List PySem.Str) (sp : Sp) : Prop where
  len : ∀ vs H Q E, sp vs H Q E → vs.length = ps.length
  run : ∀ (A : Around) (outer : List PySem.Env) (z : Shared) (H : Hp) (args : Args) (us : List Value) (vs : List V) (Q : VK) (E : XK), nt ≤ z.toks → Room k A → Env0 P w K mg base A outer z H → BindsTo z fd args (ps.zip us) → Vals vs us → sp vs H Q E →
    codeAny (model P w) A (.call (.ref f) args) (CR CX0 outer P w H z Q E) z
def Okn (nt : Nat) (P : Program) (w : World) (K : PySem.W.Frag) (mg : PySem.Str → Option Value) (base : Heap) (x : PySem.Str) (k : Nat) (ps : List PySem.Str) (sp : Sp) : Prop :=
  ∃ f fd, FnOkn nt P w K mg base k f fd ps sp ∧ mg x = some (.ref f) ∧ PySem.W.keepIn K (.ref f) = true ∧ Binds K fd ps []
section
variable {nt : Nat} {X : Cx} {x : PySem.Str} {p pos : Pos} {e : Expr} {es : List Expr} {t : TA} {k : Nat} {ps : List PySem.Str} {sp : Sp} {f : Addr} {fd : FuncData}
theorem run_fnN {pins : List (Addr × Obj)} {σ : L2.St} {H : Hp} {z : Shared} {Q : VK} {us : List Value} {vs : List V} (F : FnOkn nt X.prog X.w X.K X.mg X.base k f fd ps sp) (hr : Room k X.A) (hb : Binds X.K fd ps []) (hz : nt ≤ z.toks)
    (I : Inv X pins σ H z) (r : Vals vs us) (h : sp (vs ++ []) H Q E0) : wpAny (model X.prog X.w) X.A (call (.ref f) us) (EP X pins σ Q) X.xe z := by
  rw [List.append_nil] at h
  have hl : (us ++ []).length = ps.length := by rw [List.append_nil, ← r.length]; exact F.len _ _ _ _ h
  have hbd := hb z us I.kIn hl
  rw [List.append_nil] at hbd
  refine wpAny_call (codeAny_mono (F.run X.A X.stack z H ⟨us, []⟩ us vs Q E0 hz hr I.env0 hbd r h) fun rr z1 hq => ?_)
  cases rr with
  | error e => exact False.elim hq
  | ok fl => cases fl with
    | ret u => exact I.after hq
    | _ => exact False.elim hq
/-- a def that wants tokens -/
theorem pen_f (o : Okn nt X.prog X.w X.K X.mg X.base x k ps sp) (hr : Room k X.A) (hg : Gl X x) (ha : PAn nt X (e :: es) t) (hdb : (x == ("__debug__" : PySem.Str)) = false := by decide) (he : starEach (e :: es) X.env = (false, eval e X.env) :: starEach es X.env := by rfl) (hpl : (backTo pos (starEach es X.env)).any (·.1) = false := by rfl) :
    PEn nt X (.Call (.Name x p) (e :: es) [] pos) (tCall sp [] E0 t) := by
  obtain ⟨f, fd, F, hm, hk, hb⟩ := o
  refine ⟨fun pins z σ H Q hz I h => wpAny_Call_Name_kw (ld_glob I hg hm ?_ hdb)⟩
  exact PySem.W.callWith_K (h₀ := X.base) I.ok.mod.kin hk (thnT hz (ha.run pos pins z σ H _ hz I h) fun us z1 hz1 ⟨vs, G, J, r, q⟩ => ⟨J.kIn, run_fnN F hr hb hz1 J r q⟩) he hpl
/-- a def that wants none, over arguments that do -/
theorem pen_fA (o : Ok X.prog X.w X.K X.mg X.base x k ps sp) (hr : Room k X.A) (hg : Gl X x) (ha : PAn nt X (e :: es) t) (hdb : (x == ("__debug__" : PySem.Str)) = false := by decide) (he : starEach (e :: es) X.env = (false, eval e X.env) :: starEach es X.env := by rfl) (hpl : (backTo pos (starEach es X.env)).any (·.1) = false := by rfl) :
    PEn nt X (.Call (.Name x p) (e :: es) [] pos) (tCall sp [] E0 t) := by
  obtain ⟨f, fd, F, hm, hk, hb⟩ := o
  refine ⟨fun pins z σ H Q hz I h => wpAny_Call_Name_kw (ld_glob I hg hm ?_ hdb)⟩
  exact PySem.W.callWith_K (h₀ := X.base) I.ok.mod.kin hk (thn (ha.run pos pins z σ H _ hz I h) fun us z1 ⟨vs, G, J, r, q⟩ => ⟨J.kIn, run_fn F hr hb .nil pass0 J r q⟩) he hpl
theorem pen_callB {id : String} {r : List V → Hp → VK → Prop} (hc : CallR X (.builtin id) r) (hg : Gl X x) (hm : X.mg x = none) (hv : bootBuiltins x = some (.builtin id)) (ha : PAn nt X (e :: es) t) (hn : x ≠ "__name__" := by decide) (hdb : (x == ("__debug__" : PySem.Str)) = false := by decide)
    (he : starEach (e :: es) X.env = (false, eval e X.env) :: starEach es X.env := by rfl) (hpl : (backTo pos (starEach es X.env)).any (·.1) = false := by rfl) : PEn nt X (.Call (.Name x p) (e :: es) [] pos) (tCB r t) :=
  ⟨fun pins z σ H Q hz I h => wpAny_Call_Name_kw (ld_blt I hg hm hv (PyProof.Rows.callWith_builtin1 (thn (ha.run pos pins z σ H _ hz I h) fun us z1 ⟨vs, G, J, rr, q⟩ => hc pins z1 σ G vs us Q J rr q) he hpl) hn hdb)⟩
theorem pen_callTy {id : String} {r : List V → Hp → VK → Prop} (hc : CallR X (.type id) r) (hg : Gl X x) (hm : X.mg x = none) (hv : bootBuiltins x = some (.type id)) (ha : PAn nt X (e :: es) t) (hn : x ≠ "__name__" := by decide) (hdb : (x == ("__debug__" : PySem.Str)) = false := by decide)
    (he : starEach (e :: es) X.env = (false, eval e X.env) :: starEach es X.env := by rfl) (hpl : (backTo pos (starEach es X.env)).any (·.1) = false := by rfl) : PEn nt X (.Call (.Name x p) (e :: es) [] pos) (tCB r t) :=
  ⟨fun pins z σ H Q hz I h => wpAny_Call_Name_kw (ld_blt I hg hm hv (PyProof.Rows.callWith_type1 (thn (ha.run pos pins z σ H _ hz I h) fun us z1 ⟨vs, G, J, rr, q⟩ => hc pins z1 σ G vs us Q J rr q) he hpl) hn hdb)⟩
end
/-! for -/
section
variable {nt : Nat} {X : Cx}
theorem psn_for {tg iter : Expr} {body : List Stmt} {wi : TI} {g : TG} {tb : TS} {pos : Pos} (hp : PassesOwn (model X.prog X.w) X.A X.env X.xe) (hc : X.calm = true) (hi : PI X tg iter wi) (hg : PG X tg g) (hb : PSsn nt X body tb)
    (hs : ∀ x, foldedSetIterable iter X.env x = pure x := by intro _; rfl) : PSn nt X (.For tg iter body [] pos) (tFor wi g tb) := by
  refine ⟨fun pins z σ H D hz I h => wpAny_For (thnT hz (hi.run pins z σ H _ I h) fun v z1 hz1 h1 => thnT hz1 h1 fun itv z2 hz2 ⟨j, qs, tr, J, H2, ej, I2, tu, w2, k2, Wm, ⟨m0, w0⟩, step⟩ => ?_) hs⟩
  subst ej
  have ok : ∀ {G : Hp}, (∀ b ∈ qs, G b = none) → ∀ b ∈ qs, FpOk X pins G b := fun hn b hb => ⟨hn b hb, (k2 b hb).2⟩
  refine codeAny_forLoop_any (fun n z' => nt ≤ z'.toks ∧ ∃ i τ G, Inv X pins τ G z' ∧ tr i z'.heap ∧ (∀ b ∈ qs, G b = none) ∧ Wm i n τ G) ?_ m0 ⟨hz2, 0, σ, H2, I2, w2, fun b hb => (k2 b hb).1, w0⟩
  rintro n z3 ⟨hz3, i, σ3, H3, I3, t3, n3, w3⟩
  rcases step i n σ3 H3 w3 with ⟨fin, qn⟩ | ⟨go, Nx, hNx, nxt⟩
  · refine wpAny_passesOwn hp (thn (tu.done X rfl rfl rfl hc i pins z3 σ3 H3 X.xe I3 (ok n3) t3 fin) fun r z4 ⟨hr, I4⟩ => ?_)
    subst hr
    exact wpAny_execs_nil ⟨σ3, H3, I4, qn⟩
  · refine wpAny_passesOwn hp (thnT hz3 (tu.item X rfl rfl rfl hc i pins z3 σ3 H3 X.xe I3 (ok n3) t3 go) fun r z4 hz4 ⟨u, hr, h4⟩ => ?_)
    subst hr
    refine wpAny_passesOwn hp (thnT hz4 h4 fun _ z5 hz5 ⟨x, H5, I5, r5, y5, t5, n5⟩ => ?_)
    have I5p := I5.pinned (ok n5) (tu.obj _ _ t5)
    refine wpAny_passesOwn hp (thnT hz5 (hg.run _ z5 σ3 H5 x u _ I5p r5 (nxt x H5 y5)) fun _ z6 hz6 ⟨σ6, H6, I6, q6⟩ => ?_)
    refine wpAny_passesOwn hp (thnT hz6 (hb.run _ z6 σ6 H6 _ hz6 I6 q6) fun f z7 hz7 q7 => ?_)
    have more : ∀ {τ : L2.St} {G : Hp}, Inv X (pins ++ pinsAt qs z5.heap) τ G z7 → Nx τ G → ∃ m, m < n ∧ nt ≤ z7.toks ∧ ∃ i τ G, Inv X pins τ G z7 ∧ tr i z7.heap ∧ (∀ b ∈ qs, G b = none) ∧ Wm i m τ G := fun {τ G} I7 n7 => by
      obtain ⟨m', hm, w7⟩ := hNx τ G n7
      have pin : ∀ b ∈ qs, ∀ o, z5.heap.get? b = some o → z7.heap.get? b = some o ∧ G b = none := fun b hb o eo =>
        let y := I7.pin (b, o) (List.mem_append_right _ (List.mem_append_right _ (mem_pinsAt hb eo)))
        ⟨y.1, y.2.1⟩
      refine ⟨m', hm, hz7, i + 1, τ, G, I7.unpinned, tu.keep _ _ _ t5 fun b hb o eo => (pin b hb o eo).1, fun b hb => ?_, w7⟩
      obtain ⟨o, eo, _⟩ := tu.obj _ _ t5 b hb
      exact (pin b hb o eo).2
    cases f with
    | next => obtain ⟨_, _, I7, n7⟩ := q7; exact more I7 n7
    | cont => obtain ⟨_, _, I7, n7⟩ := q7; exact more I7 n7
    | brk => obtain ⟨σ7, H7, I7, q7⟩ := q7; exact ⟨σ7, H7, I7.unpinned, q7⟩
    | ret v => obtain ⟨x7, σ7, H7, I7, r7, q7⟩ := q7; exact ⟨x7, σ7, H7, I7.unpinned, r7, q7⟩
/-! a list comprehension -/
theorem lc_coreN {pins : List (Addr × Obj)} {z : Shared} {σ : L2.St} {H : Hp} {Q : VK} {elt tg iter : Expr} {ifs : List Expr} {scope : Scope} {own : List (PySem.Str × Nat)} {pos pos' : Pos} {wi : TI} {g : TG} {tt : TT} {te : TE} {use : Option (Value → Sem Unit)} {Qf : Value → Shared → Prop}
    (hz : nt ≤ z.toks) (hc : X.calm = true) (hN : X.N.Nodup) (I : Inv X pins σ H z) (hi : PI X tg iter wi) (ok : BlkOk X.N X.env.scope scope own)
    (hg : ∀ (z : Shared) (H : Hp) (C : Addr) (cl : List (PySem.Str × Addr)) (qs : List Addr), PG (X.blk z H scope (compEnvC scope cl C X.env) qs) tg g) (ht : ∀ (z : Shared) (H : Hp) (C : Addr) (cl : List (PySem.Str × Addr)) (qs : List Addr), PTs (X.blk z H scope (compEnvC scope cl C X.env) qs) ifs tt)
    (he : ∀ (z : Shared) (H : Hp) (C : Addr) (cl : List (PySem.Str × Addr)) (qs : List Addr), PEn nt (X.blk z H scope (compEnvC scope cl C X.env) qs) elt te) (hs : ∀ x, foldedSetIterable iter X.env x = pure x)
    (h : tLc wi g tt te (own.map (·.2)) σ H Q)
    (hend : ∀ D C z' m G, Inv X pins σ G z' → Q (.ref D) G → z'.heap.Ns C m → FpOk X pins G C → compPost (model X.prog X.w) X.A X.xe use Qf (.ref D) C (.ok .next) z') :
    wpAny (model X.prog X.w) X.A (comprehension (.ListComp elt [⟨tg, iter, ifs, 0⟩] scope pos) scope X.env pos' (newList []) false (eval iter X.env) use) Qf X.xe z := by
  have hfr : ∀ y ∈ scope.names, y.2 = .free → ∃ c, X.env.cells.lookup y.1 = some c := fun y hy ey => (ok.free y hy ey).elim (fun k => I.ok.has _ (.inl k)) fun k => I.ok.has _ (.inr k)
  refine wpAny_comprehension_free (use := use) rfl hs (closure_ok hfr) ok.kind (fun y hy ey => by rw [ok.uniq y hy, ey])
    (thnT hz (hi.run pins z σ H _ I h) fun xv z1 hz1 hx => thnT hz1 hx fun itv z2 hz2 ⟨j, qs, tr, J, H2, ej, I2, tu, w2, k2, q⟩ => ?_)
  subst ej
  refine wpAny_newObj_type (newEnv_comp ?_) (by show 0 ≤ sizeLine; decide)
  generalize hD : z2.heap.objs.size = D
  have hDn : H2 D = none := I2.hok.fresh (Nat.le_of_eq hD)
  obtain ⟨Wm, ⟨m0, w0⟩, step⟩ := q D hDn
  generalize hz3e : ({ z2 with heap := z2.heap.push { cls := .type "list", data := .seq ([] : List Value).toArray } } : Shared) = z3
  have I3 : Inv X pins σ (upd H2 D (.lst [])) z3 := by
    rw [← hz3e]
    refine I2.laid (t' := z2.toks) (fun b o eo => Heap.get?_push_of_some _ eo) (Nat.le_of_eq hD) ⟨Nat.zero_le _, [], 0, .nil, ?_⟩
    rw [← hD]
    exact Heap.get?_push_size _ rfl
  have hh : z3.heap = z2.heap.push { cls := .type "list", data := .seq ([] : List Value).toArray } := by rw [← hz3e]
  have hz3 : nt ≤ z3.toks := by rw [← hz3e]; exact hz2
  have below : ∀ b ∈ qs, b < z2.heap.objs.size := fun b hb => by
    obtain ⟨o, eo, _⟩ := tu.obj _ _ w2 b hb
    exact Heap.lt_size eo
  have k3 : ∀ b ∈ qs, FpOk X pins (upd H2 D (.lst [])) b ∧ b < z3.heap.objs.size := fun b hb => by
    have hlt := below b hb
    refine ⟨⟨?_, (k2 b hb).2⟩, by rw [hh, Heap.size_push]; exact Nat.lt_succ_of_lt hlt⟩
    rw [upd_ne (by rw [← hD]; exact Nat.ne_of_lt hlt)]
    exact (k2 b hb).1
  have w3 : tr 0 z3.heap := tu.keep _ _ _ w2 fun b _ o eo => by rw [hh]; exact Heap.get?_push_of_some _ eo
  have I4 := block_start I3 ok hN k3
  let cs := cellsFrom (z3.heap.objs.size + 1) scope.names (cloFrom X.env.cells scope.names [])
  have pg := hg z3 (upd H2 D (.lst [])) z3.heap.objs.size cs qs
  have pt := ht z3 (upd H2 D (.lst [])) z3.heap.objs.size cs qs
  have pe := he z3 (upd H2 D (.lst [])) z3.heap.objs.size cs qs
  show codeAny _ _ (.compStart (.ListComp elt [⟨tg, iter, ifs, 0⟩] scope pos) 0 (.ref j) (.ref D) (compEnvC scope cs z3.heap.objs.size X.env)) (compPost (model X.prog X.w) X.A X.xe use Qf (.ref D) z3.heap.objs.size) { z3 with heap := pushCells (z3.heap.push { cls := .type "dict", data := .dict #[] }) scope.names }
  have nq : ∀ b ∈ qs, (upd H2 D (.lst [])) b = none := fun b hb => (k3 b hb).1.1
  generalize hce : compEnvC scope cs z3.heap.objs.size X.env = ce at I4 pg pt pe ⊢
  have cL : ce.locals = z3.heap.objs.size := by subst hce; rfl
  generalize hH3 : upd H2 D (.lst []) = H3 at I3 I4 pg pt pe w0 nq k3
  generalize hz4e : ({ z3 with heap := pushCells (z3.heap.push { cls := .type "dict", data := .dict #[] }) scope.names } : Shared) = z4 at I4 ⊢
  have hz4 : nt ≤ z4.toks := by rw [← hz4e]; exact hz3
  have w4 : tr 0 z4.heap := tu.keep _ _ _ w3 fun b _ o eo => by rw [← hz4e]; exact pushCells_keeps _ _ _ _ (Heap.get?_push_of_some _ eo)
  have okf : ∀ {τ : L2.St} {G : Hp} {z' : Shared}, Inv (X.blk z3 H3 scope ce qs) [] τ G z' → (∀ b ∈ qs, G b = none) → ∀ b ∈ qs, FpOk (X.blk z3 H3 scope ce qs) [] G b := fun {τ G z'} J' hn b hb =>
    ⟨hn b hb, (J'.ok.exf b hb).1, J'.ok.exfs b hb, .inl hb, fun x c ec => (J'.ok.exf b hb).2 x c ec, fun p hp => absurd (show p ∈ ([] : List (Addr × Obj)) ++ [] from hp) (by simp)⟩
  have loop : codeAny (model X.prog X.w) X.A (.compLoop (.ListComp elt [⟨tg, iter, ifs, 0⟩] scope pos) 0 (.ref j) (.ref D) ce) (compPost (model X.prog X.w) X.A X.xe use Qf (.ref D) z3.heap.objs.size) z4 := by
    refine compLoop_any (fun n z' => nt ≤ z'.toks ∧ ∃ i G, Inv (X.blk z3 H3 scope ce qs) [] (wipe σ (own.map (·.2))) G z' ∧ tr i z'.heap ∧ (∀ b ∈ qs, G b = none) ∧ Wm i n G) ?_ m0 ⟨hz4, 0, H3, I4, w4, nq, w0⟩
    rintro n z5 ⟨hz5, i, H5, I5, t5, n5, w5⟩
    rcases step i n H5 w5 with ⟨fin, qq⟩ | ⟨go, Nx, hNx, nxt⟩
    · refine thnF (tu.done (X.blk z3 H3 scope ce qs) rfl rfl rfl hc i [] z5 _ H5 (fun _ _ => False) I5 (okf I5 n5) t5 fin) fun r z6 ⟨hr, I6⟩ => ?_
      subst hr
      have I7 : Inv X pins σ H5 z6 := I3.call' (ch := qs) I6.os I6.base I6.hok I6.bare fun b hb => ⟨(k3 b hb).1.2.2.2.1, (k3 b hb).1.2.1, (k3 b hb).1.2.2.2.2.1, (k3 b hb).1.2.2.2.2.2⟩
      have nC : H5 z3.heap.objs.size = none := by
        have y : H5 ce.locals = none := I6.free
        rw [cL] at y
        exact y
      obtain ⟨m, hn, _⟩ := I6.loc
      have hn' : z6.heap.Ns ce.locals m := hn
      rw [cL] at hn'
      exact hend D z3.heap.objs.size z6 m H5 I7 qq hn' (I3.fpOk (Nat.le_refl _) nC)
    · refine thnTF hz5 (tu.item (X.blk z3 H3 scope ce qs) rfl rfl rfl hc i [] z5 _ H5 (fun _ _ => False) I5 (okf I5 n5) t5 go) fun r z6 hz6 ⟨u, hr, h6⟩ => ?_
      subst hr
      refine thnTF hz6 h6 fun _ z7 hz7 ⟨x, H7, I7, r7, y7, t7, n7⟩ => ?_
      have I7p := I7.pinned (okf I7 n7) (tu.obj _ _ t7)
      refine thnTF hz7 (pg.run _ z7 _ H7 x u _ I7p r7 (nxt x H7 y7)) fun _ z8 hz8 ⟨σ8, H8, I8, hw8, q8⟩ => ?_
      refine thnTF hz8 (pt.run _ z8 σ8 H8 _ I8 q8) fun b z9 hz9 ⟨H9, I9, q9⟩ => ?_
      have back : ∀ {z' : Shared} {G : Hp}, nt ≤ z'.toks → Inv (X.blk z3 H3 scope ce qs) ([] ++ pinsAt qs z7.heap) σ8 G z' → Nx G → ∃ m, m < n ∧ nt ≤ z'.toks ∧ ∃ i G, Inv (X.blk z3 H3 scope ce qs) [] (wipe σ (own.map (·.2))) G z' ∧ tr i z'.heap ∧ (∀ b ∈ qs, G b = none) ∧ Wm i m G := fun {z' G} hz' J' nx => by
        obtain ⟨m', hm, w'⟩ := hNx G nx
        have pin : ∀ b ∈ qs, ∀ o, z7.heap.get? b = some o → z'.heap.get? b = some o ∧ G b = none := fun b hb o eo =>
          let y := J'.pin (b, o) (List.mem_append_right _ (List.mem_append_right _ (mem_pinsAt hb eo)))
          ⟨y.1, y.2.1⟩
        have hl : (wipe σ (own.map (·.2))).length = σ8.length := by rw [← hw8, wipe_length]
        refine ⟨m', hm, hz', i + 1, G, (J'.unpinned (pins := [])).weak hl (fun l v ev => ?_), tu.keep _ _ _ t7 fun b hb o eo => (pin b hb o eo).1, fun b hb => ?_, w'⟩
        · rw [← hw8] at ev
          exact (wipe_some ev).1
        · obtain ⟨o, eo, _⟩ := tu.obj _ _ t7 b hb
          exact (pin b hb o eo).2
      cases b with
      | false =>
        simp only [Bool.false_eq_true, if_false] at q9 ⊢
        exact back hz9 I9 q9
      | true =>
        simp only [if_true] at q9 ⊢
        refine thnTF hz9 (pe.run _ z9 σ8 H9 _ hz9 I9 q9) fun y z10 hz10 ⟨yv, H10, I10, r10, acc, hD10, hs10, nx⟩ => ?_
        refine thnTF hz10 (app_ok (X := X.blk z3 H3 scope ce qs) (E := fun _ _ => False) (Q := fun _ z' => Inv (X.blk z3 H3 scope ce qs) ([] ++ pinsAt qs z7.heap) σ8 (upd H10 D (.lst (acc ++ [yv]))) z') I10 hD10 hs10 r10 fun z11 I11 => I11) fun _ z11 hz11 I11 => back hz11 I11 nx
  exact codeAny_compStart_list loop (tu.self X.A 0 _ _ _ w4 loop)
theorem pen_lc {elt tg iter : Expr} {ifs : List Expr} {scope : Scope} {own : List (PySem.Str × Nat)} {pos : Pos} {wi : TI} {g : TG} {tt : TT} {te : TE} (hc : X.calm = true) (hN : X.N.Nodup) (hi : PI X tg iter wi) (ok : BlkOk X.N X.env.scope scope own)
    (hg : ∀ (z : Shared) (H : Hp) (C : Addr) (cl : List (PySem.Str × Addr)) (qs : List Addr), PG (X.blk z H scope (compEnvC scope cl C X.env) qs) tg g) (ht : ∀ (z : Shared) (H : Hp) (C : Addr) (cl : List (PySem.Str × Addr)) (qs : List Addr), PTs (X.blk z H scope (compEnvC scope cl C X.env) qs) ifs tt)
    (he : ∀ (z : Shared) (H : Hp) (C : Addr) (cl : List (PySem.Str × Addr)) (qs : List Addr), PEn nt (X.blk z H scope (compEnvC scope cl C X.env) qs) elt te) (hs : ∀ x, foldedSetIterable iter X.env x = pure x := by intro _; rfl) :
    PEn nt X (.ListComp elt [⟨tg, iter, ifs, 0⟩] scope pos) (tLc wi g tt te (own.map (·.2))) := by
  refine ⟨fun pins z σ H Q hz I h => ?_⟩
  rw [eval_ListComp]
  refine lc_coreN hz hc hN I hi ok hg ht he hs h fun D C z' m G J q hn ⟨f0, f1, f2, f3, f4, f5⟩ => ⟨m, hn, fun h'' sb => ?_⟩
  exact ⟨.ref D, G, J.turned (t' := z'.toks) (fun b o hb eo => (sb.2 b hb).trans eo) f0 f1 f3 f4 f5, rfl, q⟩
end
/-! word.replace('-', BLANK) -/
def tRepl (te : TE) : TE := fun σ H Q => te σ H fun v G => ∃ x : PySem.Str, v = .str x ∧ x.length ≤ 100000 ∧ Q (.str (Txt.replace x "-" " ")) G
structure TokB (nt : Nat) (mg : PySem.Str → Option Value) : Prop where
  hasB : ∃ tB : Tok, mg "BLANK" = some (.str " " tB) ∧ tB ≠ 0 ∧ tB < nt
section
variable {nt : Nat} {X : Cx}
theorem pen_replace {o : Expr} {to : TE} {j : Nat} {cp bp apos pos : Pos} (tk : TokB nt X.mg) (hg : Gl X "BLANK") (ho : PEn nt X o to)
    (hst : starEach [.Constant (.str "-") j cp, .Name "BLANK" bp] X.env = [(false, eval (.Constant (.str "-") j cp) X.env), (false, eval (.Name "BLANK" bp) X.env)] := by rfl)
    (hbase : attributeBase o "replace" X.env (eval o X.env) = eval o X.env := by rfl) (hline : (apos.endLine == pos.line) = true := by rfl) :
    PEn nt X (.Call (.Attribute o "replace" apos) [.Constant (.str "-") j cp, .Name "BLANK" bp] [] pos) (tRepl to) := by
  refine ⟨fun pins z σ H Q hz I h => ?_⟩
  obtain ⟨tB, hB, hB0, hBn⟩ := tk.hasB
  refine PySem.Call_method2 hbase hst hline (thnT hz (ho.run pins z σ H _ hz I h) fun v z1 hz1 ⟨y, G, J, r, x, ey, hx, q⟩ => ?_)
  subst ey
  obtain ⟨tx, e⟩ := r
  subst e
  refine ⟨"str", _, F.plainAttrs_str, F.slot_str_replace, F.type_str_replace, typeIs_str _ _ _, (fun _ e => nomatch e), Calls.callWith_builtin rfl (Calls.evalArgs_plain (Calls.spliced_cons (Calls.Constant_str ?_)))⟩
  refine Calls.spliced_cons (ld_glob (J.tok (z1.toks + 1)) hg hB (Calls.spliced_nil ?_))
  have h1 : z1.toks ≠ 0 := Nat.ne_of_gt (Nat.lt_of_lt_of_le (Nat.lt_of_le_of_lt (Nat.zero_le _) hBn) hz1)
  have h2 : z1.toks ≠ tB := Nat.ne_of_gt (Nat.lt_of_lt_of_le hBn hz1)
  refine PySem.SC.replace h1 hB0 h2 (by decide) ?_ fun t' k => ⟨.str (Txt.replace x "-" " "), G, J.tok k, ⟨t', rfl⟩, q⟩
  have : (" " : PySem.Str).length = 1 := by decide
  rw [this]
  omega
end
/-! a def -/
section
variable {nt : Nat} {P : Program} {w : World} {K : PySem.W.Frag} {mg : PySem.Str → Option Value} {base : Heap} {k : Nat} {f : Addr} {fd : FuncData} {N ps : List PySem.Str} {sp : Sp} {x : PySem.Str} {st : Stmt}
theorem fnn_ok (F : FnP K x st f fd) (S : FnScope N ps (defScope st)) (len : ∀ vs H Q E, sp vs H Q E → vs.length = ps.length)
    (hbody : ∀ (cdv : Value) (A : Around) (outer : List PySem.Env) (z : Shared) (H : Hp) (vs : List V) (Q : VK) (E : XK), Room k (A.deeper (envOfC x (defScope st) z.heap.objs.size f cdv)) → sp vs H Q E →
      ∃ t, PSsn nt (cxOf CX0 P w K mg base N x (defScope st) f cdv A outer z H E).nox (defBody st) t ∧ t { nx := fun _ H' => Q .non H', rt := Q } (L2.start N vs) H) : FnOkn nt P w K mg base (k + 1) f fd ps sp := by
  obtain ⟨oc, od, dV, kV, doc, pm, an, cdv, ct, osl, rfl, lk, hcd, _, _⟩ := F.ex
  refine ⟨len, fun A outer z H args us vs Q E hz hr e0 hb r hsp => ?_⟩
  have hl := len _ _ _ _ hsp
  have KX : K.In z.heap := e0.mod.kin.keeps fun b o eo => (e0.bs b o eo).1
  have lim : z.heap.NoLimit := e0.mod.nolimit.keeps fun b o eo => (e0.bs b o eo).1
  have hkind : ∀ y ∈ ps.zip us, (defScope st).names.lookup y.1 = some .local ∨ ((defScope st).names.lookup y.1 = some .cell ∧ ((cellsFrom (z.heap.objs.size + 1) (defScope st).names []).lookup y.1).isSome = true) := fun ⟨n, v⟩ hy =>
    (S.par n (List.of_mem_zip hy).1).imp id fun q => ⟨q, PySem.W.cellsFrom_some _ _ _ (.inl q)⟩
  refine codeAny_with_toks hz (codeAny_call_function hr.depth (KX _ _ lk) rfl S.co S.gen rfl (PySem.W.codeRec_of KX hcd) (hb _ _ _ _ ?_))
  refine wpAny_with_toks hz (wpAny_newFunctionEnv_cells S.kind hkind fun env hev z1 y => ?_)
  subst hev
  intro hz1
  refine ⟨lim.keeps y.toInCall.keep, codeAny_func ?_⟩
  obtain ⟨t, ht, hq⟩ := hbody cdv A outer z H vs Q E (hr.deeper _) hsp
  have I : Inv (cxOf CX0 P w K mg base N x (defScope st) f cdv A outer z H E) [] (L2.start N vs) H z1 := inv_start S hr.hd e0 hl r y
  refine wpAny_mono (ht.run [] z1 (L2.start N vs) H _ hz1 (I.wish _) hq) (fun fl z' hs => ?_) fun e z' hs => hs.elim
  have hs := hs.unwish
  have fin : ∀ {σ' : L2.St} {H' : Hp} {v : V} {u : Value}, Inv (cxOf CX0 P w K mg base N x (defScope st) f cdv A outer z H E) [] σ' H' z' → RelV v u → Q v H' → CE outer P w H z Q u z' :=
    fun {σ' H' v u} J rv q => ⟨v, H', J.os, J.bare, J.base, J.hok, rv, q⟩
  intro _
  cases fl with
  | ret u =>
    obtain ⟨v, σ', H', J, rv, q⟩ := hs
    exact fin J rv q
  | next =>
    obtain ⟨σ', H', J, q⟩ := hs
    exact fin (v := V.non) (u := Value.none) J rfl q
  | brk => obtain ⟨_, _, _, q⟩ := hs; exact q.elim
  | cont => obtain ⟨_, _, _, q⟩ := hs; exact q.elim
end
end CW
end T1x
section C14x
set_option Elab.async false
set_option linter.all false
set_option maxRecDepth 100000
namespace CW
open PySem PySem.Spec PyProof.Rows L2 StX RZ
section
variable {P : Program} {w : World} {K : PySem.W.Frag} {mg : PySem.Str → Option Value} {base : Heap} {f : Addr} {fd : FuncData}
variable {B W : Wd} {k k1 k2 : Nat} {ρ : List Sl} {te ta tb : TE} {i : Nat} {b : Addr}
theorem ev_repl {x : PySem.Str} (h : EvD K W te ρ (.str x)) (hl : x.length ≤ 100000) : EvD K W (tRepl te) ρ (.str (Txt.replace x CK.dsT CK.spT)) := fun σ H n e o Q q =>
  h σ H n e o _ fun v H1 d s1 dx ex => by
    subst ex
    cases dx
    exact ⟨x, rfl, hl, q _ _ _ s1 (.str _) rfl⟩
theorem words_lenB {α : Type} {f : α → PySem.Str} {m : Nat} {xs : List α} (h : ∀ x ∈ xs, (f x).length ≤ m) : (Txt.join CK.spT (xs.map f)).length ≤ (m + 1) * xs.length := by
  rw [TL.len_tl, CK.tl_joinT, CK.tl_sp]
  have := joinL_len (m := m) (S := [32]) rfl (ps := (xs.map f).map TL.tl) fun p hp => by
    obtain ⟨w, hw, rfl⟩ := List.mem_map.mp hp
    obtain ⟨x, hx, rfl⟩ := List.mem_map.mp hw
    rw [← TL.len_tl]
    exact h x hx
  simpa using this
abbrev sp_block_in (K : PySem.W.Frag) : Sp := SpD K (α := Int × Int) (fun a => [.str (CK.blkS a)]) (fun a => BNo a ∧ 1 ≤ a.1 ∧ a.1 ≤ a.2) (fun a d => d = bD a)
theorem ok_block_in {nt : Nat} (F : FnP K "block_in" s_block_in f fd) (T : Tx mg) (tk : TokB nt mg) (O_numbers_in : Ok P w K mg base "numbers_in" 2 ["string", "least"] (sp_numbers_in K)) : FnOkn nt P w K mg base 3 f fd ["word"] (sp_block_in K) := by
  have nd := sc_block_in.nd
  refine fnn_ok F sc_block_in (fun vs H Q E h => spd_len (fun _ => rfl) h) (fun cdv A outer s H vs Q E hr h => ⟨_, (pssn_cons (psn_set (i := 1) nd rfl (Or.inl rfl) (pen_ifExp (PTn.of (pt_cmpR op_notInSignK (pe_glob rfl T.gBLANK.1 T.gBLANK.2) (pv 0) rfl)) (pen_fA O_numbers_in hr rfl (pan_cons (pen_replace tk rfl (PEn.of (pv 0))) (PAn.of (pa_cons pe_int pa_nil)))) (PEn.of (pe_tup pa_nil)))) (PSsn.of (pss_cons (ps_if (pt_cmpR (op_eqK (K := K) rfl (hu64 hr)) (pe_callB (call_lenK (K := K) rfl) rfl T.len (by decide +kernel) (pa_cons (pv 1) pa_nil)) pe_int (nomark _)) (pss_one (ps_ret (pe_tup (pa_cons (pe_ix (ix_seqK (K := K) rfl) (pv 1) pe_int fun _ _ => rfl) (pa_cons (pe_ix (ix_seqK (K := K) rfl) (pv 1) pe_int fun _ _ => rfl) pa_nil))))) pss_nil) (pss_cons (ps_if (PW.pt (pw_and (pt_cmpR (op_eqK (K := K) rfl (hu64 hr)) (pe_callB (call_lenK (K := K) rfl) rfl T.len (by decide +kernel) (pa_cons (pv 1) pa_nil)) pe_int (nomark _)) (pw_and1 (pt_cmpR op_lt (pe_ix (ix_seqK (K := K) rfl) (pv 1) pe_int fun _ _ => rfl) (pe_ix (ix_seqK (K := K) rfl) (pv 1) pe_int fun _ _ => rfl) (nomark _))))) (pss_one (ps_ret (pv 1))) pss_nil) (pss_one ps_never))))), run_pure (Ns := N_block_in) h fun a B hp => ?_⟩)
  obtain ⟨h1, h2, h3⟩ := hp
  have hl := CK.blk_len h1
  have hf : (!decide (32 ∈ (CK.blkS a).cps.toList)) = true := by
    rw [decide_eq_false (CK.blk_free h1.1.1 h1.2.1 (c := 32) (by omega))]; rfl
  have hrep := CK.blk_replace h1.1.1 h1.2.1
  have hn : ∀ ns : List Int, ns = (if a.1 = a.2 then [a.1] else [a.1, a.2]) → CK.NN ns ∧ ns ≠ [] ∧ ns.length ≤ 10000 ∧ ∀ n ∈ ns, 1 ≤ n := fun ns e => by
    subst e
    split
    · exact ⟨fun n hn => by rw [List.mem_singleton.mp hn]; exact h1.1, by simp, by simp, fun n hn => by rw [List.mem_singleton.mp hn]; exact h2⟩
    · refine ⟨fun n hn => ?_, by simp, by simp, fun n hn => ?_⟩
      · rcases List.mem_cons.mp hn with e | e
        · rw [e]; exact h1.1
        · rw [List.mem_singleton.mp e]; exact h1.2
      · rcases List.mem_cons.mp hn with e | e
        · rw [e]; exact h2
        · rw [List.mem_singleton.mp e]; omega
  refine sb_seq (sb_asgD (d := tI (if a.1 = a.2 then [a.1] else [a.1, a.2])) (ev_if (c := true) (et_test (evd_to (ev_notInSign (c := 32) (w := CK.spT) rfl (ev_str CK.spT) (ev_var (d := .str (CK.blkS a)) rfl)) (by rw [hf])))
    (fun _ => ev_call (α := List Int × Int) (if a.1 = a.2 then [a.1] else [a.1, a.2], 1) (ea_cons (evd_to (ev_repl (ev_var (d := .str (CK.blkS a)) rfl) (by omega)) (by rw [hrep])) (ea_cons (ev_int 1) ea_nil)) (hn _ rfl)) fun h => by cases h) ?_)
  by_cases he : a.1 = a.2
  · simp only [if_pos he]
    refine sb_seq (sb_if (b := true) (et_test (evd_to (ev_eqI (ev_lenT (ds := [.int a.1]) (ev_var rfl)) (ev_int 1)) (by simp))) (fun _ => ?_) fun h => by cases h)
    refine sb_retD (ev_tup (ea_cons (ev_ixT (ev_var (d := tI [a.1]) rfl) (ev_int 0) (atI_zero (x := PyData.int a.1) rfl)) (ea_cons (ev_ixT (ev_var (d := tI [a.1]) rfl) (ev_int 0) (atI_zero (x := PyData.int a.1) rfl)) ea_nil)) (by simp)) ?_
    obtain ⟨x, y⟩ := a
    simp only at he
    subst he
    rfl
  · simp only [if_neg he]
    have hlt : a.1 < a.2 := by omega
    refine sb_seq (sb_if (b := false) (et_test (evd_to (ev_eqI (ev_lenT (ds := [.int a.1, .int a.2]) (ev_var rfl)) (ev_int 1)) (by simp))) (fun h => by cases h) fun _ => sb_next ?_)
    refine sb_seq (sb_if (b := true) (et_to (et_and (x := true) (et_test (evd_to (ev_eqI (ev_lenT (ds := [.int a.1, .int a.2]) (ev_var rfl)) (ev_int 2)) (by simp))) (y := true) fun _ => et_test (evd_to (ev_lt (ev_ixT (ev_var (d := tI [a.1, a.2]) rfl) (ev_int 0) (atI_zero (x := PyData.int a.1) rfl)) (ev_ixT (ev_var (d := tI [a.1, a.2]) rfl) (ev_int 1) (atI_one (x := PyData.int a.2) rfl))) (by simp [hlt]))) rfl) (fun _ => sb_retD (ev_var (d := tI [a.1, a.2]) rfl) rfl) fun h => by cases h)
abbrev sp_filling_in (K : PySem.W.Frag) : Sp := SpD K (α := Int × Option (List (Int × Int))) (fun a => [.int a.1, .str (CK.fillS a.2)]) (fun a => ∀ bs, a.2 = some bs → FOk a.1 bs ∧ CK.BN bs ∧ bs.length ≤ 500) (fun a d => d = fD a.2)
theorem ok_filling_in {nt : Nat} (F : FnP K "filling_in" s_filling_in f fd) (T : Tx mg) (tk : TokB nt mg) (O_is_filling : Ok P w K mg base "is_filling" 3 ["least", "thing"] (sp_is_filling K)) (O_block_in : Okn nt P w K mg base "block_in" 3 ["word"] (sp_block_in K)) : FnOkn nt P w K mg base 4 f fd ["least", "string"] (sp_filling_in K) := by
  have nd := sc_filling_in.nd
  refine fnn_ok F sc_filling_in (fun vs H Q E h => spd_len (fun _ => rfl) h) (fun cdv A outer s H vs Q E hr h => ⟨_, (pssn_cons (PSn.of (ps_if (pt_cmpR (op_eqK (K := K) rfl (hu64 hr)) (pv 1) (pe_glob rfl T.gALONE.1 T.gALONE.2) (nomark _)) (pss_one (ps_ret pe_non)) pss_nil)) (pssn_cons (psn_set (i := 2) nd rfl (Or.inl rfl) (pen_ifExp (PTn.of (pt_cmpR (op_eqK (K := K) rfl (hu64 hr)) (pv 1) (pe_glob rfl T.gNONE.1 T.gNONE.2) (nomark _))) (PEn.of (pe_tup pa_nil)) (pen_callTy (call_tupleK (K := K) rfl) rfl T.tuple (by decide +kernel) (pan_cons (pen_lc (own := [("word", 3)]) rfl nd (pi_anyK (K := K) rfl (pe_splitK (pv 1) (pe_glob rfl T.gBLANK.1 T.gBLANK.2))) (blkOk_by (own := [("word", 3)]) (N := N_filling_in) (sc := defScope s_filling_in) (by decide +kernel)) (fun _ _ _ _ _ => (pg_name (i := 3) nd rfl (Or.inl rfl))) (fun _ _ _ _ _ => pts_nil) (fun _ _ _ _ _ => (pen_f O_block_in hr rfl (PAn.of (pa_cons (pv 3) pa_nil))))) (PAn.of pa_nil))))) (PSsn.of (pss_cons (ps_if (pt_not (pt_val (pe_f O_is_filling hr rfl (pa_cons (pv 0) (pa_cons (pv 2) pa_nil))))) (pss_one ps_never) pss_nil) (pss_one (ps_ret (pv 2))))))), run_pure (Ns := N_filling_in) h fun a B hp => ?_⟩)
  obtain ⟨L, f⟩ := a
  cases f with
  | none => exact sb_seq (sb_if (b := true) (et_test (evd_to (ev_eqS (x := CK.alT) (ev_var rfl) (ev_str CK.alT)) (by simp))) (fun _ => sb_retD ev_non rfl) fun h => by cases h)
  | some bs =>
    obtain ⟨h1, h2, h3⟩ := hp bs rfl
    refine sb_seq (sb_if (b := false) (et_test (evd_to (ev_eqS (x := CK.blksS bs) (ev_var rfl) (ev_str CK.alT)) (by simp [CK.blks_al h2]))) (fun h => by cases h) fun _ => sb_next ?_)
    refine sb_seq (sb_asgD (d := tB bs) (ev_if (c := decide (CK.blksS bs = CK.dsT)) (et_test (ev_eqS (x := CK.blksS bs) (ev_var rfl) (ev_str CK.dsT))) (fun h => ?_) fun h => ?_) ?_)
    · have h' : CK.blksS bs = CK.dsT := by simpa using h
      have hb : bs = [] := by
        refine Classical.byContradiction fun hne => ?_
        unfold CK.blksS at h'
        rw [if_neg hne] at h'
        exact CK.not_ds (CK.blks_head h2 hne) h'
      subst hb
      exact ev_tup ea_nil (by simp)
    · have hb : bs ≠ [] := fun z => by subst z; revert h; decide +kernel
      have e : CK.blksS bs = Txt.join CK.spT (bs.map CK.blkS) := by unfold CK.blksS; rw [if_neg hb]
      have hl := words_lenB (f := CK.blkS) (m := 41) (xs := bs) fun o ho => CK.blk_len (h2 o ho)
      refine ev_tupL (ds := bs.map bD) (EvF.ev (ef_lcA (ds := bs) (enc := fun o => .str (CK.blkS o)) (ei_anyL (evd_to (EvF.ev (ev_split (z := Txt.join CK.spT (bs.map CK.blkS)) (evd_to (ev_var rfl) (by rw [← e]; rfl)) (ev_str CK.spT) (by decide +kernel) (by omega) (CK.blks_split h2 hb))) ?_)) (fun o => bD o) _ (by decide) (fun p _ => eg_name) (fun D acc p hp => ev_call (α := Int × Int) p (ea_cons (ev_var rfl) ea_nil) ⟨h2 p hp, h1.each p hp⟩) (by omega)))
      rw [List.map_map]; rfl
    refine sb_seq (sb_if (b := false) (et_not (x := true) (et_B (ev_call (α := Int × Option (List (Int × Int))) (L, some bs) (ea_cons (ev_var rfl) (ea_cons (ev_var rfl) ea_nil)) fun bs' e => by cases e; exact h1))) (fun h => by cases h) fun _ => sb_next ?_)
    exact sb_retD (ev_var rfl) rfl

end
end CW
end C14x
section C15x
set_option Elab.async false
set_option linter.all false
set_option maxRecDepth 100000
namespace CW
open PySem PySem.Spec PyProof.Rows L2 StX RZ
section
variable {P : Program} {w : World} {K : PySem.W.Frag} {mg : PySem.Str → Option Value} {base : Heap} {f : Addr} {fd : FuncData}
variable {B W : Wd} {k k1 k2 : Nat} {ρ : List Sl} {te ta tb : TE} {i : Nat} {b : Addr}
theorem val_apart {L : Int} : ∀ {bs : List (Int × Int)}, CK.Val L bs → ∀ p ∈ bs.zip (bs.drop 1), p.1.2 + L < p.2.1
  | [], _ => by simp
  | [p], _ => by simp
  | p :: q :: r, h => by
    intro z hz
    have ih := val_apart (CK.Val.tail h)
    simp only [List.drop_succ_cons, List.drop_zero, List.zip_cons_cons, List.mem_cons] at hz
    rcases hz with hz | hz
    · rw [hz]; exact h.2.1
    · refine ih z ?_
      simpa using hz
theorem fill_ok {row : List Int} {L : Int} (hL : 1 ≤ L) (hr : ∀ x ∈ row, 1 ≤ x ∧ x ≤ 200) (hl : row.length ≤ 500) : ∀ bs, CK.fill row L = some bs → FOk L bs ∧ CK.BN bs ∧ bs.length ≤ 500 := fun bs h => by
  have hv := CK.fill_val (by omega) h
  have h1 := fill_len h
  refine ⟨⟨by omega, fun p hp => ⟨(hr _ (CK.fill_ends h p hp).1).1, hv.each p hp⟩, fun p hp => (CK.fill_ge h p (List.mem_of_getElem? hp)).1, val_apart hv⟩, fun p hp => ?_, by omega⟩
  have e1 := hr _ (CK.fill_ends h p hp).1
  have e2 := hr _ (CK.fill_ends h p hp).2
  exact ⟨⟨by omega, by omega⟩, by omega, by omega⟩
abbrev sp__law_rows_right (K : PySem.W.Frag) : Sp := SpD K (α := List Int × Int) (fun a => [tI a.1, .int a.2]) (fun a => 1 ≤ a.2 ∧ a.2 ≤ 12 ∧ a.1.length ≤ 5 ∧ ∀ x ∈ a.1, 1 ≤ x ∧ x ≤ 200) (fun a d => d = .bool true)
theorem ev_rowin {E E2 : XK} {te : TE} {r : List Int} (h : EvD K W te ρ (tI r)) (hl : r.length ≤ 5) (hr : ∀ x ∈ r, 1 ≤ x ∧ x ≤ 200) : EvD K W (tCall (sp_row_in K) [] E (tCons (tCall (sp_row_text K) [] E2 (tCons te tNil)) tNil)) ρ (tI r) := by
  have hn : CK.NN r := fun x hx => by have := hr x hx; omega
  exact ev_call (α := List Int) r (ea_cons (ev_call (α := List Int) r (ea_cons h ea_nil) ⟨hn, by omega⟩) ea_nil) ⟨hn, by omega, fun x hx => (hr x hx).1⟩
theorem ok__law_rows_right {nt : Nat} (F : FnP K "_law_rows_right" s__law_rows_right f fd) (T : Tx mg) (tk : TokB nt mg) (O_records : Ok P w K mg base "records" 1 ["row"] (sp_records K)) (O_filling : Ok P w K mg base "filling" 2 ["row", "least"] (sp_filling K)) (O_row_text : Ok P w K mg base "row_text" 2 ["row"] (sp_row_text K)) (O_filling_text : Ok P w K mg base "filling_text" 2 ["filling"] (sp_filling_text K)) (O_is_row : Ok P w K mg base "is_row" 3 ["thing"] (sp_is_row K)) (O_is_filling : Ok P w K mg base "is_filling" 3 ["least", "thing"] (sp_is_filling K)) (O_alike : Ok P w K mg base "alike" 3 ["row", "other", "least"] (sp_alike K)) (O_row_in : Ok P w K mg base "row_in" 3 ["string"] (sp_row_in K)) (O_fewest : Ok P w K mg base "fewest" 3 ["row", "least"] (sp_fewest K)) (O__law_same : Ok P w K mg base "_law_same" 3 ["_law_got", "_law_due"] (sp__law_same K)) (O_filling_in : Okn nt P w K mg base "filling_in" 4 ["least", "string"] (sp_filling_in K)) : FnOkn nt P w K mg base 5 f fd ["_law_row_so", "_law_least_so"] (sp__law_rows_right K) := by
  have nd := sc__law_rows_right.nd
  refine fnn_ok F sc__law_rows_right (fun vs H Q E h => spd_len (fun _ => rfl) h) (fun cdv A outer s H vs Q E hr h => ⟨_, (pssn_cons (PSn.of (ps_par (i := 2) (j := 3) rfl nd rfl rfl (by decide) rfl rfl (pa_cons (pe_f O_row_in (hr.mono (by decide)) rfl (pa_cons (pe_f O_row_text (hr.mono (by decide)) rfl (pa_cons (pv 0) pa_nil)) pa_nil)) (pa_cons (pe_f O_filling (hr.mono (by decide)) rfl (pa_cons (pv 0) (pa_cons (pv 1) pa_nil))) pa_nil)) rfl)) (pssn_cons (PSn.of (ps_if (PW.pt (pw_or (pt_cmpR (op_neK (K := K) rfl (hu64 hr)) (pv 2) (pv 0) (nomark _)) (pw_or1 (pt_cmpR (op_neK (K := K) rfl (hu64 hr)) (pe_f O_row_in (hr.mono (by decide)) rfl (pa_cons (pe_f O_row_text (hr.mono (by decide)) rfl (pa_cons (pe_f O_records (hr.mono (by decide)) rfl (pa_cons (pv 0) pa_nil)) pa_nil)) pa_nil)) (pe_f O_records (hr.mono (by decide)) rfl (pa_cons (pv 0) pa_nil)) (nomark _))))) (pss_one (ps_ret pe_bl)) pss_nil)) (pssn_cons (psn_set (i := 4) nd rfl (Or.inl rfl) (pen_f O_filling_in hr rfl (PAn.of (pa_cons (pv 1) (pa_cons (pe_f O_filling_text (hr.mono (by decide)) rfl (pa_cons (pv 3) pa_nil)) pa_nil))))) (PSsn.of (pss_cons (ps_if (PW.pt (pw_or (pt_not (pt_val (pe_f O__law_same (hr.mono (by decide)) rfl (pa_cons (pv 4) (pa_cons (pv 3) pa_nil))))) (pw_or1 (pt_cmpR op_notBl (pe_f O_is_filling (hr.mono (by decide)) rfl (pa_cons (pv 1) (pa_cons (pv 4) pa_nil))) pe_bl (nomark _))))) (pss_one (ps_ret pe_bl)) pss_nil) (pss_cons (ps_set (i := 5) nd rfl (Or.inl rfl) (pe_f O_row_in (hr.mono (by decide)) rfl (pa_cons (pe_f O_row_text (hr.mono (by decide)) rfl (pa_cons (pe_f O_fewest (hr.mono (by decide)) rfl (pa_cons (pv 0) (pa_cons (pv 1) pa_nil))) pa_nil)) pa_nil))) (pss_cons (ps_if (PW.pt (pw_or (pt_cmpR op_notBl (pe_f O_is_row (hr.mono (by decide)) rfl (pa_cons (pv 5) pa_nil)) pe_bl (nomark _)) (pw_or (pt_cmpR op_gt (pe_callB (call_lenK (K := K) rfl) rfl T.len (by decide +kernel) (pa_cons (pv 5) pa_nil)) (pe_callB (call_lenK (K := K) rfl) rfl T.len (by decide +kernel) (pa_cons (pv 0) pa_nil)) (nomark _)) (pw_or1 (pt_not (pt_val (pe_f O_alike (hr.mono (by decide)) rfl (pa_cons (pv 5) (pa_cons (pv 0) (pa_cons (pv 1) pa_nil)))))))))) (pss_one (ps_ret pe_bl)) pss_nil) (pss_one (ps_ret (pe_cmpR (op_eqK (K := K) rfl (hu64 hr)) (pe_f O_filling_text (hr.mono (by decide)) rfl (pa_cons (pe_f O_filling (hr.mono (by decide)) rfl (pa_cons (pv 5) (pa_cons (pv 1) pa_nil))) pa_nil)) (pe_f O_filling_text (hr.mono (by decide)) rfl (pa_cons (pv 3) pa_nil)) (nomark _))))))))))), run_pure (Ns := N__law_rows_right) h fun a B hp => ?_⟩)
  obtain ⟨row, L⟩ := a
  obtain ⟨h1, h2, h3, h4⟩ := hp
  simp only at h1 h2 h3 h4
  have hrl := CK.recs_length row
  have hr4 : ∀ x ∈ CK.recs row, 1 ≤ x ∧ x ≤ 200 := fun x hx => h4 x (CK.recs_mem hx)
  have fok := fill_ok h1 h4 (by omega)
  have hfl := CK.few_length (L := L) (by omega) row
  have hf4 : ∀ x ∈ CK.few row L, 1 ≤ x ∧ x ≤ 200 := CK.few_bound (by omega) h4
  have hff := CK.few_fill (L := L) (by omega) row
  refine sb_seq (sb_par (k1 := 0) (k2 := 0) (es_k (ek_ev (P := fun d => d = tI row) (ev_rowin (ev_var (d := tI row) rfl) h3 h4))) (fun W1 s1 h => es_k (ek_ev (P := fun d => d = fD (CK.fill row L)) (ev_call (α := List Int × Int) (row, L) (ea_cons (ev_var rfl) (ea_cons (ev_var rfl) ea_nil)) (show row.length ≤ 10000 by omega)))) ?_)
  rintro W1 s1 W2 s2 ⟨e1, d, e3, e4⟩ ⟨e2, d2, e5, e6⟩
  subst e3 e4 e5 e6
  rw [e1] at e2
  subst e2
  have hrec : ∀ {W : Wd} {τ : List Sl} {i : Nat} {E : XK} (h : τ[i]? = some (.dat (tI row))), EvD K W (tCall (sp_records K) [] E (tCons (tVar i) tNil)) τ (tI (CK.recs row)) := fun h => ev_call (α := List Int) row (ea_cons (ev_var h) ea_nil) (show row.length ≤ 10000 by omega)
  refine sb_seq (sb_if (b := false) (et_or (x := false) (et_test (evd_to (ev_neD (c := true) (ev_var (d := tI row) rfl) (ev_var (d := tI row) rfl) (shaped_tI _) (shaped_tI _) (by rw [eqv_tI]; simp)) rfl)) (y := false) fun _ => et_test (evd_to (ev_neD (c := true) (ev_rowin (r := CK.recs row) (hrec rfl) (by omega) hr4) (hrec rfl) (shaped_tI _) (shaped_tI _) (by rw [eqv_tI]; simp)) rfl)) (fun h => by cases h) fun _ => sb_next ?_)
  refine sb_seq (sb_asgD (d := fD (CK.fill row L)) (ev_call (α := Int × Option (List (Int × Int))) (L, CK.fill row L) (ea_cons (ev_var rfl) (ea_cons (ev_call (α := Option (List (Int × Int))) (CK.fill row L) (ea_cons (ev_var rfl) ea_nil) fun bs h => ⟨(fok bs h).2.1, by have := (fok bs h).2.2; omega⟩) ea_nil)) fok) ?_)
  refine sb_seq (sb_if (b := false) (et_or (x := false) (et_not (x := true) (et_B (ev_call (α := Option (List (Int × Int))) (CK.fill row L) (ea_cons (ev_var rfl) (ea_cons (ev_var rfl) ea_nil)) fun bs h => by have := (fok bs h).2.2; omega))) (y := false) fun _ => et_test (ev_notB (x := true) (y := true) (ev_call (α := Int × Option (List (Int × Int))) (L, CK.fill row L) (ea_cons (ev_var rfl) (ea_cons (ev_var rfl) ea_nil)) fun bs h => (fok bs h).1) (ev_bl true))) (fun h => by cases h) fun _ => sb_next ?_)
  refine sb_seq (sb_asgD (d := tI (CK.few row L)) (ev_rowin (r := CK.few row L) (ev_call (α := List Int × Int) (row, L) (ea_cons (ev_var rfl) (ea_cons (ev_var rfl) ea_nil)) ⟨by simp only; omega, h1, fun x hx => by have := h4 x hx; omega⟩) (by omega) hf4) ?_)
  refine sb_seq (sb_if (b := false) (et_or (x := false) (et_test (ev_notB (x := true) (y := true) (evd_to (ev_call (α := List Int) (CK.few row L) (ea_cons (ev_var rfl) ea_nil) (show (CK.few row L).length ≤ 10000 by omega)) ?_) (ev_bl true))) (y := false) fun _ => et_or (x := false) (et_test (evd_to (ev_gt (ev_lenT (ds := (CK.few row L).map .int) (ev_var rfl)) (ev_lenT (ds := row.map .int) (ev_var rfl))) ?_)) (y := false) fun _ => et_not (x := true) (et_B (evd_to (ev_call (α := List Int × List Int × Int) (CK.few row L, row, L) (ea_cons (ev_var rfl) (ea_cons (ev_var rfl) (ea_cons (ev_var rfl) ea_nil))) ⟨by simp only; omega, by simp only; omega⟩) ?_))) (fun h => by cases h) fun _ => sb_next ?_)
  · have : ((CK.few row L).all fun x => decide (1 ≤ x)) = true := List.all_eq_true.mpr fun x hx => decide_eq_true (hf4 x hx).1
    rw [this]
  · simp; omega
  · simp [hff]
  refine sb_retD (ev_eqS (x := CK.fillS (CK.fill row L)) (y := CK.fillS (CK.fill row L)) (ev_call (α := Option (List (Int × Int))) (CK.fill row L) (ea_cons (evd_to (ev_call (α := List Int × Int) (CK.few row L, L) (ea_cons (ev_var rfl) (ea_cons (ev_var rfl) ea_nil)) (show (CK.few row L).length ≤ 10000 by omega)) (by rw [hff])) ea_nil) fun bs h => ⟨(fok bs h).2.1, by have := (fok bs h).2.2; omega⟩) (ev_call (α := Option (List (Int × Int))) (CK.fill row L) (ea_cons (ev_var rfl) ea_nil) fun bs h => ⟨(fok bs h).2.1, by have := (fok bs h).2.2; omega⟩)) (by simp)

end
end CW
end C15x
section W15x
set_option Elab.async false
set_option linter.all false
set_option maxRecDepth 100000
/-! A try that catches; sorted keys; walks over a drawn tuple. -/
namespace CW
open PySem PySem.Spec PyProof.Rows L2 StX RZ
/-- a def that may raise, and how it is reached -/
def OkX (P : Program) (w : World) (K : PySem.W.Frag) (mg : PySem.Str → Option Value) (base : Heap) (x : PySem.Str) (k : Nat) (ps : List PySem.Str) (sp : Sp) : Prop :=
  ∃ f fd, FnOk P w K mg base (L2.CX P w) k f fd ps sp ∧ mg x = some (.ref f) ∧ PySem.W.keepIn K (.ref f) = true ∧ Binds K fd ps []
theorem pe_fS {X : Cx} {x : PySem.Str} {p pos : PySem.Pos} {e : Expr} {es : List Expr} {t : TA} {k : Nat} {ps : List PySem.Str} {sp : Sp} {Es : L2.St → XK} (o : OkX X.prog X.w X.K X.mg X.base x k ps sp) (hr : Room k X.A) (hg : Gl X x) (hx : ∀ σ, PassesAt (L2.CX X.prog X.w) X σ (Es σ)) (ha : PA X (e :: es) t) (hdb : (x == ("__debug__" : PySem.Str)) = false := by decide) (he : starEach (e :: es) X.env = (false, eval e X.env) :: starEach es X.env := by rfl) (hpl : (backTo pos (starEach es X.env)).any (·.1) = false := by rfl) :
    PE X (.Call (.Name x p) (e :: es) [] pos) (tCallS sp Es t) :=
  let ⟨_, _, F, hm, hk, hb⟩ := o
  pe_callS F hr hg hm hk hb hx ha hdb he hpl
theorem no_takes {X : Cx} : Takes X (fun _ _ _ _ => False) := fun u s' h => by
  obtain ⟨a, B, sI, pins, σ, H, cls, d, _, _, _, _, _, _, _, _, w⟩ := h
  exact w.elim
abbrev tsAs (i j : Nat) : Addr → Value → Option Addr → TS := fun _ _ _ => tAsg (tVar i) (gName j)
abbrev tTryC (K : PySem.W.Frag) (C : Addr) (i j l : Nat) (sp : Sp) (ta : TA) : TS := fun D σ H => tAsg (tCallS sp (WE (wAs K (.ref C) i (tsAs i j) (fun _ _ _ _ => False) D)) ta) (gName l) D σ H
section
variable {K : PySem.W.Frag} {B W : Wd} {k n : Nat} {ρ : List Sl} {te ta tb : TE} {N : Wd → List Sl → Prop} {R : Hp → V → Hp → Prop} {p : Addr} {i j l : Nat}
theorem sb_try {C : Addr} {α : Type} {As : α → List PyData} {pre : α → Prop} {X : α → Option PyData} {tr : TA} (a : α) (h : EvA K W tr ρ (As a)) (hp : pre a) (te : PySem.W.exmOne K (.ref C) (.ref C) = some true) (hl : i < ρ.length)
    (h1 : ∀ d, X a = some d → N W (ρ.set l (.dat d))) (h2 : X a = none → ∀ q, N W (((ρ.set i (.at q)).set j (.at q)).set i .no)) : Sb K B W 0 (tTryC K C i j l (SpX K C As pre X) tr) ρ N R := fun x D σ H n F e f o kn kr =>
  h σ H _ e o _ fun vs H1 s1 dv => by
    have o1 := Wd.ok.to o s1
    have e1 := e.mono (fr_to (W := W) s1)
    have f1 := Same.trans f (fr_to (W := W) s1)
    refine ⟨W, n, a, dv, o1.low (by omega), hp, fun v H2 d s2 iv hX => ?_, fun hX H2 s2 => ?_⟩
    · exact kn W _ _ H2 x (h1 d hX) ((e1.mono (fr_to s2)).set (s := .dat d) iv) (Same.trans f1 (fr_to s2)) ((o1.to s2).low (by omega))
    · refine ⟨true, te, fun _ q hq => ?_, fun z => by cases z⟩
      have e2 := (e1.mono (fr_to (W := W) s2)).set (i := i) (v := .ref q) (s := .at q) rfl
      refine ⟨.ref q, List.getElem?_set_self (by rw [e.len]; exact hl), ?_⟩
      exact kn W _ _ H2 x (h2 hX q) ((e2.set (i := j) (v := .ref q) (s := .at q) rfl).wipe [i]) (Same.trans f1 (fr_to s2)) ((o1.to s2).low (by omega))
theorem ev_notN_at (hi : ρ[i]? = some (.at p)) : EvD K W (tOp rNotN (tVar i) (tC .non)) ρ (.bool true) := fun σ H n e o Q q => by
  obtain ⟨v, h1, hv⟩ := e.get i _ hi (fun z => by cases z)
  cases hv
  exact ⟨_, h1, rfl, by
    have : (!decide (V.ref p = V.non)) = true := by simp
    rw [this]
    exact q _ _ _ (Same.refl H) (.bl true) rfl⟩
def rSDI : List V → Hp → VK → Prop := fun xs H Q => ∃ (a : Addr) (kvs : List (Key × V)) (ks : List Int), xs = [.ref a] ∧ Rd H a (.dK kvs) ∧ kvs.map (·.1) = ks.map Sum.inl ∧ ks.length < 64 ∧
    ∀ (ys : List Int) (p : Addr), ys.Perm ks → ys.Pairwise (· ≤ ·) → H p = none → Q (.ref p) (upd H p (.lst (ys.map V.int)))
theorem cr_sortedDI {X : Cx} (hc : X.calm = true) : CallR X (.builtin "sorted") rSDI := call_sortedDI hc
theorem ef_sortedDI {xs : DI} {ms : List Int} (hi : ρ[i]? = some (.at p)) (r : Rdr K W p xs) (hl : xs.length < 64) (hp : ms.Perm (xs.map (·.1))) (hs : ms.Pairwise (· ≤ ·)) : EvF K W (tCB rSDI (tCons (tVar i) tNil)) ρ (ms.map .int) := fun σ H n e o Q q => by
  obtain ⟨v, h1, hv⟩ := e.get i _ hi (fun z => by cases z)
  cases hv
  obtain ⟨ws, g1, g2⟩ := r.ok o
  refine ⟨_, h1, p, ws, xs.map (·.1), rfl, g1, ?_, by rw [List.length_map]; exact hl, fun ys a hy1 hy2 ha => ?_⟩
  · rw [g2.1, List.map_map]; rfl
  · have e1 : ys = ms := List.Perm.eq_of_pairwise (fun x y _ _ h1 h2 => Int.le_antisymm h1 h2) hy2 hs (hy1.trans hp.symm)
    subst e1
    exact q _ _ _ ha (Same.new ha) upd_same (isAll_ints _)
theorem eik_anyT {P : PyData → Prop} {Pd : List PyData → Prop} (h : EvK K W k te ρ (isD P)) (hP : ∀ d, P d → ∃ ds, d = .tuple ds ∧ Pd ds) : EvIK K W k (iAny K te) ρ Pd := fun σ H n e o R q =>
  .inr (.inl (h σ H n e o _ fun v H1 s f1 o1 hv ⟨d, es, hd⟩ => by
    subst es
    obtain ⟨ds, rfl, hds⟩ := hP d hd
    cases hv with
    | tup h1 h2 => exact ⟨_, rfl, ⟨_, sqT_mono fr_le h1⟩, q _ _ _ f1 o1 hds (wk_tup h1 h2)⟩))
end
/-! what is offered -/
structure SomeOk (n : Nat) (xs : DI) : Prop where
  nd : (xs.map (·.1)).Nodup
  len : xs.length ≤ n
  each : ∀ e ∈ xs, (1 ≤ e.1 ∧ e.1 ≤ 300) ∧ ∃ c : Int, e.2 = .int c ∧ 0 ≤ c ∧ c ≤ 29
theorem SomeOk.put {n : Nat} {xs : DI} {y : Int} {d : PyData} (h : SomeOk n xs) (hy : 1 ≤ y ∧ y ≤ 300) (hd : Bt 0 29 d) : SomeOk (n + 1) (putI xs y d) := by
  obtain ⟨c, e1, c1, c2⟩ := hd
  unfold putI
  split
  · have ek : (xs.map fun e => if e.1 = y then (e.1, d) else e).map (·.1) = xs.map (·.1) := by
      rw [List.map_map]
      refine List.map_congr_left fun e _ => ?_
      simp only [Function.comp]
      split <;> rfl
    refine ⟨by rw [ek]; exact h.nd, by rw [List.length_map]; have := h.len; omega, fun e he => ?_⟩
    obtain ⟨e', he', rfl⟩ := List.mem_map.mp he
    have h1 := h.each e' he'
    split
    · exact ⟨h1.1, c, e1, c1, c2⟩
    · exact h1
  · rename_i hn
    refine ⟨?_, by rw [List.length_append]; have := h.len; simp; omega, fun e he => ?_⟩
    · rw [List.map_append]
      refine List.nodup_append.mpr ⟨h.nd, by simp, fun a ha b hb => ?_⟩
      simp only [List.map_cons, List.map_nil, List.mem_singleton] at hb
      obtain ⟨e, he, rfl⟩ := List.mem_map.mp ha
      intro z
      exact hn (List.any_eq_true.mpr ⟨e, he, decide_eq_true (z.trans hb)⟩)
    · rcases List.mem_append.mp he with he | he
      · exact h.each e he
      · rw [List.mem_singleton.mp he]
        exact ⟨hy, c, e1, c1, c2⟩
theorem getI_at {n : Nat} {xs : DI} (h : SomeOk n xs) {k : Int} (hk : k ∈ xs.map (·.1)) : ∃ c : Int, getI xs k = some (.int c) ∧ 0 ≤ c ∧ c ≤ 29 := by
  unfold getI
  cases q : xs.find? fun e => decide (e.1 = k) with
  | none =>
    obtain ⟨e, he, rfl⟩ := List.mem_map.mp hk
    have := List.find?_eq_none.mp q e he
    simp at this
  | some e =>
    obtain ⟨_, c, h1, h2⟩ := h.each e (List.mem_of_find?_eq_some q)
    exact ⟨c, by rw [Option.map_some, h1], h2⟩
def valI (xs : DI) (k : Int) : Int := match getI xs k with
  | some (.int c) => c
  | _ => 0
theorem valI_at {n : Nat} {xs : DI} (h : SomeOk n xs) {k : Int} (hk : k ∈ xs.map (·.1)) : getI xs k = some (.int (valI xs k)) ∧ 0 ≤ valI xs k ∧ valI xs k ≤ 29 := by
  obtain ⟨c, h1, h2⟩ := getI_at h hk
  have : valI xs k = c := by unfold valI; rw [h1]
  rw [this]
  exact ⟨h1, h2⟩
def insI (x : Int) : List Int → List Int
  | [] => [x]
  | y :: ys => if x ≤ y then x :: y :: ys else y :: insI x ys
def sortI : List Int → List Int
  | [] => []
  | x :: xs => insI x (sortI xs)
theorem insI_perm (x : Int) : ∀ ys, (insI x ys).Perm (x :: ys)
  | [] => .refl _
  | y :: ys => by
    unfold insI
    split
    · exact .refl _
    · exact ((insI_perm x ys).cons y).trans (.swap x y ys)
theorem sortI_perm : ∀ xs, (sortI xs).Perm xs
  | [] => .refl _
  | x :: xs => (insI_perm x (sortI xs)).trans ((sortI_perm xs).cons x)
theorem insI_le (x : Int) : ∀ ys, ys.Pairwise (· ≤ ·) → (insI x ys).Pairwise (· ≤ ·)
  | [], _ => by simp [insI]
  | y :: ys, h => by
    unfold insI
    obtain ⟨h1, h2⟩ := List.pairwise_cons.mp h
    split
    · rename_i hx
      refine List.pairwise_cons.mpr ⟨fun z hz => ?_, h⟩
      rcases List.mem_cons.mp hz with z1 | z1
      · rw [z1]; exact hx
      · have := h1 z z1
        omega
    · rename_i hx
      refine List.pairwise_cons.mpr ⟨fun z hz => ?_, insI_le x ys h2⟩
      rcases List.mem_cons.mp ((insI_perm x ys).mem_iff.mp hz) with z1 | z1
      · rw [z1]; omega
      · exact h1 z z1
theorem sortI_le : ∀ xs, (sortI xs).Pairwise (· ≤ ·)
  | [] => .nil
  | x :: xs => insI_le x _ (sortI_le xs)
theorem sortI_asc {xs : List Int} (h : xs.Nodup) : CK.Asc (sortI xs) := by
  have h1 : (sortI xs).Nodup := (sortI_perm xs).nodup_iff.mpr h
  exact (List.Pairwise.and (sortI_le xs) h1).imp fun ⟨a, b⟩ => by omega
theorem asc_asc : ∀ {xs : List Int}, CK.Asc xs → ascB xs = true
  | [], _ => rfl
  | [x], _ => rfl
  | x :: y :: r, h => by
    obtain ⟨h1, h2⟩ := List.pairwise_cons.mp h
    have ih := asc_asc h2
    unfold ascB at ih ⊢
    simp only [List.drop_succ_cons, List.drop_zero, List.zip_cons_cons, List.all_cons, Bool.and_eq_true, decide_eq_true_eq]
    exact ⟨h1 y List.mem_cons_self, by simpa using ih⟩
end CW
end W15x
section C16x
set_option Elab.async false
set_option linter.all false
set_option maxRecDepth 100000
namespace CW
open PySem PySem.Spec PyProof.Rows L2 StX RZ
section
variable {P : Program} {w : World} {K : PySem.W.Frag} {mg : PySem.Str → Option Value} {base : Heap} {f : Addr} {fd : FuncData}
variable {B W : Wd} {k k1 k2 : Nat} {ρ : List Sl} {te ta tb : TE} {i : Nat} {b : Addr}
theorem buy_len {L : Int} {os : List (Int × Int)} : ∀ (bs : List (Int × Int)) (acc r : Int × List Int), CK.buyGo L os bs acc = some r → r.2.length ≤ acc.2.length + bs.length * os.length
  | [], acc, r, h => by
    simp only [CK.buyGo, Option.some.injEq] at h
    subst h
    simp
  | b :: bs, acc, r, h => by
    simp only [CK.buyGo] at h
    cases hw : CK.wayAt (CK.waysUp b L os) b.2 with
    | none => rw [hw] at h; cases h
    | some w =>
      rw [hw] at h
      have ih := buy_len bs _ r h
      have hwl : w.2.length ≤ os.length := by
        have := ((ways_small b.1 b.2 L os [] 0 [] (fun e he => (List.not_mem_nil he).elim) (Nat.le_refl _)).1 _ (CK.wayAt_some hw)).2
        simpa using this
      simp only [List.length_append] at ih
      rw [List.length_cons, Nat.succ_mul]
      omega
theorem cheap_len {row : List Int} {L : Int} {os : List (Int × Int)} {r : Int × List Int} (h : CK.cheapest row L os = some r) (hl : row.length ≤ 5) (ho : os.length ≤ 10) : r.2.length ≤ 50 := by
  unfold CK.cheapest at h
  cases hf : CK.fill row L with
  | none =>
    rw [hf] at h
    obtain ⟨m, _, rfl⟩ := Option.map_eq_some_iff.mp h
    simp
  | some bs =>
    rw [hf] at h
    have h1 := buy_len bs _ r h
    have h2 := fill_len hf
    have h3 : bs.length * os.length ≤ 5 * 10 := Nat.mul_le_mul (by omega) ho
    simp only [List.length_nil] at h1
    omega
theorem getI_prices (os : List (Int × Int)) (x : Int) (hx : x ∈ os.map (·.1)) : getI (os.map fun o => (o.1, .int o.2)) x = some (.int (CK.priceOf os x)) := by
  induction os with
  | nil => cases hx
  | cons o os ih =>
    by_cases h : o.1 = x
    · simp [getI, CK.priceOf, List.find?_cons, h]
    · have h1 : x ∈ os.map (·.1) := by
        rw [List.map_cons] at hx
        rcases List.mem_cons.mp hx with z | z
        · exact absurd z.symm h
        · exact z
      have h2 := ih h1
      simp only [getI, CK.priceOf, List.map_cons, List.find?_cons, h, decide_false] at h2 ⊢
      exact h2
theorem ev_rowin2 {E E2 : XK} {te : TE} {r : List Int} (h : EvD K W te ρ (tI r)) (hl : r.length ≤ 1000) (hr : ∀ x ∈ r, 1 ≤ x ∧ x ≤ 300) : EvD K W (tCall (sp_row_in K) [] E (tCons (tCall (sp_row_text K) [] E2 (tCons te tNil)) tNil)) ρ (tI r) := by
  have hn : CK.NN r := fun x hx => by have := hr x hx; omega
  exact ev_call (α := List Int) r (ea_cons (ev_call (α := List Int) r (ea_cons h ea_nil) ⟨hn, by omega⟩) ea_nil) ⟨hn, by omega, fun x hx => (hr x hx).1⟩
structure OsOk (os : List (Int × Int)) : Prop where
  len : os.length ≤ 10
  asc : CK.Asc (os.map (·.1))
  each : ∀ o ∈ os, (1 ≤ o.1 ∧ o.1 ≤ 300) ∧ 0 ≤ o.2 ∧ o.2 ≤ 29
theorem os_ok {n : Nat} {xs : DI} (h : SomeOk n xs) : OsOk (((sortI (xs.map (·.1))).map fun k => (k, valI xs k)).take 10) := by
  refine ⟨by rw [List.length_take]; omega, ?_, fun o ho => ?_⟩
  · rw [List.map_take, List.map_map]
    have e : ((fun o : Int × Int => o.1) ∘ fun k => (k, valI xs k)) = id := rfl
    rw [e, List.map_id]
    exact (sortI_asc h.nd).sublist (List.take_sublist _ _)
  · obtain ⟨k, hk, rfl⟩ := List.mem_map.mp (List.mem_of_mem_take ho)
    have hk' := (sortI_perm _).mem_iff.mp hk
    obtain ⟨e, he, rfl⟩ := List.mem_map.mp hk'
    exact ⟨(h.each e he).1, (valI_at h hk').2⟩
abbrev sp__law_offers_right (K : PySem.W.Frag) : Sp := SpB K (α := NearA) (fun a => [.at a.b, .dat (tI a.row), .dat (.int a.L)]) (fun W a => Bx W a.b ∧ (1 ≤ a.L ∧ a.L ≤ 12 ∧ a.row.length ≤ 5 ∧ ∀ x ∈ a.row, 1 ≤ x ∧ x ≤ 200)) 90 (fun a d => d = .bool true)
theorem ok__law_offers_right (F : FnP K "_law_offers_right" s__law_offers_right f fd) (T : Tx mg) (O_offers_text : Ok P w K mg base "offers_text" 1 ["offers"] (sp_offers_text K)) (O__law_take : Ok P w K mg base "_law_take" 1 ["_law_box_here", "_law_below"] (sp__law_take K)) (O_row_text : Ok P w K mg base "row_text" 2 ["row"] (sp_row_text K)) (O_alike : Ok P w K mg base "alike" 3 ["row", "other", "least"] (sp_alike K)) (O_row_in : Ok P w K mg base "row_in" 3 ["string"] (sp_row_in K)) (O_offers_in : Ok P w K mg base "offers_in" 3 ["string"] (sp_offers_in K)) (O_is_offers : Ok P w K mg base "is_offers" 3 ["thing"] (sp_is_offers K)) {C fI : Addr} (TN : NwTxt P K mg C fI) (O_cheapest : OkX P w K mg base "cheapest" 4 ["row", "least", "offers"] (sp_cheapest K C)) (O__law_near : Ok P w K mg base "_law_near" 4 ["_law_box_here", "_law_row_so", "_law_least_so"] (sp__law_near K)) : FnOk P w K mg base CX0 5 f fd ["_law_box_here", "_law_row_so", "_law_least_so"] (sp__law_offers_right K) := by
  have nd := sc__law_offers_right.nd
  refine F.ok sc__law_offers_right (fun vs H Q E h => spb_len (fun _ => rfl) h) (fun cdv A outer s H vs Q E hr h => ⟨_, PSs.nox (pss_cons (ps_set (i := 3) nd rfl (Or.inr rfl) pe_dnewK) (pss_cons (ps_for PassesOwn.never rfl (pi_anyK (K := K) rfl (pe_op (op_plusK (K := K) rfl) (pe_f O__law_near hr rfl (pa_cons (pv 0) (pa_cons (pv 1) (pa_cons (pv 2) pa_nil)))) (pv 1))) (pg_name (i := 4) nd rfl (Or.inl rfl)) (pss_cons (ps_dput (hu_of1 hr) (pv 3) (pv 4) (pe_f O__law_take (hr.mono (by decide)) rfl (pa_cons (pv 0) (pa_cons pe_int pa_nil))) rfl) (pss_one (ps_dput (hu_of1 hr) (pv 3) (pe_callB (call_max2K rfl) rfl T.max (by decide +kernel) (pa_cons pe_int (pa_cons (pe_op op_sub (pv 4) (pe_f O__law_take (hr.mono (by decide)) rfl (pa_cons (pv 0) (pa_cons (pe_op (op_plusK (K := K) rfl) (pv 2) pe_int) pa_nil)))) pa_nil))) (pe_f O__law_take (hr.mono (by decide)) rfl (pa_cons (pv 0) (pa_cons pe_int pa_nil))) rfl)))) (pss_cons (ps_set (i := 5) nd rfl (Or.inl rfl) (pe_slice (sl_seqK (K := K) rfl) (pe_callTy (call_tupleK (K := K) rfl) rfl T.tuple (by decide +kernel) (pa_cons (pe_lc (own := [("_law_limit", 13)]) rfl nd (pi_anyK (K := K) rfl (pe_callB (cr_sortedDI rfl) rfl T.sorted (by decide +kernel) (pa_cons (pv 3) pa_nil))) (blkOk_by (own := [("_law_limit", 13)]) (N := N__law_offers_right) (sc := defScope s__law_offers_right) (by decide +kernel)) (fun _ _ _ _ _ => (pg_name (i := 13) nd rfl (Or.inl rfl))) (fun _ _ _ _ _ => pts_nil) (fun _ _ _ _ _ => (pe_tup (pa_cons (pv 13) (pa_cons (pe_dget (hu_of1 hr) (pv 3) (pv 13) fun _ _ => rfl) pa_nil))))) pa_nil)) po_none (po_some pe_int))) (pss_cons (ps_set (i := 6) nd rfl (Or.inl rfl) (pe_f O_offers_in (hr.mono (by decide)) rfl (pa_cons (pe_f O_offers_text (hr.mono (by decide)) rfl (pa_cons (pv 5) pa_nil)) pa_nil))) (pss_cons (ps_if (PW.pt (pw_or (pt_cmpR (op_neK (K := K) rfl (hu64 hr)) (pv 6) (pv 5) (nomark _)) (pw_or1 (pt_cmpR op_notBl (pe_f O_is_offers (hr.mono (by decide)) rfl (pa_cons (pv 6) pa_nil)) pe_bl (nomark _))))) (pss_one (ps_ret pe_bl)) pss_nil) (pss_cons (ps_asg (pe_tup (pa_cons pe_non (pa_cons pe_non pa_nil))) (pg_tupK (K := K) (n := 2) rfl rfl (pgs_cons (pg_name (i := 7) nd rfl (Or.inl rfl)) (pgs_cons (pg_name (i := 8) nd rfl (Or.inl rfl)) pgs_nil)))) (pss_cons (ps_try_as (i := 9) rfl rfl nd rfl rfl ⟨rfl, by decide, .inl TN.gC⟩ no_takes (fun W pn xe tkW pw => pss_one (ps_set (i := 7) nd rfl (Or.inl rfl) (pe_fS O_cheapest hr rfl (fun σ => passAt tkW σ) (pa_cons (pv 1) (pa_cons (pv 2) (pa_cons (pv 6) pa_nil)))))) (fun a oe cls d pn hz hv => pss_one (ps_set (i := 8) nd rfl (Or.inl rfl) (pv 9)))) (pss_cons (ps_if (pt_cmpR op_notN1 (pv 8) pe_non (nomark _)) (pss_one (ps_ret (pe_not (pe_f O_alike (hr.mono (by decide)) rfl (pa_cons (pe_revTK (K := K) rfl (pe_callTy (call_tupleK (K := K) rfl) rfl T.tuple (by decide +kernel) (pa_cons (pe_lc (own := [("_law_own", 4)]) rfl nd (pi_anyK (K := K) rfl (pv 6)) (blkOk_by (own := [("_law_own", 4)]) (N := N__law_offers_right) (sc := defScope s__law_offers_right) (by decide +kernel)) (fun _ _ _ _ _ => (pg_name (i := 4) nd rfl (Or.inl rfl))) (fun _ _ _ _ _ => pts_nil) (fun _ _ _ _ _ => (pe_ix (ix_seqK (K := K) rfl) (pv 4) pe_int fun _ _ => rfl))) pa_nil))) (pa_cons (pv 1) (pa_cons (pv 2) pa_nil))))))) pss_nil) (pss_cons (ps_asg (pv 7) (pg_tupK (K := K) (n := 2) rfl rfl (pgs_cons (pg_name (i := 10) nd rfl (Or.inl rfl)) (pgs_cons (pg_name (i := 11) nd rfl (Or.inl rfl)) pgs_nil)))) (pss_cons (ps_if (PW.pt (pw_or (pt_cmpR (op_neK (K := K) rfl (hu64 hr)) (pe_f O_row_in (hr.mono (by decide)) rfl (pa_cons (pe_f O_row_text (hr.mono (by decide)) rfl (pa_cons (pv 11) pa_nil)) pa_nil)) (pv 11) (nomark _)) (pw_or1 (pt_not (pt_val (pe_f O_alike (hr.mono (by decide)) rfl (pa_cons (pv 11) (pa_cons (pv 1) (pa_cons (pv 2) pa_nil))))))))) (pss_one (ps_ret pe_bl)) pss_nil) (pss_cons (ps_set (i := 12) nd rfl (Or.inr rfl) (pe_callTy (call_dictTK (K := K) rfl rfl) rfl T.dict (by decide +kernel) (pa_cons (pv 6) pa_nil))) (pss_one (ps_ret (pe_and (pe_cmpR (op_eqK (K := K) rfl (hu64 hr)) (pe_lc (own := [("_law_own", 4)]) rfl nd (pi_anyK (K := K) rfl (pv 11)) (blkOk_by (own := [("_law_own", 4)]) (N := N__law_offers_right) (sc := defScope s__law_offers_right) (by decide +kernel)) (fun _ _ _ _ _ => (pg_name (i := 4) nd rfl (Or.inl rfl))) (fun _ _ _ _ _ => pts_one (pt_cmp (pc_dnotin (hu_of1 hr) (pv 4) (pv 12)))) (fun _ _ _ _ _ => (pv 4))) (pe_lst pa_nil) (nomark _)) (pe_one (pe_cmpR (op_eqK (K := K) rfl (hu64 hr)) (pe_callB (cr_sumK (K := K) rfl rfl) rfl T.sum (by decide +kernel) (pa_cons (pe_lc (own := [("_law_own", 4)]) rfl nd (pi_anyK (K := K) rfl (pv 11)) (blkOk_by (own := [("_law_own", 4)]) (N := N__law_offers_right) (sc := defScope s__law_offers_right) (by decide +kernel)) (fun _ _ _ _ _ => (pg_name (i := 4) nd rfl (Or.inl rfl))) (fun _ _ _ _ _ => pts_nil) (fun _ _ _ _ _ => (pe_dget (hu_of1 hr) (pv 12) (pv 4) fun _ _ => rfl))) pa_nil)) (pv 10) (nomark _))))))))))))))))), run_box (Ns := N__law_offers_right) h fun a B hp => ?_⟩)
  obtain ⟨b, row, L⟩ := a
  obtain ⟨bx, h1, h2, h3, h4⟩ := hp
  simp only at h1 h2 h3 h4 bx
  refine sb_seqK (k1 := 0) (k2 := 90) (sb_asgS es_dnew fun W1 s1 hs1 => ?_) (by omega)
  obtain ⟨p, rfl, rfl⟩ := hs1
  refine sb_seqK (k1 := 90) (k2 := 0) (sb_forK (kb := 3) (k0 := 50) (mx := 11) (eik_anyT (P := fun d => ∃ ns : List Int, d = tI ns ∧ ns.length ≤ 11 ∧ ∀ x ∈ ns, 1 ≤ x ∧ x ≤ 300) (Pd := fun ds => ∃ ns : List Int, ds = ns.map .int ∧ ns.length ≤ 11 ∧ ∀ x ∈ ns, 1 ≤ x ∧ x ≤ 300) (ek_op (k1 := 50) (k2 := 0) (ek_near (row := row) (L := L) rfl rfl rfl bx.up h1 h2 h3 h4) (ek_ev (ev_var (d := tI row) rfl)) ?_) ?_) ?_ (fun i W' ρ' => ∃ xs o4, SomeOk (2 * i) xs ∧ W' = B.push K p (.dct (dctI xs)) ∧ ρ' = [.at b, .dat (tI row), .dat (.int L), .at p, o4, .no, .no, .no, .no, .no, .no, .no, .no, .no]) ⟨[], _, ⟨by simp, by simp, by simp⟩, rfl, rfl⟩ ?_ ?_ (by omega)) (by omega)
  · rintro a c ⟨ns, rfl, n1, n2⟩ rfl
    refine ⟨_, rv_catT (by rw [List.length_map, List.length_map]; omega), fun d hd => ⟨ns ++ row, by rw [hd, tI, List.map_append], by rw [List.length_append]; omega, fun x hx => ?_⟩⟩
    rcases List.mem_append.mp hx with z | z
    · exact n2 x z
    · have := h4 x z
      omega
  · rintro d ⟨ns, rfl, n1, n2⟩
    exact ⟨_, rfl, ns, rfl, n1, n2⟩
  · rintro es ⟨ns, rfl, n1, n2⟩
    rw [List.length_map]; exact n1
  · rintro es ⟨ns, rfl, n1, n2⟩ i d W' ρ' hd x' ⟨xs, o4, ok, rfl, rfl⟩
    rw [List.getElem?_map] at hd
    obtain ⟨y, hy, rfl⟩ := Option.map_eq_some_iff.mp hd
    have hy2 := n2 y (List.mem_of_getElem? hy)
    have hi := (List.getElem?_eq_some_iff.mp hy).1
    have hl := ok.len
    refine ⟨_, _, eg_name, ?_⟩
    refine sb_seqK (k1 := 1) (k2 := 2) (sb_dput (k := 1) (k2 := 0) (P := Bt 0 29) (Py := fun z => z = y) rfl Md.here (fun _ _ => Ext.push) (ek_bto (ek_take (m := 30) rfl bx.up (ev_int 30) (by omega) (by omega)) (by omega) (by omega)) (ek_ev (ev_to (ev_var (d := .int y) rfl) fun d hd => ⟨y, hd, rfl⟩)) (by omega) ?_) (by omega)
    rintro d z hdd rfl
    have ok2 := ok.put hy2 hdd
    have hl2 := ok2.len
    refine sb_dput (k := 1) (k2 := 1) (P := Bt 0 29) (Py := fun z => 1 ≤ z ∧ z ≤ 300) rfl Md.here (fun _ _ => Ext.push) (ek_bto (ek_take (m := 30) rfl bx.up (ev_int 30) (by omega) (by omega)) (by omega) (by omega)) (ek_to (ek_bto (lo := 1) (hi := 300) (ek_max (k2 := 1) (ev_int 1) (ek_sub (k1 := 0) (k2 := 1) (ek_bt (lo := z) (hi := z) (ev_var rfl) (by omega) (by omega)) (ek_take (m := L + 2) rfl bx.up (ev_add (ev_var rfl) (ev_int 2)) (by omega) (by omega)))) (by omega) (by omega)) fun s h => h) (by omega) ?_
    rintro d' z' hd' hz'
    exact ⟨_, _, ok2.put hz' hd', rfl, rfl⟩
  rintro es ⟨ns, rfl, n1, n2⟩ W' ρ' ⟨xs, o4, ok, rfl, rfl⟩
  rw [List.length_map] at ok
  have hl := ok.len
  have hperm := sortI_perm (xs.map (·.1))
  have hml : (sortI (xs.map (·.1))).length = xs.length := by rw [hperm.length_eq, List.length_map]
  have oso := os_ok ok
  refine sb_seq (sb_asgD (d := tB (((sortI (xs.map (·.1))).map fun k => (k, valI xs k)).take 10)) (evd_to (ev_slT (ds := ((sortI (xs.map (·.1))).map fun k => (k, valI xs k)).map bD) (ev_tupL (evd_to (EvF.ev (ef_lcA (ds := sortI (xs.map (·.1))) (enc := .int) (ei_anyL (EvF.ev (ef_sortedDI rfl Rdr.here (by omega) hperm (sortI_le _)))) (fun k => bD (k, valI xs k)) _ (by decide) (fun k _ => eg_name) (fun D acc k hk => ev_tup (ea_cons (ev_var rfl) (ea_cons (ev_dget rfl (Rdr.up Rdr.here) (ev_var rfl) (valI_at ok (hperm.mem_iff.mp hk)).1) ea_nil)) (by simp)) (by omega))) ?_)) eo_none (eo_some (ev_int 10))) ?_) ?_)
  · rw [List.map_map]; rfl
  · show PyData.tuple (cutD _ none (some ((10 : Nat) : Int))) = _
    rw [cut_upto, ← List.map_take]
    rfl
  generalize ((sortI (xs.map (·.1))).map fun k => (k, valI xs k)).take 10 = os at oso ⊢
  obtain ⟨os1, os2, os3⟩ := oso
  have obn : CK.BN os := fun o ho => by have := os3 o ho; exact ⟨⟨by omega, by omega⟩, by omega, by omega⟩
  refine sb_seq (sb_asgS (es_barcall (α := List (Int × Int)) os (ea_cons (ev_call (α := List (Int × Int)) os (ea_cons (ev_var rfl) ea_nil) ⟨obn, by omega⟩) ea_nil) ⟨fun o ho => ⟨obn o ho, (os3 o ho).1.1⟩, by omega, asc_asc os2⟩) fun W2 s2 hs2 => ?_)
  obtain ⟨q, rfl, rfl⟩ := hs2
  refine sb_seq (sb_if (b := false) (et_or (x := false) (et_test (evd_to (ev_neD (c := true) (ev_bar rfl Bar.here) (ev_var (d := tB os) rfl) (shaped_tB _) (shaped_tB _) (by have := eqv_tB os os; simpa [tB] using this)) rfl)) (y := false) fun _ => et_test (ev_notB (x := true) (y := true) (evd_to (ev_call (α := List (Int × Int)) os (ea_cons (ev_bar rfl Bar.here) ea_nil) ⟨by omega, fun o ho => ⟨(os3 o ho).1.1, (os3 o ho).2.1⟩⟩) (by rw [asc_asc os2])) (ev_bl true))) (fun h => by cases h) fun _ => sb_next ?_)
  refine sb_seq (sb_tup (k1 := 0) (k2 := 0) (es_k (ek_ev (P := fun d => d = .none) ev_non)) (fun W1 s1 h => es_k (ek_ev (P := fun d => d = .none) ev_non)) ?_)
  rintro W1 s1 W3 s2 ⟨e1, d, e3, e4⟩ ⟨e2, d2, e5, e6⟩
  subst e3 e4 e5 e6
  rw [e1] at e2
  subst e2
  clear e1
  refine sb_seq (sb_try (i := 9) (j := 8) (l := 7) (α := ChA) (X := fun a => (CK.cheapest a.row a.L a.offers).map resD) ⟨row, L, os⟩ (ea_cons (ev_var rfl) (ea_cons (ev_var rfl) (ea_cons (ev_bar rfl Bar.here) ea_nil))) ⟨by simp only; omega, by simp only; omega, os2, by simp only; omega, by simp only; omega⟩ TN.te (by simp) (fun d hd => ?_) fun hn q2 => ?_)
  · obtain ⟨r, hr, rfl⟩ := Option.map_eq_some_iff.mp hd
    obtain ⟨c1, c2, c3⟩ := CK.cheapest_some (by simp only; omega) os2 hr
    have c4 := cheap_len hr h3 os1
    have c5 : ∀ x ∈ r.2, 1 ≤ x ∧ x ≤ 300 := fun x hx => by
      obtain ⟨o, ho, rfl⟩ := List.mem_map.mp (c2 x hx)
      exact (os3 o ho).1
    simp only at c1
    refine sb_seq (sb_if (b := false) (et_test (evd_to (ev_notN (d := .none) (ev_var rfl)) rfl)) (fun h => by cases h) fun _ => sb_next ?_)
    refine sb_seq (sb_asgG (P := fun d => d = .tuple [.int r.1, tI r.2]) (ρd := fun _ => [.at b, .dat (tI row), .dat (.int L), .at p, o4, .dat (tB os), .at q, .dat (resD r), .dat .none, .no, .dat (.int r.1), .dat (tI r.2), .no, .no]) (js := [10, 11]) (ev_var rfl) (fun d hd => by subst hd; exact eg_pair) fun d hd => ?_)
    refine sb_seq (sb_if (b := false) (et_or (x := false) (et_test (evd_to (ev_neD (c := true) (ev_rowin2 (r := r.2) (ev_var rfl) (by omega) c5) (ev_var (d := tI r.2) rfl) (shaped_tI _) (shaped_tI _) (by rw [eqv_tI]; simp)) rfl)) (y := false) fun _ => et_not (x := true) (et_B (evd_to (ev_call (α := List Int × List Int × Int) (r.2, row, L) (ea_cons (ev_var rfl) (ea_cons (ev_var rfl) (ea_cons (ev_var rfl) ea_nil))) ⟨by simp only; omega, by simp only; omega⟩) (by simp [c1])))) (fun h => by cases h) fun _ => sb_next ?_)
    refine sb_seq (sb_asgS (es_dict rfl Bar.here (os2.imp fun h => by omega)) fun W2 s2 hs2 => ?_)
    obtain ⟨pd, rfl, rfl⟩ := hs2
    refine sb_retD (ev_andV (x := true) (y := true) (ev_eqD (a := .list []) (b := .list []) (evd_to (EvF.ev (ef_lcT (ds := r.2) (enc := .int) (ei_anyT (ev_var (d := tI r.2) rfl)) (fun _ => false) (fun x => .int x) _ (by decide) (fun x _ => eg_name) (fun D acc x hx => et_B (evd_to (ev_dnotin rfl (Rdr.up Rdr.here) (ev_var rfl)) (by rw [getI_prices os x (c2 x hx)]; rfl))) (fun D acc x hx h => by cases h) (by omega))) (by simp)) (EvF.ev (ef_lst ea_nil (by simp))) rfl rfl rfl) fun _ => evd_to (ev_eqI (ev_sum (ns := r.2.map (CK.priceOf os)) (evd_to (EvF.ev (ef_lcA (ds := r.2) (enc := .int) (ei_anyT (ev_var (d := tI r.2) rfl)) (fun x => .int (CK.priceOf os x)) _ (by decide) (fun x _ => eg_name) (fun D acc x hx => ev_dget rfl (Rdr.up Rdr.here) (ev_var rfl) (getI_prices os x (c2 x hx))) (by omega))) (by rw [List.map_map]; rfl))) (ev_var rfl)) (by simp [c3])) rfl
  · have hc : CK.cheapest row L os = none := Option.map_eq_none_iff.mp hn
    have hne := CK.cheapest_none (by omega) os2 hc
    refine sb_seq (sb_if (b := true) (et_test (ev_notN_at rfl)) (fun _ => ?_) fun h => by cases h)
    refine sb_retD (ev_notV (x := false) (evd_to (ev_call (α := List Int × List Int × Int) ((os.map (·.1)).reverse, row, L) (ea_cons (evd_to (ev_revT (ev_tupL (EvF.ev (ef_lcA (ds := os) (enc := bD) (ei_anyT (ev_bar rfl Bar.here)) (fun o => .int o.1) _ (by decide) (fun o _ => eg_name) (fun D acc o ho => ev_ixT (ev_var (d := bD o) rfl) (ev_int 0) (atI_zero rfl)) (by omega))))) ?_) (ea_cons (ev_var rfl) (ea_cons (ev_var rfl) ea_nil))) ⟨by simp; omega, by simp only; omega⟩) (by simp [hne]))) rfl
    rw [tI, List.map_reverse, List.map_map]; rfl

end
end CW
end C16x
section C17x
set_option Elab.async false
set_option linter.all false
set_option maxRecDepth 100000
namespace CW
open PySem PySem.Spec PyProof.Rows L2 StX RZ
section
variable {P : Program} {w : World} {K : PySem.W.Frag} {mg : PySem.Str → Option Value} {base : Heap} {f : Addr} {fd : FuncData}
variable {B W : Wd} {k k1 k2 : Nat} {ρ : List Sl} {te ta tb : TE} {i : Nat} {b : Addr}
theorem ev_callX {C : Addr} {α : Type} {As : α → List PyData} {pre : α → Prop} {X : α → Option PyData} {Es : L2.St → XK} {tr : TA} {d : PyData} (a : α) (h : EvA K W tr ρ (As a)) (hp : pre a) (hX : X a = some d) : EvD K W (tCallS (SpX K C As pre X) Es tr) ρ d := fun σ H n e o Q q =>
  h σ H n e o _ fun vs H1 s1 dv => ⟨W, n, a, dv, o.to s1, hp, fun v H2 d' s2 iv hd => q v H2 d' (s1.trans s2) iv (by rw [hX] at hd; exact (Option.some.inj hd).symm), fun hn => by rw [hX] at hn; cases hn⟩
abbrev sp__law_by_hand_right (K : PySem.W.Frag) : Sp := SpD K (α := Unit) (fun _ => []) (fun _ => True) (fun _ d => d = .bool true)
def hOs : List (Int × Int) := [(80, 5), (85, 1), (88, 2), (90, 9), (95, 1), (100, 4)]
theorem ev_txt {x y : PySem.Str} (h : x = y) : EvD K W (tC (.str x)) ρ (.str y) := evd_to (ev_str x) (by rw [h])
theorem h_row : CK.NN [100, 93, 88, 80] ∧ ([100, 93, 88, 80] : List Int).length ≤ 10000 ∧ ∀ n ∈ ([100, 93, 88, 80] : List Int), 1 ≤ n := by simp [CK.NN]
theorem h_f1 : CK.fill [100, 93, 88, 80] 10 = some [(80, 100)] := by decide +kernel
theorem h_f2 : CK.few [100, 93, 88, 80] 10 = [100, 90, 80] := by decide +kernel
theorem h_f3 : CK.cheapest [100, 93, 88, 80] 10 hOs = some (11, [100, 95, 85, 80]) := by decide +kernel
theorem h_f4 : CK.passM [11, 10, 6] [[1, 6, 3, 1], [9]] = [[1], [6], [3], [1], [9]] := by decide +kernel
theorem h_f5 : CK.fill [19, 50] 10 = none := by decide +kernel
theorem h_f6 : (CK.partsM [100, 90, 80] [80, 10, 10]).length ≠ (CK.partsM [100, 89, 80] [80, 10, 10]).length := by decide +kernel
theorem ok__law_by_hand_right (F : FnP K "_law_by_hand_right" s__law_by_hand_right f fd) (T : Tx mg) (O_filling : Ok P w K mg base "filling" 2 ["row", "least"] (sp_filling K)) (O_row_text : Ok P w K mg base "row_text" 2 ["row"] (sp_row_text K)) (O_filling_text : Ok P w K mg base "filling_text" 2 ["filling"] (sp_filling_text K)) (O_row_in : Ok P w K mg base "row_in" 3 ["string"] (sp_row_in K)) (O_batch_in : Ok P w K mg base "batch_in" 3 ["string"] (sp_batch_in K)) (O_offers_in : Ok P w K mg base "offers_in" 3 ["string"] (sp_offers_in K)) (O_stream_text : Ok P w K mg base "stream_text" 3 ["stream"] (sp_stream_text K)) (O_fewest : Ok P w K mg base "fewest" 3 ["row", "least"] (sp_fewest K)) (O_passed : Ok P w K mg base "passed" 4 ["row", "stream"] (sp_passed K)) (O_is_parting : Ok P w K mg base "is_parting" 4 ["row", "other", "least", "thing"] (sp_is_parting K)) (O_stream_in : Ok P w K mg base "stream_in" 4 ["string"] (sp_stream_in K)) {C fI : Addr} (TN : NwTxt P K mg C fI) (O_cheapest : OkX P w K mg base "cheapest" 4 ["row", "least", "offers"] (sp_cheapest K C)) : FnOk P w K mg base CX0 5 f fd [] (sp__law_by_hand_right K) := by
  have nd := sc__law_by_hand_right.nd
  refine F.ok sc__law_by_hand_right (fun vs H Q E h => spd_len (fun _ => rfl) h) (fun cdv A outer s H vs Q E hr h => ⟨_, PSs.nox (pss_cons (ps_par (i := 0) (j := 1) rfl nd rfl rfl (by decide) rfl rfl (pa_cons (pe_f O_row_in (hr.mono (by decide)) rfl (pa_cons pe_str pa_nil)) (pa_cons (pe_f O_offers_in (hr.mono (by decide)) rfl (pa_cons pe_str pa_nil)) pa_nil)) rfl) (pss_cons (ps_if (PW.pt (pw_or (pt_cmpR (op_neK (K := K) rfl (hu64 hr)) (pe_f O_filling_text (hr.mono (by decide)) rfl (pa_cons (pe_f O_filling (hr.mono (by decide)) rfl (pa_cons (pv 0) (pa_cons pe_int pa_nil))) pa_nil)) pe_str (nomark _)) (pw_or1 (pt_cmpR (op_neK (K := K) rfl (hu64 hr)) (pe_f O_row_text (hr.mono (by decide)) rfl (pa_cons (pe_f O_fewest (hr.mono (by decide)) rfl (pa_cons (pv 0) (pa_cons pe_int pa_nil))) pa_nil)) pe_str (nomark _))))) (pss_one (ps_ret pe_bl)) pss_nil) (pss_cons (ps_asg (pe_fS O_cheapest hr rfl (fun σ => passAt no_takes σ) (pa_cons (pv 0) (pa_cons pe_int (pa_cons (pv 1) pa_nil)))) (pg_tupK (K := K) (n := 2) rfl rfl (pgs_cons (pg_name (i := 2) nd rfl (Or.inl rfl)) (pgs_cons (pg_name (i := 3) nd rfl (Or.inl rfl)) pgs_nil)))) (pss_cons (ps_if (pt_cmpR (op_neK (K := K) rfl (hu64 hr)) (pe_tup (pa_cons (pv 2) (pa_cons (pe_f O_row_text (hr.mono (by decide)) rfl (pa_cons (pv 3) pa_nil)) pa_nil))) (pe_tup (pa_cons pe_int (pa_cons pe_str pa_nil))) (nomark _)) (pss_one (ps_ret pe_bl)) pss_nil) (pss_cons (ps_set (i := 4) nd rfl (Or.inl rfl) (pe_f O_passed hr rfl (pa_cons (pe_f O_row_in (hr.mono (by decide)) rfl (pa_cons pe_str pa_nil)) (pa_cons (pe_f O_stream_in hr rfl (pa_cons pe_str pa_nil)) pa_nil)))) (pss_cons (ps_if (PW.pt (pw_or (pt_cmpR (op_neK (K := K) rfl (hu64 hr)) (pe_f O_stream_text (hr.mono (by decide)) rfl (pa_cons (pv 4) pa_nil)) pe_str (nomark _)) (pw_or1 (pt_cmpR (op_neK (K := K) rfl (hu64 hr)) (pe_f O_filling_text (hr.mono (by decide)) rfl (pa_cons (pe_f O_filling (hr.mono (by decide)) rfl (pa_cons (pe_f O_row_in (hr.mono (by decide)) rfl (pa_cons pe_str pa_nil)) (pa_cons pe_int pa_nil))) pa_nil)) pe_str (nomark _))))) (pss_one (ps_ret pe_bl)) pss_nil) (pss_one (ps_ret (pe_cmpR op_isBl (pe_f O_is_parting hr rfl (pa_cons (pe_f O_row_in (hr.mono (by decide)) rfl (pa_cons pe_str pa_nil)) (pa_cons (pe_f O_row_in (hr.mono (by decide)) rfl (pa_cons pe_str pa_nil)) (pa_cons pe_int (pa_cons (pe_f O_batch_in (hr.mono (by decide)) rfl (pa_cons pe_str pa_nil)) pa_nil))))) pe_bl (nomark _)))))))))), run_pure (Ns := N__law_by_hand_right) h fun a B hp => ?_⟩)
  refine sb_seq (sb_par (k1 := 0) (k2 := 0) (es_k (ek_ev (P := fun d => d = tI [100, 93, 88, 80]) (ev_call (α := List Int) [100, 93, 88, 80] (ea_cons (ev_txt (by decide +kernel)) ea_nil) h_row))) (fun W1 s1 h => es_barcall (α := List (Int × Int)) hOs (ea_cons (ev_txt (by decide +kernel)) ea_nil) ⟨by simp [hOs, BNo], by decide, by decide +kernel⟩) ?_)
  rintro W1 s1 W3 s2 ⟨e1, d, e3, e4⟩ ⟨p, e5, e6⟩
  subst e3 e4 e5 e6
  refine sb_seq (sb_if (b := false) (et_or (x := false) (et_test (evd_to (ev_neS (x := CK.fillS (some [(80, 100)])) (ev_call (α := Option (List (Int × Int))) (some [(80, 100)]) (ea_cons (evd_to (ev_call (α := List Int × Int) ([100, 93, 88, 80], 10) (ea_cons (ev_var rfl) (ea_cons (ev_int 10) ea_nil)) (by decide)) (by rw [h_f1])) ea_nil) fun bs h => by cases h; exact ⟨by simp [CK.BN], by decide⟩) (ev_str "80-100")) (congrArg PyData.bool (by decide +kernel)))) (y := false) fun _ => et_test (evd_to (ev_neS (x := CK.rowS [100, 90, 80]) (ev_call (α := List Int) [100, 90, 80] (ea_cons (evd_to (ev_call (α := List Int × Int) ([100, 93, 88, 80], 10) (ea_cons (ev_var rfl) (ea_cons (ev_int 10) ea_nil)) ⟨by decide, by decide, by simp⟩) (by rw [h_f2])) ea_nil) ⟨by simp [CK.NN], by decide⟩) (ev_str "100 90 80")) (congrArg PyData.bool (by decide +kernel)))) (fun h => by cases h) fun _ => sb_next ?_)
  refine sb_seq (sb_asgG (P := fun d => d = resD (11, [100, 95, 85, 80])) (ρd := fun _ => [.dat (tI [100, 93, 88, 80]), .at p, .dat (.int 11), .dat (tI [100, 95, 85, 80]), .no]) (js := [2, 3]) (ev_callX (α := ChA) ⟨[100, 93, 88, 80], 10, hOs⟩ (ea_cons (ev_var rfl) (ea_cons (ev_int 10) (ea_cons (ev_bar rfl Bar.here) ea_nil))) ⟨by decide, by decide, by simp [hOs, CK.Asc], by decide, by decide⟩ (by simp only [h_f3]; rfl)) (fun d hd => by subst hd; exact eg_pair) fun d hd => ?_)
  refine sb_seq (sb_if (b := false) (et_test (evd_to (ev_neD (a := .tuple [.int 11, .str "100 95 85 80"]) (b := .tuple [.int 11, .str "100 95 85 80"]) (c := true) (ev_tup (ea_cons (ev_var rfl) (ea_cons (evd_to (ev_call (α := List Int) [100, 95, 85, 80] (ea_cons (ev_var rfl) ea_nil) ⟨by simp [CK.NN], by decide⟩) (congrArg PyData.str (by decide +kernel))) ea_nil)) (by simp)) (ev_tup (ea_cons (ev_int 11) (ea_cons (ev_str _) ea_nil)) (by simp)) (by decide +kernel) (by decide +kernel) (by decide +kernel)) rfl)) (fun h => by cases h) fun _ => sb_next ?_)
  refine sb_seq (sb_asgD (d := tT [[1], [6], [3], [1], [9]]) (evd_to (ev_call (α := List Int × List (List Int)) ([11, 10, 6], [[1, 6, 3, 1], [9]]) (ea_cons (ev_call (α := List Int) [11, 10, 6] (ea_cons (ev_txt (by decide +kernel)) ea_nil) ⟨by simp [CK.NN], by decide, by simp⟩) (ea_cons (ev_call (α := List (List Int)) [[1, 6, 3, 1], [9]] (ea_cons (ev_txt (by decide +kernel)) ea_nil) ⟨by simp [CK.NN], by decide⟩) ea_nil)) ⟨by decide, by decide, by simp⟩) (by rw [h_f4])) ?_)
  refine sb_seq (sb_if (b := false) (et_or (x := false) (et_test (evd_to (ev_neS (x := CK.strS [[1], [6], [3], [1], [9]]) (ev_call (α := List (List Int)) [[1], [6], [3], [1], [9]] (ea_cons (ev_var rfl) ea_nil) ⟨by simp [CK.NN], by decide⟩) (ev_str "1\n6\n3\n1\n9")) (congrArg PyData.bool (by decide +kernel)))) (y := false) fun _ => et_test (evd_to (ev_neS (x := CK.fillS none) (ev_call (α := Option (List (Int × Int))) none (ea_cons (evd_to (ev_call (α := List Int × Int) ([19, 50], 10) (ea_cons (ev_call (α := List Int) [19, 50] (ea_cons (ev_txt (by decide +kernel)) ea_nil) ⟨by simp [CK.NN], by decide, by simp⟩) (ea_cons (ev_int 10) ea_nil)) (by decide)) (by rw [h_f5])) ea_nil) fun bs h => by cases h) (ev_str "alone")) (congrArg PyData.bool (by decide +kernel)))) (fun h => by cases h) fun _ => sb_next ?_)
  refine sb_retD (ev_isB (x := true) (y := true) (evd_to (ev_call (α := IpA) ⟨[100, 90, 80], [100, 89, 80], 10, [80, 10, 10]⟩ (ea_cons (ev_call (α := List Int) [100, 90, 80] (ea_cons (ev_txt (by decide +kernel)) ea_nil) ⟨by simp [CK.NN], by decide, by simp⟩) (ea_cons (ev_call (α := List Int) [100, 89, 80] (ea_cons (ev_txt (by decide +kernel)) ea_nil) ⟨by simp [CK.NN], by decide, by simp⟩) (ea_cons (ev_int 10) (ea_cons (ev_call (α := List Int) [80, 10, 10] (ea_cons (ev_txt (by decide +kernel)) ea_nil) ⟨by simp [CK.NN], by simp, by decide, by simp⟩) ea_nil)))) ⟨by decide, by decide, by simp, by decide, by simp⟩) (by simp [h_f6])) (ev_bl true)) rfl

end
end CW
end C17x
section C18x
set_option Elab.async false
set_option linter.all false
set_option maxRecDepth 100000
namespace CW
open PySem PySem.Spec PyProof.Rows L2 StX RZ
section
variable {P : Program} {w : World} {K : PySem.W.Frag} {mg : PySem.Str → Option Value} {base : Heap} {f : Addr} {fd : FuncData}
variable {B W : Wd} {k k1 k2 : Nat} {ρ : List Sl} {te ta tb : TE} {i : Nat} {b : Addr} {tt uu : TT} {t u : TS} {x y : Bool} {N : Wd → List Sl → Prop} {R : Hp → V → Hp → Prop}
/-- a test that draws -/
def EvTK (K : PySem.W.Frag) (W : Wd) (k : Nat) (tt : TT) (ρ : List Sl) (b : Bool) : Prop := ∀ (σ : L2.St) (H : Hp) (n : Nat), Env K (W.fr H) σ ρ → W.ok (n + k) H → ∀ Q : Bool → Hp → Prop, (∀ H', Same (W.fr H) (W.fr H') → W.ok n H' → Q b H') → tt σ H Q
theorem etk_of (h : EvT K W tt ρ x) : EvTK K W 0 tt ρ x := fun σ H n e o Q q => h σ H n e o Q fun H' s => q H' (fr_to s) (o.to s)
theorem etk_B (h : EvK K W k te ρ (isD fun d => d = .bool x)) : EvTK K W k (L2.tB te) ρ x := fun σ H n e o Q q => h σ H n e o _ fun v H' s f o' hv ⟨d, e1, e2⟩ => by
  subst e1 e2
  cases hv
  exact ⟨x, rfl, q H' f o'⟩
theorem etk_not (h : EvTK K W k tt ρ x) : EvTK K W k (tNot tt) ρ (!x) := fun σ H n e o Q q => h σ H n e o _ fun H' f o' => q H' f o'
theorem etk_or (h1 : EvTK K W k1 tt ρ x) (h2 : x = false → EvTK K W k2 uu ρ y) : EvTK K W (k1 + k2) (tOr tt uu) ρ (x || y) := fun σ H n e o Q q =>
  h1 σ H (n + k2) e (o.low (by omega)) _ fun H1 f1 o1 => by
    cases x with
    | true => exact q H1 f1 (o1.low (by omega))
    | false => exact h2 rfl σ H1 n (e.mono f1) o1 Q fun H2 f2 o2 => q H2 (Same.trans f1 f2) o2
theorem sb_ifK {b : Bool} (h : EvTK K W k1 tt ρ b) (h1 : b = true → Sb K B W k2 t ρ N R) (h2 : b = false → Sb K B W k2 u ρ N R) : Sb K B W (k1 + k2) (tIfS tt t u) ρ N R := fun x D σ H n F e f o kn kr =>
  h σ H (n + k2) e (o.low (by omega)) _ fun H1 f1 o1 => by
    cases b with
    | true => exact h1 rfl x D σ H1 n F (e.mono f1) (Same.trans f f1) o1 kn kr
    | false => exact h2 rfl x D σ H1 n F (e.mono f1) (Same.trans f f1) o1 kn kr
theorem ek_nrl {kk j l : Nat} {E : XK} {row : List Int} {L : Int} (hi : ρ[i]? = some (.at b)) (hr : ρ[j]? = some (.dat (tI row))) (hL : ρ[l]? = some (.dat (.int L))) (bx : Bx W b) (h1 : 1 ≤ L) (h2 : L ≤ 12) (h3 : row.length ≤ 5) (h4 : ∀ x ∈ row, 1 ≤ x ∧ x ≤ 200) :
    EvK K W kk (tCall (SpB K (α := NearA) (fun a => [.at a.b, .dat (tI a.row), .dat (.int a.L)]) (fun W a => Bx W a.b ∧ (1 ≤ a.L ∧ a.L ≤ 12 ∧ a.row.length ≤ 5 ∧ ∀ x ∈ a.row, 1 ≤ x ∧ x ≤ 200)) kk (fun a d => d = .bool true)) [] E (tCons (tVar i) (tCons (tVar j) (tCons (tVar l) tNil)))) ρ (isD fun d => d = .bool true) :=
  ek_low (ek_call (k1 := 0) (k2 := kk) (eak_cons (k1 := 0) (k2 := 0) (ek_at hi) fun _ _ => eak_cons (k1 := 0) (k2 := 0) (ek_ev (ev_var hr)) fun _ _ => eak_cons (k1 := 0) (k2 := 0) (ek_ev (ev_var hL)) fun _ _ => eak_nil) fun ss hs => by
    obtain ⟨s, r, e, e1, s2, r2, e3, ⟨d2, e4, e5⟩, s3, r3, e6, ⟨d3, e7, e8⟩, e9⟩ := hs
    subst e e1 e3 e4 e5 e6 e7 e8 e9
    exact ⟨⟨b, row, L⟩, rfl, ⟨bx, h1, h2, h3, h4⟩, fun d hd => hd⟩) (by omega)
abbrev sp__law_right (K : PySem.W.Frag) : Sp := SpB K (α := Addr) (fun a => [.at a]) (fun W a => Bx W a) 340 (fun _ d => d = .bool true)
theorem ok__law_right {nt : Nat} (F : FnP K "_law_right" s__law_right f fd) (T : Tx mg) (tk : TokB nt mg) (O__law_take : Ok P w K mg base "_law_take" 1 ["_law_box_here", "_law_below"] (sp__law_take K)) (O__law_row : Ok P w K mg base "_law_row" 3 ["_law_box_here", "_law_least_so", "_law_at_most"] (sp__law_row K)) (O__law_rows_right : Okn nt P w K mg base "_law_rows_right" 5 ["_law_row_so", "_law_least_so"] (sp__law_rows_right K)) (O__law_streams_right : Ok P w K mg base "_law_streams_right" 5 ["_law_box_here", "_law_row_so", "_law_least_so"] (sp__law_streams_right K)) (O__law_offers_right : Ok P w K mg base "_law_offers_right" 5 ["_law_box_here", "_law_row_so", "_law_least_so"] (sp__law_offers_right K)) (O__law_answers_right : Ok P w K mg base "_law_answers_right" 6 ["_law_box_here"] (sp__law_answers_right K)) (O__law_parting_right : Ok P w K mg base "_law_parting_right" 7 ["_law_box_here", "_law_row_so", "_law_least_so"] (sp__law_parting_right K)) : FnOkn nt P w K mg base 8 f fd ["_law_box_here"] (sp__law_right K) := by
  have nd := sc__law_right.nd
  refine fnn_ok F sc__law_right (fun vs H Q E h => spb_len (fun _ => rfl) h) (fun cdv A outer s H vs Q E hr h => ⟨_, (pssn_cons (PSn.of (ps_set (i := 1) nd rfl (Or.inl rfl) (pe_op (op_plusK (K := K) rfl) pe_int (pe_f O__law_take (hr.mono (by decide)) rfl (pa_cons (pv 0) (pa_cons pe_int pa_nil)))))) (pssn_cons (PSn.of (ps_set (i := 2) nd rfl (Or.inl rfl) (pe_f O__law_row (hr.mono (by decide)) rfl (pa_cons (pv 0) (pa_cons (pv 1) (pa_cons pe_int pa_nil)))))) (pssn_cons (psn_if (PWn.pt (pwn_or (ptn_not (ptn_val (pen_f O__law_rows_right (hr.mono (by decide)) rfl (PAn.of (pa_cons (pv 2) (pa_cons (pv 1) pa_nil)))))) (PWn.of (pw_or1 (pt_not (pt_val (pe_f O__law_streams_right (hr.mono (by decide)) rfl (pa_cons (pv 0) (pa_cons (pv 2) (pa_cons (pv 1) pa_nil)))))))))) (PSsn.of (pss_one (ps_ret pe_bl))) (PSsn.of pss_nil)) (PSsn.of (pss_cons (ps_if (PW.pt (pw_or (pt_not (pt_val (pe_f O__law_offers_right (hr.mono (by decide)) rfl (pa_cons (pv 0) (pa_cons (pv 2) (pa_cons (pv 1) pa_nil)))))) (pw_or1 (pt_not (pt_val (pe_f O__law_answers_right (hr.mono (by decide)) rfl (pa_cons (pv 0) pa_nil))))))) (pss_one (ps_ret pe_bl)) pss_nil) (pss_one (ps_ret (pe_f O__law_parting_right hr rfl (pa_cons (pv 0) (pa_cons (pv 2) (pa_cons (pv 1) pa_nil))))))))))), run_box (Ns := N__law_right) h fun a B hp => ?_⟩)
  refine sb_seqK (k1 := 1) (k2 := 339) (sb_asgK (ek_bto (lo := 1) (hi := 12) (ek_add (k1 := 0) (k2 := 1) (ek_bt (lo := 1) (hi := 1) (ev_int 1) (by omega) (by omega)) (ek_take (m := 12) rfl hp (ev_int 12) (by omega) (by omega))) (by omega) (by omega)) ?_) (by omega)
  rintro d ⟨L, rfl, l1, l2⟩
  refine sb_seqK (k1 := 40) (k2 := 299) (sb_asgK (P := RowP 5 1 200) (ek_call (k1 := 0) (k2 := 40) (eak_cons (k1 := 0) (k2 := 0) (ek_at rfl) fun _ _ => eak_cons (k1 := 0) (k2 := 0) (ek_ev (ev_var (d := .int L) rfl)) fun _ _ => eak_cons (k1 := 0) (k2 := 0) (ek_ev (ev_int 5)) fun _ _ => eak_nil) fun ss hs => ?_) ?_) (by omega)
  · obtain ⟨s, r, e, e1, s2, r2, e3, ⟨d2, e4, e5⟩, s3, r3, e6, ⟨d3, e7, e8⟩, e9⟩ := hs
    subst e e1 e3 e4 e5 e6 e7 e8 e9
    exact ⟨⟨a, L, 5⟩, rfl, ⟨hp, l1, l2, by simp, by simp⟩, fun d hd => hd⟩
  rintro d ⟨row, rfl, r1, r2⟩
  refine sb_seqK (k1 := 130) (k2 := 160) (sb_ifK (k2 := 0) (etk_or (k1 := 0) (k2 := 130) (x := false) (y := false) (etk_of (et_not (x := true) (et_B (ev_call (α := List Int × Int) (row, L) (ea_cons (ev_var rfl) (ea_cons (ev_var rfl) ea_nil)) ⟨l1, l2, r1, r2⟩)))) fun _ => etk_not (x := true) (etk_B (ek_nrl rfl rfl rfl hp l1 l2 r1 r2))) (fun h => by cases h) fun _ => sb_next ?_) (by omega)
  refine sb_seqK (k1 := 110) (k2 := 50) (sb_ifK (k2 := 0) (etk_or (k1 := 90) (k2 := 20) (x := false) (y := false) (etk_not (x := true) (etk_B (ek_nrl rfl rfl rfl hp l1 l2 r1 r2))) fun _ => etk_not (x := true) (etk_B (ek_call (k1 := 0) (k2 := 20) (eak_cons (k1 := 0) (k2 := 0) (ek_at rfl) fun _ _ => eak_nil) fun ss hs => ?_))) (fun h => by cases h) fun _ => sb_next ?_) (by omega)
  · obtain ⟨s, r, e, e1, e2⟩ := hs
    subst e e1 e2
    exact ⟨a, rfl, hp, fun d hd => hd⟩
  exact sb_retK (ek_nrl rfl rfl rfl hp l1 l2 r1 r2)
/-! the law -/
def Wd.pushB (W : Wd) (b : Addr) : Wd where
  ps := b :: W.ps
  I := fun n H O => b ∉ W.ps ∧ W.I n H O ∧ ∃ vs, H b = some (.lst vs) ∧ Bxd n vs
  has := fun h q hq => by
    obtain ⟨_, h2, vs, h3, _⟩ := h
    rcases List.mem_cons.mp hq with e | e
    · rw [e, h3]; simp
    · exact W.has h2 q e
  loc := fun h e s => ⟨h.1, W.loc h.2.1 (fun q hq => e q (List.mem_cons_of_mem _ hq)) s, by
    obtain ⟨vs, h3, h4⟩ := h.2.2
    exact ⟨vs, (e _ List.mem_cons_self).trans h3, h4⟩⟩
  low := fun l h => ⟨h.1, W.low l h.2.1, by
    obtain ⟨vs, h3, h4⟩ := h.2.2
    exact ⟨vs, h3, h4.low l⟩⟩
theorem Ext.pushB : Ext W (W.pushB b) := ⟨fun _ h => List.mem_cons_of_mem _ h, fun _ _ _ h => h.2.1⟩
theorem bx_pushB : Bx (W.pushB b) b := ⟨List.mem_cons_self, fun n H O h => h.2.2, fun n m H O vs h hm hv => ⟨h.1, W.loc (W.low hm h.2.1) (fun q hq => upd_ne fun z => h.1 (z ▸ hq)) (Same.refl _), vs, upd_same, hv⟩⟩
theorem es_box {x d : Int} (h : EvF K W te ρ [.int x, .int d, .int 0]) (cap : ∀ n H O, W.I n H O → n ≤ 2 ^ 30) : EvS K W 0 te ρ fun W' s => ∃ p, W' = W.pushB p ∧ s = .at p := fun σ H n e o Q q =>
  h σ H n e o Q fun p H' vs hp s h1 h2 => by
    have e2 : vs = [.int x, .int d, .int 0] := IsAll.ints (ns := [x, d, 0]) h2
    subst e2
    have o2 := Wd.ok.to o s
    refine q _ _ (W.pushB p) (.at p) Ext.pushB (fr_push o hp s) ⟨Wd.ok.free o hp, ?_, _, h1, x, d, 0, rfl, by omega, ?_⟩ rfl ⟨p, rfl, rfl⟩
    · refine W.loc (W.low (Nat.le_add_right n 0) o) (fun q hq => ?_) (fr_push o hp s)
      cases z : H q with
      | none => exact absurd z (W.has o q hq)
      | some y => exact s q y z
    · have := cap _ _ _ o
      omega
theorem rc_allT {m : Nat} {ds : List PyData} (h : ∀ d ∈ ds, d = .bool true) : RcD K W (rAll K) [.list ds] fun d => d = .bool true := fun vs H n dv o Q q => by
  have e : ds = (List.replicate ds.length true).map PyData.bool := by
    clear dv
    induction ds with
    | nil => rfl
    | cons d ds ih =>
      rw [h d List.mem_cons_self, List.length_cons, List.replicate_succ, List.map_cons]
      exact congrArg _ (ih fun x hx => h x (List.mem_cons_of_mem _ hx))
  cases dv with
  | cons a1 r =>
    cases r
    cases a1 with
    | lst h3 h4 =>
      rw [e] at h4
      refine ⟨_, _, rfl, by rw [← h4.bls]; exact Same.seq fr_le h3, ?_⟩
      have e2 : (List.replicate ds.length true).all id = true := by simp
      rw [e2]
      exact q _ _ _ (Same.refl H) (.bl true) rfl
/-- the world of the law: nothing changes, the budget has an end -/
def Wd.cap : Wd := ⟨[], fun n _ _ => n ≤ 2 ^ 30, fun _ _ h => absurd h (List.not_mem_nil), fun h _ _ => h, fun l h => by omega⟩
abbrev sp_law (K : PySem.W.Frag) : Sp := fun vs H Q _ => ∃ ns : List Int, ns.length ≤ 63 ∧ IsAll K H vs [lI ns] ∧ ∀ v H' d, Same H H' → Is K H' v d → d = .bool true → Q v H'
theorem spl_len {vs : List V} {H : Hp} {Q : VK} {E : XK} (h : sp_law K vs H Q E) : vs.length = 1 := by
  obtain ⟨ns, _, dv, _⟩ := h
  exact dv.len
theorem fr_cap (H : Hp) : Wd.cap.fr H = H := by
  funext q
  show off [] H q = H q
  unfold off
  rw [if_neg List.not_mem_nil]
theorem run_law {H : Hp} {vs : List V} {Q : VK} {E : XK} (h : sp_law K vs H Q E)
    (hb : ∀ ns : List Int, ns.length ≤ 63 → Sb K Wd.cap Wd.cap 3000 t [.dat (lI ns), .no, .no, .no, .no] (fun _ _ => False) (Rt K Wd.cap fun d => d = .bool true)) :
    t { nx := fun _ H' => Q .non H', rt := Q } (L2.start N_law vs) H := by
  obtain ⟨ns, hl, dv, q⟩ := h
  have e : Env K (Wd.cap.fr H) (L2.start N_law vs) [.dat (lI ns), .no, .no, .no, .no] := by
    rw [fr_cap]
    have hv := dv.len
    unfold L2.start
    rw [hv]
    exact Env.of_all (slAll_of dv) 4
  refine hb ns hl (Ext.refl _) _ _ H 0 H e (by rw [fr_cap]; exact Same.refl _) (show 0 + 3000 ≤ 2 ^ 30 by omega) (fun W' ρ' σ' H' x' hN e' f' o' => hN.elim) fun v H' f' o' r => ?_
  obtain ⟨d, hv, hd⟩ := r
  rw [fr_cap] at f' hv
  exact q v H' d f' hv hd

end
end CW
end C18x
section C19x
set_option Elab.async false
set_option linter.all false
set_option maxRecDepth 100000
namespace CW
open PySem PySem.Spec PyProof.Rows L2 StX RZ
section
variable {P : Program} {w : World} {K : PySem.W.Frag} {mg : PySem.Str → Option Value} {base : Heap} {f : Addr} {fd : FuncData}
variable {B W : Wd} {k k1 k2 : Nat} {ρ : List Sl} {te ta tb : TE} {i : Nat} {b : Addr}
theorem ok_law {nt : Nat} (F : FnP K "law" s_law f fd) (T : Tx mg) (tk : TokB nt mg) (O__law_box : Ok P w K mg base "_law_box" 1 ["_law_script", "_law_k"] (sp__law_box K)) (O__law_cells : Ok P w K mg base "_law_cells" 1 ["_law_script", "_law_most_so"] (sp__law_cells K)) (O__law_by_hand_right : Ok P w K mg base "_law_by_hand_right" 5 [] (sp__law_by_hand_right K)) (O__law_right : Okn nt P w K mg base "_law_right" 8 ["_law_box_here"] (sp__law_right K)) : FnOkn nt P w K mg base 9 f fd ["_law_script"] (sp_law K) := by
  have nd := sc_law.nd
  refine fnn_ok F sc_law (fun vs H Q E h => spl_len h) (fun cdv A outer s H vs Q E hr h => ⟨_, (pssn_cons (PSn.of (ps_if (pt_not (pt_val (pe_f0 O__law_by_hand_right (hr.mono (by decide)) rfl))) (pss_one (ps_ret pe_bl)) pss_nil)) (pssn_cons (PSn.of (ps_set (i := 1) nd rfl (Or.inl rfl) (pe_f O__law_cells (hr.mono (by decide)) rfl (pa_cons (pv 0) (pa_cons pe_int pa_nil))))) (pssn_cons (psn_for PassesOwn.never rfl (pi_range1 rfl T.range (pa_cons (pe_callB (call_lenK (K := K) rfl) rfl T.len (by decide +kernel) (pa_cons (pv 1) pa_nil)) pa_nil)) (pg_name (i := 2) nd rfl (Or.inl rfl)) (pssn_cons (PSn.of (ps_set (i := 3) nd rfl (Or.inr rfl) (pe_f O__law_box (hr.mono (by decide)) rfl (pa_cons (pv 1) (pa_cons (pv 2) pa_nil))))) (pssn_one (psn_if (ptn_not (ptn_val (pen_callB (cr_allK (K := K) rfl rfl) rfl T.all (by decide +kernel) (pan_cons (pen_lc (own := [("_law_turn", 4)]) rfl nd (pi_range1 rfl T.range (pa_cons pe_int pa_nil)) (blkOk_by (own := [("_law_turn", 4)]) (N := N_law) (sc := defScope s_law) (by decide +kernel)) (fun _ _ _ _ _ => (pg_name (i := 4) nd rfl (Or.inl rfl))) (fun _ _ _ _ _ => pts_nil) (fun _ _ _ _ _ => (pen_f O__law_right hr rfl (PAn.of (pa_cons (pv 3) pa_nil))))) (PAn.of pa_nil))))) (PSsn.of (pss_one (ps_ret pe_bl))) (PSsn.of pss_nil))))) (PSsn.of (pss_one (ps_ret pe_bl)))))), run_law h fun ns hns => ?_⟩)
  refine sb_seq (sb_if (b := false) (et_not (x := true) (et_B (ev_call (α := Unit) () ea_nil trivial))) (fun h => by cases h) fun _ => sb_next ?_)
  refine sb_seq (sb_asg (P := fun d => ∃ cs : List Int, d = lI cs ∧ cs.length ≤ 2) (ev_call (α := List Int) ns (ea_cons (ev_var rfl) (ea_cons (ev_int 2) ea_nil)) hns) ?_)
  rintro d ⟨cs, rfl, hcs⟩
  refine sb_seqK (k1 := 3000) (k2 := 0) (sb_low (sb_for (kb := 1360) (ei_range1 (ev_lenL (ds := cs.map .int) (ev_var rfl)) (by rw [List.length_map]; omega)) (fun i W' ρ' => ∃ o2 o3 o4, ρ' = [.dat (lI ns), .dat (lI cs), o2, o3, o4]) ⟨_, _, _, rfl⟩ ?_ ?_) ?_) (by omega)
  · rintro i d W' ρ' hd x' ⟨o2, o3, o4, rfl⟩
    have hi : i < cs.length := by
      have := (List.getElem?_eq_some_iff.mp hd).1
      rw [rangeD_len, List.length_map] at this
      omega
    rw [rangeD_get (by rw [List.length_map]; omega)] at hd
    cases hd
    refine ⟨_, _, eg_name, ?_⟩
    refine sb_seqK (k1 := 0) (k2 := 1360) (sb_asgS (es_box (ef_call (α := List Int × Nat) (cs, i) (ea_cons (ev_var rfl) (ea_cons (evd_to (ev_var rfl) (by simp)) ea_nil)) (show cs.length ≤ 100 by omega)) fun n H O h => x'.I n H O h) fun W1 s1 hs1 => ?_) (by omega)
    obtain ⟨p, rfl, rfl⟩ := hs1
    refine sb_ifK (k1 := 1360) (k2 := 0) (b := false) (etk_not (x := true) (etk_B (ek_cb (k := 1360) (eak_cons (k1 := 1360) (k2 := 0) (ek_lcK (kb := 340) (mx := 4) (k0 := 0) (P := fun d => d = .bool true) (eik_ev (ei_range1 (ev_int 4) (by omega))) ?_ _ (by decide) (fun es hes d hd => eg_name) (fun D acc es hes d hd => ek_call (k1 := 0) (k2 := 340) (eak_cons (k1 := 0) (k2 := 0) (ek_at rfl) fun _ _ => eak_nil) fun ss hs => ?_) (by omega) (by omega)) fun _ _ => eak_nil) fun ss hs => ?_))) (fun h => by cases h) fun _ => sb_next ⟨_, _, _, rfl⟩
    · rintro es rfl
      rw [rangeD_len]; omega
    · obtain ⟨s, r, e, e1, e2⟩ := hs
      subst e e1 e2
      exact ⟨p, rfl, bx_pushB.up, fun d hd => hd⟩
    · obtain ⟨s, r, e, ⟨d, e1, ds, e2, _, e3⟩, e4⟩ := hs
      subst e e1 e2 e4
      exact ⟨[.list ds], _, rfl, rc_allT (m := 0) e3, fun d hd => hd⟩
  · rintro W' ρ' ⟨o2, o3, o4, rfl⟩
    exact sb_retD (ev_bl true) rfl
  · rw [rangeD_len, List.length_map]
    omega

end
end CW
end C19x
section H0x
set_option Elab.async false
set_option linter.all false
set_option maxRecDepth 100000
/-! A law whose walk knows how many tokens are out at its start. -/
namespace CW
open PySem PySem.Spec PyProof.Rows L2
/-- the call of the law -/
theorem call_tok {P : Program} {w : World} {K : PySem.W.Frag} {mg mb : PySem.Str → Option Value} {k nt : Nat} {f a : Addr} {fd : FuncData} {x : PySem.Str} {sp : Sp} {z : Shared} {us : List Value} {ns : List Int} (hz : nt ≤ z.toks)
    (KX : K.In z.heap) (hg : z.heap.Ns mainGlobals mg) (hb : z.heap.Ns builtinsNs mb) (hbb : ∀ x : PySem.Str, x ≠ "__name__" → mb x = bootBuiltins x) (hlim : z.heap.NoLimit) (hgen : z.gens = #[])
    (ha : z.heap.get? a = some { cls := .type "list", data := .seq us.toArray }) (hi : IntsAre us ns) (hl : ns.length ≤ sizeLine) (hr : Room k callerA)
    (F : ∀ base : Heap, K.In base → base.Ns mainGlobals mg → FnOkn nt P w K mg base k f fd [x] sp) (hbind : ∀ (s : Shared) (u : Value), BindsTo s fd ⟨[u], []⟩ [(x, u)])
    (hsp : ∀ H : Hp, Only H → SqL K H a (ns.map V.int) → sp [.ref a] H (fun v _ => v = .bl true) E0) :
    codeAny (model P w) callerA (.call (.ref f) ⟨[.ref a], []⟩) (fun r z' => r = .ok (.ret (.bool true)) ∧ OldK z.heap z'.heap ∧ z'.os = z.os ∧ AllBare z'.gens) z := by
  have rv := vals_ints hi
  have lenV := hi.length
  have main : ∀ H : Hp, Only H → SqL K H a (ns.map V.int) → HOk P w H z.heap → (∀ b, H b ≠ none → b = a) → (H a ≠ none → K.lookup a = none) →
      codeAny (model P w) callerA (.call (.ref f) ⟨[.ref a], []⟩) (fun r z' => r = .ok (.ret (.bool true)) ∧ OldK z.heap z'.heap ∧ z'.os = z.os ∧ AllBare z'.gens) z := by
    intro H hO hS hok hA hK
    have dictFree : ∀ {b : Addr} {o : Obj} {es : Array DictEntry} {ep : Nat}, z.heap.get? b = some o → o.data = .dict es ep → H b = none := fun {b o es ep} e d => by
      refine Classical.byContradiction fun hne => ?_
      have eb := hA b hne
      subst eb
      rw [ha] at e
      cases e
      cases d
    have keepNs : ∀ {b : Addr} {m : PySem.Str → Option Value}, z.heap.Ns b m → (hidT z.heap H).Ns b m := fun {b m} ⟨o, es, ep, e, d, r⟩ => ⟨o, es, ep, hidT_get e (dictFree e d), d, r⟩
    have kIn : K.In (hidT z.heap H) := fun b o e => hidT_get (KX b o e) (Classical.byContradiction fun hne => by
      have eb := hA b hne
      subst eb
      rw [hK hne] at e
      cases e)
    have hM : Mod K mg (hidT z.heap H) := ⟨kIn, keepNs hg, ⟨mb, keepNs hb, hbb⟩, let ⟨mc, h1, h2⟩ := hlim; ⟨mc, keepNs h1, h2⟩⟩
    have e0 : Env0 P w K mg (hidT z.heap H) callerA [] z H := ⟨rfl, hM, fun b o e => of_hidT e, Nat.le_of_eq (hidT_size _ _), trivial, fun b hb => absurd (show b ∈ ([] : List Addr) from hb) (by simp), hok, .of_eq hgen⟩
    refine codeAny_mono ((F _ kIn (keepNs hg)).run callerA [] z H ⟨[.ref a], []⟩ [.ref a] [.ref a] _ E0 hz hr e0 (hbind z (.ref a)) (.cons rfl .nil) (hsp H hO hS)) fun r z' h => ?_
    cases r with
    | error e => exact False.elim h
    | ok fl => cases fl with
      | ret u =>
        obtain ⟨v, H', os, bare, un, hok', r', q⟩ := h
        obtain rfl : v = .bl true := q
        obtain rfl : u = Value.bool true := r'
        refine ⟨rfl, OldK.of_keep fun b o e => ?_, os, bare⟩
        cases q2 : H b with
        | none => exact un.keep b o e q2 (by intro y; exact absurd (show b ∈ ([] : List Addr) from y) (by simp)) (by simp)
        | some u2 =>
          rcases hO b with y | ⟨ob, xs, y⟩
          · rw [q2] at y; cases y
          · obtain ⟨e1, _⟩ := hok b _ y
            obtain ⟨e2, _⟩ := hok' b _ (un.frzs b ob _ y)
            rw [e] at e1
            cases e1
            exact e2
      | _ => exact False.elim h
  cases hk : K.lookup a with
  | some o =>
    have e := KX a o hk
    rw [ha] at e
    cases e
    exact main (fun _ => none) (fun _ => .inl rfl) (.inr ⟨_, us.toArray, _, hk, rfl, rfl, rfl, by rw [List.size_toArray, lenV]; exact hl, by simpa using rv⟩) (fun b u y => by have y' : (none : Option HO) = some u := y; cases y') (fun b y => absurd rfl y) fun y => absurd rfl y
  | none =>
    let H0 : Hp := fun b => if b = a then some (.frz { cls := .type "list", data := .seq us.toArray } (.lst (ns.map V.int))) else none
    have at0 : ∀ b u, H0 b = some u → b = a ∧ u = .frz { cls := .type "list", data := .seq us.toArray } (.lst (ns.map V.int)) := fun b u y => by
      by_cases hb : b = a
      · have y' := (if_pos hb).symm.trans y
        exact ⟨hb, (Option.some.inj y').symm⟩
      · have y' := (if_neg hb).symm.trans y
        cases y'
    refine main H0 (fun b => ?_) (.inl (.inr ⟨{ cls := .type "list", data := .seq us.toArray }, if_pos rfl⟩)) (fun b u y => ?_) (fun b y => ?_) fun _ => hk
    · by_cases hb : b = a
      · exact .inr ⟨_, _, if_pos hb⟩
      · exact .inl (if_neg hb)
    · obtain ⟨hb, hu⟩ := at0 b u y
      subst hb hu
      exact ⟨ha, by rw [List.length_map]; exact hl, us, _, rv, ha⟩
    · cases q : H0 b with
      | none => exact absurd q y
      | some u => exact (at0 b u q).1
theorem ofPys_ints : ∀ ns : List Int, PySem.W.ofPys (ns.map PyData.int) = ns.map PySem.W.WData.int
  | [] => rfl
  | n :: ns => by
    simp only [List.map_cons, PySem.W.ofPys, PySem.W.ofPy]
    rw [ofPys_ints ns]
open PySem.W in
theorem walk_tok {l : OpenLaw} {n k : Nat} {q : Program} {loose : List PySem.Str} {XP : (PySem.Str → Option Value) → Heap → Prop} {α : Type} {Yf : Shared → α} {Ya : World → α} {d : DefRec} {x : PySem.Str}
    (hn : l.most = some n) (hn2 : n ≤ sizeLine) (hdf : d.params.defaults = []) (hr : Room k callerA)
    (F : ∀ (w : World) (mg : PySem.Str → Option Value) (fa : Addr) (z : Shared) (h : Heap), Yf z = Ya w → (∀ b o, z.heap.get? b = some o → h.get? b = some o) → h.Ns mainGlobals mg → mg d.name = some (.ref fa) →
      ∃ (K : Frag) (fd : FuncData) (sp : Sp), K.In h ∧ (∀ (s : Shared) (u : Value), BindsTo s fd ⟨[u], []⟩ [(x, u)]) ∧
        (∀ (H : Hp) (a : Addr) (ns : List Int), ns.length ≤ n → Only H → SqL K H a (ns.map V.int) → sp [.ref a] H (fun v _ => v = .bl true) E0) ∧
        ∀ base : Heap, K.In base → base.Ns mainGlobals mg → FnOkn z.toks l.prog w K mg base k fa fd [x] sp) :
    WalkX q loose XP Yf Ya l.row.toRowW d [] (fun f vs => PySem.call f vs) := by
  intro w s₀ s₁ mg mb G Y fa o pm cd doc dV kV ho hd hcd hD hmg hg args vals as L hpre hlay hrd hwl hlo
  obtain rfl : dV = .none := Dflts.none hD hdf
  obtain rfl : kV = .none := Dflts.noKw hD
  obtain ⟨a, vs, ns, rfl, rfl, hobj, hints, hlen⟩ := Att.script_of hn hpre hwl
  obtain ⟨K, fd, sp, KX, hb, hsp, hF⟩ := F w mg fa s₀ s₁.heap Y L.keeps G.T.g hmg
  have ht : s₀.toks ≤ s₁.toks := by
    have e : [WData.list (ns.map WData.int)] = [ofPy (PyData.list (ns.map PyData.int))] := by
      show _ = [WData.list (ofPys (ns.map PyData.int))]
      rw [ofPys_ints]
    rw [e] at L
    exact X.script_toks L rfl
  refine enter_call (codeAny_mono (call_tok ht KX G.T.g G.T.b G.T.builtins G.T.nolimit hg hobj hints (Nat.le_trans hlen hn2) hr hF hb fun H hO hS => hsp H a ns hlen hO hS) fun r s' hq => ?_)
  obtain ⟨rfl, h2, h3, h4⟩ := hq
  exact ⟨.inl ⟨.bool true, .bool true, [], rfl, fun _ => rfl, .bool true, Att.post_true l _, fun _ => ⟨List.Pairwise.nil, fun _ hm => (nomatch hm)⟩⟩, h2, h3, h4⟩
open PySem.W in
theorem head_tok {r : OpenRow} {q : Program} {Hk : Hook} {ob : SharedT → Hk.α} {M : Nat} {loose : List PySem.Str} {d : DefRec} {kwd : List (PySem.Str × PySem.Expr)} (ho : ∀ s : SharedT, ob s = Hk.obs s.abs)
    (e : opening r.prog = plainProg r.prog.main.scope.names) (f : ∀ s, fenceModules? r.prog s = some s) (run : ∀ w, HandSHeadRun.RunEq r q Hk ob M loose w)
    (hdef : defOf q r.name = some (d, kwd)) (hp : r.prog.theDef r.name = some (d.params, d.body, d.scope)) (hk : kwWritten? d.params.kwonlyargs d.params.kw_defaults = some kwd)
    (hwr : (!r.writes || r.records.isEmpty) = true) (k1 : r.wellSaid = true) (ok : (chainsOk q && opensWell r.prog && (frees r.toRowW && r.within.isEmpty)) = true) (hb : r.prog.bare) (hw : r.toRowW.promised)
    (call : WalkX q loose (XL q []) Hk.obs Hk.val r.toRowW d kwd fun f vs => PySem.call f vs) : r.Holds := by
  have left : LeftO r.prog q loose (fun s => xlAt q [] s && recOk r.toRowW.records s) Hk.obs Hk.val (M + 600) true :=
    HandSHeadRun.left_one (M := M) e (Nat.ble_eq_true_of_le (by omega)) f (Nat.ble_eq_true_of_le (by omega)) fun w os => by
      have y := run w os
      rw [show ob = fun s => Hk.obs s.abs from funext ho] at y
      simp only [HandSHeadRun.endQ_eq, HandSHeadRun.seenQ_eq]
      exact y
  exact holds_openX (r := r) (q := q) (loose := loose) (XP := XL q []) (d := d) (kwd := kwd) left (fun s y => xl_of s (Bool.and_eq_true_iff.mp y).1) XL.keeps hdef hp hk (fun s y => recFacts_of (Bool.and_eq_true_iff.mp y).2) hwr k1 ok hb hw call
end CW
end H0x
section H1x
set_option Elab.async false
set_option linter.all false
set_option maxRecDepth 100000
set_option maxHeartbeats 0
/-! What stands behind the top. -/
namespace CW
open PySem PySem.Spec PyProof.Rows L2
def dd_tupled : He.DefD := ⟨("tupled", none), "tupled", "tupled", defArgs s_tupled, defBody s_tupled, defScope s_tupled, [], []⟩
def dd_is_number : He.DefD := ⟨("is_number", none), "is_number", "is_number", defArgs s_is_number, defBody s_is_number, defScope s_is_number, [], []⟩
def dd_is_tuple : He.DefD := ⟨("is_tuple", none), "is_tuple", "is_tuple", defArgs s_is_tuple, defBody s_is_tuple, defScope s_is_tuple, [], []⟩
def dd_ascends : He.DefD := ⟨("ascends", none), "ascends", "ascends", defArgs s_ascends, defBody s_ascends, defScope s_ascends, [], []⟩
def dd_are_sizes : He.DefD := ⟨("are_sizes", none), "are_sizes", "are_sizes", defArgs s_are_sizes, defBody s_are_sizes, defScope s_are_sizes, [], []⟩
def dd_is_batch : He.DefD := ⟨("is_batch", none), "is_batch", "is_batch", defArgs s_is_batch, defBody s_is_batch, defScope s_is_batch, [], []⟩
def dd_is_row : He.DefD := ⟨("is_row", none), "is_row", "is_row", defArgs s_is_row, defBody s_is_row, defScope s_is_row, [], []⟩
def dd_hop_places : He.DefD := ⟨("hop_places", none), "hop_places", "hop_places", defArgs s_hop_places, defBody s_hop_places, defScope s_hop_places, [], []⟩
def dd_cuts : He.DefD := ⟨("cuts", none), "cuts", "cuts", defArgs s_cuts, defBody s_cuts, defScope s_cuts, [], []⟩
def dd_parts : He.DefD := ⟨("parts", none), "parts", "parts", defArgs s_parts, defBody s_parts, defScope s_parts, [], []⟩
def dd_passed : He.DefD := ⟨("passed", none), "passed", "passed", defArgs s_passed, defBody s_passed, defScope s_passed, [], []⟩
def dd_records : He.DefD := ⟨("records", none), "records", "records", defArgs s_records, defBody s_records, defScope s_records, [], []⟩
def dd_keeps : He.DefD := ⟨("keeps", none), "keeps", "keeps", defArgs s_keeps, defBody s_keeps, defScope s_keeps, [], []⟩
def dd_is_lone : He.DefD := ⟨("is_lone", none), "is_lone", "is_lone", defArgs s_is_lone, defBody s_is_lone, defScope s_is_lone, [], []⟩
def dd_joined_blocks : He.DefD := ⟨("joined_blocks", none), "joined_blocks", "joined_blocks", defArgs s_joined_blocks, defBody s_joined_blocks, defScope s_joined_blocks, [], []⟩
def dd_filling : He.DefD := ⟨("filling", none), "filling", "filling", defArgs s_filling, defBody s_filling, defScope s_filling, [], []⟩
def dd_is_block : He.DefD := ⟨("is_block", none), "is_block", "is_block", defArgs s_is_block, defBody s_is_block, defScope s_is_block, [], []⟩
def dd_is_filling : He.DefD := ⟨("is_filling", none), "is_filling", "is_filling", defArgs s_is_filling, defBody s_is_filling, defScope s_is_filling, [], []⟩
def dd_alike : He.DefD := ⟨("alike", none), "alike", "alike", defArgs s_alike, defBody s_alike, defScope s_alike, [], []⟩
def dd_blocks_of : He.DefD := ⟨("blocks_of", none), "blocks_of", "blocks_of", defArgs s_blocks_of, defBody s_blocks_of, defScope s_blocks_of, [], []⟩
def dd_holds : He.DefD := ⟨("holds", none), "holds", "holds", defArgs s_holds, defBody s_holds, defScope s_holds, [], []⟩
def dd_next_above : He.DefD := ⟨("next_above", none), "next_above", "next_above", defArgs s_next_above, defBody s_next_above, defScope s_next_above, [], []⟩
def dd_greatest_apart : He.DefD := ⟨("greatest_apart", none), "greatest_apart", "greatest_apart", defArgs s_greatest_apart, defBody s_greatest_apart, defScope s_greatest_apart, [], []⟩
def dd_parting : He.DefD := ⟨("parting", none), "parting", "parting", defArgs s_parting, defBody s_parting, defScope s_parting, [], []⟩
def dd_is_parting : He.DefD := ⟨("is_parting", none), "is_parting", "is_parting", defArgs s_is_parting, defBody s_is_parting, defScope s_is_parting, [], []⟩
def dd_number_in : He.DefD := ⟨("number_in", none), "number_in", "number_in", defArgs s_number_in, defBody s_number_in, defScope s_number_in, [], []⟩
def dd_numbers_in : He.DefD := ⟨("numbers_in", none), "numbers_in", "numbers_in", defArgs s_numbers_in, defBody s_numbers_in, defScope s_numbers_in, [], []⟩
def dd_numbers_text : He.DefD := ⟨("numbers_text", none), "numbers_text", "numbers_text", defArgs s_numbers_text, defBody s_numbers_text, defScope s_numbers_text, [], []⟩
def dd_row_text : He.DefD := ⟨("row_text", none), "row_text", "row_text", defArgs s_row_text, defBody s_row_text, defScope s_row_text, [], []⟩
def dd_row_in : He.DefD := ⟨("row_in", none), "row_in", "row_in", defArgs s_row_in, defBody s_row_in, defScope s_row_in, [], []⟩
def dd_batch_text : He.DefD := ⟨("batch_text", none), "batch_text", "batch_text", defArgs s_batch_text, defBody s_batch_text, defScope s_batch_text, [], []⟩
def dd_batch_in : He.DefD := ⟨("batch_in", none), "batch_in", "batch_in", defArgs s_batch_in, defBody s_batch_in, defScope s_batch_in, [], []⟩
def dd_block_text : He.DefD := ⟨("block_text", none), "block_text", "block_text", defArgs s_block_text, defBody s_block_text, defScope s_block_text, [], []⟩
def dd_block_in : He.DefD := ⟨("block_in", none), "block_in", "block_in", defArgs s_block_in, defBody s_block_in, defScope s_block_in, [], []⟩
def dd_filling_text : He.DefD := ⟨("filling_text", none), "filling_text", "filling_text", defArgs s_filling_text, defBody s_filling_text, defScope s_filling_text, [], []⟩
def dd_filling_in : He.DefD := ⟨("filling_in", none), "filling_in", "filling_in", defArgs s_filling_in, defBody s_filling_in, defScope s_filling_in, [], []⟩
def dd_offers_text : He.DefD := ⟨("offers_text", none), "offers_text", "offers_text", defArgs s_offers_text, defBody s_offers_text, defScope s_offers_text, [], []⟩
def dd_offer_in : He.DefD := ⟨("offer_in", none), "offer_in", "offer_in", defArgs s_offer_in, defBody s_offer_in, defScope s_offer_in, [], []⟩
def dd_offers_in : He.DefD := ⟨("offers_in", none), "offers_in", "offers_in", defArgs s_offers_in, defBody s_offers_in, defScope s_offers_in, [], []⟩
def dd_stream_text : He.DefD := ⟨("stream_text", none), "stream_text", "stream_text", defArgs s_stream_text, defBody s_stream_text, defScope s_stream_text, [], []⟩
def dd_stream_in : He.DefD := ⟨("stream_in", none), "stream_in", "stream_in", defArgs s_stream_in, defBody s_stream_in, defScope s_stream_in, [], []⟩
def dd_few_limits : He.DefD := ⟨("few_limits", none), "few_limits", "few_limits", defArgs s_few_limits, defBody s_few_limits, defScope s_few_limits, [], []⟩
def dd_fewest : He.DefD := ⟨("fewest", none), "fewest", "fewest", defArgs s_fewest, defBody s_fewest, defScope s_fewest, [], []⟩
def dd_pair_totals : He.DefD := ⟨("pair_totals", none), "pair_totals", "pair_totals", defArgs s_pair_totals, defBody s_pair_totals, defScope s_pair_totals, [], []⟩
def dd_window_starts : He.DefD := ⟨("window_starts", none), "window_starts", "window_starts", defArgs s_window_starts, defBody s_window_starts, defScope s_window_starts, [], []⟩
def dd_tests_for : He.DefD := ⟨("tests_for", none), "tests_for", "tests_for", defArgs s_tests_for, defBody s_tests_for, defScope s_tests_for, [], []⟩
def dd_answers_of : He.DefD := ⟨("answers_of", none), "answers_of", "answers_of", defArgs s_answers_of, defBody s_answers_of, defScope s_answers_of, [], []⟩
def dd_row_of : He.DefD := ⟨("row_of", none), "row_of", "row_of", defArgs s_row_of, defBody s_row_of, defScope s_row_of, [], []⟩
def dd_lowest_from : He.DefD := ⟨("lowest_from", none), "lowest_from", "lowest_from", defArgs s_lowest_from, defBody s_lowest_from, defScope s_lowest_from, [], []⟩
def dd_numbers_from : He.DefD := ⟨("numbers_from", none), "numbers_from", "numbers_from", defArgs s_numbers_from, defBody s_numbers_from, defScope s_numbers_from, [], []⟩
def dd_filling_from : He.DefD := ⟨("filling_from", none), "filling_from", "filling_from", defArgs s_filling_from, defBody s_filling_from, defScope s_filling_from, [], []⟩
def dd_is_offer : He.DefD := ⟨("is_offer", none), "is_offer", "is_offer", defArgs s_is_offer, defBody s_is_offer, defScope s_is_offer, [], []⟩
def dd_is_offers : He.DefD := ⟨("is_offers", none), "is_offers", "is_offers", defArgs s_is_offers, defBody s_is_offers, defScope s_is_offers, [], []⟩
def dd_ways_up : He.DefD := ⟨("ways_up", none), "ways_up", "ways_up", defArgs s_ways_up, defBody s_ways_up, defScope s_ways_up, [], []⟩
def dd_cheapest : He.DefD := ⟨("cheapest", none), "cheapest", "cheapest", defArgs s_cheapest, defBody s_cheapest, defScope s_cheapest, [], []⟩
def dd__law_box : He.DefD := ⟨("_law_box", none), "_law_box", "_law_box", defArgs s__law_box, defBody s__law_box, defScope s__law_box, [], []⟩
def dd__law_take : He.DefD := ⟨("_law_take", none), "_law_take", "_law_take", defArgs s__law_take, defBody s__law_take, defScope s__law_take, [], []⟩
def dd__law_cells : He.DefD := ⟨("_law_cells", none), "_law_cells", "_law_cells", defArgs s__law_cells, defBody s__law_cells, defScope s__law_cells, [], []⟩
def dd__law_of : He.DefD := ⟨("_law_of", none), "_law_of", "_law_of", defArgs s__law_of, defBody s__law_of, defScope s__law_of, [], []⟩
def dd__law_same : He.DefD := ⟨("_law_same", none), "_law_same", "_law_same", defArgs s__law_same, defBody s__law_same, defScope s__law_same, [], []⟩
def dd__law_row : He.DefD := ⟨("_law_row", none), "_law_row", "_law_row", defArgs s__law_row, defBody s__law_row, defScope s__law_row, [], []⟩
def dd__law_batch : He.DefD := ⟨("_law_batch", none), "_law_batch", "_law_batch", defArgs s__law_batch, defBody s__law_batch, defScope s__law_batch, [], []⟩
def dd__law_near : He.DefD := ⟨("_law_near", none), "_law_near", "_law_near", defArgs s__law_near, defBody s__law_near, defScope s__law_near, [], []⟩
def dd__law_rows_right : He.DefD := ⟨("_law_rows_right", none), "_law_rows_right", "_law_rows_right", defArgs s__law_rows_right, defBody s__law_rows_right, defScope s__law_rows_right, [], []⟩
def dd__law_streams_right : He.DefD := ⟨("_law_streams_right", none), "_law_streams_right", "_law_streams_right", defArgs s__law_streams_right, defBody s__law_streams_right, defScope s__law_streams_right, [], []⟩
def dd__law_offers_right : He.DefD := ⟨("_law_offers_right", none), "_law_offers_right", "_law_offers_right", defArgs s__law_offers_right, defBody s__law_offers_right, defScope s__law_offers_right, [], []⟩
def dd__law_answers_right : He.DefD := ⟨("_law_answers_right", none), "_law_answers_right", "_law_answers_right", defArgs s__law_answers_right, defBody s__law_answers_right, defScope s__law_answers_right, [], []⟩
def dd__law_parting_right : He.DefD := ⟨("_law_parting_right", none), "_law_parting_right", "_law_parting_right", defArgs s__law_parting_right, defBody s__law_parting_right, defScope s__law_parting_right, [], []⟩
def dd__law_by_hand_right : He.DefD := ⟨("_law_by_hand_right", none), "_law_by_hand_right", "_law_by_hand_right", defArgs s__law_by_hand_right, defBody s__law_by_hand_right, defScope s__law_by_hand_right, [], []⟩
def dd__law_right : He.DefD := ⟨("_law_right", none), "_law_right", "_law_right", defArgs s__law_right, defBody s__law_right, defScope s__law_right, [], []⟩
def dd_law : He.DefD := ⟨("law", none), "law", "law", defArgs s_law, defBody s_law, defScope s_law, [], []⟩
def fnL0 : List He.DefD := [dd_tupled, dd_is_number, dd_is_tuple, dd_ascends, dd_are_sizes, dd_is_batch, dd_is_row, dd_hop_places, dd_cuts, dd_parts, dd_passed, dd_records, dd_keeps, dd_is_lone, dd_joined_blocks, dd_filling, dd_is_block, dd_is_filling, dd_alike, dd_blocks_of, dd_holds, dd_next_above, dd_greatest_apart, dd_parting, dd_is_parting, dd_number_in, dd_numbers_in, dd_numbers_text, dd_row_text, dd_row_in]
def fnL1 : List He.DefD := [dd_batch_text, dd_batch_in, dd_block_text, dd_block_in, dd_filling_text, dd_filling_in, dd_offers_text, dd_offer_in, dd_offers_in, dd_stream_text, dd_stream_in, dd_few_limits, dd_fewest, dd_pair_totals, dd_window_starts, dd_tests_for, dd_answers_of, dd_row_of, dd_lowest_from, dd_numbers_from, dd_filling_from, dd_is_offer, dd_is_offers, dd_ways_up, dd_cheapest, dd__law_box, dd__law_take, dd__law_cells, dd__law_of, dd__law_same]
def fnL2 : List He.DefD := [dd__law_row, dd__law_batch, dd__law_near, dd__law_rows_right, dd__law_streams_right, dd__law_offers_right, dd__law_answers_right, dd__law_parting_right, dd__law_by_hand_right, dd__law_right, dd_law]
def fnL : List He.DefD := fnL0 ++ (fnL1 ++ (fnL2))
def faL0 : List He.Fa := [.glo "tupled", .glo "is_number", .glo "is_tuple", .glo "ascends", .glo "are_sizes", .glo "is_batch", .glo "is_row", .glo "hop_places", .glo "cuts", .glo "parts", .glo "passed", .glo "records", .glo "keeps", .glo "is_lone", .glo "joined_blocks", .glo "filling", .glo "is_block", .glo "is_filling", .glo "alike", .glo "blocks_of", .glo "holds", .glo "next_above", .glo "greatest_apart", .glo "parting", .glo "is_parting", .glo "number_in", .glo "numbers_in", .glo "numbers_text", .glo "row_text", .glo "row_in"]
def faL1 : List He.Fa := [.glo "batch_text", .glo "batch_in", .glo "block_text", .glo "block_in", .glo "filling_text", .glo "filling_in", .glo "offers_text", .glo "offer_in", .glo "offers_in", .glo "stream_text", .glo "stream_in", .glo "few_limits", .glo "fewest", .glo "pair_totals", .glo "window_starts", .glo "tests_for", .glo "answers_of", .glo "row_of", .glo "lowest_from", .glo "numbers_from", .glo "filling_from", .glo "is_offer", .glo "is_offers", .glo "ways_up", .glo "cheapest", .glo "_law_box", .glo "_law_take", .glo "_law_cells", .glo "_law_of", .glo "_law_same"]
def faL2 : List He.Fa := [.glo "_law_row", .glo "_law_batch", .glo "_law_near", .glo "_law_rows_right", .glo "_law_streams_right", .glo "_law_offers_right", .glo "_law_answers_right", .glo "_law_parting_right", .glo "_law_by_hand_right", .glo "_law_right", .glo "law", .glo "NoWay", .free "abs", .free "all", .free "any", .free "bool", .free "dict", .free "enumerate", .free "int", .free "isinstance", .free "len", .free "list", .free "max", .free "min", .free "range", .free "sorted", .free "str", .free "sum", .free "tuple", .free "zip"]
def faL3 : List He.Fa := [.free "super", .int "MOST_ITEMS" 3, .str "DIGITS" "0123456789", .int "MOST_DIGITS" 61, .str "NONE" "-", .str "ALONE" "alone", .str "BLANK" " ", .str "FEED" "\n", .int "LONE" 3]
def faL : List He.Fa := faL0 ++ (faL1 ++ (faL2 ++ (faL3)))
/-! the exception's class -/
abbrev cNW (K : PySem.W.Frag) : Addr := He.ga K "NoWay"
abbrev fNW (K : PySem.W.Frag) : Addr := He.ma K (cNW K) "__init__"
def fileB (file : PySem.Str) : Option Value → Bool
  | some (.str y _) => file == y
  | _ => false
def cellB (K : PySem.W.Frag) (C : Addr) (cc : Addr) : Bool := match K.lookup cc with
  | some ⟨_, _, .cell (some (.ref b)), _⟩ => decide (b = C)
  | _ => false
def codeB (K : PySem.W.Frag) (file : PySem.Str) : Value → Bool
  | .ref cda => PySem.W.codeIn K (.ref cda) "NoWay.__init__" && (match K.lookup cda with
    | some ⟨_, _, .fields vs, _⟩ => fileB file (vs[2]?)
    | _ => false)
  | _ => false
def closB (K : PySem.W.Frag) (C : Addr) : List (PySem.Str × Addr) → Bool
  | [(_, cc)] => cellB K C cc
  | _ => false
def initB (K : PySem.W.Frag) (file : PySem.Str) : Bool := match K.lookup (fNW K) with
  | some ⟨_, _, .func fd, _⟩ => codeB K file fd.code && closB K (cNW K) fd.closure
  | _ => false
abbrev InW : Type := Option (PySem.Str × PySem.Str × Arguments × FuncBody × Scope × Addr × List PySem.Str × Value × Value × Addr)
def initW (K : PySem.W.Frag) : InW := match K.lookup (fNW K) with
  | some ⟨_, _, .func fd, _⟩ => some (fd.name, fd.qualname, fd.params, fd.body, fd.scope, fd.globals, fd.closure.map (·.1), fd.defaults, fd.kwdefaults, fd.builtins)
  | _ => none
def initV : InW := some ("__init__", "NoWay.__init__", nwA, .stmts nwB, nwS, mainGlobals, ["__class__"], .none, .none, builtinsNs)
def nwL (K : PySem.W.Frag) : List Bool := [PySem.W.excInitIn K (cNW K) leMro "LookupError.__new__", He.eqO (PySem.W.findIn K (.ref (cNW K)) "__init__") (some (some (.ref (fNW K)))), decide (PySem.W.typeIn K (.ref (fNW K)) = some (.type "function")),
  PySem.W.keepIn K (.ref (cNW K)), decide (PySem.W.subIn K (.ref (cNW K)) (.type "BaseException") = some true), decide (PySem.W.subIn K (.ref (cNW K)) (.type "LookupError") = some true), decide (PySem.W.typeIn K (.ref (cNW K)) = some (.type "type")),
  decide (PySem.W.mroIn K (cNW K) (.ref (cNW K)) = some true), He.eqO (PySem.W.ks_superIn K (cNW K) (cNW K) "__init__") (some (some (.builtin "LookupError.__init__"))), He.eqO (PySem.W.nsIn K cStatics "thirdparty.any") (some none), decide (PySem.W.exmOne K (.ref (cNW K)) (.ref (cNW K)) = some true)]
/-- the sign that parts, and the tokens that are out -/
def tokB (K : PySem.W.Frag) (n : Nat) : Bool := match PySem.W.nsIn K mainGlobals "BLANK" with
  | some (some (.str y t)) => decide (y = " ") && (Nat.blt 0 t && Nat.blt t n)
  | _ => false
abbrev AlN : Type := (Bool × Bool) × List He.FnW × InW
def obsN (K : PySem.W.Frag) (n : Nat) (file : PySem.Str) : AlN := ((((faL.all fun f => f.ok K) && fnL.all fun d => d.ok K), (((nwL K).all id) && (initB K file && tokB K n))), fnL.map fun d => He.fnW K d.at_, initW K)
def valN : AlN := ((true, true), fnL.map He.DefD.val, initV)
theorem and3 {a b c : Bool} (h : (a && (b && c)) = true) : a = true ∧ b = true ∧ c = true := by
  cases a <;> cases b <;> cases c <;> simp_all
section
variable {K : PySem.W.Frag} {n : Nat} {file : PySem.Str} (c : obsN K n file = valN)
include c
theorem says_fact (i : Nat) {f : He.Fa} (h : faL[i]? = some f) : f.ok K = true :=
  List.all_eq_true.mp (He.ba (congrArg (fun z : AlN => z.1.1) c : ((faL.all fun f => f.ok K) && fnL.all fun d => d.ok K) = true)).1 f (List.mem_of_getElem? h)
theorem says_def (i : Nat) {d : He.DefD} (h : fnL[i]? = some d) : ∃ fd, FunD K d.name d.qual d.params d.body d.scope (d.dvs K) (d.kws K) (He.fAd K d.at_) fd := by
  have c1 := (He.ba (congrArg (fun z : AlN => z.1.1) c : ((faL.all fun f => f.ok K) && fnL.all fun d => d.ok K) = true)).2
  have e : fnL.map (fun d => He.fnW K d.at_) = fnL.map He.DefD.val := congrArg (fun z : AlN => z.2.1) c
  have e2 : (fnL.map fun d => He.fnW K d.at_)[i]? = (fnL.map He.DefD.val)[i]? := by rw [e]
  rw [List.getElem?_map, List.getElem?_map, h] at e2
  exact He.DefD.funD (Option.some.inj e2) (List.all_eq_true.mp c1 d (List.mem_of_getElem? h))
theorem says_nw (i : Nat) {b : Bool} (h : (nwL K)[i]? = some b) : b = true :=
  List.all_eq_true.mp (and3 (congrArg (fun z : AlN => z.1.2) c : (((nwL K).all id) && (initB K file && tokB K n)) = true)).1 b (List.mem_of_getElem? h)
theorem says_init : ∃ (oc : Value) (od : Option Addr) (doc pm : Value) (an : Option Addr) (cda cc : Addr) (ct : Value) (osl : Array (Option Value)),
    K.lookup (fNW K) = some ⟨oc, od, .func (PySem.W.ksFn "__init__" "NoWay.__init__" nwA nwB nwS .none .none doc pm an (.ref cda) ct cc), osl⟩ ∧ PySem.W.codeIn K (.ref cda) "NoWay.__init__" = true ∧
      (∃ (ccl : Value) (cdd : Option Addr) (vs : Array Value) (ccs : Array (Option Value)) (fl : PySem.Str) (tf : Tok), K.lookup cda = some ⟨ccl, cdd, .fields vs, ccs⟩ ∧ vs[2]? = some (.str fl tf) ∧ (file == fl) = true) ∧
      ∃ (cl : Value) (cld : Option Addr) (csl : Array (Option Value)), K.lookup cc = some ⟨cl, cld, .cell (some (.ref (cNW K))), csl⟩ := by
  have b1 := (and3 (congrArg (fun z : AlN => z.1.2) c : (((nwL K).all id) && (initB K file && tokB K n)) = true)).2.1
  have e1 : initW K = initV := congrArg (fun z : AlN => z.2.2) c
  unfold initB at b1
  unfold initW at e1
  cases q : K.lookup (fNW K) with
  | none => rw [q] at b1; cases b1
  | some o =>
    obtain ⟨oc, od, dt, osl⟩ := o
    rw [q] at b1 e1
    cases dt with
    | func fd =>
      obtain ⟨n1, n2, n3, n4, n5, n6, n7, n8, n9, n10, n11, n12, n13, n14, n15⟩ := fd
      have e2 : (some (n1, n2, n3, n4, n5, n6, n7.map (·.1), n8, n9, n15) : InW) = initV := e1
      simp only [initV, Option.some.injEq, Prod.mk.injEq] at e2
      obtain ⟨h1, h2, h3, h4, h5, h6, h7, h8, h9, h10⟩ := e2
      obtain ⟨k1, k2⟩ := He.ba (show (codeB K file n13 && closB K (cNW K) n7) = true from b1)
      have hc : ∃ cc, n7 = [(("__class__" : PySem.Str), cc)] ∧ cellB K (cNW K) cc = true := by
        cases n7 with
        | nil => cases k2
        | cons p r =>
          cases r with
          | nil =>
            obtain ⟨x, cc⟩ := p
            simp only [List.map_cons, List.map_nil, List.cons.injEq, and_true] at h7
            subst h7
            exact ⟨cc, rfl, k2⟩
          | cons p2 r => simp only [closB] at k2; cases k2
      obtain ⟨cc, hcc, k3⟩ := hc
      subst h1 h2 h3 h4 h5 h6 hcc h8 h9 h10
      cases n13 with
      | ref cda =>
        obtain ⟨k4, k5⟩ := He.ba (show (PySem.W.codeIn K (.ref cda) "NoWay.__init__" && (match K.lookup cda with
          | some ⟨_, _, .fields vs, _⟩ => fileB file (vs[2]?)
          | _ => false)) = true from k1)
        refine ⟨oc, od, n10, n11, n12, cda, cc, n14, osl, rfl, k4, ?_, ?_⟩
        · cases q2 : K.lookup cda with
          | none => rw [q2] at k5; cases k5
          | some o2 =>
            obtain ⟨c1, c2, c3, c4⟩ := o2
            rw [q2] at k5
            cases c3 with
            | fields vs =>
              have k6 : fileB file (vs[2]?) = true := k5
              cases q3 : vs[2]? with
              | none => rw [q3] at k6; cases k6
              | some v =>
                rw [q3] at k6
                cases v with
                | str y t => exact ⟨c1, c2, vs, c4, y, t, rfl, q3, k6⟩
                | _ => cases k6
            | _ => cases k5
        · unfold cellB at k3
          cases q2 : K.lookup cc with
          | none => rw [q2] at k3; cases k3
          | some o2 =>
            obtain ⟨c1, c2, c3, c4⟩ := o2
            rw [q2] at k3
            cases c3 with
            | cell v =>
              cases v with
              | none => cases k3
              | some v =>
                cases v with
                | ref b =>
                  have eb : b = cNW K := of_decide_eq_true k3
                  rw [eb]
                  exact ⟨c1, c2, c4, rfl⟩
                | _ => cases k3
            | _ => cases k3
      | _ => cases k1
    | _ => cases b1
theorem says_tok {h : Heap} {mg : PySem.Str → Option Value} (X : K.In h) (G : h.Ns mainGlobals mg) : TokB n mg := by
  have b1 := (and3 (congrArg (fun z : AlN => z.1.2) c : (((nwL K).all id) && (initB K file && tokB K n)) = true)).2.2
  unfold tokB at b1
  cases q : PySem.W.nsIn K mainGlobals "BLANK" with
  | none => rw [q] at b1; cases b1
  | some o =>
    rw [q] at b1
    cases o with
    | none => cases b1
    | some v =>
      cases v with
      | str y t =>
        obtain ⟨k1, k2, k3⟩ := and3 (show (decide (y = " ") && (Nat.blt 0 t && Nat.blt t n)) = true from b1)
        have ey : y = " " := of_decide_eq_true k1
        subst ey
        exact ⟨t, PySem.W.mg_of X G q, Nat.ne_of_gt (Nat.le_of_ble_eq_true k2), Nat.le_of_ble_eq_true k3⟩
      | _ => cases b1
end
theorem says_T {K : PySem.W.Frag} {n : Nat} {file : PySem.Str} (c : obsN K n file = valN) {h : Heap} {mg : PySem.Str → Option Value} (X : K.In h) (G : h.Ns mainGlobals mg) : Nonempty (Tx mg) := by
  obtain ⟨t_MOST_ITEMS, h_MOST_ITEMS⟩ := He.int_ok X G (says_fact c 91 (f := .int "MOST_ITEMS" 3) rfl)
  obtain ⟨t_DIGITS, h_DIGITS⟩ := He.str_ok X G (says_fact c 92 (f := .str "DIGITS" "0123456789") rfl)
  obtain ⟨t_MOST_DIGITS, h_MOST_DIGITS⟩ := He.int_ok X G (says_fact c 93 (f := .int "MOST_DIGITS" 61) rfl)
  obtain ⟨t_NONE, h_NONE⟩ := He.str_ok X G (says_fact c 94 (f := .str "NONE" "-") rfl)
  obtain ⟨t_ALONE, h_ALONE⟩ := He.str_ok X G (says_fact c 95 (f := .str "ALONE" "alone") rfl)
  obtain ⟨t_BLANK, h_BLANK⟩ := He.str_ok X G (says_fact c 96 (f := .str "BLANK" " ") rfl)
  obtain ⟨t_FEED, h_FEED⟩ := He.str_ok X G (says_fact c 97 (f := .str "FEED" "\n") rfl)
  obtain ⟨t_LONE, h_LONE⟩ := He.int_ok X G (says_fact c 98 (f := .int "LONE" 3) rfl)
  exact ⟨{ abs := He.free_ok X G (says_fact c 72 (f := .free "abs") rfl), all := He.free_ok X G (says_fact c 73 (f := .free "all") rfl), any := He.free_ok X G (says_fact c 74 (f := .free "any") rfl), bool := He.free_ok X G (says_fact c 75 (f := .free "bool") rfl), dict := He.free_ok X G (says_fact c 76 (f := .free "dict") rfl), enumerate := He.free_ok X G (says_fact c 77 (f := .free "enumerate") rfl), int := He.free_ok X G (says_fact c 78 (f := .free "int") rfl), isinstance := He.free_ok X G (says_fact c 79 (f := .free "isinstance") rfl), len := He.free_ok X G (says_fact c 80 (f := .free "len") rfl), list := He.free_ok X G (says_fact c 81 (f := .free "list") rfl), max := He.free_ok X G (says_fact c 82 (f := .free "max") rfl), min := He.free_ok X G (says_fact c 83 (f := .free "min") rfl), range := He.free_ok X G (says_fact c 84 (f := .free "range") rfl), sorted := He.free_ok X G (says_fact c 85 (f := .free "sorted") rfl), str := He.free_ok X G (says_fact c 86 (f := .free "str") rfl), sum := He.free_ok X G (says_fact c 87 (f := .free "sum") rfl), tuple := He.free_ok X G (says_fact c 88 (f := .free "tuple") rfl), zip := He.free_ok X G (says_fact c 89 (f := .free "zip") rfl), uMOST_ITEMS := _, gMOST_ITEMS := ⟨h_MOST_ITEMS, ⟨_, rfl⟩⟩, uDIGITS := _, gDIGITS := ⟨h_DIGITS, ⟨_, rfl⟩⟩, uMOST_DIGITS := _, gMOST_DIGITS := ⟨h_MOST_DIGITS, ⟨_, rfl⟩⟩, uNONE := _, gNONE := ⟨h_NONE, ⟨_, rfl⟩⟩, uALONE := _, gALONE := ⟨h_ALONE, ⟨_, rfl⟩⟩, uBLANK := _, gBLANK := ⟨h_BLANK, ⟨_, rfl⟩⟩, uFEED := _, gFEED := ⟨h_FEED, ⟨_, rfl⟩⟩, uLONE := _, gLONE := ⟨h_LONE, ⟨_, rfl⟩⟩ }⟩
theorem says_N {P : Program} {K : PySem.W.Frag} {n : Nat} (c : obsN K n P.main.file = valN) {h : Heap} {mg : PySem.Str → Option Value} (X : K.In h) (G : h.Ns mainGlobals mg) (ht : (P.main.scope.names.lookup ("super" : PySem.Str)).isSome = false) : NwTxt P K mg (cNW K) (fNW K) :=
  ⟨He.glo_ok X G (says_fact c 71 (f := .glo "NoWay") rfl), He.free_ok X G (says_fact c 90 (f := .free "super") rfl), says_nw c 0 rfl, He.eqO_ok (says_nw c 1 rfl), of_decide_eq_true (says_nw c 2 rfl), says_nw c 3 rfl, of_decide_eq_true (says_nw c 4 rfl), of_decide_eq_true (says_nw c 5 rfl), of_decide_eq_true (says_nw c 6 rfl), of_decide_eq_true (says_nw c 7 rfl), He.eqO_ok (says_nw c 8 rfl), He.eqO_ok (says_nw c 9 rfl), of_decide_eq_true (says_nw c 10 rfl), says_init c, ht⟩
theorem says_law {P : Program} {w : World} {K : PySem.W.Frag} {n : Nat} (c : obsN K n P.main.file = valN) {h : Heap} {mg : PySem.Str → Option Value} (X : K.In h) (G : h.Ns mainGlobals mg) (ht : (P.main.scope.names.lookup ("super" : PySem.Str)).isSome = false) :
    ∃ fd : FuncData, mg "law" = some (.ref (He.ga K "law")) ∧ (∀ (s : Shared) (u : Value), BindsTo s fd ⟨[u], []⟩ [("_law_script", u)]) ∧ ∀ base : Heap, FnOkn n P w K mg base 9 (He.ga K "law") fd ["_law_script"] (sp_law K) := by
  obtain ⟨T⟩ := says_T c X G
  have tk := says_tok c X G
  have TN := says_N c X G ht
  obtain ⟨fd_is_number, F_is_number⟩ : ∃ fd, FnP K "is_number" s_is_number (He.ga K "is_number") fd := says_def c 1 (d := dd_is_number) rfl
  obtain ⟨fd_is_tuple, F_is_tuple⟩ : ∃ fd, FnP K "is_tuple" s_is_tuple (He.ga K "is_tuple") fd := says_def c 2 (d := dd_is_tuple) rfl
  obtain ⟨fd_ascends, F_ascends⟩ : ∃ fd, FnP K "ascends" s_ascends (He.ga K "ascends") fd := says_def c 3 (d := dd_ascends) rfl
  obtain ⟨fd_hop_places, F_hop_places⟩ : ∃ fd, FnP K "hop_places" s_hop_places (He.ga K "hop_places") fd := says_def c 7 (d := dd_hop_places) rfl
  obtain ⟨fd_records, F_records⟩ : ∃ fd, FnP K "records" s_records (He.ga K "records") fd := says_def c 11 (d := dd_records) rfl
  obtain ⟨fd_keeps, F_keeps⟩ : ∃ fd, FnP K "keeps" s_keeps (He.ga K "keeps") fd := says_def c 12 (d := dd_keeps) rfl
  obtain ⟨fd_is_lone, F_is_lone⟩ : ∃ fd, FnP K "is_lone" s_is_lone (He.ga K "is_lone") fd := says_def c 13 (d := dd_is_lone) rfl
  obtain ⟨fd_joined_blocks, F_joined_blocks⟩ : ∃ fd, FnP K "joined_blocks" s_joined_blocks (He.ga K "joined_blocks") fd := says_def c 14 (d := dd_joined_blocks) rfl
  obtain ⟨fd_greatest_apart, F_greatest_apart⟩ : ∃ fd, FnP K "greatest_apart" s_greatest_apart (He.ga K "greatest_apart") fd := says_def c 22 (d := dd_greatest_apart) rfl
  obtain ⟨fd_number_in, F_number_in⟩ : ∃ fd, FnP K "number_in" s_number_in (He.ga K "number_in") fd := says_def c 25 (d := dd_number_in) rfl
  obtain ⟨fd_numbers_text, F_numbers_text⟩ : ∃ fd, FnP K "numbers_text" s_numbers_text (He.ga K "numbers_text") fd := says_def c 27 (d := dd_numbers_text) rfl
  obtain ⟨fd_block_text, F_block_text⟩ : ∃ fd, FnP K "block_text" s_block_text (He.ga K "block_text") fd := says_def c 32 (d := dd_block_text) rfl
  obtain ⟨fd_offers_text, F_offers_text⟩ : ∃ fd, FnP K "offers_text" s_offers_text (He.ga K "offers_text") fd := says_def c 36 (d := dd_offers_text) rfl
  obtain ⟨fd_few_limits, F_few_limits⟩ : ∃ fd, FnP K "few_limits" s_few_limits (He.ga K "few_limits") fd := says_def c 41 (d := dd_few_limits) rfl
  obtain ⟨fd_pair_totals, F_pair_totals⟩ : ∃ fd, FnP K "pair_totals" s_pair_totals (He.ga K "pair_totals") fd := says_def c 43 (d := dd_pair_totals) rfl
  obtain ⟨fd_window_starts, F_window_starts⟩ : ∃ fd, FnP K "window_starts" s_window_starts (He.ga K "window_starts") fd := says_def c 44 (d := dd_window_starts) rfl
  obtain ⟨fd_row_of, F_row_of⟩ : ∃ fd, FnP K "row_of" s_row_of (He.ga K "row_of") fd := says_def c 47 (d := dd_row_of) rfl
  obtain ⟨fd_ways_up, F_ways_up⟩ : ∃ fd, FnP K "ways_up" s_ways_up (He.ga K "ways_up") fd := says_def c 53 (d := dd_ways_up) rfl
  obtain ⟨fd__law_box, F__law_box⟩ : ∃ fd, FnP K "_law_box" s__law_box (He.ga K "_law_box") fd := says_def c 55 (d := dd__law_box) rfl
  obtain ⟨fd__law_take, F__law_take⟩ : ∃ fd, FnP K "_law_take" s__law_take (He.ga K "_law_take") fd := says_def c 56 (d := dd__law_take) rfl
  obtain ⟨fd__law_cells, F__law_cells⟩ : ∃ fd, FnP K "_law_cells" s__law_cells (He.ga K "_law_cells") fd := says_def c 57 (d := dd__law_cells) rfl
  obtain ⟨fd_are_sizes, F_are_sizes⟩ : ∃ fd, FnP K "are_sizes" s_are_sizes (He.ga K "are_sizes") fd := says_def c 4 (d := dd_are_sizes) rfl
  obtain ⟨fd_cuts, F_cuts⟩ : ∃ fd, FnP K "cuts" s_cuts (He.ga K "cuts") fd := says_def c 8 (d := dd_cuts) rfl
  obtain ⟨fd_filling, F_filling⟩ : ∃ fd, FnP K "filling" s_filling (He.ga K "filling") fd := says_def c 15 (d := dd_filling) rfl
  obtain ⟨fd_is_block, F_is_block⟩ : ∃ fd, FnP K "is_block" s_is_block (He.ga K "is_block") fd := says_def c 16 (d := dd_is_block) rfl
  obtain ⟨fd_numbers_in, F_numbers_in⟩ : ∃ fd, FnP K "numbers_in" s_numbers_in (He.ga K "numbers_in") fd := says_def c 26 (d := dd_numbers_in) rfl
  obtain ⟨fd_row_text, F_row_text⟩ : ∃ fd, FnP K "row_text" s_row_text (He.ga K "row_text") fd := says_def c 28 (d := dd_row_text) rfl
  obtain ⟨fd_batch_text, F_batch_text⟩ : ∃ fd, FnP K "batch_text" s_batch_text (He.ga K "batch_text") fd := says_def c 30 (d := dd_batch_text) rfl
  obtain ⟨fd_filling_text, F_filling_text⟩ : ∃ fd, FnP K "filling_text" s_filling_text (He.ga K "filling_text") fd := says_def c 34 (d := dd_filling_text) rfl
  obtain ⟨fd_offer_in, F_offer_in⟩ : ∃ fd, FnP K "offer_in" s_offer_in (He.ga K "offer_in") fd := says_def c 37 (d := dd_offer_in) rfl
  obtain ⟨fd_tests_for, F_tests_for⟩ : ∃ fd, FnP K "tests_for" s_tests_for (He.ga K "tests_for") fd := says_def c 45 (d := dd_tests_for) rfl
  obtain ⟨fd_lowest_from, F_lowest_from⟩ : ∃ fd, FnP K "lowest_from" s_lowest_from (He.ga K "lowest_from") fd := says_def c 48 (d := dd_lowest_from) rfl
  obtain ⟨fd_numbers_from, F_numbers_from⟩ : ∃ fd, FnP K "numbers_from" s_numbers_from (He.ga K "numbers_from") fd := says_def c 49 (d := dd_numbers_from) rfl
  obtain ⟨fd_is_offer, F_is_offer⟩ : ∃ fd, FnP K "is_offer" s_is_offer (He.ga K "is_offer") fd := says_def c 51 (d := dd_is_offer) rfl
  obtain ⟨fd__law_of, F__law_of⟩ : ∃ fd, FnP K "_law_of" s__law_of (He.ga K "_law_of") fd := says_def c 58 (d := dd__law_of) rfl
  obtain ⟨fd_tupled, F_tupled⟩ : ∃ fd, FnP K "tupled" s_tupled (He.ga K "tupled") fd := says_def c 0 (d := dd_tupled) rfl
  obtain ⟨fd_is_batch, F_is_batch⟩ : ∃ fd, FnP K "is_batch" s_is_batch (He.ga K "is_batch") fd := says_def c 5 (d := dd_is_batch) rfl
  obtain ⟨fd_is_row, F_is_row⟩ : ∃ fd, FnP K "is_row" s_is_row (He.ga K "is_row") fd := says_def c 6 (d := dd_is_row) rfl
  obtain ⟨fd_parts, F_parts⟩ : ∃ fd, FnP K "parts" s_parts (He.ga K "parts") fd := says_def c 9 (d := dd_parts) rfl
  obtain ⟨fd_is_filling, F_is_filling⟩ : ∃ fd, FnP K "is_filling" s_is_filling (He.ga K "is_filling") fd := says_def c 17 (d := dd_is_filling) rfl
  obtain ⟨fd_alike, F_alike⟩ : ∃ fd, FnP K "alike" s_alike (He.ga K "alike") fd := says_def c 18 (d := dd_alike) rfl
  obtain ⟨fd_row_in, F_row_in⟩ : ∃ fd, FnP K "row_in" s_row_in (He.ga K "row_in") fd := says_def c 29 (d := dd_row_in) rfl
  obtain ⟨fd_batch_in, F_batch_in⟩ : ∃ fd, FnP K "batch_in" s_batch_in (He.ga K "batch_in") fd := says_def c 31 (d := dd_batch_in) rfl
  obtain ⟨fd_block_in, F_block_in⟩ : ∃ fd, FnP K "block_in" s_block_in (He.ga K "block_in") fd := says_def c 33 (d := dd_block_in) rfl
  obtain ⟨fd_offers_in, F_offers_in⟩ : ∃ fd, FnP K "offers_in" s_offers_in (He.ga K "offers_in") fd := says_def c 38 (d := dd_offers_in) rfl
  obtain ⟨fd_stream_text, F_stream_text⟩ : ∃ fd, FnP K "stream_text" s_stream_text (He.ga K "stream_text") fd := says_def c 39 (d := dd_stream_text) rfl
  obtain ⟨fd_fewest, F_fewest⟩ : ∃ fd, FnP K "fewest" s_fewest (He.ga K "fewest") fd := says_def c 42 (d := dd_fewest) rfl
  obtain ⟨fd_is_offers, F_is_offers⟩ : ∃ fd, FnP K "is_offers" s_is_offers (He.ga K "is_offers") fd := says_def c 52 (d := dd_is_offers) rfl
  obtain ⟨fd__law_same, F__law_same⟩ : ∃ fd, FnP K "_law_same" s__law_same (He.ga K "_law_same") fd := says_def c 59 (d := dd__law_same) rfl
  obtain ⟨fd__law_row, F__law_row⟩ : ∃ fd, FnP K "_law_row" s__law_row (He.ga K "_law_row") fd := says_def c 60 (d := dd__law_row) rfl
  obtain ⟨fd__law_batch, F__law_batch⟩ : ∃ fd, FnP K "_law_batch" s__law_batch (He.ga K "_law_batch") fd := says_def c 61 (d := dd__law_batch) rfl
  obtain ⟨fd_passed, F_passed⟩ : ∃ fd, FnP K "passed" s_passed (He.ga K "passed") fd := says_def c 10 (d := dd_passed) rfl
  obtain ⟨fd_blocks_of, F_blocks_of⟩ : ∃ fd, FnP K "blocks_of" s_blocks_of (He.ga K "blocks_of") fd := says_def c 19 (d := dd_blocks_of) rfl
  obtain ⟨fd_is_parting, F_is_parting⟩ : ∃ fd, FnP K "is_parting" s_is_parting (He.ga K "is_parting") fd := says_def c 24 (d := dd_is_parting) rfl
  obtain ⟨fd_filling_in, F_filling_in⟩ : ∃ fd, FnP K "filling_in" s_filling_in (He.ga K "filling_in") fd := says_def c 35 (d := dd_filling_in) rfl
  obtain ⟨fd_stream_in, F_stream_in⟩ : ∃ fd, FnP K "stream_in" s_stream_in (He.ga K "stream_in") fd := says_def c 40 (d := dd_stream_in) rfl
  obtain ⟨fd_answers_of, F_answers_of⟩ : ∃ fd, FnP K "answers_of" s_answers_of (He.ga K "answers_of") fd := says_def c 46 (d := dd_answers_of) rfl
  obtain ⟨fd_cheapest, F_cheapest⟩ : ∃ fd, FnP K "cheapest" s_cheapest (He.ga K "cheapest") fd := says_def c 54 (d := dd_cheapest) rfl
  obtain ⟨fd__law_near, F__law_near⟩ : ∃ fd, FnP K "_law_near" s__law_near (He.ga K "_law_near") fd := says_def c 62 (d := dd__law_near) rfl
  obtain ⟨fd_holds, F_holds⟩ : ∃ fd, FnP K "holds" s_holds (He.ga K "holds") fd := says_def c 20 (d := dd_holds) rfl
  obtain ⟨fd_next_above, F_next_above⟩ : ∃ fd, FnP K "next_above" s_next_above (He.ga K "next_above") fd := says_def c 21 (d := dd_next_above) rfl
  obtain ⟨fd_filling_from, F_filling_from⟩ : ∃ fd, FnP K "filling_from" s_filling_from (He.ga K "filling_from") fd := says_def c 50 (d := dd_filling_from) rfl
  obtain ⟨fd__law_rows_right, F__law_rows_right⟩ : ∃ fd, FnP K "_law_rows_right" s__law_rows_right (He.ga K "_law_rows_right") fd := says_def c 63 (d := dd__law_rows_right) rfl
  obtain ⟨fd__law_streams_right, F__law_streams_right⟩ : ∃ fd, FnP K "_law_streams_right" s__law_streams_right (He.ga K "_law_streams_right") fd := says_def c 64 (d := dd__law_streams_right) rfl
  obtain ⟨fd__law_offers_right, F__law_offers_right⟩ : ∃ fd, FnP K "_law_offers_right" s__law_offers_right (He.ga K "_law_offers_right") fd := says_def c 65 (d := dd__law_offers_right) rfl
  obtain ⟨fd__law_by_hand_right, F__law_by_hand_right⟩ : ∃ fd, FnP K "_law_by_hand_right" s__law_by_hand_right (He.ga K "_law_by_hand_right") fd := says_def c 68 (d := dd__law_by_hand_right) rfl
  obtain ⟨fd_parting, F_parting⟩ : ∃ fd, FnP K "parting" s_parting (He.ga K "parting") fd := says_def c 23 (d := dd_parting) rfl
  obtain ⟨fd__law_answers_right, F__law_answers_right⟩ : ∃ fd, FnP K "_law_answers_right" s__law_answers_right (He.ga K "_law_answers_right") fd := says_def c 66 (d := dd__law_answers_right) rfl
  obtain ⟨fd__law_parting_right, F__law_parting_right⟩ : ∃ fd, FnP K "_law_parting_right" s__law_parting_right (He.ga K "_law_parting_right") fd := says_def c 67 (d := dd__law_parting_right) rfl
  obtain ⟨fd__law_right, F__law_right⟩ : ∃ fd, FnP K "_law_right" s__law_right (He.ga K "_law_right") fd := says_def c 69 (d := dd__law_right) rfl
  obtain ⟨fd_law, F_law⟩ : ∃ fd, FnP K "law" s_law (He.ga K "law") fd := says_def c 70 (d := dd_law) rfl
  have g_is_number := He.glo_ok X G (says_fact c 1 (f := .glo "is_number") rfl)
  have g_is_tuple := He.glo_ok X G (says_fact c 2 (f := .glo "is_tuple") rfl)
  have g_ascends := He.glo_ok X G (says_fact c 3 (f := .glo "ascends") rfl)
  have g_hop_places := He.glo_ok X G (says_fact c 7 (f := .glo "hop_places") rfl)
  have g_records := He.glo_ok X G (says_fact c 11 (f := .glo "records") rfl)
  have g_keeps := He.glo_ok X G (says_fact c 12 (f := .glo "keeps") rfl)
  have g_is_lone := He.glo_ok X G (says_fact c 13 (f := .glo "is_lone") rfl)
  have g_joined_blocks := He.glo_ok X G (says_fact c 14 (f := .glo "joined_blocks") rfl)
  have g_greatest_apart := He.glo_ok X G (says_fact c 22 (f := .glo "greatest_apart") rfl)
  have g_number_in := He.glo_ok X G (says_fact c 25 (f := .glo "number_in") rfl)
  have g_numbers_text := He.glo_ok X G (says_fact c 27 (f := .glo "numbers_text") rfl)
  have g_block_text := He.glo_ok X G (says_fact c 32 (f := .glo "block_text") rfl)
  have g_offers_text := He.glo_ok X G (says_fact c 36 (f := .glo "offers_text") rfl)
  have g_few_limits := He.glo_ok X G (says_fact c 41 (f := .glo "few_limits") rfl)
  have g_pair_totals := He.glo_ok X G (says_fact c 43 (f := .glo "pair_totals") rfl)
  have g_window_starts := He.glo_ok X G (says_fact c 44 (f := .glo "window_starts") rfl)
  have g_row_of := He.glo_ok X G (says_fact c 47 (f := .glo "row_of") rfl)
  have g_ways_up := He.glo_ok X G (says_fact c 53 (f := .glo "ways_up") rfl)
  have g__law_box := He.glo_ok X G (says_fact c 55 (f := .glo "_law_box") rfl)
  have g__law_take := He.glo_ok X G (says_fact c 56 (f := .glo "_law_take") rfl)
  have g__law_cells := He.glo_ok X G (says_fact c 57 (f := .glo "_law_cells") rfl)
  have g_are_sizes := He.glo_ok X G (says_fact c 4 (f := .glo "are_sizes") rfl)
  have g_cuts := He.glo_ok X G (says_fact c 8 (f := .glo "cuts") rfl)
  have g_filling := He.glo_ok X G (says_fact c 15 (f := .glo "filling") rfl)
  have g_is_block := He.glo_ok X G (says_fact c 16 (f := .glo "is_block") rfl)
  have g_numbers_in := He.glo_ok X G (says_fact c 26 (f := .glo "numbers_in") rfl)
  have g_row_text := He.glo_ok X G (says_fact c 28 (f := .glo "row_text") rfl)
  have g_batch_text := He.glo_ok X G (says_fact c 30 (f := .glo "batch_text") rfl)
  have g_filling_text := He.glo_ok X G (says_fact c 34 (f := .glo "filling_text") rfl)
  have g_offer_in := He.glo_ok X G (says_fact c 37 (f := .glo "offer_in") rfl)
  have g_tests_for := He.glo_ok X G (says_fact c 45 (f := .glo "tests_for") rfl)
  have g_lowest_from := He.glo_ok X G (says_fact c 48 (f := .glo "lowest_from") rfl)
  have g_numbers_from := He.glo_ok X G (says_fact c 49 (f := .glo "numbers_from") rfl)
  have g_is_offer := He.glo_ok X G (says_fact c 51 (f := .glo "is_offer") rfl)
  have g__law_of := He.glo_ok X G (says_fact c 58 (f := .glo "_law_of") rfl)
  have g_tupled := He.glo_ok X G (says_fact c 0 (f := .glo "tupled") rfl)
  have g_is_batch := He.glo_ok X G (says_fact c 5 (f := .glo "is_batch") rfl)
  have g_is_row := He.glo_ok X G (says_fact c 6 (f := .glo "is_row") rfl)
  have g_parts := He.glo_ok X G (says_fact c 9 (f := .glo "parts") rfl)
  have g_is_filling := He.glo_ok X G (says_fact c 17 (f := .glo "is_filling") rfl)
  have g_alike := He.glo_ok X G (says_fact c 18 (f := .glo "alike") rfl)
  have g_row_in := He.glo_ok X G (says_fact c 29 (f := .glo "row_in") rfl)
  have g_batch_in := He.glo_ok X G (says_fact c 31 (f := .glo "batch_in") rfl)
  have g_block_in := He.glo_ok X G (says_fact c 33 (f := .glo "block_in") rfl)
  have g_offers_in := He.glo_ok X G (says_fact c 38 (f := .glo "offers_in") rfl)
  have g_stream_text := He.glo_ok X G (says_fact c 39 (f := .glo "stream_text") rfl)
  have g_fewest := He.glo_ok X G (says_fact c 42 (f := .glo "fewest") rfl)
  have g_is_offers := He.glo_ok X G (says_fact c 52 (f := .glo "is_offers") rfl)
  have g__law_same := He.glo_ok X G (says_fact c 59 (f := .glo "_law_same") rfl)
  have g__law_row := He.glo_ok X G (says_fact c 60 (f := .glo "_law_row") rfl)
  have g__law_batch := He.glo_ok X G (says_fact c 61 (f := .glo "_law_batch") rfl)
  have g_passed := He.glo_ok X G (says_fact c 10 (f := .glo "passed") rfl)
  have g_blocks_of := He.glo_ok X G (says_fact c 19 (f := .glo "blocks_of") rfl)
  have g_is_parting := He.glo_ok X G (says_fact c 24 (f := .glo "is_parting") rfl)
  have g_filling_in := He.glo_ok X G (says_fact c 35 (f := .glo "filling_in") rfl)
  have g_stream_in := He.glo_ok X G (says_fact c 40 (f := .glo "stream_in") rfl)
  have g_answers_of := He.glo_ok X G (says_fact c 46 (f := .glo "answers_of") rfl)
  have g_cheapest := He.glo_ok X G (says_fact c 54 (f := .glo "cheapest") rfl)
  have g__law_near := He.glo_ok X G (says_fact c 62 (f := .glo "_law_near") rfl)
  have g_holds := He.glo_ok X G (says_fact c 20 (f := .glo "holds") rfl)
  have g_next_above := He.glo_ok X G (says_fact c 21 (f := .glo "next_above") rfl)
  have g_filling_from := He.glo_ok X G (says_fact c 50 (f := .glo "filling_from") rfl)
  have g__law_rows_right := He.glo_ok X G (says_fact c 63 (f := .glo "_law_rows_right") rfl)
  have g__law_streams_right := He.glo_ok X G (says_fact c 64 (f := .glo "_law_streams_right") rfl)
  have g__law_offers_right := He.glo_ok X G (says_fact c 65 (f := .glo "_law_offers_right") rfl)
  have g__law_by_hand_right := He.glo_ok X G (says_fact c 68 (f := .glo "_law_by_hand_right") rfl)
  have g_parting := He.glo_ok X G (says_fact c 23 (f := .glo "parting") rfl)
  have g__law_answers_right := He.glo_ok X G (says_fact c 66 (f := .glo "_law_answers_right") rfl)
  have g__law_parting_right := He.glo_ok X G (says_fact c 67 (f := .glo "_law_parting_right") rfl)
  have g__law_right := He.glo_ok X G (says_fact c 69 (f := .glo "_law_right") rfl)
  have g_law := He.glo_ok X G (says_fact c 70 (f := .glo "law") rfl)
  refine ⟨fd_law, g_law, fun s u => FunD.bindsA (ps := ["_law_script"]) F_law (fun _ _ _ _ _ _ us hl => match us, hl with | [_], _ => rfl) s [u] rfl, fun base => ?_⟩
  have O_is_number : Ok P w K mg base "is_number" 1 ["thing", "least"] (sp_is_number K) := ok_of F_is_number g_is_number (ok_is_number F_is_number T ) (fun _ _ _ _ _ _ us hl => match us, hl with | [_, _], _ => rfl)
  have O_is_tuple : Ok P w K mg base "is_tuple" 1 ["thing", "many"] (sp_is_tuple K) := ok_of F_is_tuple g_is_tuple (ok_is_tuple F_is_tuple T ) (fun _ _ _ _ _ _ us hl => match us, hl with | [_, _], _ => rfl)
  have O_ascends : Ok P w K mg base "ascends" 1 ["row"] (sp_ascends K) := ok_of F_ascends g_ascends (ok_ascends F_ascends T ) (fun _ _ _ _ _ _ us hl => match us, hl with | [_], _ => rfl)
  have O_hop_places : Ok P w K mg base "hop_places" 1 ["limit", "batch", "start", "end"] (sp_hop_places K) := ok_of F_hop_places g_hop_places (ok_hop_places F_hop_places T ) (fun _ _ _ _ _ _ us hl => match us, hl with | [_, _, _, _], _ => rfl)
  have O_records : Ok P w K mg base "records" 1 ["row"] (sp_records K) := ok_of F_records g_records (ok_records F_records T ) (fun _ _ _ _ _ _ us hl => match us, hl with | [_], _ => rfl)
  have O_keeps : Ok P w K mg base "keeps" 1 ["least", "batch"] (sp_keeps K) := ok_of F_keeps g_keeps (ok_keeps F_keeps T ) (fun _ _ _ _ _ _ us hl => match us, hl with | [_, _], _ => rfl)
  have O_is_lone : Ok P w K mg base "is_lone" 1 ["row", "least"] (sp_is_lone K) := ok_of F_is_lone g_is_lone (ok_is_lone F_is_lone T ) (fun _ _ _ _ _ _ us hl => match us, hl with | [_, _], _ => rfl)
  have O_joined_blocks : Ok P w K mg base "joined_blocks" 1 ["blocks", "least"] (sp_joined_blocks K) := ok_of F_joined_blocks g_joined_blocks (ok_joined_blocks F_joined_blocks T ) (fun _ _ _ _ _ _ us hl => match us, hl with | [_, _], _ => rfl)
  have O_greatest_apart : Ok P w K mg base "greatest_apart" 1 ["mine", "its"] (sp_greatest_apart K) := ok_of F_greatest_apart g_greatest_apart (ok_greatest_apart F_greatest_apart T ) (fun _ _ _ _ _ _ us hl => match us, hl with | [_, _], _ => rfl)
  have O_number_in : Ok P w K mg base "number_in" 1 ["word", "least"] (sp_number_in K) := ok_of F_number_in g_number_in (ok_number_in F_number_in T ) (fun _ _ _ _ _ _ us hl => match us, hl with | [_, _], _ => rfl)
  have O_numbers_text : Ok P w K mg base "numbers_text" 1 ["numbers"] (sp_numbers_text K) := ok_of F_numbers_text g_numbers_text (ok_numbers_text F_numbers_text T ) (fun _ _ _ _ _ _ us hl => match us, hl with | [_], _ => rfl)
  have O_block_text : Ok P w K mg base "block_text" 1 ["block"] (sp_block_text K) := ok_of F_block_text g_block_text (ok_block_text F_block_text T ) (fun _ _ _ _ _ _ us hl => match us, hl with | [_], _ => rfl)
  have O_offers_text : Ok P w K mg base "offers_text" 1 ["offers"] (sp_offers_text K) := ok_of F_offers_text g_offers_text (ok_offers_text F_offers_text T ) (fun _ _ _ _ _ _ us hl => match us, hl with | [_], _ => rfl)
  have O_few_limits : Ok P w K mg base "few_limits" 1 ["low", "high", "least"] (sp_few_limits K) := ok_of F_few_limits g_few_limits (ok_few_limits F_few_limits T ) (fun _ _ _ _ _ _ us hl => match us, hl with | [_, _, _], _ => rfl)
  have O_pair_totals : Ok P w K mg base "pair_totals" 1 ["top", "least"] (sp_pair_totals K) := ok_of F_pair_totals g_pair_totals (ok_pair_totals F_pair_totals T ) (fun _ _ _ _ _ _ us hl => match us, hl with | [_, _], _ => rfl)
  have O_window_starts : Ok P w K mg base "window_starts" 1 ["top", "least"] (sp_window_starts K) := ok_of F_window_starts g_window_starts (ok_window_starts F_window_starts T ) (fun _ _ _ _ _ _ us hl => match us, hl with | [_, _], _ => rfl)
  have O_row_of : Ok P w K mg base "row_of" 1 ["numbers"] (sp_row_of K) := ok_of F_row_of g_row_of (ok_row_of F_row_of T ) (fun _ _ _ _ _ _ us hl => match us, hl with | [_], _ => rfl)
  have O_ways_up : Ok P w K mg base "ways_up" 1 ["block", "least", "offers"] (sp_ways_up K) := ok_of F_ways_up g_ways_up (ok_ways_up F_ways_up T ) (fun _ _ _ _ _ _ us hl => match us, hl with | [_, _, _], _ => rfl)
  have O__law_box : Ok P w K mg base "_law_box" 1 ["_law_script", "_law_k"] (sp__law_box K) := ok_of F__law_box g__law_box (ok__law_box F__law_box T ) (fun _ _ _ _ _ _ us hl => match us, hl with | [_, _], _ => rfl)
  have O__law_take : Ok P w K mg base "_law_take" 1 ["_law_box_here", "_law_below"] (sp__law_take K) := ok_of F__law_take g__law_take (ok__law_take F__law_take T ) (fun _ _ _ _ _ _ us hl => match us, hl with | [_, _], _ => rfl)
  have O__law_cells : Ok P w K mg base "_law_cells" 1 ["_law_script", "_law_most_so"] (sp__law_cells K) := ok_of F__law_cells g__law_cells (ok__law_cells F__law_cells T ) (fun _ _ _ _ _ _ us hl => match us, hl with | [_, _], _ => rfl)
  have O_are_sizes : Ok P w K mg base "are_sizes" 2 ["thing"] (sp_are_sizes K) := ok_of F_are_sizes g_are_sizes (ok_are_sizes F_are_sizes T O_is_number) (fun _ _ _ _ _ _ us hl => match us, hl with | [_], _ => rfl)
  have O_cuts : Ok P w K mg base "cuts" 2 ["row", "batch"] (sp_cuts K) := ok_of F_cuts g_cuts (ok_cuts F_cuts T O_hop_places) (fun _ _ _ _ _ _ us hl => match us, hl with | [_, _], _ => rfl)
  have O_filling : Ok P w K mg base "filling" 2 ["row", "least"] (sp_filling K) := ok_of F_filling g_filling (ok_filling F_filling T O_records O_is_lone O_joined_blocks) (fun _ _ _ _ _ _ us hl => match us, hl with | [_, _], _ => rfl)
  have O_is_block : Ok P w K mg base "is_block" 2 ["thing"] (sp_is_block K) := ok_of F_is_block g_is_block (ok_is_block F_is_block T O_is_number O_is_tuple) (fun _ _ _ _ _ _ us hl => match us, hl with | [_], _ => rfl)
  have O_numbers_in : Ok P w K mg base "numbers_in" 2 ["string", "least"] (sp_numbers_in K) := ok_of F_numbers_in g_numbers_in (ok_numbers_in F_numbers_in T O_number_in) (fun _ _ _ _ _ _ us hl => match us, hl with | [_, _], _ => rfl)
  have O_row_text : Ok P w K mg base "row_text" 2 ["row"] (sp_row_text K) := ok_of F_row_text g_row_text (ok_row_text F_row_text T O_numbers_text) (fun _ _ _ _ _ _ us hl => match us, hl with | [_], _ => rfl)
  have O_batch_text : Ok P w K mg base "batch_text" 2 ["batch"] (sp_batch_text K) := ok_of F_batch_text g_batch_text (ok_batch_text F_batch_text T O_numbers_text) (fun _ _ _ _ _ _ us hl => match us, hl with | [_], _ => rfl)
  have O_filling_text : Ok P w K mg base "filling_text" 2 ["filling"] (sp_filling_text K) := ok_of F_filling_text g_filling_text (ok_filling_text F_filling_text T O_block_text) (fun _ _ _ _ _ _ us hl => match us, hl with | [_], _ => rfl)
  have O_offer_in : Ok P w K mg base "offer_in" 2 ["word"] (sp_offer_in K) := ok_of F_offer_in g_offer_in (ok_offer_in F_offer_in T O_number_in) (fun _ _ _ _ _ _ us hl => match us, hl with | [_], _ => rfl)
  have O_tests_for : Ok P w K mg base "tests_for" 2 ["top", "least"] (sp_tests_for K) := ok_of F_tests_for g_tests_for (ok_tests_for F_tests_for T O_pair_totals O_window_starts) (fun _ _ _ _ _ _ us hl => match us, hl with | [_, _], _ => rfl)
  have O_lowest_from : Ok P w K mg base "lowest_from" 2 ["top", "least", "answers"] (sp_lowest_from K) := ok_of F_lowest_from g_lowest_from (ok_lowest_from F_lowest_from T O_pair_totals O_window_starts) (fun _ _ _ _ _ _ us hl => match us, hl with | [_, _, _], _ => rfl)
  have O_numbers_from : Ok P w K mg base "numbers_from" 2 ["lowest", "top", "least", "answers"] (sp_numbers_from K) := ok_of F_numbers_from g_numbers_from (ok_numbers_from F_numbers_from T O_window_starts) (fun _ _ _ _ _ _ us hl => match us, hl with | [_, _, _, _], _ => rfl)
  have O_is_offer : Ok P w K mg base "is_offer" 2 ["thing"] (sp_is_offer K) := ok_of F_is_offer g_is_offer (ok_is_offer F_is_offer T O_is_number O_is_tuple) (fun _ _ _ _ _ _ us hl => match us, hl with | [_], _ => rfl)
  have O__law_of : Ok P w K mg base "_law_of" 2 ["_law_box_here", "_law_some"] (sp__law_of K) := ok_of F__law_of g__law_of (ok__law_of F__law_of T O__law_take) (fun _ _ _ _ _ _ us hl => match us, hl with | [_, _], _ => rfl)
  have N_tupled : Ok P w K mg base "tupled" 0 ["thing"] spNo := ok_of F_tupled g_tupled ⟨fun _ _ _ _ h => h.elim, fun _ _ _ _ _ _ _ _ _ _ _ _ _ h => h.elim⟩ (fun _ _ _ _ _ _ us hl => match us, hl with | [_], _ => rfl)
  have O0_tupled : Ok P w K mg base "tupled" 1 ["thing"] (sp_tup0 K) := ok_of F_tupled g_tupled (ok_tupled0 F_tupled T N_tupled) (fun _ _ _ _ _ _ us hl => match us, hl with | [_], _ => rfl)
  have O1_tupled : Ok P w K mg base "tupled" 2 ["thing"] (sp_tup1 K) := ok_of F_tupled g_tupled (ok_tupled1 F_tupled T O0_tupled) (fun _ _ _ _ _ _ us hl => match us, hl with | [_], _ => rfl)
  have O_tupled : Ok P w K mg base "tupled" 3 ["thing"] (sp_tupled K) := ok_of F_tupled g_tupled (ok_tupled2 F_tupled T O1_tupled) (fun _ _ _ _ _ _ us hl => match us, hl with | [_], _ => rfl)
  have O_is_batch : Ok P w K mg base "is_batch" 3 ["thing"] (sp_is_batch K) := ok_of F_is_batch g_is_batch (ok_is_batch F_is_batch T O_are_sizes) (fun _ _ _ _ _ _ us hl => match us, hl with | [_], _ => rfl)
  have O_is_row : Ok P w K mg base "is_row" 3 ["thing"] (sp_is_row K) := ok_of F_is_row g_is_row (ok_is_row F_is_row T O_are_sizes) (fun _ _ _ _ _ _ us hl => match us, hl with | [_], _ => rfl)
  have O_parts : Ok P w K mg base "parts" 3 ["row", "batch"] (sp_parts K) := ok_of F_parts g_parts (ok_parts F_parts T O_cuts) (fun _ _ _ _ _ _ us hl => match us, hl with | [_, _], _ => rfl)
  have O_is_filling : Ok P w K mg base "is_filling" 3 ["least", "thing"] (sp_is_filling K) := ok_of F_is_filling g_is_filling (ok_is_filling F_is_filling T O_is_block) (fun _ _ _ _ _ _ us hl => match us, hl with | [_, _], _ => rfl)
  have O_alike : Ok P w K mg base "alike" 3 ["row", "other", "least"] (sp_alike K) := ok_of F_alike g_alike (ok_alike F_alike T O_filling) (fun _ _ _ _ _ _ us hl => match us, hl with | [_, _, _], _ => rfl)
  have O_row_in : Ok P w K mg base "row_in" 3 ["string"] (sp_row_in K) := ok_of F_row_in g_row_in (ok_row_in F_row_in T O_numbers_in) (fun _ _ _ _ _ _ us hl => match us, hl with | [_], _ => rfl)
  have O_batch_in : Ok P w K mg base "batch_in" 3 ["string"] (sp_batch_in K) := ok_of F_batch_in g_batch_in (ok_batch_in F_batch_in T O_numbers_in) (fun _ _ _ _ _ _ us hl => match us, hl with | [_], _ => rfl)
  have O_block_in : Okn n P w K mg base "block_in" 3 ["word"] (sp_block_in K) := ⟨_, _, ok_block_in F_block_in T tk O_numbers_in, g_block_in, F_block_in.kp, F_block_in.bindsN (fun _ _ _ _ _ _ us hl => match us, hl with | [_], _ => rfl)⟩
  have O_offers_in : Ok P w K mg base "offers_in" 3 ["string"] (sp_offers_in K) := ok_of F_offers_in g_offers_in (ok_offers_in F_offers_in T O_ascends O_offer_in) (fun _ _ _ _ _ _ us hl => match us, hl with | [_], _ => rfl)
  have O_stream_text : Ok P w K mg base "stream_text" 3 ["stream"] (sp_stream_text K) := ok_of F_stream_text g_stream_text (ok_stream_text F_stream_text T O_batch_text) (fun _ _ _ _ _ _ us hl => match us, hl with | [_], _ => rfl)
  have O_fewest : Ok P w K mg base "fewest" 3 ["row", "least"] (sp_fewest K) := ok_of F_fewest g_fewest (ok_fewest F_fewest T O_few_limits O_filling) (fun _ _ _ _ _ _ us hl => match us, hl with | [_, _], _ => rfl)
  have O_is_offers : Ok P w K mg base "is_offers" 3 ["thing"] (sp_is_offers K) := ok_of F_is_offers g_is_offers (ok_is_offers F_is_offers T O_ascends O_is_offer) (fun _ _ _ _ _ _ us hl => match us, hl with | [_], _ => rfl)
  have N__law_same : Ok P w K mg base "_law_same" 0 ["_law_got", "_law_due"] spNo := ok_of F__law_same g__law_same ⟨fun _ _ _ _ h => h.elim, fun _ _ _ _ _ _ _ _ _ _ _ _ _ h => h.elim⟩ (fun _ _ _ _ _ _ us hl => match us, hl with | [_, _], _ => rfl)
  have O0__law_same : Ok P w K mg base "_law_same" 1 ["_law_got", "_law_due"] (sp_same0 K) := ok_of F__law_same g__law_same (ok__law_same0 F__law_same T N__law_same) (fun _ _ _ _ _ _ us hl => match us, hl with | [_, _], _ => rfl)
  have O1__law_same : Ok P w K mg base "_law_same" 2 ["_law_got", "_law_due"] (sp_same1 K) := ok_of F__law_same g__law_same (ok__law_same1 F__law_same T O0__law_same) (fun _ _ _ _ _ _ us hl => match us, hl with | [_, _], _ => rfl)
  have O__law_same : Ok P w K mg base "_law_same" 3 ["_law_got", "_law_due"] (sp__law_same K) := ok_of F__law_same g__law_same (ok__law_same2 F__law_same T O1__law_same) (fun _ _ _ _ _ _ us hl => match us, hl with | [_, _], _ => rfl)
  have O__law_row : Ok P w K mg base "_law_row" 3 ["_law_box_here", "_law_least_so", "_law_at_most"] (sp__law_row K) := ok_of F__law_row g__law_row (ok__law_row F__law_row T O__law_take O__law_of) (fun _ _ _ _ _ _ us hl => match us, hl with | [_, _, _], _ => rfl)
  have O__law_batch : Ok P w K mg base "_law_batch" 3 ["_law_box_here", "_law_least_so", "_law_at_most"] (sp__law_batch K) := ok_of F__law_batch g__law_batch (ok__law_batch F__law_batch T O__law_take O__law_of) (fun _ _ _ _ _ _ us hl => match us, hl with | [_, _, _], _ => rfl)
  have O_passed : Ok P w K mg base "passed" 4 ["row", "stream"] (sp_passed K) := ok_of F_passed g_passed (ok_passed F_passed T O_parts) (fun _ _ _ _ _ _ us hl => match us, hl with | [_, _], _ => rfl)
  have O_blocks_of : Ok P w K mg base "blocks_of" 4 ["blocks"] (sp_blocks_of K) := ok_of F_blocks_of g_blocks_of (ok_blocks_of F_blocks_of T O_tupled) (fun _ _ _ _ _ _ us hl => match us, hl with | [_], _ => rfl)
  have O_is_parting : Ok P w K mg base "is_parting" 4 ["row", "other", "least", "thing"] (sp_is_parting K) := ok_of F_is_parting g_is_parting (ok_is_parting F_is_parting T O_keeps O_is_batch O_parts) (fun _ _ _ _ _ _ us hl => match us, hl with | [_, _, _, _], _ => rfl)
  have O_filling_in : Okn n P w K mg base "filling_in" 4 ["least", "string"] (sp_filling_in K) := ⟨_, _, ok_filling_in F_filling_in T tk O_is_filling O_block_in, g_filling_in, F_filling_in.kp, F_filling_in.bindsN (fun _ _ _ _ _ _ us hl => match us, hl with | [_, _], _ => rfl)⟩
  have O_stream_in : Ok P w K mg base "stream_in" 4 ["string"] (sp_stream_in K) := ok_of F_stream_in g_stream_in (ok_stream_in F_stream_in T O_batch_in) (fun _ _ _ _ _ _ us hl => match us, hl with | [_], _ => rfl)
  have O_answers_of : Ok P w K mg base "answers_of" 4 ["row", "tests"] (sp_answers_of K) := ok_of F_answers_of g_answers_of (ok_answers_of F_answers_of T O_parts) (fun _ _ _ _ _ _ us hl => match us, hl with | [_, _], _ => rfl)
  have O_cheapest : OkX P w K mg base "cheapest" 4 ["row", "least", "offers"] (sp_cheapest K (cNW K)) := ⟨_, _, ok_cheapest F_cheapest T TN O_ways_up O_filling O_tupled, g_cheapest, F_cheapest.kp, F_cheapest.bindsN (fun _ _ _ _ _ _ us hl => match us, hl with | [_, _, _], _ => rfl)⟩
  have O__law_near : Ok P w K mg base "_law_near" 4 ["_law_box_here", "_law_row_so", "_law_least_so"] (sp__law_near K) := ok_of F__law_near g__law_near (ok__law_near F__law_near T O__law_take O__law_of O__law_row) (fun _ _ _ _ _ _ us hl => match us, hl with | [_, _, _], _ => rfl)
  have O_holds : Ok P w K mg base "holds" 5 ["blocks", "number"] (sp_holds K) := ok_of F_holds g_holds (ok_holds F_holds T O_blocks_of) (fun _ _ _ _ _ _ us hl => match us, hl with | [_, _], _ => rfl)
  have O_next_above : Ok P w K mg base "next_above" 5 ["blocks", "number"] (sp_next_above K) := ok_of F_next_above g_next_above (ok_next_above F_next_above T O_blocks_of) (fun _ _ _ _ _ _ us hl => match us, hl with | [_, _], _ => rfl)
  have O_filling_from : Ok P w K mg base "filling_from" 5 ["top", "least", "answers"] (sp_filling_from K) := ok_of F_filling_from g_filling_from (ok_filling_from F_filling_from T O_pair_totals O_row_of O_filling O_tests_for O_lowest_from O_numbers_from O_answers_of) (fun _ _ _ _ _ _ us hl => match us, hl with | [_, _, _], _ => rfl)
  have O__law_rows_right : Okn n P w K mg base "_law_rows_right" 5 ["_law_row_so", "_law_least_so"] (sp__law_rows_right K) := ⟨_, _, ok__law_rows_right F__law_rows_right T tk O_records O_filling O_row_text O_filling_text O_is_row O_is_filling O_alike O_row_in O_fewest O__law_same O_filling_in, g__law_rows_right, F__law_rows_right.kp, F__law_rows_right.bindsN (fun _ _ _ _ _ _ us hl => match us, hl with | [_, _], _ => rfl)⟩
  have O__law_streams_right : Ok P w K mg base "_law_streams_right" 5 ["_law_box_here", "_law_row_so", "_law_least_so"] (sp__law_streams_right K) := ok_of F__law_streams_right g__law_streams_right (ok__law_streams_right F__law_streams_right T O__law_take O_batch_text O_parts O_stream_text O__law_batch O_passed O_stream_in) (fun _ _ _ _ _ _ us hl => match us, hl with | [_, _, _], _ => rfl)
  have O__law_offers_right : Ok P w K mg base "_law_offers_right" 5 ["_law_box_here", "_law_row_so", "_law_least_so"] (sp__law_offers_right K) := ok_of F__law_offers_right g__law_offers_right (ok__law_offers_right F__law_offers_right T O_offers_text O__law_take O_row_text O_alike O_row_in O_offers_in O_is_offers TN O_cheapest O__law_near) (fun _ _ _ _ _ _ us hl => match us, hl with | [_, _, _], _ => rfl)
  have O__law_by_hand_right : Ok P w K mg base "_law_by_hand_right" 5 [] (sp__law_by_hand_right K) := ok_of F__law_by_hand_right g__law_by_hand_right (ok__law_by_hand_right F__law_by_hand_right T O_filling O_row_text O_filling_text O_row_in O_batch_in O_offers_in O_stream_text O_fewest O_passed O_is_parting O_stream_in TN O_cheapest) (fun _ _ _ _ _ _ us hl => match us, hl with | [], _ => rfl)
  have O_parting : Ok P w K mg base "parting" 6 ["row", "other", "least"] (sp_parting K) := ok_of F_parting g_parting (ok_parting F_parting T O_greatest_apart O_filling O_holds O_next_above) (fun _ _ _ _ _ _ us hl => match us, hl with | [_, _, _], _ => rfl)
  have O__law_answers_right : Ok P w K mg base "_law_answers_right" 6 ["_law_box_here"] (sp__law_answers_right K) := ok_of F__law_answers_right g__law_answers_right (ok__law_answers_right F__law_answers_right T O__law_take O_filling O_filling_text O_tests_for O_answers_of O_filling_from) (fun _ _ _ _ _ _ us hl => match us, hl with | [_], _ => rfl)
  have O__law_parting_right : Ok P w K mg base "_law_parting_right" 7 ["_law_box_here", "_law_row_so", "_law_least_so"] (sp__law_parting_right K) := ok_of F__law_parting_right g__law_parting_right (ok__law_parting_right F__law_parting_right T O_filling O_batch_text O_filling_text O_batch_in O_is_parting O__law_near O_parting) (fun _ _ _ _ _ _ us hl => match us, hl with | [_, _, _], _ => rfl)
  have O__law_right : Okn n P w K mg base "_law_right" 8 ["_law_box_here"] (sp__law_right K) := ⟨_, _, ok__law_right F__law_right T tk O__law_take O__law_row O__law_rows_right O__law_streams_right O__law_offers_right O__law_answers_right O__law_parting_right, g__law_right, F__law_right.kp, F__law_right.bindsN (fun _ _ _ _ _ _ us hl => match us, hl with | [_], _ => rfl)⟩
  exact ok_law F_law T tk O__law_box O__law_cells O__law_by_hand_right O__law_right
/-! the run -/
abbrev RowN : PySem.W.OpenRow := PySem.W.OpenLaw.row PySem.Challenge.rw_cutsmaller_k66_whole_told_as_texts
def gloN (g : Addr → Option Obj) : List Addr := match g mainGlobals with
  | some o => He.refsO o
  | none => []
def bhdN (g : Addr → Option Obj) (a : Addr) : List Addr := match g a with
  | some ⟨_, _, .func fd, _⟩ => He.refV fd.code
  | some ⟨_, _, .cls cd, _⟩ => [cd.ns]
  | _ => []
def valsN (g : Addr → Option Obj) (a : Addr) : List Addr := match g a with
  | some ⟨_, _, .dict es _, _⟩ => es.toList.flatMap fun e => He.refV e.val
  | _ => []
def metN (g : Addr → Option Obj) (a : Addr) : List Addr := match g a with
  | some ⟨_, _, .func fd, _⟩ => He.refV fd.code ++ fd.closure.map (·.2)
  | _ => []
def as2N (g : Addr → Option Obj) (a1 : List Addr) (a2 : List Addr) (a3 : List Addr) : List Addr := cStatics :: mainGlobals :: (a1 ++ (a2 ++ (a3 ++ a3.flatMap (metN g))))
def as1N (g : Addr → Option Obj) (a1 : List Addr) (a2 : List Addr) : List Addr := as2N g a1 a2 (a2.flatMap (valsN g))
def as0N (g : Addr → Option Obj) (a1 : List Addr) : List Addr := as1N g a1 (a1.flatMap (bhdN g))
def asN (g : Addr → Option Obj) : List Addr := as0N g (gloN g)
def frN (g : Addr → Option Obj) : PySem.W.Frag := He.frG g (asN g)
def hkN : PySem.W.Hook where
  α := AlN
  obs := fun s => obsN (frN s.heap.get?) s.toks RowN.prog.main.file
  val := fun _ => valN
  says := fun _ _ => True
  of := fun _ _ _ => trivial
  keeps := fun _ _ _ _ _ => trivial
def obN (s : PySem.W.SharedT) : AlN := obsN (frN (HandSHeadRun.getT s)) s.toks RowN.prog.main.file
theorem obN_eq (s : PySem.W.SharedT) : obN s = hkN.obs s.abs := by
  have e : HandSHeadRun.getT s = s.abs.heap.get? := funext (HandSHeadRun.getT_eq s)
  show obsN (frN (HandSHeadRun.getT s)) s.toks _ = obsN (frN s.abs.heap.get?) s.toks _
  rw [e]
def looseN0 : List PySem.Str := ["NoWay", "Contradiction", "BadText", "BadLine", "tupled", "is_number", "is_tuple", "ascends", "are_sizes", "is_batch", "is_row", "hop_places", "cuts", "parts", "passed", "records", "MOST_ITEMS", "keeps", "is_lone", "joined_blocks", "filling", "is_block", "is_filling", "alike", "blocks_of", "holds", "next_above", "greatest_apart", "parting", "is_parting"]
def looseN1 : List PySem.Str := ["DIGITS", "MOST_DIGITS", "NONE", "ALONE", "BLANK", "FEED", "number_in", "numbers_in", "numbers_text", "row_text", "row_in", "batch_text", "batch_in", "block_text", "block_in", "filling_text", "filling_in", "offers_text", "offer_in", "offers_in", "stream_text", "stream_in", "few_limits", "fewest", "LONE", "pair_totals", "window_starts", "tests_for", "answers_of", "row_of"]
def looseN2 : List PySem.Str := ["lowest_from", "numbers_from", "filling_from", "is_offer", "is_offers", "ways_up", "cheapest", "_law_box", "_law_take", "_law_cells", "_law_of", "_law_same", "_law_row", "_law_batch", "_law_near", "_law_rows_right", "_law_streams_right", "_law_offers_right", "_law_answers_right", "_law_parting_right", "_law_by_hand_right", "_law_right"]
def looseN : List PySem.Str := looseN0 ++ (looseN1 ++ (looseN2))
end CW
end H1x
section H2x
set_option Elab.async false
set_option linter.all false
set_option maxRecDepth 100000
set_option maxHeartbeats 0
namespace CW
open PySem PySem.W PySem.Calls PyProof.Rows
theorem run_top (w : World) : HandSHeadRun.RunEq RowN (view RowN.prog [91]) hkN obN 20000 looseN w := by
  intro os
  kernel_rfl
end CW
end H2x
set_option Elab.async false
set_option linter.all false
set_option maxRecDepth 100000
set_option maxHeartbeats 0
open PySem PySem.W PySem.Calls PyProof.Rows
theorem PySem.Challenge.cw_cutsmaller_k66_whole_told_as_texts_holds : PySem.Challenge.rw_cutsmaller_k66_whole_told_as_texts.Holds := by
  w_on; o_law
  refine CW.head_tok (r := OpenLaw.row PySem.Challenge.rw_cutsmaller_k66_whole_told_as_texts) (q := view (OpenLaw.row PySem.Challenge.rw_cutsmaller_k66_whole_told_as_texts).prog [91]) (Hk := CW.hkN) (ob := CW.obN) (M := 20000) (loose := CW.looseN) (d := HandSHeadRun.topDef (OpenLaw.row PySem.Challenge.rw_cutsmaller_k66_whole_told_as_texts).prog 91) (kwd := []) CW.obN_eq
    (by kernel_rfl) (fun s => by kernel_rfl) CW.run_top (by kernel_rfl) (by kernel_rfl) (by kernel_rfl) (by rfl) (by first | assumption | decide +kernel) (by decide +kernel) ⟨rfl, rfl, rfl, rfl, rfl, by decide +kernel⟩ ?hw ?hc
  case hw => w_witness2
  case hc =>
    refine CW.walk_tok (l := PySem.Challenge.rw_cutsmaller_k66_whole_told_as_texts) (n := 63) (k := 9) (x := "_law_script") rfl (by decide) (by kernel_rfl) ⟨rfl, by decide, by decide⟩ ?F
    intro w mg fa z h Y keep G hmg0
    have hmg : mg ("law" : PySem.Str) = some (.ref fa) := by
      have e : (HandSHeadRun.topDef (OpenLaw.row PySem.Challenge.rw_cutsmaller_k66_whole_told_as_texts).prog 91).name = ("law" : PySem.Str) := by kernel_rfl
      rw [← e]
      exact hmg0
    have KX : (CW.frN z.heap.get?).In h := fun a o e => keep a o (He.frG_at _ e)
    obtain ⟨fd, g, hb, hF⟩ := CW.says_law (P := PySem.Challenge.rw_cutsmaller_k66_whole_told_as_texts.prog) (w := w) Y KX G (by decide +kernel)
    rw [hmg] at g
    cases g
    refine ⟨_, fd, CW.sp_law _, KX, hb, fun H a ns hl _ hS => ⟨ns, hl, .cons (.lst hS (CW.isAll_ints ns)) .nil, fun v H' d _ hv hd => ?_⟩, fun base _ _ => hF base⟩
    subst hd
    cases hv
    rfl

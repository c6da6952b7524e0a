import PyProof.Rows.All
import Wide.All
import OpenK.AllK
import Wide.FinOn
import HandS.ForMost
import HandS.More
import HandS.Deep
import HandS.Zip
import HandS.Style
import HandS.IsInst
import HandS.Conv
import HandS.Walk
import KE.GoesNew
import PySem.Challenge.RW_retroact_k33_whole_plans_of_least_cost
import HandS.Evl
set_option Elab.async false
set_option linter.all false
set_option maxRecDepth 100000
set_option maxHeartbeats 4000000
namespace RP
/-! ### sums over 0 .. n - 1 -/
def sumTo : Nat → (Nat → Int) → Int
  | 0, _ => 0
  | n + 1, f => sumTo n f + f n
theorem sumTo_congr : ∀ {n : Nat} {f g : Nat → Int}, (∀ i, i < n → f i = g i) → sumTo n f = sumTo n g
  | 0, _, _, _ => rfl
  | n + 1, f, g, h => by
    show sumTo n f + f n = sumTo n g + g n
    rw [sumTo_congr fun i hi => h i (Nat.lt_succ_of_lt hi), h n (Nat.lt_succ_self n)]
theorem sumTo_add : ∀ (n : Nat) (f g : Nat → Int), sumTo n (fun i => f i + g i) = sumTo n f + sumTo n g
  | 0, _, _ => rfl
  | n + 1, f, g => by
    show sumTo n (fun i => f i + g i) + (f n + g n) = (sumTo n f + f n) + (sumTo n g + g n)
    rw [sumTo_add n f g]; omega
theorem sumTo_le : ∀ {n : Nat} {f g : Nat → Int}, (∀ i, i < n → f i ≤ g i) → sumTo n f ≤ sumTo n g
  | 0, _, _, _ => Int.le_refl _
  | n + 1, f, g, h => by
    have a := sumTo_le (f := f) (g := g) fun i hi => h i (Nat.lt_succ_of_lt hi)
    have b := h n (Nat.lt_succ_self n)
    show sumTo n f + f n ≤ sumTo n g + g n
    omega
theorem sumTo_zero : ∀ n : Nat, sumTo n (fun _ => 0) = 0
  | 0 => rfl
  | n + 1 => by show sumTo n (fun _ => 0) + 0 = 0; rw [sumTo_zero n]; rfl
theorem sumTo_nonneg {n : Nat} {f : Nat → Int} (h : ∀ i, i < n → 0 ≤ f i) : 0 ≤ sumTo n f := by
  have := sumTo_le (f := fun _ => 0) h
  rw [sumTo_zero] at this; exact this
theorem sumTo_ge : ∀ {n : Nat} {f : Nat → Int}, (∀ i, i < n → 0 ≤ f i) → ∀ k, k < n → f k ≤ sumTo n f
  | 0, _, _, k, hk => absurd hk (Nat.not_lt_zero k)
  | n + 1, f, h, k, hk => by
    show f k ≤ sumTo n f + f n
    have hn := h n (Nat.lt_succ_self n)
    have h0 : 0 ≤ sumTo n f := sumTo_nonneg fun i hi => h i (Nat.lt_succ_of_lt hi)
    by_cases e : k = n
    · subst e; omega
    · have := sumTo_ge (f := f) (fun i hi => h i (Nat.lt_succ_of_lt hi)) k (by omega)
      omega
theorem sumTo_swap : ∀ (n m : Nat) (f : Nat → Nat → Int), sumTo n (fun i => sumTo m (f i)) = sumTo m (fun j => sumTo n (fun i => f i j))
  | 0, m, f => by
    show (0 : Int) = sumTo m (fun _ => 0)
    rw [sumTo_zero]
  | n + 1, m, f => by
    show sumTo n (fun i => sumTo m (f i)) + sumTo m (f n) = sumTo m (fun j => sumTo n (fun i => f i j) + f n j)
    rw [sumTo_add, sumTo_swap n m f]
theorem sumTo_split (n : Nat) : ∀ (m : Nat) (f : Nat → Int), sumTo (n + m) f = sumTo n f + sumTo m (fun i => f (n + i))
  | 0, f => by show sumTo n f = sumTo n f + 0; omega
  | m + 1, f => by
    show sumTo (n + m) f + f (n + m) = sumTo n f + (sumTo m (fun i => f (n + i)) + f (n + m))
    rw [sumTo_split n m f]; omega
theorem sumTo_single : ∀ {n k : Nat} (f : Nat → Int), k < n → sumTo n (fun i => if i = k then f i else 0) = f k
  | 0, k, _, h => absurd h (Nat.not_lt_zero k)
  | n + 1, k, f, h => by
    show sumTo n (fun i => if i = k then f i else 0) + (if n = k then f n else 0) = f k
    by_cases e : n = k
    · subst e
      rw [if_pos rfl, sumTo_congr (g := fun _ => 0) fun i hi => if_neg (by omega), sumTo_zero]; omega
    · rw [if_neg e, sumTo_single f (by omega)]; omega
/-- the sum over the places that a test picks, one at most -/
theorem sumTo_pick {n k : Nat} {p : Nat → Prop} [DecidablePred p] (f : Nat → Int) (hk : k < n) (h : ∀ i, i < n → (p i ↔ i = k)) : sumTo n (fun i => if p i then f i else 0) = f k := by
  rw [← sumTo_single f hk]
  refine sumTo_congr fun i hi => ?_
  by_cases e : i = k
  · rw [if_pos ((h i hi).mpr e), if_pos e]
  · rw [if_neg (fun q => e ((h i hi).mp q)), if_neg e]
theorem sum_sumTo : ∀ (l : List Int), l.sum = sumTo l.length (fun i => l.getD i 0) := by
  intro l
  have gen : ∀ (l : List Int), ∀ (n : Nat), n = l.length → l.sum = sumTo n (fun i => l.getD i 0) := by
    intro l
    induction l with
    | nil => intro n h; subst h; rfl
    | cons a l ih =>
      intro n h; subst h
      have q := sumTo_split 1 l.length (fun i => (a :: l).getD i 0)
      have e : 1 + l.length = (a :: l).length := by rw [List.length_cons]; omega
      rw [e] at q
      rw [q, List.sum_cons, ih _ rfl]
      have z : sumTo 1 (fun i => (a :: l).getD i 0) = a := by show 0 + a = a; omega
      rw [z]
      have : sumTo l.length (fun i => l.getD i 0) = sumTo l.length (fun i => (a :: l).getD (1 + i) 0) :=
        sumTo_congr fun i _ => by
          have : 1 + i = i + 1 := by omega
          rw [this]; rfl
      rw [this]
  exact gen l _ rfl
/-! ### pigeonholes -/
theorem cover_len : ∀ {n : Nat} {l : List Nat}, (∀ c, c < n → c ∈ l) → n ≤ l.length
  | 0, _, _ => Nat.zero_le _
  | n + 1, l, h => by
    have hm := h n (Nat.lt_succ_self n)
    have := cover_len (n := n) (l := l.erase n) fun c hc => (List.mem_erase_of_ne (by omega)).mpr (h c (by omega))
    rw [List.length_erase_of_mem hm] at this
    have : 0 < l.length := List.length_pos_of_mem hm
    omega
theorem nodup_len : ∀ {n : Nat} {l : List Nat}, l.Nodup → (∀ c, c ∈ l → c < n) → l.length ≤ n
  | 0, l, _, h => by
    cases l with
    | nil => exact Nat.le_refl _
    | cons a l => exact absurd (h a (List.mem_cons_self ..)) (Nat.not_lt_zero a)
  | n + 1, l, nd, h => by
    have := nodup_len (n := n) (l := l.erase n) (nd.erase n) fun c hc => by
      have := (List.Nodup.mem_erase_iff nd).mp hc
      have := h c this.2
      omega
    rw [List.length_erase] at this
    split at this <;> omega
theorem missing {n : Nat} {l : List Nat} (h : l.length < n) : ∃ c, c < n ∧ c ∉ l := by
  refine Classical.byContradiction fun q => ?_
  have : ∀ c, c < n → c ∈ l := fun c hc => Classical.byContradiction fun z => q ⟨c, hc, z⟩
  have := cover_len this
  omega
end RP
namespace RP
/-! ### the law's search and what bounds it -/
section
variable {α : Type}
def tailSum (m : Nat) (d : Nat → Int) (used : List Nat) : Int := (((List.range m).filter fun j => decide (j ∉ used)).map d).sum
/-- one turn of the search's loop -/
def leastStep (ch : Nat → Option Int) (used : List Nat) (rec : Nat → Int) (best : Int) (j : Nat) : Int :=
  if j ∈ used then best else match ch j with
    | none => best
    | some c => if c + rec j < best then c + rec j else best
def leastM (m : Nat) (d : Nat → Int) (u : α → Int) (ch : α → Nat → Option Int) : List α → List Nat → Int
  | [], used => tailSum m d used
  | a :: rest, used => (List.range m).foldl (leastStep (ch a) used fun j => leastM m d u ch rest (used ++ [j])) (u a + leastM m d u ch rest used)

theorem tailSum_eq (m : Nat) (d : Nat → Int) (used : List Nat) : tailSum m d used = sumTo m fun j => if j ∈ used then 0 else d j := by
  unfold tailSum
  induction m with
  | zero => rfl
  | succ m ih =>
    rw [List.range_succ, List.filter_append, List.map_append, List.sum_append, ih]
    show _ = sumTo m (fun j => if j ∈ used then 0 else d j) + (if m ∈ used then 0 else d m)
    by_cases e : m ∈ used
    · simp [e]
    · simp [e]
theorem foldl_le {β : Type} (f : Int → β → Int) (hf : ∀ b x, f b x ≤ b) : ∀ (l : List β) (b : Int), l.foldl f b ≤ b
  | [], b => Int.le_refl b
  | x :: l, b => Int.le_trans (foldl_le f hf l (f b x)) (hf b x)
theorem foldl_mem {β : Type} (f : Int → β → Int) (hf : ∀ b x, f b x ≤ b) {x : β} {v : Int} (hx : ∀ b, f b x ≤ v) : ∀ {l : List β} {b : Int}, x ∈ l → l.foldl f b ≤ v
  | y :: l, b, h => by
    rcases List.mem_cons.mp h with e | h
    · subst e
      exact Int.le_trans (foldl_le f hf l (f b x)) (hx b)
    · exact foldl_mem (l := l) (b := f b y) f hf hx h
theorem foldl_ge {β : Type} (f : Int → β → Int) {v : Int} : ∀ {l : List β} {b : Int}, v ≤ b → (∀ b x, x ∈ l → v ≤ b → v ≤ f b x) → v ≤ l.foldl f b
  | [], b, h, _ => h
  | x :: l, b, h, hf => foldl_ge (l := l) (b := f b x) f (hf b x (List.mem_cons_self ..) h) fun b y hy => hf b y (List.mem_cons_of_mem _ hy)
theorem leastStep_le (ch : Nat → Option Int) (used : List Nat) (rec : Nat → Int) (b : Int) (j : Nat) : leastStep ch used rec b j ≤ b := by
  unfold leastStep
  split
  · exact Int.le_refl b
  · split
    · exact Int.le_refl b
    · split <;> omega
theorem leastStep_at {ch : Nat → Option Int} {used : List Nat} {rec : Nat → Int} {j : Nat} {c : Int} (h : j ∉ used) (hc : ch j = some c) (b : Int) : leastStep ch used rec b j ≤ c + rec j := by
  unfold leastStep
  rw [if_neg h, hc]
  show (if c + rec j < b then c + rec j else b) ≤ c + rec j
  split <;> omega
/-- a fair paper's sum is below the search's answer -/
theorem weak {m : Nat} {d r : Nat → Int} {u : α → Int} {ch : α → Nat → Option Int} (hR : ∀ j, j < m → r j ≤ d j) :
    ∀ (there : List α) (ls : List Int) (used : List Nat), there.length = ls.length →
      (∀ (i : Nat) (a : α) (l : Int), there[i]? = some a → ls[i]? = some l → l ≤ u a ∧ ∀ j, j < m → ∀ c, ch a j = some c → l + r j ≤ c) →
      ls.sum + sumTo m (fun j => if j ∈ used then 0 else r j) ≤ leastM m d u ch there used
  | [], [], used, _, _ => by
    show 0 + _ ≤ tailSum m d used
    rw [tailSum_eq]
    have := sumTo_le (n := m) (f := fun j => if j ∈ used then 0 else r j) (g := fun j => if j ∈ used then 0 else d j) fun i hi => by
      by_cases e : i ∈ used
      · simp [e]
      · simp [e]; exact hR i hi
    omega
  | [], _ :: _, _, h, _ => by simp at h
  | _ :: _, [], _, h, _ => by simp at h
  | a :: there, l :: ls, used, hl, h => by
    have hl' : there.length = ls.length := by simpa using hl
    have h0 := h 0 a l rfl rfl
    have hr : ∀ (i : Nat) (b : α) (k : Int), there[i]? = some b → ls[i]? = some k → k ≤ u b ∧ ∀ j, j < m → ∀ c, ch b j = some c → k + r j ≤ c := fun i b k hb hk => h (i + 1) b k (by simpa using hb) (by simpa using hk)
    have ih := fun used' => weak hR there ls used' hl' hr
    show (l :: ls).sum + _ ≤ List.foldl _ _ _
    rw [List.sum_cons]
    refine foldl_ge _ ?_ fun b j hj hb => ?_
    · have := ih used; omega
    · have hj' : j < m := List.mem_range.mp hj
      unfold leastStep
      split
      · exact hb
      · rename_i hu
        split
        · exact hb
        · rename_i c hc
          split
          · have q := ih (used ++ [j])
            have s : sumTo m (fun k => if k ∈ used then 0 else r k) = sumTo m (fun k => if k ∈ used ++ [j] then 0 else r k) + r j := by
              have e : sumTo m (fun k => if k ∈ used then 0 else r k) = sumTo m (fun k => (if k ∈ used ++ [j] then 0 else r k) + (if k = j then r k else 0)) :=
                sumTo_congr fun k _ => by
                  by_cases e1 : k = j
                  · subst e1; simp [hu]
                  · by_cases e2 : k ∈ used
                    · simp [e1, e2]
                    · simp [e1, e2]
              rw [e, sumTo_add, sumTo_single _ hj']
            have := h0.2 j hj' c hc
            dsimp only
            omega
          · exact hb
/-- a plan by its choices: for each call there the one here that it is changed into, if any -/
def Good (m : Nat) (ch : α → Nat → Option Int) : List α → List (Option Nat) → List Nat → Prop
  | [], [], _ => True
  | _ :: t, none :: cs, used => Good m ch t cs used
  | a :: t, some j :: cs, used => (j < m ∧ j ∉ used ∧ (ch a j).isSome = true) ∧ Good m ch t cs (used ++ [j])
  | _, _, _ => False
def planCost (m : Nat) (d : Nat → Int) (u : α → Int) (ch : α → Nat → Option Int) : List α → List (Option Nat) → List Nat → Int
  | a :: t, none :: cs, used => u a + planCost m d u ch t cs used
  | a :: t, some j :: cs, used => (ch a j).getD 0 + planCost m d u ch t cs (used ++ [j])
  | _, _, used => tailSum m d used
theorem least_le {m : Nat} {d : Nat → Int} {u : α → Int} {ch : α → Nat → Option Int} : ∀ (there : List α) (cs : List (Option Nat)) (used : List Nat), Good m ch there cs used → leastM m d u ch there used ≤ planCost m d u ch there cs used
  | [], [], used, _ => Int.le_refl _
  | [], _ :: _, _, h => h.elim
  | _ :: _, [], _, h => h.elim
  | a :: t, none :: cs, used, h => by
    have ih := least_le (d := d) (u := u) t cs used h
    have := foldl_le _ (leastStep_le (ch a) used fun j => leastM m d u ch t (used ++ [j])) (List.range m) (u a + leastM m d u ch t used)
    show List.foldl _ _ _ ≤ u a + planCost m d u ch t cs used
    omega
  | a :: t, some j :: cs, used, h => by
    obtain ⟨⟨hj, hu, hc⟩, hg⟩ := h
    have ih := least_le (d := d) (u := u) t cs (used ++ [j]) hg
    obtain ⟨c, e⟩ := Option.isSome_iff_exists.mp hc
    show List.foldl _ _ _ ≤ (ch a j).getD 0 + planCost m d u ch t cs (used ++ [j])
    rw [e]
    show _ ≤ c + planCost m d u ch t cs (used ++ [j])
    have := foldl_mem _ (leastStep_le (ch a) used fun j => leastM m d u ch t (used ++ [j])) (leastStep_at hu e) (b := u a + leastM m d u ch t used) (List.mem_range.mpr hj)
    omega
end
end RP
namespace RP
/-! ### the assignment -/
def upF {β : Type} (f : Nat → β) (i : Nat) (v : β) : Nat → β := fun k => if k = i then v else f k
theorem upF_at {β : Type} (f : Nat → β) (i : Nat) (v : β) : upF f i v i = v := if_pos rfl
theorem upF_ne {β : Type} {f : Nat → β} {i k : Nat} {v : β} (h : k ≠ i) : upF f i v k = f k := if_neg h
structure Asg (N k : Nat) (C : Nat → Nat → Int) (L R : Nat → Int) (ro : Nat → Option Nat) : Prop where
  feas : ∀ r c, r < N → c < N → L r + R c ≤ C r c
  tight : ∀ c r, c < N → ro c = some r → L r + R c = C r c
  inj : ∀ c c' r, c < N → c' < N → ro c = some r → ro c' = some r → c = c'
  dom : ∀ c r, c < N → ro c = some r → r < k
  sur : ∀ r, r < k → ∃ c, c < N ∧ ro c = some r
structure Tree (N k : Nat) (C : Nat → Nat → Int) (L R : Nat → Int) (ro : Nat → Option Nat) (rows cols : List Nat) (bf : Nat → Option Nat) : Prop where
  asg : Asg N k C L R ro
  hk : k < N
  len : rows.length = cols.length + 1
  root : rows[0]? = some k
  next : ∀ (i c : Nat), cols[i]? = some c → c < N ∧ ∃ r, rows[i + 1]? = some r ∧ ro c = some r
  nd : cols.Nodup
  par : ∀ (i c : Nat), cols[i]? = some c → ∃ (i' r : Nat), i' ≤ i ∧ rows[i']? = some r ∧ bf c = some r ∧ L r + R c = C r c
section
variable {N k : Nat} {C : Nat → Nat → Int} {L R : Nat → Int} {ro bf : Nat → Option Nat} {rows cols : List Nat}
theorem Tree.start (A : Asg N k C L R ro) (hk : k < N) : Tree N k C L R ro [k] [] (fun _ => none) :=
  ⟨A, hk, rfl, rfl, fun i c h => by simp at h, List.nodup_nil, fun i c h => by simp at h⟩
theorem Tree.row (T : Tree N k C L R ro rows cols bf) {i r : Nat} (h : rows[i]? = some r) : (i = 0 ∧ r = k) ∨ ∃ i' c, i = i' + 1 ∧ cols[i']? = some c ∧ c < N ∧ ro c = some r ∧ r < k := by
  cases i with
  | zero => left; rw [T.root] at h; exact ⟨rfl, (Option.some.inj h).symm⟩
  | succ i =>
    right
    have hl : i + 1 < rows.length := (List.getElem?_eq_some_iff.mp h).1
    have hc : i < cols.length := by have := T.len; omega
    obtain ⟨c, e⟩ : ∃ c, cols[i]? = some c := ⟨_, List.getElem?_eq_getElem hc⟩
    obtain ⟨cn, r', hr, ho⟩ := T.next i c e
    rw [h] at hr
    cases hr
    exact ⟨i, c, rfl, e, cn, ho, T.asg.dom c r cn ho⟩
theorem Tree.rowLe (T : Tree N k C L R ro rows cols bf) {r : Nat} (h : r ∈ rows) : r ≤ k := by
  obtain ⟨i, hi⟩ := List.getElem?_of_mem h
  rcases T.row hi with ⟨_, e⟩ | ⟨_, _, _, _, _, _, e⟩ <;> omega
theorem nodup_at {l : List Nat} (nd : l.Nodup) {i j a : Nat} (hi : l[i]? = some a) (hj : l[j]? = some a) : i = j := by
  obtain ⟨li, ei⟩ := List.getElem?_eq_some_iff.mp hi
  obtain ⟨lj, ej⟩ := List.getElem?_eq_some_iff.mp hj
  have P := List.pairwise_iff_getElem.mp nd
  rcases Nat.lt_trichotomy i j with h | h | h
  · exact absurd (ei.trans ej.symm) (P i j li lj h)
  · exact h
  · exact absurd (ej.trans ei.symm) (P j i lj li h)
theorem Tree.rowIx (T : Tree N k C L R ro rows cols bf) {i j r : Nat} (hi : rows[i]? = some r) (hj : rows[j]? = some r) : i = j := by
  rcases T.row hi with ⟨e1, e2⟩ | ⟨i', c, e1, hc, cn, ho, lt⟩
  · rcases T.row hj with ⟨f1, f2⟩ | ⟨j', c', f1, hc', cn', ho', lt'⟩
    · omega
    · omega
  · rcases T.row hj with ⟨f1, f2⟩ | ⟨j', c', f1, hc', cn', ho', lt'⟩
    · omega
    · have := T.asg.inj c c' r cn cn' ho ho'
      subst this
      have := nodup_at T.nd hc hc'
      omega
theorem Tree.rowsNd (T : Tree N k C L R ro rows cols bf) : rows.Nodup := by
  refine List.pairwise_iff_getElem.mpr fun i j hi hj lt e => ?_
  have := T.rowIx (i := i) (j := j) (r := rows[i]) (List.getElem?_eq_getElem hi) (by rw [e]; exact List.getElem?_eq_getElem hj)
  omega
theorem Tree.colsLt (T : Tree N k C L R ro rows cols bf) : cols.length < N := by
  have := nodup_len (n := k + 1) T.rowsNd fun c hc => Nat.lt_succ_of_le (T.rowLe hc)
  have := T.len
  have := T.hk
  omega
/-- an assigned pair is in the tree with both or with none -/
theorem Tree.both (T : Tree N k C L R ro rows cols bf) {c r : Nat} (hc : c < N) (h : ro c = some r) : c ∈ cols ↔ r ∈ rows := by
  constructor
  · intro m
    obtain ⟨i, hi⟩ := List.getElem?_of_mem m
    obtain ⟨_, r', hr, ho⟩ := T.next i c hi
    rw [h] at ho; cases ho
    exact List.mem_of_getElem? hr
  · intro m
    obtain ⟨i, hi⟩ := List.getElem?_of_mem m
    have lt := T.asg.dom c r hc h
    rcases T.row hi with ⟨_, e⟩ | ⟨i', c', _, hc', cn', ho', _⟩
    · omega
    · have := T.asg.inj c c' r hc cn' h ho'
      subst this
      exact List.mem_of_getElem? hc'
theorem Tree.shift (T : Tree N k C L R ro rows cols bf) {s : Int} (h0 : 0 ≤ s) (hm : ∀ r c, r ∈ rows → c < N → c ∉ cols → s ≤ C r c - L r - R c) :
    Tree N k C (fun r => if r ∈ rows then L r + s else L r) (fun c => if c ∈ cols then R c - s else R c) ro rows cols bf where
  asg := {
    feas := fun r c hr hc => by
      have f := T.asg.feas r c hr hc
      by_cases e1 : r ∈ rows
      · by_cases e2 : c ∈ cols
        · rw [if_pos e1, if_pos e2]; omega
        · have := hm r c e1 hc e2
          rw [if_pos e1, if_neg e2]; omega
      · by_cases e2 : c ∈ cols
        · rw [if_neg e1, if_pos e2]; omega
        · rw [if_neg e1, if_neg e2]; exact f
    tight := fun c r hc h => by
      have t := T.asg.tight c r hc h
      have b := T.both hc h
      by_cases e1 : r ∈ rows
      · rw [if_pos e1, if_pos (b.mpr e1)]; omega
      · rw [if_neg e1, if_neg (fun q => e1 (b.mp q))]; exact t
    inj := T.asg.inj
    dom := T.asg.dom
    sur := T.asg.sur }
  hk := T.hk
  len := T.len
  root := T.root
  next := T.next
  nd := T.nd
  par := fun i c h => by
    obtain ⟨i', r, hle, hr, hb, t⟩ := T.par i c h
    refine ⟨i', r, hle, hr, hb, ?_⟩
    rw [if_pos (List.mem_of_getElem? hr), if_pos (List.mem_of_getElem? h)]; omega
theorem Tree.grow (T : Tree N k C L R ro rows cols bf) {r c r2 : Nat} (hr : r ∈ rows) (hc : c < N) (hn : c ∉ cols) (t : L r + R c = C r c) (ho : ro c = some r2) :
    Tree N k C L R ro (rows ++ [r2]) (cols ++ [c]) (upF bf c (some r)) where
  asg := T.asg
  hk := T.hk
  len := by rw [List.length_append, List.length_append, T.len]; rfl
  root := by
    have : 0 < rows.length := by have := T.len; omega
    rw [List.getElem?_append_left this]; exact T.root
  next := fun i c' h => by
    have hl := T.len
    by_cases e : i < cols.length
    · rw [List.getElem?_append_left e] at h
      obtain ⟨a, r', hr', b⟩ := T.next i c' h
      exact ⟨a, r', by rw [List.getElem?_append_left (by omega)]; exact hr', b⟩
    · have l := (List.getElem?_eq_some_iff.mp h).1
      rw [List.length_append, List.length_singleton] at l
      have ei : i = cols.length := by omega
      subst ei
      rw [List.getElem?_append_right (Nat.le_refl _)] at h
      have : c = c' := by simpa using h
      subst this
      refine ⟨hc, r2, ?_, ho⟩
      rw [List.getElem?_append_right (by omega), hl]
      simp
  nd := by
    refine List.nodup_append.mpr ⟨T.nd, by simp, fun a ha b hb => ?_⟩
    have : b = c := by simpa using hb
    subst this
    intro e; subst e; exact hn ha
  par := fun i c' h => by
    have hl := T.len
    by_cases e : i < cols.length
    · rw [List.getElem?_append_left e] at h
      obtain ⟨i', r', hle, hr', hb, t'⟩ := T.par i c' h
      have ne : c' ≠ c := fun q => hn (q ▸ List.mem_of_getElem? h)
      exact ⟨i', r', hle, by rw [List.getElem?_append_left (by omega)]; exact hr', by rw [upF_ne ne]; exact hb, t'⟩
    · have l := (List.getElem?_eq_some_iff.mp h).1
      rw [List.length_append, List.length_singleton] at l
      have ei : i = cols.length := by omega
      subst ei
      rw [List.getElem?_append_right (Nat.le_refl _)] at h
      have : c = c' := by simpa using h
      subst this
      obtain ⟨i', hi'⟩ := List.getElem?_of_mem hr
      have li := (List.getElem?_eq_some_iff.mp hi').1
      exact ⟨i', r, by omega, by rw [List.getElem?_append_left li]; exact hi', upF_at .., t⟩
/-- what column_of finds -/
def IsCol (N : Nat) (ro : Nat → Option Nat) (r : Nat) (o : Option Nat) : Prop :=
  (o = none ∧ ∀ c, c < N → ro c ≠ some r) ∨ ∃ c, o = some c ∧ c < N ∧ ro c = some r
/-- on the way back: c is to be assigned, what stands there does not count -/
structure Way (N k : Nat) (C : Nat → Nat → Int) (L R : Nat → Int) (rows cols : List Nat) (bf ro : Nat → Option Nat) (c j : Nat) : Prop where
  hc : c < N
  ats : ∃ r : Nat, rows[j]? = some r ∧ bf c = some r ∧ L r + R c = C r c
  below : ∀ i : Nat, i < j → ∀ c' : Nat, cols[i]? = some c' → c' ≠ c ∧ ∃ r : Nat, rows[i + 1]? = some r ∧ ro c' = some r
  stale : ro c = none ∨ ∃ (j' r : Nat), j ≤ j' ∧ rows[j' + 1]? = some r ∧ ro c = some r
  inj : ∀ (c1 c2 r : Nat), c1 < N → c2 < N → c1 ≠ c → c2 ≠ c → ro c1 = some r → ro c2 = some r → c1 = c2
  tight : ∀ (c1 r : Nat), c1 < N → c1 ≠ c → ro c1 = some r → L r + R c1 = C r c1
  img : ∀ r : Nat, (∃ c1 : Nat, c1 < N ∧ c1 ≠ c ∧ ro c1 = some r) ↔ r < k
theorem Tree.way (T : Tree N k C L R ro rows cols bf) {r c : Nat} (hr : r ∈ rows) (hc : c < N) (hn : c ∉ cols) (t : L r + R c = C r c) (ho : ro c = none) :
    ∃ j, j < N ∧ Way N k C L R rows cols (upF bf c (some r)) ro c j := by
  obtain ⟨j, hj⟩ := List.getElem?_of_mem hr
  have lj := (List.getElem?_eq_some_iff.mp hj).1
  have := T.colsLt
  have := T.len
  refine ⟨j, by omega, hc, ⟨r, hj, upF_at .., t⟩, fun i _ c' h => ⟨fun q => hn (q ▸ List.mem_of_getElem? h), (T.next i c' h).2⟩, .inl ho, fun c1 c2 r h1 h2 _ _ => T.asg.inj c1 c2 r h1 h2, fun c1 r h1 _ => T.asg.tight c1 r h1, fun r' => ⟨?_, fun h => ?_⟩⟩
  · rintro ⟨c1, h1, _, e⟩
    exact T.asg.dom c1 r' h1 e
  · obtain ⟨c1, h1, e⟩ := T.asg.sur r' h
    exact ⟨c1, h1, fun q => (by rw [q, ho] at e; cases e), e⟩
theorem Way.turn {ro0 bf0 : Nat → Option Nat} {c0 r0 : Nat} (T : Tree N k C L R ro0 rows cols bf0) {c j r : Nat} {o : Option Nat} (hn0 : c0 ∉ cols) (W : Way N k C L R rows cols (upF bf0 c0 (some r0)) ro c j) (hb : upF bf0 c0 (some r0) c = some r) (ho : IsCol N ro r o) :
    (o = none ∧ Asg N (k + 1) C L R (upF ro c (some r))) ∨ ∃ c' j', o = some c' ∧ j' < j ∧ Way N k C L R rows cols (upF bf0 c0 (some r0)) (upF ro c (some r)) c' j' := by
  obtain ⟨r', hr, hb', t⟩ := W.ats
  rw [hb] at hb'
  cases hb'
  have nst : ro c ≠ some r := by
    intro q
    rcases W.stale with e | ⟨j', r', hle, hr', e⟩
    · rw [e] at q; cases q
    · rw [e] at q; cases q
      have := T.rowIx hr hr'
      omega
  rcases T.row hr with ⟨e0, ek⟩ | ⟨j1, c', e1, hc', cn', _, lt⟩
  · left
    subst e0 ek
    have nocol : ∀ c1, c1 < N → ro c1 ≠ some r := fun c1 h1 q => by
      by_cases e : c1 = c
      · subst e; exact nst q
      · have := (W.img r).mp ⟨c1, h1, e, q⟩
        omega
    rcases ho with ⟨ho, _⟩ | ⟨c1, _, h1, q⟩
    · refine ⟨ho, T.asg.feas, fun c1 r1 h1 q => ?_, fun c1 c2 r1 h1 h2 q1 q2 => ?_, fun c1 r1 h1 q => ?_, fun r1 h => ?_⟩
      · by_cases e : c1 = c
        · subst e; rw [upF_at] at q; cases q; exact t
        · rw [upF_ne e] at q; exact W.tight c1 r1 h1 e q
      · by_cases e1 : c1 = c
        · subst e1
          rw [upF_at] at q1
          cases q1
          by_cases e2 : c2 = c1
          · exact e2.symm
          · rw [upF_ne e2] at q2
            exact absurd q2 (nocol c2 h2)
        · rw [upF_ne e1] at q1
          by_cases e2 : c2 = c
          · subst e2
            rw [upF_at] at q2
            cases q2
            exact absurd q1 (nocol c1 h1)
          · rw [upF_ne e2] at q2
            exact W.inj c1 c2 r1 h1 h2 e1 e2 q1 q2
      · by_cases e : c1 = c
        · subst e; rw [upF_at] at q; cases q; omega
        · rw [upF_ne e] at q
          have := (W.img r1).mp ⟨c1, h1, e, q⟩
          omega
      · by_cases e : r1 = r
        · subst e; exact ⟨c, W.hc, upF_at ..⟩
        · obtain ⟨c1, h1, ne, q⟩ := (W.img r1).mpr (by omega)
          exact ⟨c1, h1, by rw [upF_ne ne]; exact q⟩
    · exact absurd q (nocol c1 h1)
  · right
    subst e1
    obtain ⟨ne, r', hr', ro'⟩ := W.below j1 (Nat.lt_succ_self _) c' hc'
    rw [hr] at hr'
    cases hr'
    have only : ∀ c1, c1 < N → ro c1 = some r → c1 = c' := fun c1 h1 q => by
      have n1 : c1 ≠ c := fun e => by subst e; exact nst q
      exact W.inj c1 c' r h1 cn' n1 ne q ro'
    rcases ho with ⟨_, h⟩ | ⟨c1, ho, h1, q⟩
    · exact absurd ro' (h c' cn')
    · have := only c1 h1 q
      subst this
      obtain ⟨i', r2, hle, hr2, hb2, t2⟩ := T.par j1 c1 hc'
      have n0 : c1 ≠ c0 := fun e => hn0 (e ▸ List.mem_of_getElem? hc')
      refine ⟨c1, i', ho, by omega, h1, ⟨r2, hr2, by rw [upF_ne n0]; exact hb2, t2⟩, fun i hi c2 h2 => ?_, .inr ⟨j1, r, hle, hr, by rw [upF_ne ne]; exact ro'⟩, fun c2 c3 r3 h2 h3 n2 n3 q2 q3 => ?_, fun c2 r3 h2 n2 q2 => ?_, fun r3 => ⟨?_, fun h => ?_⟩⟩
      · obtain ⟨nn, r3, hr3, ho3⟩ := W.below i (by omega) c2 h2
        refine ⟨fun e => ?_, r3, hr3, by rw [upF_ne nn]; exact ho3⟩
        subst e
        have := nodup_at T.nd h2 hc'
        omega
      · by_cases e2 : c2 = c
        · subst e2
          rw [upF_at] at q2
          cases q2
          by_cases e3 : c3 = c2
          · exact e3.symm
          · rw [upF_ne e3] at q3
            exact absurd (only c3 h3 q3) n3
        · rw [upF_ne e2] at q2
          by_cases e3 : c3 = c
          · subst e3
            rw [upF_at] at q3
            cases q3
            exact absurd (only c2 h2 q2) n2
          · rw [upF_ne e3] at q3
            exact W.inj c2 c3 r3 h2 h3 e2 e3 q2 q3
      · by_cases e2 : c2 = c
        · subst e2; rw [upF_at] at q2; cases q2; exact t
        · rw [upF_ne e2] at q2; exact W.tight c2 r3 h2 e2 q2
      · rintro ⟨c2, h2, n2, q2⟩
        by_cases e2 : c2 = c
        · subst e2; rw [upF_at] at q2; cases q2; exact lt
        · rw [upF_ne e2] at q2; exact (W.img r3).mp ⟨c2, h2, e2, q2⟩
      · obtain ⟨c2, h2, n2, q2⟩ := (W.img r3).mpr h
        by_cases e2 : c2 = c1
        · subst e2
          rw [ro'] at q2
          cases q2
          exact ⟨c, W.hc, fun e => ne e.symm, upF_at ..⟩
        · exact ⟨c2, h2, e2, by rw [upF_ne n2]; exact q2⟩
end
end RP
namespace RP
/-! ### a plan's cost by its choices -/
section
variable {α : Type}
def usedOf (cs : List (Option Nat)) : List Nat := cs.filterMap id
theorem usedOf_none (cs : List (Option Nat)) : usedOf (none :: cs) = usedOf cs := rfl
theorem usedOf_some (j : Nat) (cs : List (Option Nat)) : usedOf (some j :: cs) = j :: usedOf cs := rfl
theorem mem_usedOf {j : Nat} {cs : List (Option Nat)} : j ∈ usedOf cs ↔ some j ∈ cs := by
  unfold usedOf
  rw [List.mem_filterMap]
  constructor
  · rintro ⟨a, h, e⟩
    have e' : a = some j := e
    rw [← e']; exact h
  · intro h
    exact ⟨some j, h, rfl⟩
def ccost (u : α → Int) (ch : α → Nat → Option Int) (a : α) : Option Nat → Int
  | none => u a
  | some j => (ch a j).getD 0
def headCost (u : α → Int) (ch : α → Nat → Option Int) : List α → List (Option Nat) → Int
  | a :: t, o :: cs => ccost u ch a o + headCost u ch t cs
  | _, _ => 0
theorem planCost_eq {m : Nat} {d : Nat → Int} {u : α → Int} {ch : α → Nat → Option Int} : ∀ (there : List α) (cs : List (Option Nat)) (used : List Nat), there.length = cs.length →
    planCost m d u ch there cs used = headCost u ch there cs + tailSum m d (used ++ usedOf cs)
  | [], [], used, _ => by
    show tailSum m d used = 0 + tailSum m d (used ++ [])
    rw [List.append_nil]; omega
  | [], _ :: _, _, h => by simp at h
  | _ :: _, [], _, h => by simp at h
  | a :: t, none :: cs, used, h => by
    have ih := planCost_eq (m := m) (d := d) (u := u) (ch := ch) t cs used (by simpa using h)
    show u a + planCost m d u ch t cs used = (u a + headCost u ch t cs) + _
    rw [ih, usedOf_none]; omega
  | a :: t, some j :: cs, used, h => by
    have ih := planCost_eq (m := m) (d := d) (u := u) (ch := ch) t cs (used ++ [j]) (by simpa using h)
    show (ch a j).getD 0 + planCost m d u ch t cs (used ++ [j]) = ((ch a j).getD 0 + headCost u ch t cs) + _
    rw [ih, usedOf_some, List.append_assoc]
    show _ = _ + tailSum m d (used ++ j :: usedOf cs)
    have : [j] ++ usedOf cs = j :: usedOf cs := rfl
    rw [this]; omega
theorem headCost_sumTo {u : α → Int} {ch : α → Nat → Option Int} : ∀ (there : List α) (cs : List (Option Nat)) (f : Nat → Int), there.length = cs.length →
    (∀ (i : Nat) (a : α) (o : Option Nat), there[i]? = some a → cs[i]? = some o → ccost u ch a o = f i) → headCost u ch there cs = sumTo there.length f
  | [], [], _, _, _ => rfl
  | [], _ :: _, _, h, _ => by simp at h
  | _ :: _, [], _, h, _ => by simp at h
  | a :: t, o :: cs, f, h, hf => by
    have ih := headCost_sumTo (u := u) (ch := ch) t cs (fun i => f (i + 1)) (by simpa using h) fun i b p hb hp => hf (i + 1) b p (by simpa using hb) (by simpa using hp)
    have h0 := hf 0 a o rfl rfl
    show ccost u ch a o + headCost u ch t cs = sumTo (t.length + 1) f
    have s := sumTo_split 1 t.length f
    rw [Nat.add_comm 1] at s
    rw [s, h0, ih]
    have z : sumTo 1 f = f 0 := by show 0 + f 0 = f 0; omega
    rw [z, sumTo_congr (f := fun i => f (i + 1)) (g := fun i => f (1 + i)) fun i _ => by rw [Nat.add_comm]]
theorem good_of {m : Nat} {ch : α → Nat → Option Int} : ∀ (there : List α) (cs : List (Option Nat)) (used : List Nat), there.length = cs.length →
    (∀ (i : Nat) (a : α) (j : Nat), there[i]? = some a → cs[i]? = some (some j) → j < m ∧ (ch a j).isSome = true) → (usedOf cs).Nodup → (∀ j, j ∈ usedOf cs → j ∉ used) → Good m ch there cs used
  | [], [], _, _, _, _, _ => trivial
  | [], _ :: _, _, h, _, _, _ => by simp at h
  | _ :: _, [], _, h, _, _, _ => by simp at h
  | a :: t, none :: cs, used, h, hf, nd, nu => by
    show Good m ch t cs used
    exact good_of t cs used (by simpa using h) (fun i b j hb hj => hf (i + 1) b j (by simpa using hb) (by simpa using hj)) nd nu
  | a :: t, some j :: cs, used, h, hf, nd, nu => by
    rw [usedOf_some] at nd nu
    have nd' := List.nodup_cons.mp nd
    obtain ⟨h1, h2⟩ := hf 0 a j rfl rfl
    refine ⟨⟨h1, nu j (List.mem_cons_self ..), h2⟩, ?_⟩
    refine good_of t cs (used ++ [j]) (by simpa using h) (fun i b k hb hk => hf (i + 1) b k (by simpa using hb) (by simpa using hk)) nd'.2 fun k hk => ?_
    intro q
    rcases List.mem_append.mp q with q | q
    · exact nu k (List.mem_cons_of_mem _ hk) q
    · have : k = j := by simpa using q
      subst this
      exact nd'.1 hk
/-- a fair paper -/
structure Fair (m : Nat) (d : Nat → Int) (u : α → Int) (ch : α → Nat → Option Int) (there : List α) (ls rs : List Int) : Prop where
  ll : ls.length = there.length
  lr : rs.length = m
  left : ∀ (i : Nat) (a : α) (l : Int), there[i]? = some a → ls[i]? = some l → l ≤ u a
  both : ∀ (i : Nat) (a : α) (l : Int) (j : Nat) (r c : Int), there[i]? = some a → ls[i]? = some l → rs[j]? = some r → ch a j = some c → l + r ≤ c
  right : ∀ (j : Nat) (r : Int), rs[j]? = some r → r ≤ d j
theorem Fair.weak {m : Nat} {d : Nat → Int} {u : α → Int} {ch : α → Nat → Option Int} {there : List α} {ls rs : List Int} (F : Fair m d u ch there ls rs) : ls.sum + rs.sum ≤ leastM m d u ch there [] := by
  have at_ : ∀ j, j < m → rs[j]? = some (rs.getD j 0) := fun j hj => by
    have hj' : j < rs.length := by rw [F.lr]; exact hj
    rw [List.getD_eq_getElem?_getD, List.getElem?_eq_getElem hj']; rfl
  have q := RP.weak (m := m) (d := d) (r := fun j => rs.getD j 0) (u := u) (ch := ch) (fun j hj => F.right j _ (at_ j hj)) there ls [] F.ll.symm fun i a l ha hl => ⟨F.left i a l ha hl, fun j hj c hc => F.both i a l j _ c ha hl (at_ j hj) hc⟩
  have e : sumTo m (fun j => if j ∈ ([] : List Nat) then 0 else rs.getD j 0) = rs.sum := by
    rw [sum_sumTo rs, F.lr]
    exact sumTo_congr fun i _ => by simp
  rw [e] at q
  exact q
end
/-! ### from the assignment to the plan and its paper -/
section
variable {N : Nat} {C : Nat → Nat → Int} {L R : Nat → Int} {ro : Nat → Option Nat}
theorem Asg.full (A : Asg N N C L R ro) : ∀ c, c < N → ∃ r, r < N ∧ ro c = some r := by
  intro c hc
  refine Classical.byContradiction fun q => ?_
  have ex : ∀ r, ∃ c', r < N → c' < N ∧ ro c' = some r := fun r => by
    by_cases h : r < N
    · obtain ⟨c', h1, h2⟩ := A.sur r h
      exact ⟨c', fun _ => ⟨h1, h2⟩⟩
    · exact ⟨0, fun z => absurd z h⟩
  obtain ⟨f, hf⟩ := Classical.axiomOfChoice ex
  have nd : (c :: (List.range N).map f).Nodup := by
    refine List.nodup_cons.mpr ⟨fun m => ?_, ?_⟩
    · obtain ⟨r, hr, e⟩ := List.mem_map.mp m
      have hr' := List.mem_range.mp hr
      exact q ⟨r, hr', by rw [← e]; exact (hf r hr').2⟩
    · refine List.pairwise_map.mpr (List.Pairwise.imp_of_mem (fun {a b} ha hb ne e => ?_) (List.nodup_range (n := N)))
      have h1 := (hf a (List.mem_range.mp ha)).2
      have h2 := (hf b (List.mem_range.mp hb)).2
      rw [e, h2] at h1
      exact ne (Option.some.inj h1).symm
  have := nodup_len (n := N) nd fun x hx => by
    rcases List.mem_cons.mp hx with e | hx
    · rw [e]; exact hc
    · obtain ⟨r, hr, e⟩ := List.mem_map.mp hx
      rw [← e]; exact (hf r (List.mem_range.mp hr)).1
  rw [List.length_cons, List.length_map, List.length_range] at this
  omega
def total (N : Nat) (C : Nat → Nat → Int) (ro : Nat → Option Nat) : Int := sumTo N fun r => sumTo N fun c => if ro c = some r then C r c else 0
/-- one row's part -/
theorem Asg.pickC (A : Asg N N C L R ro) {r c : Nat} (hc : c < N) (h : ro c = some r) (f : Nat → Int) : sumTo N (fun c => if ro c = some r then f c else 0) = f c :=
  sumTo_pick f hc fun i hi => ⟨fun e => A.inj i c r hi hc e h, fun e => by rw [e]; exact h⟩
theorem Asg.pickR {r c : Nat} (hr : r < N) (h : ro c = some r) (f : Nat → Int) : sumTo N (fun r => if ro c = some r then f r else 0) = f r :=
  sumTo_pick f hr fun i _ => ⟨fun e => by rw [h] at e; exact (Option.some.inj e).symm, fun e => by rw [e]; exact h⟩
theorem Asg.total_eq (A : Asg N N C L R ro) : total N C ro = sumTo N L + sumTo N R := by
  unfold total
  have e1 : sumTo N (fun r => sumTo N fun c => if ro c = some r then C r c else 0) = sumTo N (fun r => sumTo N (fun c => if ro c = some r then L r else 0) + sumTo N (fun c => if ro c = some r then R c else 0)) :=
    sumTo_congr fun r _ => by
      rw [← sumTo_add]
      refine sumTo_congr fun c hc => ?_
      by_cases e : ro c = some r
      · rw [if_pos e, if_pos e, if_pos e]; exact (A.tight c r hc e).symm
      · rw [if_neg e, if_neg e, if_neg e]; rfl
  rw [e1, sumTo_add, sumTo_swap N N (fun r c => if ro c = some r then R c else 0)]
  have a : sumTo N (fun r => sumTo N fun c => if ro c = some r then L r else 0) = sumTo N L := sumTo_congr fun r hr => by
    obtain ⟨c, hc, h⟩ := A.sur r hr
    exact A.pickC hc h fun _ => L r
  have b : sumTo N (fun c => sumTo N fun r => if ro c = some r then R c else 0) = sumTo N R := sumTo_congr fun c hc => by
    obtain ⟨r, hr, h⟩ := A.full c hc
    exact Asg.pickR hr h fun _ => R c
  rw [a, b]
theorem Asg.le_total (_A : Asg N N C L R ro) (h0 : ∀ r c, r < N → c < N → 0 ≤ C r c) {r c : Nat} (hr : r < N) (hc : c < N) (h : ro c = some r) : C r c ≤ total N C ro := by
  have nn : ∀ r, r < N → ∀ c, c < N → 0 ≤ (if ro c = some r then C r c else 0) := fun r hr c hc => by
    split
    · exact h0 r c hr hc
    · exact Int.le_refl 0
  have a := sumTo_ge (n := N) (f := fun r => sumTo N fun c => if ro c = some r then C r c else 0) (fun r hr => sumTo_nonneg (nn r hr)) r hr
  have b := sumTo_ge (n := N) (f := fun c => if ro c = some r then C r c else 0) (nn r hr) c hc
  simp only [h, if_true] at b
  unfold total
  omega
end
section
variable {α : Type} {m : Nat} {d : Nat → Int} {u : α → Int} {ch : α → Nat → Option Int} {there : List α} {big : Int} {C : Nat → Nat → Int}
/-- the square of costs -/
structure Sq (m : Nat) (d : Nat → Int) (u : α → Int) (ch : α → Nat → Option Int) (there : List α) (big : Int) (C : Nat → Nat → Int) : Prop where
  hu : ∀ (i : Nat) (a : α), there[i]? = some a → 0 ≤ u a
  hd : ∀ j, j < m → 0 ≤ d j
  hch : ∀ (i : Nat) (a : α) (j : Nat) (c : Int), there[i]? = some a → ch a j = some c → 0 ≤ c
  hb : big = 1 + (there.map u).sum + sumTo m d
  c1 : ∀ (i : Nat) (a : α) (j : Nat), there[i]? = some a → j < m → C i j = (ch a j).getD big
  c2 : ∀ (i : Nat) (a : α) (k : Nat), there[i]? = some a → k < there.length → C i (m + k) = u a
  c3 : ∀ k j, k < m → j < m → C (there.length + k) j = d j
  c4 : ∀ k i, k < m → i < there.length → C (there.length + k) (m + i) = 0
theorem sum_map_sumTo (f : α → Int) : ∀ (l : List α) (g : Nat → Int), (∀ (i : Nat) (a : α), l[i]? = some a → f a = g i) → (l.map f).sum = sumTo l.length g := by
  intro l g h
  rw [sum_sumTo, List.length_map]
  refine sumTo_congr fun i hi => ?_
  have e : l[i]? = some l[i] := List.getElem?_eq_getElem hi
  rw [List.getD_eq_getElem?_getD, List.getElem?_map, e]
  exact h i _ e
theorem Sq.nn (S : Sq m d u ch there big C) : ∀ r c, r < there.length + m → c < there.length + m → 0 ≤ C r c := by
  have sd : 0 ≤ sumTo m d := sumTo_nonneg S.hd
  have su : 0 ≤ (there.map u).sum := by
    rw [sum_map_sumTo u there (fun i => ((there[i]?).map u).getD 0) fun i a h => by rw [h]; rfl]
    refine sumTo_nonneg fun i hi => ?_
    have e : there[i]? = some there[i] := List.getElem?_eq_getElem hi
    rw [e]; exact S.hu i _ e
  have hb := S.hb
  intro r c hr hc
  by_cases h1 : r < there.length
  · have e : there[r]? = some there[r] := List.getElem?_eq_getElem h1
    by_cases h2 : c < m
    · rw [S.c1 r _ c e h2]
      cases q : ch there[r] c with
      | none => show 0 ≤ big; omega
      | some x => exact S.hch r _ c x e q
    · obtain ⟨k, rfl⟩ : ∃ k, c = m + k := ⟨c - m, by omega⟩
      rw [S.c2 r _ k e (by omega)]
      exact S.hu r _ e
  · obtain ⟨k, rfl⟩ : ∃ k, r = there.length + k := ⟨r - there.length, by omega⟩
    by_cases h2 : c < m
    · rw [S.c3 k c (by omega) h2]; exact S.hd c h2
    · obtain ⟨i, rfl⟩ : ∃ i, c = m + i := ⟨c - m, by omega⟩
      rw [S.c4 k i (by omega) (by omega)]; exact Int.le_refl 0
/-- the choices that an assignment makes -/
structure Chosen (m n : Nat) (ro : Nat → Option Nat) (cs : List (Option Nat)) : Prop where
  len : cs.length = n
  at_ : ∀ (i : Nat) (o : Option Nat), cs[i]? = some o → ∃ c, c < n + m ∧ ro c = some i ∧ o = if c < m then some c else none
variable {L R : Nat → Int} {ro : Nat → Option Nat} {cs : List (Option Nat)}
theorem Sq.small (S : Sq m d u ch there big C) (A : Asg (there.length + m) (there.length + m) C L R ro) : total (there.length + m) C ro < big := by
  rw [A.total_eq, sumTo_split there.length m L, Nat.add_comm there.length m, sumTo_split m there.length R]
  have e : (there.map u).sum = sumTo there.length (fun i => C i (m + i)) := sum_map_sumTo u there _ fun i a h => (S.c2 i a i h (List.getElem?_eq_some_iff.mp h).1).symm
  have a := sumTo_le (n := there.length) (f := fun i => L i + R (m + i)) (g := fun i => C i (m + i)) fun i hi => A.feas i (m + i) (by omega) (by omega)
  have b := sumTo_le (n := m) (f := fun k => L (there.length + k) + R k) (g := d) fun k hk => by
    have := A.feas (there.length + k) k (by omega) (by omega)
    rw [S.c3 k k hk hk] at this; exact this
  rw [sumTo_add] at a b
  have hb := S.hb
  omega
theorem Sq.some_ (S : Sq m d u ch there big C) (A : Asg (there.length + m) (there.length + m) C L R ro) {i c : Nat} {a : α} (ha : there[i]? = some a) (hc : c < m) (h : ro c = some i) : ∃ x, ch a c = some x ∧ C i c = x := by
  have hi := (List.getElem?_eq_some_iff.mp ha).1
  have e := S.c1 i a c ha hc
  cases q : ch a c with
  | none =>
    rw [q] at e
    have e' : C i c = big := e
    have l := A.le_total S.nn (r := i) (c := c) (by omega) (by omega) h
    have s := S.small A
    omega
  | some x => exact ⟨x, rfl, by rw [e, q]; rfl⟩
theorem Chosen.used (Ch : Chosen m there.length ro cs) (A : Asg (there.length + m) (there.length + m) C L R ro) {j : Nat} (hj : j < m) : j ∈ usedOf cs ↔ ∃ r, r < there.length ∧ ro j = some r := by
  rw [mem_usedOf]
  constructor
  · intro h
    obtain ⟨i, hi⟩ := List.getElem?_of_mem h
    obtain ⟨c, hc, e, o⟩ := Ch.at_ i _ hi
    have li := (List.getElem?_eq_some_iff.mp hi).1
    rw [Ch.len] at li
    split at o
    · have : j = c := Option.some.inj o
      subst this
      exact ⟨i, li, e⟩
    · cases o
  · rintro ⟨r, hr, e⟩
    have lr : r < cs.length := by rw [Ch.len]; exact hr
    have hx : cs[r]? = some cs[r] := List.getElem?_eq_getElem lr
    obtain ⟨c, hc, e2, o⟩ := Ch.at_ r _ hx
    have : c = j := A.inj c j r hc (by omega) e2 e
    subst this
    rw [if_pos hj] at o
    rw [o] at hx
    exact List.mem_of_getElem? hx
theorem usedOf_nodup : ∀ (cs : List (Option Nat)), (∀ (i i' j : Nat), cs[i]? = some (some j) → cs[i']? = some (some j) → i = i') → (usedOf cs).Nodup
  | [], _ => List.nodup_nil
  | none :: cs, h => by
    rw [usedOf_none]
    refine usedOf_nodup cs fun i i' j h1 h2 => ?_
    have := h (i + 1) (i' + 1) j (by simpa using h1) (by simpa using h2)
    omega
  | some k :: cs, h => by
    rw [usedOf_some]
    refine List.nodup_cons.mpr ⟨fun hm => ?_, usedOf_nodup cs fun i i' j h1 h2 => ?_⟩
    · obtain ⟨i, hi⟩ := List.getElem?_of_mem (mem_usedOf.mp hm)
      have := h 0 (i + 1) k rfl (by simpa using hi)
      omega
    · have := h (i + 1) (i' + 1) j (by simpa using h1) (by simpa using h2)
      omega
theorem Sq.good (S : Sq m d u ch there big C) (A : Asg (there.length + m) (there.length + m) C L R ro) (Ch : Chosen m there.length ro cs) : Good m ch there cs [] := by
  refine good_of there cs [] Ch.len.symm (fun i a j ha hj => ?_) (usedOf_nodup cs fun i i' j h1 h2 => ?_) fun j _ h => (by simp at h)
  · obtain ⟨c, hc, e, o⟩ := Ch.at_ i _ hj
    split at o
    · have : j = c := Option.some.inj o
      subst this
      rename_i hm
      obtain ⟨x, q, _⟩ := S.some_ A ha hm e
      exact ⟨hm, by rw [q]; rfl⟩
    · cases o
  · obtain ⟨c, hc, e, o⟩ := Ch.at_ i _ h1
    obtain ⟨c', hc', e', o'⟩ := Ch.at_ i' _ h2
    split at o
    · split at o'
      · have z : j = c := Option.some.inj o
        have z' : j = c' := Option.some.inj o'
        rw [← z] at e
        rw [← z'] at e'
        rw [e] at e'
        exact Option.some.inj e'
      · cases o'
    · cases o
theorem Sq.cost (S : Sq m d u ch there big C) (A : Asg (there.length + m) (there.length + m) C L R ro) (Ch : Chosen m there.length ro cs) :
    planCost m d u ch there cs [] = total (there.length + m) C ro := by
  rw [planCost_eq there cs [] Ch.len.symm, List.nil_append, tailSum_eq]
  unfold total
  rw [sumTo_split there.length m]
  have h1 : headCost u ch there cs = sumTo there.length (fun i => sumTo (there.length + m) fun c => if ro c = some i then C i c else 0) := by
    refine headCost_sumTo there cs _ Ch.len.symm fun i a o ha ho => ?_
    obtain ⟨c, hc, e, eo⟩ := Ch.at_ i o ho
    rw [A.pickC hc e (fun c => C i c)]
    by_cases hm : c < m
    · rw [if_pos hm] at eo
      subst eo
      obtain ⟨x, q, hx⟩ := S.some_ A ha hm e
      show (ch a c).getD 0 = C i c
      rw [q, hx]; rfl
    · rw [if_neg hm] at eo
      subst eo
      obtain ⟨k, rfl⟩ : ∃ k, c = m + k := ⟨c - m, by omega⟩
      exact (S.c2 i a k ha (by omega)).symm
  have h2 : sumTo m (fun j => if j ∈ usedOf cs then 0 else d j) = sumTo m (fun k => sumTo (there.length + m) fun c => if ro c = some (there.length + k) then C (there.length + k) c else 0) := by
    have s : ∀ k, k < m → sumTo (there.length + m) (fun c => if ro c = some (there.length + k) then C (there.length + k) c else 0) = sumTo m (fun j => if ro j = some (there.length + k) then d j else 0) := fun k hk => by
      rw [Nat.add_comm, sumTo_split m there.length]
      have z : sumTo there.length (fun i => if ro (m + i) = some (there.length + k) then C (there.length + k) (m + i) else 0) = 0 := by
        refine (sumTo_congr (g := fun _ => 0) fun i hi => ?_).trans (sumTo_zero there.length)
        split
        · exact S.c4 k i hk hi
        · rfl
      rw [z]
      have y : sumTo m (fun j => if ro j = some (there.length + k) then C (there.length + k) j else 0) = sumTo m (fun j => if ro j = some (there.length + k) then d j else 0) :=
        sumTo_congr fun j hj => by rw [S.c3 k j hk hj]
      rw [y]; omega
    rw [sumTo_congr s, sumTo_swap m m (fun k j => if ro j = some (there.length + k) then d j else 0)]
    refine sumTo_congr fun j hj => ?_
    obtain ⟨r, hr, e⟩ := A.full j (by omega)
    by_cases hn : r < there.length
    · rw [if_pos ((Ch.used A hj).mpr ⟨r, hn, e⟩)]
      refine ((sumTo_congr (g := fun _ => 0) fun k _ => ?_).trans (sumTo_zero m)).symm
      rw [if_neg]
      intro q
      rw [e] at q
      have := Option.some.inj q
      omega
    · rw [if_neg]
      · obtain ⟨k, rfl⟩ : ∃ k, r = there.length + k := ⟨r - there.length, by omega⟩
        refine (sumTo_pick (fun _ => d j) (k := k) (by omega) fun i _ => ⟨fun q => ?_, fun q => by rw [q]; exact e⟩).symm
        rw [e] at q
        have := Option.some.inj q
        omega
      · intro q
        obtain ⟨r', hr', e'⟩ := (Ch.used A hj).mp q
        rw [e] at e'
        have := Option.some.inj e'
        omega
  rw [h1, h2]
/-- the paper that the numbers make -/
theorem Sq.paper (S : Sq m d u ch there big C) (A : Asg (there.length + m) (there.length + m) C L R ro) (Ch : Chosen m there.length ro cs) {mR mL : Int} {ls rs : List Int}
    (hR : 0 < there.length → (∃ i, i < there.length ∧ mR = R (m + i)) ∧ ∀ i, i < there.length → R (m + i) ≤ mR) (hL : 0 < m → (∃ k, k < m ∧ mL = L (there.length + k)) ∧ ∀ k, k < m → L (there.length + k) ≤ mL)
    (els : ls.length = there.length) (ers : rs.length = m) (als : ∀ (i : Nat) (l : Int), ls[i]? = some l → l = L i + mR) (ars : ∀ (j : Nat) (r : Int), rs[j]? = some r → r = R j + mL) :
    Fair m d u ch there ls rs ∧ ls.sum + rs.sum = planCost m d u ch there cs [] := by
  have F : Fair m d u ch there ls rs := {
    ll := els
    lr := ers
    left := fun i a l ha hl => by
      have hi := (List.getElem?_eq_some_iff.mp ha).1
      obtain ⟨⟨i0, h0, e⟩, _⟩ := hR (by omega)
      have f := A.feas i (m + i0) (by omega) (by omega)
      rw [S.c2 i a i0 ha h0] at f
      rw [als i l hl, e]; exact f
    both := fun i a l j r c ha hl hr hc => by
      have hi := (List.getElem?_eq_some_iff.mp ha).1
      have hj := (List.getElem?_eq_some_iff.mp hr).1
      rw [ers] at hj
      obtain ⟨⟨i0, h0, e⟩, _⟩ := hR (by omega)
      obtain ⟨⟨k0, g0, e'⟩, _⟩ := hL (by omega)
      have f := A.feas i j (by omega) (by omega)
      rw [S.c1 i a j ha hj, hc] at f
      have f' : L i + R j ≤ c := f
      have g := A.feas (there.length + k0) (m + i0) (by omega) (by omega)
      rw [S.c4 k0 i0 g0 h0] at g
      rw [als i l hl, ars j r hr]; omega
    right := fun j r hr => by
      have hj := (List.getElem?_eq_some_iff.mp hr).1
      rw [ers] at hj
      obtain ⟨⟨k0, g0, e'⟩, _⟩ := hL (by omega)
      have f := A.feas (there.length + k0) j (by omega) (by omega)
      rw [S.c3 k0 j g0 hj] at f
      rw [ars j r hr, e']; omega }
  refine ⟨F, ?_⟩
  have w := F.weak
  have l := least_le (d := d) (u := u) there cs [] (S.good A Ch)
  have c := S.cost A Ch
  rw [A.total_eq, sumTo_split there.length m L, Nat.add_comm there.length m, sumTo_split m there.length R] at c
  have sl : sumTo there.length (fun i => L i + R (m + i)) ≤ ls.sum := by
    rw [sum_sumTo ls, els]
    refine sumTo_le fun i hi => ?_
    have hi' : i < ls.length := by omega
    have := als i ls[i] (List.getElem?_eq_getElem hi')
    rw [List.getD_eq_getElem?_getD, List.getElem?_eq_getElem hi']
    show _ ≤ ls[i]
    rw [this]
    have := (hR (by omega)).2 i hi
    omega
  have sr : sumTo m (fun k => L (there.length + k) + R k) ≤ rs.sum := by
    rw [sum_sumTo rs, ers]
    refine sumTo_le fun j hj => ?_
    have hj' : j < rs.length := by omega
    have := ars j rs[j] (List.getElem?_eq_getElem hj')
    rw [List.getD_eq_getElem?_getD, List.getElem?_eq_getElem hj']
    show _ ≤ rs[j]
    rw [this]
    have := (hL (by omega)).2 j hj
    omega
  rw [sumTo_add] at sl sr
  omega
end
end RP
namespace K33
open PySem PySem.Spec PyProof.Rows L2
/-! ### zip of three lists -/
def Itz3 (K : PySem.W.Frag) (a b c : Addr) : It :=
  ⟨fun i H => ∃ (xs ys us : List V) (x y u : V), SqL K H a xs ∧ SqL K H b ys ∧ SqL K H c us ∧ xs[i]? = some x ∧ ys[i]? = some y ∧ us[i]? = some u,
    fun i H v H' => ∃ T x y u, v = .ref T ∧ H T = none ∧ H' = upd H T (.tup [x, y, u]) ∧ (∀ xs, SqL K H a xs → xs[i]? = some x) ∧ (∀ ys, SqL K H b ys → ys[i]? = some y) ∧ ∀ us, SqL K H c us → us[i]? = some u,
    fun i H => ∃ xs ys us : List V, SqL K H a xs ∧ SqL K H b ys ∧ SqL K H c us ∧ (i = xs.length ∧ xs.length = ys.length ∧ xs.length = us.length)⟩
theorem turn_zip3 {P : Program} {w : World} {K : PySem.W.Frag} {elts : List Expr} {kk : Nat} {tpos : Pos} {a b c z TI TO i1 i2 i3 : Addr} (D : ZipSep3 z TI TO i1 i2 i3 [i1, a] [i2, b] [i3, c])
    (na : a ≠ i1) (nb : b ≠ i2) (nc : c ≠ i3) :
    Turn P w K (.Tuple elts kk tpos) (Itz3 K a b c) [z, TI, TO, i1, i2, i3] z
      (fun i h => IsZip h z TI TO .none ∧ IsTupOf3 h TI (.ref i1) (.ref i2) (.ref i3) ∧ (∃ x y u, IsTupOf3 h TO x y u) ∧ h.IsListIter i1 a i ∧ h.IsListIter i2 b i ∧ h.IsListIter i3 c i) where
  mem := by simp
  obj := fun i h st q hq => by
    obtain ⟨hz, hTI, ⟨x, y, u, hTO⟩, ⟨o1, e1, _, d1⟩, ⟨o2, e2, _, d2⟩, ⟨o3, e3, _, d3⟩⟩ := st
    have e' : q = z ∨ q = TI ∨ q = TO ∨ q = i1 ∨ q = i2 ∨ q = i3 := by simpa using hq
    rcases e' with r | r | r | r | r | r
    · rw [r]; exact ⟨_, hz, fun v q => nomatch q⟩
    · rw [r]; exact ⟨_, hTI, fun v q => nomatch q⟩
    · rw [r]; exact ⟨_, hTO, fun v q => nomatch q⟩
    · rw [r]; exact ⟨o1, e1, fun v q => by rw [d1] at q; cases q⟩
    · rw [r]; exact ⟨o2, e2, fun v q => by rw [d2] at q; cases q⟩
    · rw [r]; exact ⟨o3, e3, fun v q => by rw [d3] at q; cases q⟩
  keep := fun i h h' st k => by
    obtain ⟨hz, hTI, ⟨x, y, u, hTO⟩, h1, h2, h3⟩ := st
    exact ⟨k z (by simp) _ hz, k TI (by simp) _ hTI, ⟨x, y, u, k TO (by simp) _ hTO⟩, h1.at fun o q => k i1 (by simp) o q, h2.at fun o q => k i2 (by simp) o q, h3.at fun o q => k i3 (by simp) o q⟩
  item := by
    intro X hP hw hK hc i pins s σ H E I hf st hg
    subst hP hw hK
    obtain ⟨hz, hTI, hTO, h1, h2, h3⟩ := st
    obtain ⟨xs, ys, us, x, y, u, hqx, hqy, hqu, hx, hy, hu⟩ := hg
    obtain ⟨its, rv, p, _⟩ := I.list hqx
    obtain ⟨its2, rv2, p2, _⟩ := I.list hqy
    obtain ⟨its3, rv3, p3, _⟩ := I.list hqu
    have l1 := rv.length
    have l2 := rv2.length
    have l3 := rv3.length
    have k1 := (List.getElem?_eq_some_iff.mp hx).1
    have k2 := (List.getElem?_eq_some_iff.mp hy).1
    have k3 := (List.getElem?_eq_some_iff.mp hu).1
    have hh : X.A.in1.handled = none := I.ok.hd hc
    have G := GoesN.zip3 (prog := X.prog) (w := X.w) (A := X.A) (elts := elts) (x1 := kk) (pos := tpos) D (Draws.list hh i1 a na its.toArray) (Draws.list hh i2 b nb its2.toArray) (Draws.list hh i3 c nc its3.toArray)
    refine G.goes i s _ E (by simp; omega) ⟨hz, hTI, hTO, ⟨h1, p.isList⟩, ⟨h2, p2.isList⟩, ⟨h3, p3.isList⟩⟩ fun v h' tk Y st' hk ht => ?_
    obtain ⟨T, x', y', u', ev, hT, hx', hy', hu', tup⟩ := Y
    obtain ⟨z', TI', TO', ⟨it1, _⟩, ⟨it2, _⟩, ⟨it3, _⟩⟩ := st'
    subst ev
    obtain ⟨v1, g1, r1⟩ := rv.get hx
    obtain ⟨v2, g2, r2⟩ := rv2.get hy
    obtain ⟨v3, g3, r3⟩ := rv3.get hu
    have e1 : x' = v1 := by simpa [g1] using hx'.symm
    have e2 : y' = v2 := by simpa [g2] using hy'.symm
    have e3 : u' = v3 := by simpa [g3] using hu'.symm
    subst e1 e2 e3
    have new : ObjOk X.prog X.w (upd H T (.tup [x, y, u])) h' T (.tup [x, y, u]) := ⟨by show 3 ≤ sizeLine; decide, [x', y', u'], .cons r1 (.cons r2 (.cons r3 .nil)), tup⟩
    have I1 : Inv X pins σ (upd H T (.tup [x, y, u])) { s with heap := h', toks := tk } :=
      I.turnedNew (ch := [z, TI, TO, i1, i2, i3]) (fun q o hb e => hk q o (fun m => hb (by simp at m ⊢; rcases m with m | m | m | m | m <;> simp [m])) e) hf hT new
    refine ⟨.ref T, _, I1, rfl, ⟨T, x, y, u, rfl, I.hok.fresh hT, rfl, fun l hl => by rw [I.list_inj hl hqx]; exact hx, fun l hl => by rw [I.list_inj hl hqy]; exact hy, fun l hl => by rw [I.list_inj hl hqu]; exact hu⟩, ⟨z', TI', TO', it1, it2, it3⟩, fun q hq => ?_⟩
    have hfq := hf q hq
    have hne : q ≠ T := by
      intro e
      have lt : q < s.heap.objs.size := by
        have e' : q = z ∨ q = TI ∨ q = TO ∨ q = i1 ∨ q = i2 ∨ q = i3 := by simpa using hq
        rcases e' with r | r | r | r | r | r
        · rw [r]; exact Heap.lt_size hz
        · rw [r]; exact Heap.lt_size hTI
        · rw [r]; obtain ⟨_, _, _, e⟩ := hTO; exact Heap.lt_size e
        · rw [r]; obtain ⟨_, e, _⟩ := h1; exact Heap.lt_size e
        · rw [r]; obtain ⟨_, e, _⟩ := h2; exact Heap.lt_size e
        · rw [r]; obtain ⟨_, e, _⟩ := h3; exact Heap.lt_size e
      rw [e] at lt
      exact absurd lt (Nat.not_lt.mpr hT)
    rw [upd_ne hne]
    exact hfq.1
  done := by
    intro X hP hw hK hc i pins s σ H E I hf st hg
    subst hP hw hK
    obtain ⟨hz, hTI, hTO, h1, h2, h3⟩ := st
    obtain ⟨xs, ys, us, hqx, hqy, hqu, hi, hxy, hxu⟩ := hg
    obtain ⟨its, rv, p, _⟩ := I.list hqx
    obtain ⟨its2, rv2, p2, _⟩ := I.list hqy
    obtain ⟨its3, rv3, p3, _⟩ := I.list hqu
    have l1 := rv.length
    have l2 := rv2.length
    have l3 := rv3.length
    have hh : X.A.in1.handled = none := I.ok.hd hc
    have G := GoesN.zip3 (prog := X.prog) (w := X.w) (A := X.A) (elts := elts) (x1 := kk) (pos := tpos) D (Draws.list hh i1 a na its.toArray) (Draws.list hh i2 b nb its2.toArray) (Draws.list hh i3 c nc its3.toArray)
    have en : min (min its.toArray.size its2.toArray.size) its3.toArray.size = i := by simp; omega
    rw [en] at G
    exact G.stops s _ E ⟨hz, hTI, hTO, ⟨h1, p.isList⟩, ⟨h2, p2.isList⟩, ⟨h3, p3.isList⟩⟩ fun h' tk hk ht =>
      I.turnedL (ch := [z, TI, TO, i1, i2, i3]) (fun q o hb e => hk q o (fun m => hb (by simp at m ⊢; rcases m with m | m | m | m | m <;> simp [m])) e) hf
  self := fun A i s Q E st h => wpAny_pyIter_zip st.1 h
def iZip3 (K : PySem.W.Frag) (ta : TA) : TI := fun σ H R => ta σ H fun vs H1 => ∃ a b c xs ys us, vs = [.ref a, .ref b, .ref c] ∧ SqL K H1 a xs ∧ SqL K H1 b ys ∧ SqL K H1 c us ∧ R (Itz3 K a b c) H1
theorem pi_zip3 {X : Cx} {e e2 e3 : Expr} {ta : TA} {p pos tpos : Pos} {elts : List Expr} {kk : Nat} (hg : Gl X "zip") (hm : X.mg "zip" = none) (ha : PA X [e, e2, e3] ta)
    (hs : starEach [e, e2, e3] X.env = (false, eval e X.env) :: starEach [e2, e3] X.env := by rfl) (hpl : (backTo pos (starEach [e2, e3] X.env)).any (·.1) = false := by rfl) :
    PI X (.Tuple elts kk tpos) (.Call (.Name "zip" p) [e, e2, e3] [] pos) (iZip3 X.K ta) := by
  refine ⟨fun pins s σ H R I h => ?_⟩
  refine Call_ (ld_blt I hg hm PyProof.Rows.boot_zip (PyProof.Rows.callWith_type1 (thn (ha.run pos pins s σ H _ I h) fun us s1 ⟨vs, H1, I1, r1, q1⟩ => ?_) hs hpl))
  obtain ⟨a, b, c, xs, ys, zs, ex, hqx, hqy, hqz, q⟩ := q1
  subst ex
  cases r1 with
  | cons r rr =>
    cases rr with
    | cons r' rr =>
      cases rr with
      | cons r'' rr =>
        cases rr
        cases r
        cases r'
        cases r''
        obtain ⟨its, rv, p1, _⟩ := I1.list hqx
        obtain ⟨its2, rv2, p2, _⟩ := I1.list hqy
        obtain ⟨its3, rv3, p3, _⟩ := I1.list hqz
        have la : a < s1.heap.objs.size := p1.lt
        have lb : b < s1.heap.objs.size := p2.lt
        have lc : c < s1.heap.objs.size := p3.lt
        refine zip_begins3 (begins_list a its.toArray) (begins_list b its2.toArray) (begins_list c its3.toArray) p1.isList p2.isList p3.isList fun h' hz hTI hTO h1 h2 h3 hsz hk => wpAny_pyIter_zip hz ?_
        have I2 : Inv X pins σ H1 { s1 with heap := h' } := I1.kept (t' := s1.toks) hk
        have sep := zip_sep3 (N := s1.heap.objs.size) (fp1 := [a]) (fp2 := [b]) (fp3 := [c]) (fun q hq => by rw [List.mem_singleton.mp hq]; exact la) (fun q hq => by rw [List.mem_singleton.mp hq]; exact lb) (fun q hq => by rw [List.mem_singleton.mp hq]; exact lc)
        refine ⟨s1.heap.objs.size + 5, _, _, _, H1, rfl, I2, turn_zip3 sep (Nat.ne_of_lt la) (Nat.ne_of_lt (Nat.lt_succ_of_lt lb)) (Nat.ne_of_lt (Nat.lt_succ_of_lt (Nat.lt_succ_of_lt lc))),
          ⟨hz, hTI, ⟨_, _, _, hTO⟩, ⟨_, h1, rfl, rfl⟩, ⟨_, h2, rfl, rfl⟩, ⟨_, h3, rfl, rfl⟩⟩, fun q hq => ?_, q⟩
        have hle : s1.heap.objs.size ≤ q := by
          have e' : q = s1.heap.objs.size + 5 ∨ q = s1.heap.objs.size + 3 ∨ q = s1.heap.objs.size + 4 ∨ q = s1.heap.objs.size ∨ q = s1.heap.objs.size + 1 ∨ q = s1.heap.objs.size + 2 := by simpa using hq
          rcases e' with z | z | z | z | z | z <;> rw [z] <;> first | exact Nat.le_add_right _ _ | exact Nat.le_refl _
        exact I1.fpOk hle (I1.hok.fresh hle)
theorem walk_zip3 {K : PySem.W.Frag} {a b c : Addr} {xs ys us : List V} (h1 : xs.length = ys.length) (h2 : xs.length = us.length) : Walk (Itz3 K a b c) xs.length (fun H => SqL K H a xs ∧ SqL K H b ys ∧ SqL K H c us)
    (fun i H v H' => ∃ T x y u, v = .ref T ∧ H T = none ∧ H' = upd H T (.tup [x, y, u]) ∧ xs[i]? = some x ∧ ys[i]? = some y ∧ us[i]? = some u) := by
  refine ⟨fun i _ hi q => ?_, fun _ q => ⟨xs, ys, us, q.1, q.2.1, q.2.2, rfl, h1, h2⟩, fun i H v H' _ q y => ?_⟩
  · have k1 : i < ys.length := by omega
    have k2 : i < us.length := by omega
    exact ⟨xs, ys, us, xs[i], ys[i], us[i], q.1, q.2.1, q.2.2, by simp [hi], by simp [k1], by simp [k2]⟩
  · obtain ⟨T, x, z, u, h1, h2, h3, h4, h5, h6⟩ := y
    exact ⟨T, x, z, u, h1, h2, h3, h4 xs q.1, h5 ys q.2.1, h6 us q.2.2⟩
/-! ### a list's item, for xs[i] op= e -/
theorem get_list {X : Cx} : PGet X (rIxL X.K) := by
  intro pins s σ H o i ov iv Q I ro ri h
  obtain ⟨p, xs, k, z, rfl, rfl, hq, he, q⟩ := h
  cases ro
  obtain ⟨t, rfl⟩ := ri
  obtain ⟨its, r, pl, hz⟩ := I.list hq
  obtain ⟨j, h1, h2, h3, h4, h5⟩ := atI_get he
  obtain ⟨w, ew, rw'⟩ := r.get h2
  have hl := r.length
  have hn := line63
  have fin : EP X pins σ Q w s := ⟨z, H, I, rw', q⟩
  by_cases h0 : 0 ≤ k
  · have hj : k.toNat = j := by
      rw [seqIndex_of h0 h5] at h1
      exact Option.some.inj h1
    exact wpAny_getItem_list pl.isList h0 (by omega) (by rw [hj]; simpa using ew) fin
  · have hj : (k + (its.toArray.size : Int)).toNat = j := by
      rw [seqIndex_neg (by omega) h4] at h1
      rw [List.size_toArray, ← hl]
      exact Option.some.inj h1
    exact wpAny_getItem_list_neg pl.isList (by omega) (by rw [List.size_toArray] <;> omega) (by omega) (by rw [hj]; simpa using ew) fin
end K33
namespace K33
open PySem PySem.Spec PyProof.Rows L2
/-! ### the text by places -/
def top (i : Nat) : Stmt := PySem.Challenge.pw_retroact_k33_whole_plans_of_least_cost.main.body.getD i (.Pass ⟨0, 0, 0, 0⟩)
/-! ### defs, methods, classes that stand and keep promises -/
structure DefAt (K : PySem.W.Frag) (mg : Str → Option Value) (x : Str) (st : Stmt) : Prop where
  ex : ∃ (f : Addr) (fd : FuncData), Fun K x x st f fd ∧ mg x = some (.ref f)
structure MetAt (K : PySem.W.Frag) (C : Addr) (m qual : Str) (st : Stmt) : Prop where
  ex : ∃ (f : Addr) (fd : FuncData), Fun K m qual st f fd ∧ Meth K C m f
structure ClsAt (K : PySem.W.Frag) (mg : Str → Option Value) (x qual : Str) (C : Addr) (st : Stmt) : Prop where
  ex : ∃ (f : Addr) (fd : FuncData), Fun K "__init__" qual st f fd ∧ Mk K C f ∧ mg x = some (.ref C)
structure Cal (P : Program) (w : World) (K : PySem.W.Frag) (mg : Str → Option Value) (base : Heap) (k : Nat) (x : Str) (sp : Sp) : Prop where
  ex : ∃ (f : Addr) (fd : FuncData) (ps : List Str), FnOk P w K mg base CX0 k f fd ps sp ∧ mg x = some (.ref f) ∧ PySem.W.keepIn K (.ref f) = true ∧ Binds K fd ps []
structure Met (P : Program) (w : World) (K : PySem.W.Frag) (mg : Str → Option Value) (base : Heap) (k : Nat) (C : Addr) (m : Str) (sp : Sp) : Prop where
  ex : ∃ (f : Addr) (fd : FuncData) (ps : List Str), FnOk P w K mg base CX0 k f fd ps sp ∧ Meth K C m f ∧ Binds K fd ps []
structure Mak (P : Program) (w : World) (K : PySem.W.Frag) (mg : Str → Option Value) (base : Heap) (k : Nat) (x : Str) (C : Addr) (sp : Sp) : Prop where
  ex : ∃ (f : Addr) (fd : FuncData) (ps : List Str), FnOk P w K mg base CX0 k f fd ps sp ∧ Mk K C f ∧ mg x = some (.ref C) ∧ Binds K fd ps []
section
variable {P : Program} {w : World} {K : PySem.W.Frag} {mg : Str → Option Value} {base : Heap}
theorem cal_of {x : Str} {st : Stmt} {N ps : List Str} {k : Nat} {sp : Sp} (D : DefAt K mg x st) (S : FnScope N ps (defScope st))
    (hb : ∀ (kV doc pm : Value) (an : Option Addr) (cdv ct : Value) (us : List Value), us.length = ps.length → bindArgs (PySem.W.fnOf x x (defArgs st) (defBody st) (defScope st) .none kV doc pm an cdv ct) ⟨us, []⟩ = pure (ps.zip us))
    (len : ∀ vs H Q E, sp vs H Q E → vs.length = ps.length)
    (hbody : ∀ (f : Addr) (cdv : Value) (A : Around) (outer : List Env) (s : Shared) (H : Hp) (vs : List V) (Q : VK) (E : XK), Room k (A.deeper (envOfC x (defScope st) s.heap.objs.size f cdv)) → sp vs H Q E →
      ∃ t, PSs (cxOf CX0 P w K mg base N x (defScope st) f cdv A outer s H E).nox (defBody st) t ∧ t { nx := fun _ H' => Q .non H', rt := Q } (start N vs) H) : Cal P w K mg base (k + 1) x sp := by
  obtain ⟨f, fd, F, hm⟩ := D.ex
  exact ⟨f, fd, ps, F.ok S len (fun cdv A outer s H vs Q E hr h => hbody f cdv A outer s H vs Q E hr h), hm, F.kp, F.binds hb⟩
theorem met_of {C : Addr} {m qual : Str} {st : Stmt} {N ps : List Str} {k : Nat} {sp : Sp} (D : MetAt K C m qual st) (S : FnScope N ps (defScope st))
    (hb : ∀ (kV doc pm : Value) (an : Option Addr) (cdv ct : Value) (us : List Value), us.length = ps.length → bindArgs (PySem.W.fnOf m qual (defArgs st) (defBody st) (defScope st) .none kV doc pm an cdv ct) ⟨us, []⟩ = pure (ps.zip us))
    (len : ∀ vs H Q E, sp vs H Q E → vs.length = ps.length)
    (hbody : ∀ (f : Addr) (cdv : Value) (A : Around) (outer : List Env) (s : Shared) (H : Hp) (vs : List V) (Q : VK) (E : XK), Room k (A.deeper (envOfC qual (defScope st) s.heap.objs.size f cdv)) → sp vs H Q E →
      ∃ t, PSs (cxOf CX0 P w K mg base N qual (defScope st) f cdv A outer s H E).nox (defBody st) t ∧ t { nx := fun _ H' => Q .non H', rt := Q } (start N vs) H) : Met P w K mg base (k + 1) C m sp := by
  obtain ⟨f, fd, F, hm⟩ := D.ex
  exact ⟨f, fd, ps, F.ok S len (fun cdv A outer s H vs Q E hr h => hbody f cdv A outer s H vs Q E hr h), hm, F.binds hb⟩
theorem mak_of {x qual : Str} {C : Addr} {st : Stmt} {N ps : List Str} {k : Nat} {sp : Sp} (D : ClsAt K mg x qual C st) (S : FnScope N ps (defScope st))
    (hb : ∀ (kV doc pm : Value) (an : Option Addr) (cdv ct : Value) (us : List Value), us.length = ps.length → bindArgs (PySem.W.fnOf "__init__" qual (defArgs st) (defBody st) (defScope st) .none kV doc pm an cdv ct) ⟨us, []⟩ = pure (ps.zip us))
    (len : ∀ vs H Q E, sp vs H Q E → vs.length = ps.length)
    (hbody : ∀ (f : Addr) (cdv : Value) (A : Around) (outer : List Env) (s : Shared) (H : Hp) (vs : List V) (Q : VK) (E : XK), Room k (A.deeper (envOfC qual (defScope st) s.heap.objs.size f cdv)) → sp vs H Q E →
      ∃ t, PSs (cxOf CX0 P w K mg base N qual (defScope st) f cdv A outer s H E).nox (defBody st) t ∧ t { nx := fun _ H' => Q .non H', rt := Q } (start N vs) H) : Mak P w K mg base (k + 1) x C sp := by
  obtain ⟨f, fd, F, hm, hx⟩ := D.ex
  exact ⟨f, fd, ps, F.ok S len (fun cdv A outer s H vs Q E hr h => hbody f cdv A outer s H vs Q E hr h), hm, hx, F.binds hb⟩
end
section
variable {X : Cx} {k j : Nat} {C : Addr} {x m : Str} {sp : Sp} {p pos apos : Pos} {e o : Expr} {es : List Expr} {ta : TE} {t : TA}
theorem pe_c (c : Cal X.prog X.w X.K X.mg X.base k x sp) (hr : Room j X.A) (hk : k ≤ j) (hg : Gl X x) (ha : PA X (e :: es) t)
    (hdb : (x == ("__debug__" : Str)) = false := by decide) (he : starEach (e :: es) X.env = (false, eval e X.env) :: starEach es X.env := by rfl) (hpl : (backTo pos (starEach es X.env)).any (·.1) = false := by rfl) :
    PE X (.Call (.Name x p) (e :: es) [] pos) (tCall sp [] E0 t) := by
  obtain ⟨f, fd, ps, F, hm, kp, b⟩ := c.ex
  exact pe_call F (hr.mono hk) hg hm kp b .nil pass0 ha hdb he hpl
theorem pe_mk (c : Mak X.prog X.w X.K X.mg X.base k x C sp) (hr : Room j X.A) (hk : k + 1 ≤ j) (hg : Gl X x) (ha : PA X (e :: es) t)
    (hdb : (x == ("__debug__" : Str)) = false := by decide) (he : starEach (e :: es) X.env = (false, eval e X.env) :: starEach es X.env := by rfl) (hpl : (backTo pos (starEach es X.env)).any (·.1) = false := by rfl) :
    PE X (.Call (.Name x p) (e :: es) [] pos) (tMake C sp [] E0 t) := by
  obtain ⟨f, fd, ps, F, M, hm, b⟩ := c.ex
  exact pe_make M F (hr.mono hk) hg hm b .nil pass0 ha hdb he hpl
theorem pe_mt {pl : Sem Bool} (c : Met X.prog X.w X.K X.mg X.base k C m sp) (cl : Cls X.K C) (hr : Room j X.A) (hk : k ≤ j) (he : PE X o ta) (ha : PA X (e :: es) t)
    (hst : starEach (e :: es) X.env = (false, eval e X.env) :: starEach es X.env := by rfl) (hpl : (backTo pos (starEach es X.env)).any (·.1) = false := by rfl)
    (ht : eval (.Call (.Attribute o m apos) (e :: es) [] pos) X.env = (do
      let ov ← eval o X.env
      standAt apos.atName
      let (f, first) ← holding [ov] (getMethod ov m pl)
      callWith pos f first (backTo pos (starEach (e :: es) X.env)) (backToKw pos (keywordEach [] X.env))) := by rfl) :
    PE X (.Call (.Attribute o m apos) (e :: es) [] pos) (tMeth C m sp [] E0 ta t) := by
  obtain ⟨f, fd, ps, F, M, b⟩ := c.ex
  exact pe_meth he cl M F (hr.mono hk) b .nil pass0 ha hst hpl ht
end
/-! ### heaps -/
theorem same_new {H : Hp} {p : Addr} (h : H p = none) {o : HO} : Same H (upd H p o) := fun b u q => by rw [upd_ne (ne_of_none q h)]; exact q
/-- what is new may change -/
theorem _root_.L2.Same.mut {H H' : Hp} {p : Addr} (s : Same H H') (h : H p = none) {o : HO} : Same H (upd H' p o) := fun b u q => by
  rw [upd_ne (fun e => by rw [e, h] at q; cases q)]; exact s _ _ q
theorem sz {n : Nat} (h : n ≤ 100000) : n ≤ sizeLine := Nat.le_trans h (by decide)
theorem szl {n : Nat} (h : n ≤ 100000) : n < sizeLine := Nat.lt_of_le_of_lt h (by decide)
/-! ### lists of things that stand in the heap -/
def All2 {β : Type} (R : V → β → Prop) (vs : List V) (cs : List β) : Prop := vs.length = cs.length ∧ ∀ (i : Nat) (v : V) (c : β), vs[i]? = some v → cs[i]? = some c → R v c
section
variable {β : Type} {R R' : V → β → Prop} {vs : List V} {cs : List β}
theorem All2.nil : All2 R [] [] := ⟨rfl, fun i v c h => by simp at h⟩
theorem All2.mono (h : All2 R vs cs) (f : ∀ v c, R v c → R' v c) : All2 R' vs cs := ⟨h.1, fun i v c a b => f v c (h.2 i v c a b)⟩
theorem All2.snoc (h : All2 R vs cs) {v : V} {c : β} (r : R v c) : All2 R (vs ++ [v]) (cs ++ [c]) := by
  refine ⟨by rw [List.length_append, List.length_append, h.1]; rfl, fun i v' c' a b => ?_⟩
  have hl := h.1
  by_cases e : i < vs.length
  · rw [List.getElem?_append_left e] at a
    rw [List.getElem?_append_left (by omega)] at b
    exact h.2 i v' c' a b
  · have l := (List.getElem?_eq_some_iff.mp a).1
    rw [List.length_append, List.length_singleton] at l
    have ei : i = vs.length := by omega
    subst ei
    rw [List.getElem?_append_right (Nat.le_refl _)] at a
    rw [List.getElem?_append_right (by omega), hl] at b
    have e1 : v = v' := by simpa using a
    have e2 : c = c' := by simpa using b
    rw [← e1, ← e2]; exact r
theorem All2.at_ (h : All2 R vs cs) {i : Nat} {c : β} (hc : cs[i]? = some c) : ∃ v, vs[i]? = some v ∧ R v c := by
  have l := (List.getElem?_eq_some_iff.mp hc).1
  have l' : i < vs.length := by rw [h.1]; exact l
  exact ⟨vs[i], List.getElem?_eq_getElem l', h.2 i _ c (List.getElem?_eq_getElem l') hc⟩
theorem All2.of (h : All2 R vs cs) {i : Nat} {v : V} (hv : vs[i]? = some v) : ∃ c, cs[i]? = some c ∧ R v c := by
  have l := (List.getElem?_eq_some_iff.mp hv).1
  have l' : i < cs.length := by rw [← h.1]; exact l
  exact ⟨cs[i], List.getElem?_eq_getElem l', h.2 i v _ hv (List.getElem?_eq_getElem l')⟩
theorem All2.drop1 (h : All2 R vs cs) : All2 R (vs.drop 1) (cs.drop 1) := by
  refine ⟨by rw [List.length_drop, List.length_drop, h.1], fun i v c a b => ?_⟩
  rw [List.getElem?_drop] at a b
  exact h.2 _ v c a b
end
/-! ### the data -/
structure Cll where
  eff : Str
  args : List Int
structure Price where
  undo : Int
  do_ : Int
  chg : Option (Int × Int)
def optV : Option Int → V
  | none => .non
  | some i => .int i
def optN : Option Nat → V
  | none => .non
  | some i => .int i
def iabs (i : Int) : Int := if i < 0 then -i else i
theorem iabs_nn (i : Int) : 0 ≤ iabs i := by unfold iabs; split <;> omega
def alen (e : Str) : Nat := if e = "tell" then 0 else if e = "pay" then 1 else 2
def IsEff (e : Str) : Prop := e = "pay" ∨ e = "ship" ∨ e = "tell"
structure CllOk (c : Cll) : Prop where
  eff : IsEff c.eff
  len : c.args.length = alen c.eff
structure PriceOk (p : Price) : Prop where
  u0 : 0 ≤ p.undo
  u1 : p.undo ≤ 1000000
  d0 : 0 ≤ p.do_
  d1 : p.do_ ≤ 1000000
  ch : ∀ b e, p.chg = some (b, e) → 0 ≤ b ∧ b ≤ 1000000 ∧ 0 ≤ e ∧ e ≤ 1000000
def dist (xs ys : List Int) : Int := (List.zipWith (fun a b => iabs (a - b)) xs ys).sum
def chgC (pr : Str → Price) (c1 c2 : Cll) : Option Int :=
  if c1.eff = c2.eff then (match (pr c1.eff).chg with
    | none => none
    | some (b, e) => some (b + e * dist c1.args c2.args)) else none
def IntsAt (H : Hp) (a : Addr) (ns : List Int) : Prop := H a = some (.lst (ns.map V.int))
def ChgAt (H : Hp) (v : V) : Option (Int × Int) → Prop
  | none => v = .non
  | some (b, e) => ∃ a, v = .ref a ∧ H a = some (.tup [.int b, .int e])
def PriceAt (H : Hp) (v : V) (p : Price) : Prop := ∃ a cv, v = .ref a ∧ H a = some (.tup [.int p.undo, .int p.do_, cv]) ∧ ChgAt H cv p.chg
def CallAt (H : Hp) (v : V) (c : Cll) : Prop := ∃ a kv t, v = .ref a ∧ H a = some (.tup [kv, .str c.eff, .ref t]) ∧ H t = some (.tup (c.args.map V.int)) ∧ CllOk c
def CallsAt (H : Hp) (a : Addr) (cs : List Cll) : Prop := ∃ vs, H a = some (.lst vs) ∧ All2 (CallAt H) vs cs
def EffsAt (H : Hp) (d : Addr) (pr : Str → Price) : Prop := ∃ kvs : List (Key × V), H d = some (.dK kvs) ∧ kvs.map (·.1) = ([Sum.inr "pay", Sum.inr "ship", Sum.inr "tell"] : List Key) ∧
  ∀ e, IsEff e → ∃ v, valV kvs (Sum.inr e) = some v ∧ PriceAt H v (pr e) ∧ PriceOk (pr e)
def PricesAt (C : Addr) (H : Hp) (p : Addr) (pr : Str → Price) : Prop := ∃ dx d, H p = some (.ins C dx [("effects", .ref d)]) ∧ EffsAt H d pr
inductive Deed where
  | undo (i : Nat)
  | do_ (j : Nat)
  | chg (i j : Nat)
def deedV : Deed → List V
  | .undo i => [.str "undo", .int i]
  | .do_ j => [.str "do", .int j]
  | .chg i j => [.str "change", .int i, .int j]
def DeedAt (H : Hp) (v : V) (d : Deed) : Prop := ∃ a, v = .ref a ∧ H a = some (.tup (deedV d))
def DeedsAt (H : Hp) (a : Addr) (ds : List Deed) : Prop := ∃ vs, H a = some (.lst vs) ∧ All2 (DeedAt H) vs ds
def PaperAt (H : Hp) (v : V) (ls rs : List Int) : Prop := ∃ a l r, v = .ref a ∧ H a = some (.tup [.ref l, .ref r]) ∧ IntsAt H l ls ∧ IntsAt H r rs
def RowAt (H : Hp) (v : V) (row : List (Option Int)) : Prop := ∃ r, v = .ref r ∧ H r = some (.lst (row.map optV))
structure Inst where
  us : List Int
  ds : List Int
  cs : List (List (Option Int))
def CostsAt (C : Addr) (H : Hp) (p : Addr) (I : Inst) : Prop := ∃ dx a b c rs, H p = some (.ins C dx [("undos", .ref a), ("dos", .ref b), ("changes", .ref c)]) ∧ IntsAt H a I.us ∧ IntsAt H b I.ds ∧ H c = some (.lst rs) ∧ All2 (RowAt H) rs I.cs
section
variable {H H' : Hp} {v : V} {a : Addr} {C : Addr}
theorem IntsAt.mono {ns : List Int} (h : IntsAt H a ns) (s : Same H H') : IntsAt H' a ns := s _ _ h
theorem ChgAt.mono {o : Option (Int × Int)} (h : ChgAt H v o) (s : Same H H') : ChgAt H' v o := by
  cases o with
  | none => exact h
  | some be => obtain ⟨a, e, q⟩ := h; exact ⟨a, e, s _ _ q⟩
theorem PriceAt.mono {p : Price} (h : PriceAt H v p) (s : Same H H') : PriceAt H' v p := by
  obtain ⟨a, cv, e, q, r⟩ := h; exact ⟨a, cv, e, s _ _ q, r.mono s⟩
theorem CallAt.mono {c : Cll} (h : CallAt H v c) (s : Same H H') : CallAt H' v c := by
  obtain ⟨a, kv, t, e, q, r, ok⟩ := h; exact ⟨a, kv, t, e, s _ _ q, s _ _ r, ok⟩
theorem CallsAt.mono {cs : List Cll} (h : CallsAt H a cs) (s : Same H H') : CallsAt H' a cs := by
  obtain ⟨vs, q, r⟩ := h; exact ⟨vs, s _ _ q, r.mono fun v c x => x.mono s⟩
theorem EffsAt.mono {pr : Str → Price} (h : EffsAt H a pr) (s : Same H H') : EffsAt H' a pr := by
  obtain ⟨kvs, q, r, f⟩ := h
  refine ⟨kvs, s _ _ q, r, fun e he => ?_⟩
  obtain ⟨v, x, y, z⟩ := f e he
  exact ⟨v, x, y.mono s, z⟩
theorem PricesAt.mono {pr : Str → Price} (h : PricesAt C H a pr) (s : Same H H') : PricesAt C H' a pr := by
  obtain ⟨dx, d, q, r⟩ := h; exact ⟨dx, d, s _ _ q, r.mono s⟩
theorem DeedAt.mono {d : Deed} (h : DeedAt H v d) (s : Same H H') : DeedAt H' v d := by
  obtain ⟨a, e, q⟩ := h; exact ⟨a, e, s _ _ q⟩
theorem DeedsAt.mono {ds : List Deed} (h : DeedsAt H a ds) (s : Same H H') : DeedsAt H' a ds := by
  obtain ⟨vs, q, r⟩ := h; exact ⟨vs, s _ _ q, r.mono fun v c x => x.mono s⟩
theorem PaperAt.mono {ls rs : List Int} (h : PaperAt H v ls rs) (s : Same H H') : PaperAt H' v ls rs := by
  obtain ⟨a, l, r, e, q, x, y⟩ := h; exact ⟨a, l, r, e, s _ _ q, x.mono s, y.mono s⟩
theorem RowAt.mono {row : List (Option Int)} (h : RowAt H v row) (s : Same H H') : RowAt H' v row := by
  obtain ⟨a, e, q⟩ := h; exact ⟨a, e, s _ _ q⟩
theorem CostsAt.mono {I : Inst} (h : CostsAt C H a I) (s : Same H H') : CostsAt C H' a I := by
  obtain ⟨dx, a, b, c, rs, q1, q2, q3, q4, q5⟩ := h
  exact ⟨dx, a, b, c, rs, s _ _ q1, q2.mono s, q3.mono s, s _ _ q4, q5.mono fun v c x => x.mono s⟩
end
/-! ### what the top must hold -/
structure Bl (mg : Str → Option Value) : Prop where
  len : mg "len" = none
  range : mg "range" = none
  sum : mg "sum" = none
  sorted : mg "sorted" = none
  all : mg "all" = none
  dict : mg "dict" = none
  abs : mg "abs" = none
  zip : mg "zip" = none
  list : mg "list" = none
  max : mg "max" = none
  min : mg "min" = none
  int : mg "int" = none
  isinstance : mg "isinstance" = none
  bool : mg "bool" = none
  enumerate : mg "enumerate" = none
  price : ∃ t, mg "MOST_PRICE" = some (.int 1000000 t)
  calls : ∃ t, mg "MOST_CALLS" = some (.int 12 t)
structure ClsP (K : PySem.W.Frag) (C : Addr) : Prop where
  cl : Cls K C
  eff : NoAttr K C "effects"
structure ClsC (K : PySem.W.Frag) (C : Addr) : Prop where
  cl : Cls K C
  undos : NoAttr K C "undos"
  dos : NoAttr K C "dos"
  changes : NoAttr K C "changes"
structure ClsA (K : PySem.W.Frag) (C : Addr) : Prop where
  cl : Cls K C
  rows : NoAttr K C "rows"
  size : NoAttr K C "size"
  lefts : NoAttr K C "lefts"
  rights : NoAttr K C "rights"
  rowOf : NoAttr K C "row_of"
end K33
namespace K33
open PySem PySem.Spec PyProof.Rows L2
/-! ### all but some addresses stand as before -/
def Sm (Z : List Addr) (H H' : Hp) : Prop := ∀ b o, b ∉ Z → H b = some o → H' b = some o
theorem Sm.refl (Z : List Addr) (H : Hp) : Sm Z H H := fun _ _ _ h => h
theorem Sm.trans {Z : List Addr} {H H1 H2 : Hp} (a : Sm Z H H1) (b : Sm Z H1 H2) : Sm Z H H2 := fun c o hc h => b c o hc (a c o hc h)
theorem Sm.same {H H' : Hp} (a : Sm [] H H') : Same H H' := fun b o h => a b o (by simp) h
theorem _root_.L2.Same.sm {H H' : Hp} (a : Same H H') (Z : List Addr) : Sm Z H H' := fun b o _ h => a b o h
theorem Sm.new {Z : List Addr} {H : Hp} {p : Addr} (h : H p = none) {o : HO} : Sm Z H (upd H p o) := (same_new h).sm Z
theorem Sm.mut {Z : List Addr} {H H' : Hp} {p : Addr} (s : Sm Z H H') (h : H p = none) {o : HO} : Sm Z H (upd H' p o) := fun b u hb q => by
  rw [upd_ne (fun e => by rw [e, h] at q; cases q)]; exact s _ _ hb q
theorem Sm.put {Z : List Addr} {H H' : Hp} {p : Addr} (s : Sm Z H H') (h : p ∈ Z) {o : HO} : Sm Z H (upd H' p o) := fun b u hb q => by
  rw [upd_ne (fun e => hb (by rw [e]; exact h))]; exact s _ _ hb q
theorem Sm.mono {Z Z' : List Addr} {H H' : Hp} (s : Sm Z H H') (h : ∀ b ∈ Z, b ∈ Z') : Sm Z' H H' := fun b o hb q => s b o (fun m => hb (h b m)) q
/-- what is changed is new: nothing changed -/
theorem Sm.out {Z : List Addr} {H H1 H' : Hp} (e : Same H H1) (s : Sm Z H1 H') (h : ∀ b ∈ Z, H b = none) : Same H H' := fun b o q => s b o (fun m => by rw [h b m] at q; cases q) (e b o q)
theorem map_at {α β : Type} {f : α → β} {l : List α} {i : Nat} {y : β} (h : (l.map f)[i]? = some y) : ∃ x, l[i]? = some x ∧ y = f x := by
  rw [List.getElem?_map] at h
  obtain ⟨x, h1, h2⟩ := Option.map_eq_some_iff.mp h
  exact ⟨x, h1, h2.symm⟩
theorem at_map {α β : Type} {f : α → β} {l : List α} {i : Nat} {x : α} (h : l[i]? = some x) : (l.map f)[i]? = some (f x) := by
  rw [List.getElem?_map, h]
  all_goals rfl
/-! ### comprehensions: over anything walked; R i y H: what the item made at turn i is; f: which turns give one; Pz: a word of the heap that every turn keeps -/
section
variable {J : It} {n : Nat} {G : Hp → Prop} {Y : Nat → Hp → V → Hp → Prop} {g : TG} {tt : TT} {te : TE} {vs : List Nat} {σ : L2.St} {H1 : Hp} {D : Addr} {Qd : Hp → Prop}
theorem lc_gen (w : Walk J n G Y) (hD : H1 D = none) (Z : List Addr) (Pz : Hp → Prop) (f : Nat → Bool) (R : Nat → V → Hp → Prop) (hn : n ≤ 100000) (hDZ : D ∉ Z) (p0 : Pz (upd H1 D (.lst []))) (hz : ∀ H l, Pz H → Pz (upd H D (.lst l)))
    (hG : ∀ H, Sm Z H1 H → Pz H → G H) (mono : ∀ i y H H', i < n → (∃ l, H D = some (.lst l)) → R i y H → Sm (D :: Z) H H' → R i y H')
    (hs : ∀ i x H H' (Qe : VK) (Qn : Hp → Prop), i < n → Sm Z H1 H → Pz H → Y i H x H' → (f i = true → ∀ y H3, Sm Z H H3 → Pz H3 → R i y H3 → Qe y H3) → (f i = false → ∀ H3, Sm Z H H3 → Pz H3 → Qn H3) →
      g x (wipe σ vs) H' fun σ2 H2 => wipe σ2 vs = wipe σ vs ∧ tt σ2 H2 fun b H3 => if b = true then te σ2 H3 Qe else Qn H3)
    (hd : ∀ H ys, Sm Z H1 H → Pz H → H D = some (.lst ys) → All2 (fun v i => R i v H) ys ((List.range n).filter f) → Qd H) :
    ∃ W : Nat → Nat → Hp → Prop, (∃ m, W 0 m (upd H1 D (.lst []))) ∧ ∀ i m H, W i m H →
      (J.stop i H ∧ Qd H) ∨ (J.go i H ∧ ∃ Nx : Hp → Prop, (∀ H', Nx H' → ∃ m', m' < m ∧ W (i + 1) m' H') ∧ ∀ x H', J.yld i H x H' → g x (wipe σ vs) H' fun σ2 H2 => wipe σ2 vs = wipe σ vs ∧ tt σ2 H2 fun b H3 =>
        if b = true then te σ2 H3 fun y H4 => ∃ acc, H4 D = some (.lst acc) ∧ acc.length < sizeLine ∧ Nx (upd H4 D (.lst (acc ++ [y]))) else Nx H3) := by
  refine lc_it w (fun i H => Sm Z H1 H ∧ Pz H ∧ i ≤ n ∧ ∃ ys, H D = some (.lst ys) ∧ All2 (fun v i => R i v H) ys ((List.range i).filter f)) ⟨Sm.new hD, p0, Nat.zero_le _, [], upd_same, All2.nil⟩ (fun i H hi p => hG H p.1 p.2.1) (fun i x H H' hi p y => ?_) fun H p => ?_
  · obtain ⟨s, pz, _, ys, hys, a2⟩ := p
    have len : ys.length ≤ i := by
      rw [a2.1]
      have := List.length_filter_le f (List.range i)
      rw [List.length_range] at this
      exact this
    have up : ∀ H3, Sm Z H H3 → All2 (fun v i => R i v H3) ys ((List.range i).filter f) := fun H3 s3 => ⟨a2.1, fun j v c hv hc => by
      have hm := List.mem_range.mp (List.mem_filter.mp (List.mem_of_getElem? hc)).1
      exact mono c v H H3 (Nat.lt_trans hm hi) ⟨ys, hys⟩ (a2.2 j v c hv hc) (s3.mono fun b hb => List.mem_cons_of_mem _ hb)⟩
    refine hs i x H H' _ _ hi s pz y (fun hf v H3 s3 p3 r => ?_) fun hf H3 s3 p3 => ?_
    · have hys3 : H3 D = some (.lst ys) := s3 _ _ hDZ hys
      have sD : Sm (D :: Z) H3 (upd H3 D (.lst (ys ++ [v]))) := (Sm.refl _ H3).put (List.mem_cons_self ..)
      refine ⟨ys, hys3, szl (by omega), (s.trans s3).mut hD, hz _ _ p3, hi, ys ++ [v], upd_same, ?_⟩
      have e : (List.range (i + 1)).filter f = (List.range i).filter f ++ [i] := by
        rw [List.range_succ, List.filter_append]
        simp [hf]
      rw [e]
      exact All2.snoc ⟨(up H3 s3).1, fun j v' c hv hc => by
        have hm := List.mem_range.mp (List.mem_filter.mp (List.mem_of_getElem? hc)).1
        exact mono c v' _ _ (Nat.lt_trans hm hi) ⟨ys, hys3⟩ ((up H3 s3).2 j v' c hv hc) sD⟩ (mono i v _ _ hi ⟨ys, hys3⟩ r sD)
    · have e : (List.range (i + 1)).filter f = (List.range i).filter f := by
        rw [List.range_succ, List.filter_append]
        simp [hf]
      exact ⟨s.trans s3, p3, hi, ys, s3 _ _ hDZ hys, by rw [e]; exact up H3 s3⟩
  · obtain ⟨s, pz, _, ys, hys, a2⟩ := p
    exact hd H ys s pz hys a2
/-- nothing but new things: no test -/
theorem lc_map (w : Walk J n G Y) (hD : H1 D = none) (R : Nat → V → Hp → Prop) (hn : n ≤ 100000) (hG : ∀ H, Same H1 H → G H) (mono : ∀ i y H H', i < n → (∃ l, H D = some (.lst l)) → R i y H → Sm [D] H H' → R i y H')
    (hs : ∀ i x H H' (Qe : VK), i < n → Same H1 H → (∃ l, H D = some (.lst l)) → Y i H x H' → (∀ y H3, Same H H3 → R i y H3 → Qe y H3) →
      g x (wipe σ vs) H' fun σ2 H2 => wipe σ2 vs = wipe σ vs ∧ te σ2 H2 Qe)
    (hd : ∀ H ys, Same H1 H → H D = some (.lst ys) → ys.length = n → (∀ i v, ys[i]? = some v → R i v H) → Qd H) :
    ∃ W : Nat → Nat → Hp → Prop, (∃ m, W 0 m (upd H1 D (.lst []))) ∧ ∀ i m H, W i m H →
      (J.stop i H ∧ Qd H) ∨ (J.go i H ∧ ∃ Nx : Hp → Prop, (∀ H', Nx H' → ∃ m', m' < m ∧ W (i + 1) m' H') ∧ ∀ x H', J.yld i H x H' → g x (wipe σ vs) H' fun σ2 H2 => wipe σ2 vs = wipe σ vs ∧ tYes σ2 H2 fun b H3 =>
        if b = true then te σ2 H3 fun y H4 => ∃ acc, H4 D = some (.lst acc) ∧ acc.length < sizeLine ∧ Nx (upd H4 D (.lst (acc ++ [y]))) else Nx H3) := by
  refine lc_gen w hD [] (fun H => ∃ l, H D = some (.lst l)) (fun _ => true) R hn (by simp) ⟨_, upd_same⟩ (fun H l _ => ⟨l, upd_same⟩) (fun H s _ => hG H s.same) mono
    (fun i x H H' Qe Qn hi s p y he _ => ?_) fun H ys s p hys a2 => ?_
  · have q := hs i x H H' Qe hi s.same p y fun y H3 s3 r => he rfl y H3 (s3.sm []) (by obtain ⟨l, hl⟩ := p; exact ⟨l, s3 _ _ hl⟩) r
    exact q
  · have ef : (List.range n).filter (fun _ => true) = List.range n := List.filter_eq_self.mpr fun _ _ => rfl
    rw [ef] at a2
    refine hd H ys s.same hys (by rw [a2.1, List.length_range]) fun i v hv => ?_
    have li := (List.getElem?_eq_some_iff.mp hv).1
    rw [a2.1, List.length_range] at li
    exact a2.2 i v i hv (by rw [List.getElem?_range li])
end
theorem walk_zipT {K : PySem.W.Frag} {a b : Addr} {xs ys : List V} (h : xs.length = ys.length) : Walk (RZ.ItzT K a b) xs.length (fun H => SqT K H a xs ∧ SqT K H b ys) (YPair (fun i => xs[i]?) (fun i => ys[i]?)) := by
  refine ⟨fun i _ hi q => ?_, fun _ q => ⟨xs, ys, q.1, q.2, .inl (Nat.le_refl _)⟩, fun i H v H' _ q y => ?_⟩
  · have h2 : i < ys.length := by omega
    exact ⟨xs, ys, xs[i], ys[i], q.1, q.2, by simp [hi], by simp [h2]⟩
  · obtain ⟨T, x, z, h1, h2, h3, h4, h5⟩ := y
    exact ⟨T, x, z, h1, h2, h3, h4 xs q.1, h5 ys q.2⟩
end K33
namespace K33
open PySem PySem.Spec PyProof.Rows L2
section
variable {P : Program} {w : World} {K : PySem.W.Frag} {mg : Str → Option Value} {base : Heap} {CP : Addr}
/-! ### is_price -/
theorem scIsPrice : FnScope ["number"] ["number"] (defScope (top 7)) := ⟨rfl, rfl, rfl, by decide +kernel, rfl, by decide +kernel, by decide +kernel⟩
def spIsPrice : Sp := fun vs H Q _ => ∃ n : Int, vs = [.int n] ∧ 0 ≤ n ∧ n ≤ 1000000 ∧ Q (.bl true) H
theorem ok_is_price (B : Bl mg) (D : DefAt K mg "is_price" (top 7)) : Cal P w K mg base 1 "is_price" spIsPrice := by
  refine cal_of D scIsPrice (fun _ _ _ _ _ _ us hl => match us, hl with | [_], _ => rfl) (fun vs H Q E h => by obtain ⟨n, rfl, _⟩ := h; rfl) fun f cdv A outer s H vs Q E hr h => ?_
  obtain ⟨n, rfl, h0, h1, q⟩ := h
  obtain ⟨t, mp⟩ := B.price
  refine ⟨_, pss_one (ps_ret (pe_chain op_le op_le pe_int (pv 0) (pe_glob (v := .int 1000000) rfl mp ⟨t, rfl⟩))), ?_⟩
  refine ⟨_, rfl, _, _, rfl, rfl, _, rfl, ?_⟩
  rw [if_pos (decide_eq_true h0)]
  refine ⟨_, _, rfl, rfl, ?_⟩
  show Q (.bl (decide (n ≤ 1000000))) H
  rw [decide_eq_true h1]
  exact q
/-! ### prices_of -/
theorem scPricesOf : FnScope ["prices", "call"] ["prices", "call"] (defScope (top 9)) := ⟨rfl, rfl, rfl, by decide +kernel, rfl, by decide +kernel, by decide +kernel⟩
def spPricesOf (CP : Addr) : Sp := fun vs H Q _ => ∃ (p : Addr) (v : V) (pr : Str → Price) (c : Cll), vs = [.ref p, v] ∧ PricesAt CP H p pr ∧ CallAt H v c ∧ ∀ u, PriceAt H u (pr c.eff) → Q u H
theorem ok_prices_of (T : ClsP K CP) (D : DefAt K mg "prices_of" (top 9)) : Cal P w K mg base 1 "prices_of" (spPricesOf CP) := by
  refine cal_of D scPricesOf (fun _ _ _ _ _ _ us hl => match us, hl with | [_, _], _ => rfl) (fun vs H Q E h => by obtain ⟨p, v, pr, c, rfl, _⟩ := h; rfl) fun f cdv A outer s H vs Q E hr h => ?_
  obtain ⟨p, v, pr, c, rfl, ⟨dx, d, hp, kvs, hd, hk, hf⟩, ⟨a, kv, t, rfl, ha, ht, ok⟩, q⟩ := h
  obtain ⟨u, hu, pu, _⟩ := hf c.eff ok.eff
  have hu' := hu_of hr
  refine ⟨_, pss_cons (ps_if (pt_cmp (pc_dnotin hu' (pe_ix ix_tup (pv 1) pe_int (fun _ _ => rfl)) (pe_fld (pv 0) rfl)) (by rfl)) pss_never pss_nil)
    (pss_one (ps_ret (pe_dget hu' (pe_fld (pv 0) rfl) (pe_ix ix_tup (pv 1) pe_int (fun _ _ => rfl)) (fun _ _ => rfl)))), ?_⟩
  have gd : DGet H d (.str c.eff) (some u) := by rw [← hu]; exact DGet.k (k := Sum.inr c.eff) hd
  refine ⟨_, rfl, a, _, 1, .str c.eff, rfl, rfl, SqT.of ha, rfl, ?_⟩
  refine ⟨_, rfl, p, CP, dx, _, _, rfl, hp, T.cl, T.eff, rfl, d, _, rfl, gd, _, rfl, ?_⟩
  refine iteF ?_
  refine ⟨_, rfl, p, CP, dx, _, _, rfl, hp, T.cl, T.eff, rfl, _, rfl, a, _, 1, .str c.eff, rfl, rfl, SqT.of ha, rfl, d, u, rfl, gd, ?_⟩
  exact q u pu
/-! ### undo_cost, do_cost -/
theorem scUndoCost : FnScope ["prices", "call"] ["prices", "call"] (defScope (top 10)) := ⟨rfl, rfl, rfl, by decide +kernel, rfl, by decide +kernel, by decide +kernel⟩
def spUndoCost (CP : Addr) : Sp := fun vs H Q _ => ∃ (p : Addr) (v : V) (pr : Str → Price) (c : Cll), vs = [.ref p, v] ∧ PricesAt CP H p pr ∧ CallAt H v c ∧ Q (.int (pr c.eff).undo) H
theorem ok_undo_cost (C : Cal P w K mg base 1 "prices_of" (spPricesOf CP)) (D : DefAt K mg "undo_cost" (top 10)) : Cal P w K mg base 2 "undo_cost" (spUndoCost CP) := by
  refine cal_of D scUndoCost (fun _ _ _ _ _ _ us hl => match us, hl with | [_, _], _ => rfl) (fun vs H Q E h => by obtain ⟨p, v, pr, c, rfl, _⟩ := h; rfl) fun f cdv A outer s H vs Q E hr h => ?_
  obtain ⟨p, v, pr, c, rfl, hp, hc, q⟩ := h
  refine ⟨_, pss_one (ps_ret (pe_ix ix_tup (pe_c C hr (by decide) rfl (pa_cons (pv 0) (pa_cons (pv 1) pa_nil))) pe_int (fun _ _ => rfl))), ?_⟩
  refine ⟨_, rfl, _, rfl, p, v, pr, c, rfl, hp, hc, fun u ⟨a, cv, eu, ha, hcv⟩ => ?_⟩
  subst eu
  exact ⟨a, _, 0, _, rfl, rfl, SqT.of ha, rfl, q⟩
theorem scDoCost : FnScope ["prices", "call"] ["prices", "call"] (defScope (top 11)) := ⟨rfl, rfl, rfl, by decide +kernel, rfl, by decide +kernel, by decide +kernel⟩
def spDoCost (CP : Addr) : Sp := fun vs H Q _ => ∃ (p : Addr) (v : V) (pr : Str → Price) (c : Cll), vs = [.ref p, v] ∧ PricesAt CP H p pr ∧ CallAt H v c ∧ Q (.int (pr c.eff).do_) H
theorem ok_do_cost (C : Cal P w K mg base 1 "prices_of" (spPricesOf CP)) (D : DefAt K mg "do_cost" (top 11)) : Cal P w K mg base 2 "do_cost" (spDoCost CP) := by
  refine cal_of D scDoCost (fun _ _ _ _ _ _ us hl => match us, hl with | [_, _], _ => rfl) (fun vs H Q E h => by obtain ⟨p, v, pr, c, rfl, _⟩ := h; rfl) fun f cdv A outer s H vs Q E hr h => ?_
  obtain ⟨p, v, pr, c, rfl, hp, hc, q⟩ := h
  refine ⟨_, pss_one (ps_ret (pe_ix ix_tup (pe_c C hr (by decide) rfl (pa_cons (pv 0) (pa_cons (pv 1) pa_nil))) pe_int (fun _ _ => rfl))), ?_⟩
  refine ⟨_, rfl, _, rfl, p, v, pr, c, rfl, hp, hc, fun u ⟨a, cv, eu, ha, hcv⟩ => ?_⟩
  subst eu
  exact ⟨a, _, 1, _, rfl, rfl, SqT.of ha, rfl, q⟩
/-! ### change_cost -/
def nChange : List Str := ["prices", "first", "second", "change", "base", "each", "a", "b"]
theorem scChangeCost : FnScope nChange ["prices", "first", "second"] (defScope (top 12)) := ⟨rfl, rfl, rfl, by decide +kernel, rfl, by decide +kernel, by decide +kernel⟩
def spChangeCost (CP : Addr) : Sp := fun vs H Q _ => ∃ (p : Addr) (v v2 : V) (pr : Str → Price) (c c2 : Cll), vs = [.ref p, v, v2] ∧ PricesAt CP H p pr ∧ CallAt H v c ∧ CallAt H v2 c2 ∧ ∀ H', Same H H' → Q (optV (chgC pr c c2)) H'
theorem EffsAt.ok {H : Hp} {d : Addr} {pr : Str → Price} (h : EffsAt H d pr) {e : Str} (he : IsEff e) : PriceOk (pr e) := by
  obtain ⟨kvs, _, _, f⟩ := h
  obtain ⟨v, _, _, ok⟩ := f e he
  exact ok
theorem dist_eq (xs ys : List Int) (n : Nat) (hx : xs.length = n) (hy : ys.length = n) (zs : List V) (hz : zs.length = n) (h : ∀ (i : Nat) (v : V), zs[i]? = some v → ∃ x y : Int, xs[i]? = some x ∧ ys[i]? = some y ∧ v = .int (iabs (x - y))) :
    zs = (List.zipWith (fun a b => iabs (a - b)) xs ys).map V.int := by
  refine List.ext_getElem? fun i => ?_
  rw [List.getElem?_map, List.getElem?_zipWith]
  by_cases hi : i < n
  · obtain ⟨x, y, h1, h2, h3⟩ := h i zs[i] (List.getElem?_eq_getElem (by omega))
    rw [List.getElem?_eq_getElem (by omega), h1, h2, h3]
    all_goals rfl
  · rw [List.getElem?_eq_none (by omega), List.getElem?_eq_none (l := xs) (by omega)]
    all_goals rfl
theorem ok_change_cost (B : Bl mg) (C : Cal P w K mg base 1 "prices_of" (spPricesOf CP)) (D : DefAt K mg "change_cost" (top 12)) : Cal P w K mg base 2 "change_cost" (spChangeCost CP) := by
  refine cal_of D scChangeCost (fun _ _ _ _ _ _ us hl => match us, hl with | [_, _, _], _ => rfl) (fun vs H Q E h => by obtain ⟨p, v, v2, pr, c, c2, rfl, _⟩ := h; rfl) fun f cdv A outer s H vs Q E hr h => ?_
  obtain ⟨p, v, v2, pr, c, c2, rfl, hp, hc, hc2, q⟩ := h
  have nd := scChangeCost.nd
  refine ⟨_, pss_cons (ps_set (i := 3) nd rfl (Or.inl rfl) (pe_ix ix_tup (pe_c C hr (by decide) rfl (pa_cons (pv 0) (pa_cons (pv 1) pa_nil))) pe_int (fun _ _ => rfl)))
    (pss_cons (ps_expr (pe_c C hr (by decide) rfl (pa_cons (pv 0) (pa_cons (pv 2) pa_nil))))
    (pss_cons (ps_if (PW.pt (pw_or (pt_cmpR op_ne (pe_ix ix_tup (pv 1) pe_int (fun _ _ => rfl)) (pe_ix ix_tup (pv 2) pe_int (fun _ _ => rfl)) (nomark _)) (pw_or1 (pt_cmpR op_isN (pv 3) pe_non (nomark _))))) (pss_one (ps_ret pe_non)) pss_nil)
    (pss_cons (ps_asg (pv 3) (pg_tup rfl (pgs_cons (pg_name (i := 4) nd rfl (Or.inl rfl)) (pgs_cons (pg_name (i := 5) nd rfl (Or.inl rfl)) pgs_nil))))
    (pss_one (ps_ret (pe_op op_add (pv 4) (pe_op op_mul (pv 5) (pe_callB (cr_sum rfl) rfl B.sum boot_sum (pa_cons
      (pe_lc (own := [("a", 6), ("b", 7)]) (g := gTup K 2 (gCons (gName 6) (gCons (gName 7) gNil))) (tt := tYes) rfl nd (RZ.pi_zipA rfl B.zip (pa_cons (pe_ix ix_tup (pv 1) pe_int (fun _ _ => rfl)) (pa_cons (pe_ix ix_tup (pv 2) pe_int (fun _ _ => rfl)) pa_nil)))
        (blkOk_by (own := [("a", 6), ("b", 7)]) (N := nChange) (sc := defScope (top 12)) (by decide +kernel))
        (fun _ _ _ _ _ => pg_tup rfl (pgs_cons (pg_name (i := 6) nd rfl (Or.inl rfl)) (pgs_cons (pg_name (i := 7) nd rfl (Or.inl rfl)) pgs_nil))) (fun _ _ _ _ _ => pts_nil)
        (fun _ _ _ _ _ => pe_callB call_abs rfl B.abs boot_abs (pa_cons (pe_op op_sub (pv 6) (pv 7)) pa_nil))) pa_nil))))))))), ?_⟩
  refine ⟨_, rfl, _, rfl, p, v, pr, c, rfl, hp, hc, fun u ⟨a, cv, eu, ha, hcv⟩ => ?_⟩
  subst eu
  refine ⟨a, _, 2, _, rfl, rfl, SqT.of ha, rfl, ?_⟩
  refine ⟨_, rfl, _, rfl, p, v2, pr, c2, rfl, hp, hc2, fun u _ => ?_⟩
  obtain ⟨b, kv, t, rfl, hb, ht, ok⟩ := hc
  obtain ⟨b2, kv2, t2, rfl, hb2, ht2, ok2⟩ := hc2
  obtain ⟨dx, d, hpo, he⟩ := hp
  have pok := he.ok ok.eff
  refine ⟨_, rfl, b, _, 1, _, rfl, rfl, SqT.of hb, rfl, _, rfl, b2, _, 1, _, rfl, rfl, SqT.of hb2, rfl, rfl, _, rfl, ?_⟩
  by_cases ee : c.eff = c2.eff
  · have e1 : (!decide (V.str c.eff = V.str c2.eff)) = false := by rw [ee]; simp
    rw [e1]
    refine iteF ?_
    cases hch : (pr c.eff).chg with
    | none =>
      rw [hch] at hcv
      have hcv' : cv = .non := hcv
      subst hcv'
      refine ⟨_, rfl, rfl, _, rfl, ?_⟩
      refine iteT ?_
      have := q H (Same.refl H)
      unfold chgC at this
      rw [if_pos ee, hch] at this
      exact this
    | some be =>
      obtain ⟨x, y⟩ := be
      rw [hch] at hcv
      obtain ⟨r, er, hr2⟩ := hcv
      subst er
      have bok := pok.ch x y hch
      refine ⟨_, rfl, rfl, _, rfl, ?_⟩
      refine iteF ?_
      refine ⟨_, rfl, r, _, rfl, SqT.of hr2, rfl, _, _, rfl, _, _, rfl, rfl, ?_⟩
      refine ⟨_, rfl, _, rfl, _, rfl, b, _, 2, _, rfl, rfl, SqT.of hb, rfl, _, rfl, b2, _, 2, _, rfl, rfl, SqT.of hb2, rfl, t, t2, _, _, rfl, .inr ⟨SqT.of ht, SqT.of ht2, fun Dl hD => ?_⟩⟩
      have hl : (c.args.map V.int).length = (c2.args.map V.int).length := by rw [List.length_map, List.length_map, ok.len, ok2.len, ee]
      refine lc_map (walk_zipT hl) hD (fun i v _ => ∃ x y : Int, c.args[i]? = some x ∧ c2.args[i]? = some y ∧ v = .int (iabs (x - y))) ?_ (fun H' s => ⟨SqT.of (s _ _ ht), SqT.of (s _ _ ht2)⟩) (fun i y H H' _ _ r _ => r) ?_ ?_
      · rw [List.length_map, ok.len]
        unfold alen
        split
        · omega
        · split <;> omega
      · rintro i xx Hx _ Qe hi s hl ⟨T, x1, y1, rfl, hT, rfl, h1, h2⟩ hq
        obtain ⟨m1, e1, rfl⟩ := map_at h1
        obtain ⟨m2, e2, rfl⟩ := map_at h2
        refine ⟨T, _, rfl, SqT.of upd_same, rfl, _, _, rfl, _, _, rfl, rfl, rfl, _, rfl, _, rfl, _, _, rfl, rfl, _, rfl, ?_⟩
        exact hq _ _ (same_new hT) ⟨m1, m2, e1, e2, rfl⟩
      · intro Hx ys s hys hlen hR
        have ey := dist_eq c.args c2.args c.args.length rfl (by rw [ok.len, ok2.len, ee]) ys (by rw [hlen, List.length_map]) hR
        subst ey
        refine ⟨Dl, _, rfl, SqL.of hys, ?_⟩
        refine ⟨_, _, rfl, rfl, .inl ⟨by omega, by omega⟩, _, _, rfl, rfl, ?_⟩
        have := q Hx s
        unfold chgC at this
        rw [if_pos ee, hch] at this
        exact this
  · have e1 : (!decide (V.str c.eff = V.str c2.eff)) = true := by simp [ee]
    rw [e1]
    refine iteT ?_
    refine iteT ?_
    have := q H (Same.refl H)
    unfold chgC at this
    rw [if_neg ee] at this
    exact this
/-! ### Prices.__init__ -/
def nPInit : List Str := ["self", "effects", "name", "undo", "do", "change", "number"]
theorem scPInit : FnScope nPInit ["self", "effects"] (defScope (inClass (top 8) 0)) := ⟨rfl, rfl, rfl, by decide +kernel, rfl, by decide +kernel, by decide +kernel⟩
def spPInit (CP : Addr) : Sp := fun vs H Q _ => ∃ (p dx d : Addr) (pr : Str → Price), vs = [.ref p, .ref d] ∧ H p = some (.ins CP dx []) ∧ EffsAt H d pr ∧ ∀ H', Sm [p] H H' → PricesAt CP H' p pr → Q .non H'
theorem eff_mem {e : Str} {ys : List Str} (p : ys.Perm (["pay", "ship", "tell"] : List Str)) (h : e ∈ ys) : IsEff e := by
  have := p.mem_iff.mp h
  simpa [IsEff] using this
theorem ok_pinit (B : Bl mg) (T : ClsP K CP) (C : Cal P w K mg base 1 "is_price" spIsPrice) (D : ClsAt K mg "Prices" "Prices.__init__" CP (inClass (top 8) 0)) : Mak P w K mg base 2 "Prices" CP (spPInit CP) := by
  refine mak_of D scPInit (fun _ _ _ _ _ _ us hl => match us, hl with | [_, _], _ => rfl) (fun vs H Q E h => by obtain ⟨p, dx, d, pr, rfl, _⟩ := h; rfl) fun f cdv A outer s H vs Q E hr h => ?_
  obtain ⟨p, dx, d, pr, rfl, hp, he, q⟩ := h
  have nd := scPInit.nd
  have hu' := hu_of hr
  refine ⟨_, pss_cons (ps_for PassesOwn.never rfl (pi_list (pe_callB (call_sortedD rfl) rfl B.sorted boot_sorted (pa_cons (pv 1) pa_nil))) (pg_name (i := 2) nd rfl (Or.inl rfl))
      (pss_cons (ps_asg (pe_dget hu' (pv 1) (pv 2) (fun _ _ => rfl)) (pg_tup rfl (pgs_cons (pg_name (i := 3) nd rfl (Or.inl rfl)) (pgs_cons (pg_name (i := 4) nd rfl (Or.inl rfl)) (pgs_cons (pg_name (i := 5) nd rfl (Or.inl rfl)) pgs_nil)))))
      (pss_cons (ps_if (PW.pt (pw_or (pt_not (pt_val (pe_c C hr (by decide) rfl (pa_cons (pv 3) pa_nil)))) (pw_or1 (pt_not (pt_val (pe_c C hr (by decide) rfl (pa_cons (pv 4) pa_nil))))))) pss_never pss_nil)
      (pss_one (ps_if (PW.pt (pw_and (pt_cmpR op_notN (pv 5) pe_non (nomark _)) (pw_and1 (pt_not (pt_val (pe_callB (cr_all rfl) rfl B.all boot_all (pa_cons
        (pe_lc (own := [("number", 6)]) (g := gName 6) (tt := tYes) rfl nd (pi_tup (pv 5)) (blkOk_by (own := [("number", 6)]) (N := nPInit) (sc := defScope (inClass (top 8) 0)) (by decide +kernel))
          (fun _ _ _ _ _ => pg_name (i := 6) nd rfl (Or.inl rfl)) (fun _ _ _ _ _ => pts_nil) (fun _ _ _ _ _ => pe_c C hr (by decide) rfl (pa_cons (pv 6) pa_nil))) pa_nil))))))) pss_never pss_nil)))))
    (pss_one (ps_fld (pv 0) (pe_callTy call_dictD rfl B.dict (by decide +kernel) (pa_cons (pv 1) pa_nil)) rfl)), ?_⟩
  obtain ⟨kvs, hd, hk, hf⟩ := id he
  refine ⟨_, rfl, d, kvs, ["pay", "ship", "tell"], rfl, .inl hd, hk, (by decide), fun ys l pm _ hl => ⟨l, rfl, ⟨_, SqL.of upd_same⟩, ?_⟩⟩
  refine for_list (K := K) (a := l) (xs := ys.map V.str) (fun i σ H' => Same (upd H l (.lst (ys.map V.str))) H' ∧ ∃ v2 v3 v4 v5 v6, σ = [some (.ref p), some (.ref d), v2, v3, v4, v5, v6])
    ⟨Same.refl _, _, _, _, _, _, rfl⟩ (fun i σ H' _ h => SqL.of (h.1 _ _ upd_same)) ?_ ?_
  · rintro i x σ H' hx ⟨s, v2, v3, v4, v5, v6, rfl⟩
    obtain ⟨e, he, rfl⟩ := map_at hx
    have ie := eff_mem pm (List.mem_of_getElem? he)
    obtain ⟨u, hu, ⟨a, cv, rfl, ha, hcv⟩, pok⟩ := hf e ie
    have s' : Same H H' := (same_new hl).trans s
    have gd : DGet H' d (.str e) (some (.ref a)) := by rw [← hu]; exact DGet.k (k := Sum.inr e) (s' _ _ hd)
    refine ⟨_, rfl, _, rfl, d, _, rfl, gd, a, _, rfl, SqT.of (s' _ _ ha), rfl, _, _, rfl, _, _, rfl, _, _, rfl, rfl, ?_⟩
    refine ⟨_, rfl, _, rfl, pok.u0, pok.u1, _, rfl, ?_⟩
    refine iteF ?_
    refine ⟨_, rfl, _, rfl, pok.d0, pok.d1, _, rfl, ?_⟩
    refine iteF ?_
    refine ⟨_, rfl, rfl, _, rfl, ?_⟩
    cases hch : (pr e).chg with
    | none =>
      rw [hch] at hcv
      have hcv' : cv = .non := hcv
      subst hcv'
      refine iteF ?_
      refine iteF ?_
      exact ⟨s, _, _, _, _, _, rfl⟩
    | some be =>
      obtain ⟨x, y⟩ := be
      rw [hch] at hcv
      obtain ⟨r, er, hr2⟩ := hcv
      subst er
      have bok := pok.ch x y hch
      refine iteT ?_
      refine ⟨_, rfl, r, rfl, ⟨_, SqT.of (s' _ _ hr2)⟩, fun Dl hD => ?_⟩
      refine lc_map walk_tup hD (fun i v _ => v = .bl true) (by show 2 ≤ 100000; decide) (fun H2 s2 => SqT.of (s2 _ _ (s' _ _ hr2))) (fun i y H H' _ _ r _ => r) ?_ ?_
      · rintro i xx Hx _ Qe hi s2 hl ⟨rfl, h1⟩ hq
        refine ⟨rfl, ?_⟩
        have hb : ∃ z : Int, xx = .int z ∧ 0 ≤ z ∧ z ≤ 1000000 := by
          match i, h1 with
          | 0, h1 => exact ⟨x, (Option.some.inj h1).symm, by omega, by omega⟩
          | 1, h1 => exact ⟨y, (Option.some.inj h1).symm, by omega, by omega⟩
          | n + 2, h1 => exact absurd h1 (by simp)
        obtain ⟨z, rfl, z0, z1⟩ := hb
        refine ⟨_, rfl, z, rfl, z0, z1, ?_⟩
        exact hq _ _ (Same.refl _) rfl
      · intro Hx zs s2 hzs hlen hR
        have ez : zs = ([true, true] : List Bool).map V.bl := by
          refine List.ext_getElem? fun i => ?_
          by_cases hi : i < zs.length
          · rw [List.getElem?_eq_getElem hi, hR i _ (List.getElem?_eq_getElem hi)]
            have : i < 2 := by rw [hlen] at hi; exact hi
            match i, this with
            | 0, _ => rfl
            | 1, _ => rfl
          · rw [List.getElem?_eq_none (by omega), List.getElem?_eq_none (by rw [hlen] at hi; exact Nat.not_lt.mp hi)]
        subst ez
        refine ⟨Dl, _, rfl, SqL.of hzs, true, rfl, ?_⟩
        refine iteF ?_
        exact ⟨s.trans s2, _, _, _, _, _, rfl⟩
  · rintro σ H' ⟨s, v2, v3, v4, v5, v6, rfl⟩
    have s' : Same H H' := (same_new hl).trans s
    refine ⟨_, rfl, d, kvs, rfl, .inl (s' _ _ hd), fun d2 hd2 => ?_⟩
    have np : p ≠ d2 := ne_of_none (s' _ _ hp) hd2
    refine ⟨_, rfl, p, CP, dx, [], rfl, ?_, T.cl, T.eff, by decide, ?_⟩
    · rw [upd_ne np]; exact s' _ _ hp
    · refine q _ (fun b o hb hq => ?_) ⟨dx, d2, upd_same, ?_⟩
      · have nb : b ≠ p := fun z => hb (by rw [z]; exact List.mem_singleton.mpr rfl)
        rw [upd_ne nb]
        exact same_new hd2 _ _ (s' _ _ hq)
      · refine ⟨kvs, ?_, hk, fun e ie => ?_⟩
        · rw [upd_ne np.symm]; exact upd_same
        · obtain ⟨u, hu, pa, pok⟩ := hf e ie
          obtain ⟨a, cv, rfl, ha, hcv⟩ := pa
          have na : a ≠ p := ne_of ha hp (fun z => by cases z)
          refine ⟨_, hu, ⟨a, cv, rfl, ?_, ?_⟩, pok⟩
          · rw [upd_ne na]; exact same_new hd2 _ _ (s' _ _ ha)
          · cases hch : (pr e).chg with
            | none => rw [hch] at hcv; exact hcv
            | some be =>
              rw [hch] at hcv
              obtain ⟨r, er, hr2⟩ := hcv
              have nr : r ≠ p := ne_of hr2 hp (fun z => by cases z)
              exact ⟨r, er, by rw [upd_ne nr]; exact same_new hd2 _ _ (s' _ _ hr2)⟩
end
end K33
namespace K33
open PySem PySem.Spec PyProof.Rows L2
section
variable {P : Program} {w : World} {K : PySem.W.Frag} {mg : Str → Option Value} {base : Heap} {CP CC : Addr}
/-! ### Costs.__init__ -/
def compScope : Expr → Scope
  | .ListComp _ _ sc _ => sc
  | _ => defScope (.Pass ⟨0, 0, 0, 0⟩)
def asgVal : Stmt → Expr
  | .Assign _ e _ => e
  | _ => .Constant .none 0 ⟨0, 0, 0, 0⟩
abbrev sCInit : Stmt := inClass (top 15) 0
def nCInit : List Str := ["self", "there", "here", "prices", "call", "first", "second"]
theorem scCInit : FnScope nCInit ["self", "there", "here", "prices"] (defScope sCInit) := ⟨rfl, rfl, rfl, by decide +kernel, rfl, by decide +kernel, by decide +kernel⟩
def instOf (pr : Str → Price) (cs1 cs2 : List Cll) : Inst := ⟨cs1.map fun c => (pr c.eff).undo, cs2.map fun c => (pr c.eff).do_, cs1.map fun c => cs2.map fun c2 => chgC pr c c2⟩
def spCInit (CP CC : Addr) : Sp := fun vs H Q _ => ∃ (H0 : Hp) (p dx t h q : Addr) (pr : Str → Price) (cs1 cs2 : List Cll), vs = [.ref p, .ref t, .ref h, .ref q] ∧ Same H0 H ∧ H0 p = none ∧ H p = some (.ins CC dx []) ∧
  CallsAt H0 t cs1 ∧ CallsAt H0 h cs2 ∧ PricesAt CP H0 q pr ∧ cs1.length ≤ 1000 ∧ cs2.length ≤ 1000 ∧ ∀ H', Same H0 H' → CostsAt CC H' p (instOf pr cs1 cs2) → Q .non H'
theorem putF_ne {f g : Str} {v x : V} {r : List (Str × V)} (h : ¬ g = f) : putF f v ((g, x) :: r) = (g, x) :: putF f v r := by
  show (if g = f then _ else _) = _
  rw [if_neg h]
theorem put_dos (a b : V) : putF "dos" b ([("undos", a)] : List (Str × V)) = ([("undos", a), ("dos", b)] : List (Str × V)) := by
  rw [putF_ne (by decide +kernel)]
  all_goals rfl
theorem put_changes (a b c : V) : putF "changes" c ([("undos", a), ("dos", b)] : List (Str × V)) = ([("undos", a), ("dos", b), ("changes", c)] : List (Str × V)) := by
  rw [putF_ne (by decide +kernel), putF_ne (by decide +kernel)]
  all_goals rfl
/-- a list whose items are told by place -/
theorem list_of {α : Type} (f : α → V) (l : List α) (vs : List V) (h : vs.length = l.length) (hv : ∀ (i : Nat) (v : V), vs[i]? = some v → ∃ x, l[i]? = some x ∧ v = f x) : vs = l.map f := by
  refine List.ext_getElem? fun i => ?_
  by_cases hi : i < vs.length
  · obtain ⟨x, h1, h2⟩ := hv i _ (List.getElem?_eq_getElem hi)
    rw [List.getElem?_eq_getElem hi, h2, List.getElem?_map, h1]
    all_goals rfl
  · rw [List.getElem?_eq_none (by omega), List.getElem?_eq_none (by rw [List.length_map]; omega)]
theorem ok_cinit (B : Bl mg) (T : ClsC K CC) (U : Cal P w K mg base 2 "undo_cost" (spUndoCost CP)) (Dc : Cal P w K mg base 2 "do_cost" (spDoCost CP)) (Cc : Cal P w K mg base 2 "change_cost" (spChangeCost CP))
    (D : ClsAt K mg "Costs" "Costs.__init__" CC sCInit) : Mak P w K mg base 3 "Costs" CC (spCInit CP CC) := by
  refine mak_of D scCInit (fun _ _ _ _ _ _ us hl => match us, hl with | [_, _, _, _], _ => rfl) (fun vs H Q E h => by obtain ⟨H0, p, dx, t, h, q, pr, cs1, cs2, rfl, _⟩ := h; rfl) fun f cdv A outer s H vs Q E hr h => ?_
  obtain ⟨H0, p, dx, t, h, q, pr, cs1, cs2, rfl, s0, hp0, hp, ht, hh, hq, l1, l2, k⟩ := h
  have nd := scCInit.nd
  refine ⟨_, pss_cons (ps_fld (pv 0) (pe_lc (own := [("call", 4)]) (g := gName 4) (tt := tYes) (te := tCall (spUndoCost CP) [] E0 (tCons (tVar 3) (tCons (tVar 4) tNil))) rfl nd (pi_list (pv 1))
        (blkOk_by (own := [("call", 4)]) (N := nCInit) (sc := defScope sCInit) (by decide +kernel)) (fun _ _ _ _ _ => pg_name (i := 4) nd rfl (Or.inl rfl)) (fun _ _ _ _ _ => pts_nil)
        (fun _ _ _ _ _ => pe_c U hr (by decide) rfl (pa_cons (pv 3) (pa_cons (pv 4) pa_nil)))) rfl)
    (pss_cons (ps_fld (pv 0) (pe_lc (own := [("call", 4)]) (g := gName 4) (tt := tYes) (te := tCall (spDoCost CP) [] E0 (tCons (tVar 3) (tCons (tVar 4) tNil))) rfl nd (pi_list (pv 2))
        (blkOk_by (own := [("call", 4)]) (N := nCInit) (sc := defScope sCInit) (by decide +kernel)) (fun _ _ _ _ _ => pg_name (i := 4) nd rfl (Or.inl rfl)) (fun _ _ _ _ _ => pts_nil)
        (fun _ _ _ _ _ => pe_c Dc hr (by decide) rfl (pa_cons (pv 3) (pa_cons (pv 4) pa_nil)))) rfl)
    (pss_one (ps_fld (pv 0) (pe_lc (own := [("first", 5)]) (g := gName 5) (tt := tYes) (te := tLc (iList K (tVar 2)) (gName 6) tYes (tCall (spChangeCost CP) [] E0 (tCons (tVar 3) (tCons (tVar 5) (tCons (tVar 6) tNil)))) [6]) rfl nd (pi_list (pv 1))
        (blkOk_by (own := [("first", 5)]) (N := nCInit) (sc := defScope sCInit) (by decide +kernel)) (fun _ _ _ _ _ => pg_name (i := 5) nd rfl (Or.inr rfl)) (fun _ _ _ _ _ => pts_nil)
        (fun _ _ _ _ _ => pe_lc (own := [("second", 6)]) (g := gName 6) (tt := tYes) (te := tCall (spChangeCost CP) [] E0 (tCons (tVar 3) (tCons (tVar 5) (tCons (tVar 6) tNil)))) rfl nd (pi_list (pv 2))
          (blkOk_by (own := [("second", 6)]) (N := nCInit) (sc := relS (compScope (asgVal ((defBody sCInit).getD 2 (.Pass ⟨0, 0, 0, 0⟩)))) (defScope sCInit)) (by decide +kernel)) (fun _ _ _ _ _ => pg_name (i := 6) nd rfl (Or.inl rfl)) (fun _ _ _ _ _ => pts_nil)
          (fun _ _ _ _ _ => pe_c Cc hr (by decide) rfl (pa_cons (pv 3) (pa_cons (pv 5) (pa_cons (pv 6) pa_nil)))))) rfl))), ?_⟩
  obtain ⟨vt, ht1, a1⟩ := ht
  obtain ⟨vh, hh1, a2⟩ := hh
  -- self.undos
  refine ⟨_, rfl, t, rfl, ⟨_, SqL.of (s0 _ _ ht1)⟩, fun D1 hD1 => lc_map walk_list hD1 (fun i v _ => ∃ c, cs1[i]? = some c ∧ v = .int (pr c.eff).undo) (by rw [a1.1]; omega) (fun Hx s => SqL.of (s _ _ (s0 _ _ ht1))) (fun i y H H' _ _ r _ => r) ?_ ?_⟩
  · rintro i x _ Hx Qe hi s hl ⟨rfl, h1⟩ kq
    obtain ⟨c, hc, ca⟩ := a1.of h1
    refine ⟨rfl, _, rfl, _, rfl, q, x, pr, c, rfl, hq.mono (s0.trans s), ca.mono (s0.trans s), ?_⟩
    exact kq _ _ (Same.refl _) ⟨c, hc, rfl⟩
  intro H1 ys1 s1 hy1 hl1 hR1
  have e1 := list_of V.int (cs1.map fun c => (pr c.eff).undo) ys1 (by rw [hl1, a1.1, List.length_map]) fun i v hv => by
    obtain ⟨c, hc, rfl⟩ := hR1 i v hv
    exact ⟨_, at_map hc, rfl⟩
  subst e1
  have t1 : Same H0 H1 := s0.trans s1
  have np1 : D1 ≠ p := fun e => by rw [e, hp] at hD1; cases hD1
  refine ⟨_, rfl, p, CC, dx, [], rfl, s1 _ _ hp, T.cl, T.undos, by decide, ?_⟩
  -- self.dos
  have t1' : Same H0 (upd H1 p (.ins CC dx (putF "undos" (.ref D1) []))) := t1.mut hp0
  refine ⟨_, rfl, h, rfl, ⟨_, SqL.of (t1' _ _ hh1)⟩, fun D2 hD2 => lc_map walk_list hD2 (fun i v _ => ∃ c, cs2[i]? = some c ∧ v = .int (pr c.eff).do_) (by rw [a2.1]; omega) (fun Hx s => SqL.of (s _ _ (t1' _ _ hh1))) (fun i y H H' _ _ r _ => r) ?_ ?_⟩
  · rintro i x _ Hx Qe hi s hl ⟨rfl, h1⟩ kq
    obtain ⟨c, hc, ca⟩ := a2.of h1
    refine ⟨rfl, _, rfl, _, rfl, q, x, pr, c, rfl, hq.mono (t1'.trans s), ca.mono (t1'.trans s), ?_⟩
    exact kq _ _ (Same.refl _) ⟨c, hc, rfl⟩
  intro H2 ys2 s2 hy2 hl2 hR2
  have e2 := list_of V.int (cs2.map fun c => (pr c.eff).do_) ys2 (by rw [hl2, a2.1, List.length_map]) fun i v hv => by
    obtain ⟨c, hc, rfl⟩ := hR2 i v hv
    exact ⟨_, at_map hc, rfl⟩
  subst e2
  have t2 : Same H0 H2 := t1'.trans s2
  have np2 : D2 ≠ p := fun e => by rw [e, upd_same] at hD2; cases hD2
  have n12 : D1 ≠ D2 := fun e => by rw [← e, upd_ne np1, hy1] at hD2; cases hD2
  have g1 : H2 D1 = some (.lst ((cs1.map fun c => (pr c.eff).undo).map V.int)) := s2 _ _ (by rw [upd_ne np1]; exact hy1)
  refine ⟨_, rfl, p, CC, dx, _, rfl, s2 _ _ upd_same, T.cl, T.dos, (by show 1 < 1000; decide), ?_⟩
  -- self.changes
  have t2' : Same H0 (upd H2 p (.ins CC dx (putF "dos" (.ref D2) (putF "undos" (.ref D1) [])))) := t2.mut hp0
  refine ⟨_, rfl, t, rfl, ⟨_, SqL.of (t2' _ _ ht1)⟩, fun D3 hD3 => lc_map walk_list hD3 (fun i v H => ∃ c r, cs1[i]? = some c ∧ v = .ref r ∧ r ≠ D3 ∧ H r = some (.lst ((cs2.map fun c2 => chgC pr c c2).map optV))) (by rw [a1.1]; omega) (fun Hx s => SqL.of (s _ _ (t2' _ _ ht1)))
    (fun i y H H' _ _ ⟨c, r, hc, e, nr, hr⟩ s => ⟨c, r, hc, e, nr, s _ _ (fun m => nr (List.mem_singleton.mp m)) hr⟩) ?_ ?_⟩
  · rintro i x _ Hx Qe hi s ⟨l3, hl3⟩ ⟨rfl, h1⟩ kq
    obtain ⟨c, hc, ca⟩ := a1.of h1
    have tx : Same H0 Hx := t2'.trans s
    refine ⟨rfl, _, rfl, h, rfl, ⟨_, SqL.of (tx _ _ hh1)⟩, fun D4 hD4 => lc_map walk_list hD4 (fun i v _ => ∃ c2, cs2[i]? = some c2 ∧ v = optV (chgC pr c c2)) (by rw [a2.1]; omega) (fun Hy s => SqL.of (s _ _ (tx _ _ hh1))) (fun i y H H' _ _ r _ => r) ?_ ?_⟩
    · rintro j y _ Hy Qf hj sy hl4 ⟨rfl, h2⟩ kf
      obtain ⟨c2, hc2, ca2⟩ := a2.of h2
      refine ⟨rfl, _, rfl, _, rfl, _, rfl, q, x, y, pr, c, c2, rfl, hq.mono (tx.trans sy), ca.mono (tx.trans sy), ca2.mono (tx.trans sy), fun Hz sz => ?_⟩
      exact kf _ _ sz ⟨c2, hc2, rfl⟩
    · intro Hy ys sy hys hly hRy
      have e := list_of optV (cs2.map fun c2 => chgC pr c c2) ys (by rw [hly, a2.1, List.length_map]) fun i v hv => by
        obtain ⟨c2, hc2, rfl⟩ := hRy i v hv
        exact ⟨_, at_map hc2, rfl⟩
      subst e
      exact kq _ _ sy ⟨c, D4, hc, rfl, (fun e => by rw [e, hl3] at hD4; cases hD4), hys⟩
  intro H3 ys3 s3 hy3 hl3 hR3
  have t3 : Same H0 H3 := t2'.trans s3
  have np3 : D3 ≠ p := fun e => by rw [e, upd_same] at hD3; cases hD3
  have n13 : D1 ≠ p := np1
  refine ⟨_, rfl, p, CC, dx, _, rfl, s3 _ _ upd_same, T.cl, T.changes, Nat.lt_of_le_of_lt (length_putF "dos" (V.ref D2) ([("undos", V.ref D1)] : List (Str × V))) (by show 1 + 1 < 1000; decide), ?_⟩
  refine k _ (t3.mut hp0) ⟨dx, D1, D2, D3, ys3, ?_, ?_, ?_, ?_, ?_, ?_⟩
  · rw [upd_same]
    show some (HO.ins CC dx (putF "changes" (.ref D3) (putF "dos" (.ref D2) ([("undos", .ref D1)] : List (Str × V))))) = _
    rw [put_dos, put_changes]
  · show upd _ _ _ _ = _
    rw [upd_ne np1]
    exact s3 _ _ (by rw [upd_ne np1]; exact g1)
  · show upd _ _ _ _ = _
    rw [upd_ne np2]
    exact s3 _ _ (by rw [upd_ne np2]; exact hy2)
  · rw [upd_ne np3]; exact hy3
  · show ys3.length = (cs1.map _).length
    rw [hl3, a1.1, List.length_map]
  · intro i v row hv hrow
    obtain ⟨c, r, hc, e, nr, hr⟩ := hR3 i v hv
    obtain ⟨c', hc', e'⟩ := map_at hrow
    rw [hc] at hc'
    cases hc'
    subst e'
    have nrp : r ≠ p := ne_of hr (s3 _ _ upd_same) (fun z => by cases z)
    exact ⟨r, e, by rw [upd_ne nrp]; exact hr⟩
/-! ### Costs.of -/
theorem iteEq {a b : V} {A B : Prop} (h : a = b) (p : A) : if decide (a = b) = true then A else B := by rw [if_pos (decide_eq_true h)]; exact p
theorem iteNe {a b : V} {A B : Prop} (h : a ≠ b) (p : B) : if decide (a = b) = true then A else B := by rw [if_neg (by rw [decide_eq_false h]; exact Bool.false_ne_true)]; exact p
theorem iteTr {c A B : Prop} [Decidable c] (h : c) (p : A) : if decide c = true then A else B := by rw [if_pos (decide_eq_true h)]; exact p
theorem iteFa {c A B : Prop} [Decidable c] (h : ¬ c) (p : B) : if decide c = true then A else B := by rw [if_neg (by rw [decide_eq_false h]; exact Bool.false_ne_true)]; exact p
theorem vs_ne {a b : Str} (h : a ≠ b) : V.str a ≠ V.str b := fun e => h (V.str.inj e)
theorem ne_do_undo : V.str "do" ≠ V.str "undo" := vs_ne (by decide +kernel)
theorem ne_undo_do : V.str "undo" ≠ V.str "do" := vs_ne (by decide +kernel)
theorem ne_ch_undo : V.str "change" ≠ V.str "undo" := vs_ne (by decide +kernel)
theorem ne_ch_do : V.str "change" ≠ V.str "do" := vs_ne (by decide +kernel)
theorem ne_undo_ch : V.str "undo" ≠ V.str "change" := vs_ne (by decide +kernel)
theorem ne_do_ch : V.str "do" ≠ V.str "change" := vs_ne (by decide +kernel)
def dcost (I : Inst) : Deed → Option Int
  | .undo i => some (I.us.getD i 0)
  | .do_ j => some (I.ds.getD j 0)
  | .chg i j => (I.cs.getD i []).getD j none
structure InstOk (I : Inst) : Prop where
  len : I.cs.length = I.us.length
  row : ∀ (i : Nat) (r : List (Option Int)), I.cs[i]? = some r → r.length = I.ds.length
def DOk (n m : Nat) : Deed → Prop
  | .undo i => i < n
  | .do_ j => j < m
  | .chg i j => i < n ∧ j < m
theorem getD_at {α : Type} {l : List α} {i : Nat} {d : α} (h : i < l.length) : l[i]? = some (l.getD i d) := by
  rw [List.getD_eq_getElem?_getD, List.getElem?_eq_getElem h]
  all_goals rfl
def nOf : List Str := ["self", "deed", "kind"]
theorem scOf : FnScope nOf ["self", "deed"] (defScope (inClass (top 15) 1)) := ⟨rfl, rfl, rfl, by decide +kernel, rfl, by decide +kernel, by decide +kernel⟩
def spOf (CC : Addr) : Sp := fun vs H Q _ => ∃ (p : Addr) (v : V) (I : Inst) (d : Deed), vs = [.ref p, v] ∧ CostsAt CC H p I ∧ InstOk I ∧ DeedAt H v d ∧ DOk I.us.length I.ds.length d ∧ Q (optV (dcost I d)) H
theorem ok_of (B : Bl mg) (T : ClsC K CC) (D : MetAt K CC "of" "Costs.of" (inClass (top 15) 1)) : Met P w K mg base 1 CC "of" (spOf CC) := by
  refine met_of D scOf (fun _ _ _ _ _ _ us hl => match us, hl with | [_, _], _ => rfl) (fun vs H Q E h => by obtain ⟨p, v, I, d, rfl, _⟩ := h; rfl) fun f cdv A outer s H vs Q E hr h => ?_
  obtain ⟨p, v, I, d, rfl, ⟨dx, a, b, c, rs, hp, ha, hb, hc, hrs⟩, iok, ⟨t, rfl, ht⟩, dok, q⟩ := h
  have nd := scOf.nd
  refine ⟨_, pss_cons (ps_set (i := 2) nd rfl (Or.inl rfl) (pe_ix ix_tup (pv 1) pe_int (fun _ _ => rfl)))
    (pss_cons (ps_if (PW.pt (pw_and (pt_cmpR op_eq (pv 2) pe_str (nomark _)) (pw_and1 (pt_chain op_le op_lt pe_int (pe_ix ix_tup (pv 1) pe_int (fun _ _ => rfl)) (pe_callB call_len_seq rfl B.len PySem.boot_len (pa_cons (pe_fld (pv 0) rfl) pa_nil))))))
      (pss_one (ps_ret (pe_ix ix_list (pe_fld (pv 0) rfl) (pe_ix ix_tup (pv 1) pe_int (fun _ _ => rfl)) (fun _ _ => rfl)))) pss_nil)
    (pss_cons (ps_if (PW.pt (pw_and (pt_cmpR op_eq (pv 2) pe_str (nomark _)) (pw_and1 (pt_chain op_le op_lt pe_int (pe_ix ix_tup (pv 1) pe_int (fun _ _ => rfl)) (pe_callB call_len_seq rfl B.len PySem.boot_len (pa_cons (pe_fld (pv 0) rfl) pa_nil))))))
      (pss_one (ps_ret (pe_ix ix_list (pe_fld (pv 0) rfl) (pe_ix ix_tup (pv 1) pe_int (fun _ _ => rfl)) (fun _ _ => rfl)))) pss_nil)
    (pss_cons (ps_if (PW.pt (pw_and (pt_cmpR op_eq (pv 2) pe_str (nomark _)) (pw_and (pt_chain op_le op_lt pe_int (pe_ix ix_tup (pv 1) pe_int (fun _ _ => rfl)) (pe_callB call_len_seq rfl B.len PySem.boot_len (pa_cons (pe_fld (pv 0) rfl) pa_nil)))
        (pw_and1 (pt_chain op_le op_lt pe_int (pe_ix ix_tup (pv 1) pe_int (fun _ _ => rfl)) (pe_callB call_len_seq rfl B.len PySem.boot_len (pa_cons (pe_fld (pv 0) rfl) pa_nil)))))))
      (pss_one (ps_ret (pe_ix ix_list (pe_ix ix_list (pe_fld (pv 0) rfl) (pe_ix ix_tup (pv 1) pe_int (fun _ _ => rfl)) (fun _ _ => rfl)) (pe_ix ix_tup (pv 1) pe_int (fun _ _ => rfl)) (fun _ _ => rfl)))) pss_nil)
    (pss_one (ps_ret pe_non))))), ?_⟩
  cases d with
  | undo i =>
    have ht' : H t = some (.tup [.str "undo", .int i]) := ht
    have hi : i < I.us.length := dok
    refine ⟨_, rfl, t, _, 0, _, rfl, rfl, SqT.of ht', rfl, ?_⟩
    refine ⟨_, rfl, rfl, _, rfl, ?_⟩
    refine iteEq rfl ?_
    refine ⟨_, rfl, t, _, 1, _, rfl, rfl, SqT.of ht', rfl, _, _, rfl, rfl, _, rfl, ?_⟩
    refine iteTr (by omega) ?_
    refine ⟨_, rfl, p, CC, dx, _, _, rfl, hp, T.cl, T.undos, rfl, a, _, rfl, .inl (SqL.of ha), _, _, rfl, rfl, _, rfl, ?_⟩
    refine iteTr (by rw [List.length_map]; omega) ?_
    refine ⟨_, rfl, p, CC, dx, _, _, rfl, hp, T.cl, T.undos, rfl, _, rfl, t, _, 1, _, rfl, rfl, SqT.of ht', rfl, a, _, _, _, rfl, rfl, SqL.of ha, atI_nat (at_map (getD_at (d := 0) hi)), q⟩
  | do_ j =>
    have ht' : H t = some (.tup [.str "do", .int j]) := ht
    have hj : j < I.ds.length := dok
    refine ⟨_, rfl, t, _, 0, _, rfl, rfl, SqT.of ht', rfl, ?_⟩
    refine ⟨_, rfl, rfl, _, rfl, ?_⟩
    refine iteNe ne_do_undo ?_
    refine iteF ?_
    refine ⟨_, rfl, rfl, _, rfl, ?_⟩
    refine iteEq rfl ?_
    refine ⟨_, rfl, t, _, 1, _, rfl, rfl, SqT.of ht', rfl, _, _, rfl, rfl, _, rfl, ?_⟩
    refine iteTr (by omega) ?_
    refine ⟨_, rfl, p, CC, dx, _, _, rfl, hp, T.cl, T.dos, rfl, b, _, rfl, .inl (SqL.of hb), _, _, rfl, rfl, _, rfl, ?_⟩
    refine iteTr (by rw [List.length_map]; omega) ?_
    refine ⟨_, rfl, p, CC, dx, _, _, rfl, hp, T.cl, T.dos, rfl, _, rfl, t, _, 1, _, rfl, rfl, SqT.of ht', rfl, b, _, _, _, rfl, rfl, SqL.of hb, atI_nat (at_map (getD_at (d := 0) hj)), q⟩
  | chg i j =>
    have ht' : H t = some (.tup [.str "change", .int i, .int j]) := ht
    obtain ⟨hi, hj⟩ : i < I.us.length ∧ j < I.ds.length := dok
    have hrow := getD_at (d := []) (l := I.cs) (i := i) (by rw [iok.len]; exact hi)
    obtain ⟨vr, hvr, r, rfl, hr⟩ := hrs.at_ hrow
    have hlr := iok.row i _ hrow
    refine ⟨_, rfl, t, _, 0, _, rfl, rfl, SqT.of ht', rfl, ?_⟩
    refine ⟨_, rfl, rfl, _, rfl, ?_⟩
    refine iteNe ne_ch_undo ?_
    refine iteF ?_
    refine ⟨_, rfl, rfl, _, rfl, ?_⟩
    refine iteNe ne_ch_do ?_
    refine iteF ?_
    refine ⟨_, rfl, rfl, _, rfl, ?_⟩
    refine iteEq rfl ?_
    refine ⟨_, rfl, t, _, 1, _, rfl, rfl, SqT.of ht', rfl, _, _, rfl, rfl, _, rfl, ?_⟩
    refine iteTr (by omega) ?_
    refine ⟨_, rfl, p, CC, dx, _, _, rfl, hp, T.cl, T.undos, rfl, a, _, rfl, .inl (SqL.of ha), _, _, rfl, rfl, _, rfl, ?_⟩
    refine iteTr (by rw [List.length_map]; omega) ?_
    refine ⟨_, rfl, t, _, 2, _, rfl, rfl, SqT.of ht', rfl, _, _, rfl, rfl, _, rfl, ?_⟩
    refine iteTr (by omega) ?_
    refine ⟨_, rfl, p, CC, dx, _, _, rfl, hp, T.cl, T.dos, rfl, b, _, rfl, .inl (SqL.of hb), _, _, rfl, rfl, _, rfl, ?_⟩
    refine iteTr (by rw [List.length_map]; omega) ?_
    refine ⟨_, rfl, p, CC, dx, _, _, rfl, hp, T.cl, T.changes, rfl, _, rfl, t, _, 1, _, rfl, rfl, SqT.of ht', rfl, c, _, _, _, rfl, rfl, SqL.of hc, atI_nat hvr, ?_⟩
    refine ⟨_, rfl, t, _, 2, _, rfl, rfl, SqT.of ht', rfl, r, _, _, _, rfl, rfl, SqL.of hr, atI_nat (at_map (getD_at (d := none) (by rw [hlr]; exact hj))), q⟩
end
end K33
namespace K33
open PySem PySem.Spec PyProof.Rows L2
/-! ### lists of ints as data -/
theorem dpAll_ints {K : PySem.W.Frag} {H : Hp} : ∀ ns : List Int, DpAll K H (ns.map V.int) (ns.map PyData.int)
  | [] => .nil
  | n :: ns => .cons (.int n) (dpAll_ints ns)
theorem ints_lay : ∀ ns : List Int, PyData.canLayAll0 (ns.map PyData.int) = true
  | [] => by simp [PyData.canLayAll0]
  | n :: ns => by simp [PyData.canLayAll0, PyData.canLay0, ints_lay ns]
theorem ints_depth : ∀ ns : List Int, PyData.depthAll (ns.map PyData.int) ≤ 1
  | [] => by simp [PyData.depthAll]
  | n :: ns => by
    have := ints_depth ns
    simp only [List.map_cons, PyData.depthAll, PyData.depth]
    omega
theorem ints_shaped (ns : List Int) : SeqAt.shaped (.list (ns.map PyData.int)) = true := by
  have h1 := ints_depth ns
  have h2 : PyData.depth (.list (ns.map PyData.int)) ≤ 64 := by
    simp only [PyData.depth]
    omega
  show (PyData.canLay0 (.list (ns.map PyData.int)) && decide (PyData.depth (.list (ns.map PyData.int)) ≤ 64)) = true
  rw [Bool.and_eq_true]
  exact ⟨by simp only [PyData.canLay0]; exact ints_lay ns, decide_eq_true h2⟩
theorem ints_eqvAll : ∀ ns : List Int, PyData.eqvAll (ns.map PyData.int) (ns.map PyData.int) = true
  | [] => by simp [PyData.eqvAll]
  | n :: ns => by simp [PyData.eqvAll, PyData.eqv, ints_eqvAll ns]
theorem ints_eqv (ns : List Int) : PyData.eqv (.list (ns.map PyData.int)) (.list (ns.map PyData.int)) = true := by
  simp only [PyData.eqv]
  exact ints_eqvAll ns
/-- two sorted arrangements of the same are one -/
theorem sorted_same {a b : List Int} (hp : a.Perm b) (ha : a.Pairwise (· ≤ ·)) (hb : b.Pairwise (· ≤ ·)) : a = b := hp.eq_of_pairwise (fun x y _ _ h1 h2 => Int.le_antisymm h1 h2) ha hb
def zi (n : Nat) : Int := n
theorem range_sorted (n : Nat) : ((List.range n).map zi).Pairwise (· ≤ ·) := by
  refine List.pairwise_map.mpr (List.Pairwise.imp ?_ (List.pairwise_lt_range (n := n)))
  intro a b h
  show (a : Int) ≤ (b : Int)
  omega
def nV (n : Nat) : V := .int (n : Int)
theorem map_nV (l : List Nat) : l.map nV = (l.map zi).map V.int := by rw [List.map_map]; rfl
theorem rgV_range (n : Nat) : rgV 0 (n : Int) = ((List.range n).map zi).map V.int := by
  unfold rgV
  rw [List.map_map]
  have : ((n : Int) - 0).toNat = n := by omega
  rw [this]
  refine List.map_congr_left fun i _ => ?_
  show V.int (0 + (i : Int)) = V.int (i : Int)
  rw [Int.zero_add]
/-- sorted(l) == list(range(n)) for a list that holds 0 .. n - 1 in some order -/
theorem sorted_range {l : List Nat} {n : Nat} {ys : List Int} (h : l.Perm (List.range n)) (p : ys.Perm (l.map zi)) (s : ys.Pairwise (· ≤ ·)) : ys = (List.range n).map zi :=
  sorted_same (p.trans (h.map _)) s (range_sorted n)
theorem same_made {H : Hp} {x dx C : Addr} {fs : List (Str × V)} (nx : H x = none) (nd : H dx = none) : Same H (upd (upd H dx (.own x)) x (.ins C dx fs)) := fun b o e => by
  rw [upd_ne (ne_of_none e nx), upd_ne (ne_of_none e nd)]; exact e
/-! ### plans -/
def leftOf : Deed → Option Nat
  | .undo i => some i
  | .do_ _ => none
  | .chg i _ => some i
def rightOf : Deed → Option Nat
  | .undo _ => none
  | .do_ j => some j
  | .chg _ j => some j
structure PlanOk (I : Inst) (ds : List Deed) : Prop where
  ok : ∀ d ∈ ds, DOk I.us.length I.ds.length d ∧ (dcost I d).isSome = true
  left : (ds.filterMap leftOf).Perm (List.range I.us.length)
  right : (ds.filterMap rightOf).Perm (List.range I.ds.length)
theorem fm_take {α β : Type} (f : α → Option β) {l : List α} {i : Nat} {x : α} (h : l[i]? = some x) : (l.take (i + 1)).filterMap f = (l.take i).filterMap f ++ (match f x with | none => [] | some y => [y]) := by
  have hi := (List.getElem?_eq_some_iff.mp h).1
  have e : l[i] = x := (List.getElem?_eq_some_iff.mp h).2
  rw [List.take_succ_eq_append_getElem hi, List.filterMap_append, e]
  cases hf : f x <;> simp [List.filterMap, hf]
theorem in_l1 : inV (.str "undo") [.str "undo", .str "change"] = true := by decide +kernel
theorem in_l2 : inV (.str "do") [.str "undo", .str "change"] = false := by decide +kernel
theorem in_l3 : inV (.str "change") [.str "undo", .str "change"] = true := by decide +kernel
theorem in_r1 : inV (.str "undo") [.str "do", .str "change"] = false := by decide +kernel
theorem in_r2 : inV (.str "do") [.str "do", .str "change"] = true := by decide +kernel
theorem in_r3 : inV (.str "change") [.str "do", .str "change"] = true := by decide +kernel
theorem iteB {b : Bool} {A B : Prop} (h : b = true) (p : A) : if b = true then A else B := by rw [if_pos h]; exact p
theorem iteBf {b : Bool} {A B : Prop} (h : b = false) (p : B) : if b = true then A else B := by rw [if_neg (by rw [h]; exact Bool.false_ne_true)]; exact p
section
variable {P : Program} {w : World} {K : PySem.W.Frag} {mg : Str → Option Value} {base : Heap} {CP CC : Addr}
def nIsPlan : List Str := ["there", "here", "prices", "deeds", "costs", "lefts", "rights", "deed"]
theorem scIsPlan : FnScope nIsPlan ["there", "here", "prices", "deeds"] (defScope (top 16)) := ⟨rfl, rfl, rfl, by decide +kernel, rfl, by decide +kernel, by decide +kernel⟩
def spIsPlan (CP : Addr) : Sp := fun vs H Q _ => ∃ (t h q d : Addr) (pr : Str → Price) (cs1 cs2 : List Cll) (ds : List Deed), vs = [.ref t, .ref h, .ref q, .ref d] ∧ CallsAt H t cs1 ∧ CallsAt H h cs2 ∧ PricesAt CP H q pr ∧ cs1.length ≤ 8 ∧ cs2.length ≤ 8 ∧
  DeedsAt H d ds ∧ ds.length ≤ 16 ∧ PlanOk (instOf pr cs1 cs2) ds ∧ ∀ H', Same H H' → Q (.bl true) H'
theorem instOf_ok (pr : Str → Price) (cs1 cs2 : List Cll) : InstOk (instOf pr cs1 cs2) := by
  refine ⟨by show (cs1.map _).length = (cs1.map _).length; rw [List.length_map, List.length_map], fun i r h => ?_⟩
  obtain ⟨c, _, e⟩ := map_at h
  rw [e]
  show (cs2.map _).length = (cs2.map _).length
  rw [List.length_map, List.length_map]
theorem ok_is_plan (B : Bl mg) (T : ClsC K CC) (M : Mak P w K mg base 3 "Costs" CC (spCInit CP CC)) (O : Met P w K mg base 1 CC "of" (spOf CC)) (D : DefAt K mg "is_plan" (top 16)) : Cal P w K mg base 5 "is_plan" (spIsPlan CP) := by
  refine cal_of D scIsPlan (fun _ _ _ _ _ _ us hl => match us, hl with | [_, _, _, _], _ => rfl) (fun vs H Q E h => by obtain ⟨t, h, q, d, pr, cs1, cs2, ds, rfl, _⟩ := h; rfl) fun f cdv A outer s H vs Q E hr h => ?_
  obtain ⟨t, h, q, d, pr, cs1, cs2, ds, rfl, ht, hh, hq, l1, l2, hd, ld, pok, k⟩ := h
  have nd := scIsPlan.nd
  refine ⟨_, pss_cons (ps_set (i := 4) nd rfl (Or.inl rfl) (pe_mk M hr (by decide) rfl (pa_cons (pv 0) (pa_cons (pv 1) (pa_cons (pv 2) pa_nil)))))
    (pss_cons (ps_set (i := 5) nd rfl (Or.inl rfl) (pe_lst pa_nil))
    (pss_cons (ps_set (i := 6) nd rfl (Or.inl rfl) (pe_lst pa_nil))
    (pss_cons (ps_for PassesOwn.never rfl (pi_list (pv 3)) (pg_name (i := 7) nd rfl (Or.inl rfl))
      (pss_cons (ps_if (pt_cmpR op_isN (pe_mt O T.cl hr (by decide) (pv 4) (pa_cons (pv 7) pa_nil)) pe_non (nomark _)) (pss_one (ps_ret pe_bl)) pss_nil)
      (pss_cons (ps_if (pt_cmpR op_in_seq (pe_ix ix_tup (pv 7) pe_int (fun _ _ => rfl)) (pe_tup (pa_cons pe_str (pa_cons pe_str pa_nil))) (by rfl))
        (pss_one (ps_expr (pe_bm PySem.F.plainAttrs_list PySem.F.slot_list_append PySem.F.type_list_append mt_append (pv 5) (pa_cons (pe_ix ix_tup (pv 7) pe_int (fun _ _ => rfl)) pa_nil)))) pss_nil)
      (pss_one (ps_if (pt_cmpR op_in_seq (pe_ix ix_tup (pv 7) pe_int (fun _ _ => rfl)) (pe_tup (pa_cons pe_str (pa_cons pe_str pa_nil))) (by rfl))
        (pss_one (ps_expr (pe_bm PySem.F.plainAttrs_list PySem.F.slot_list_append PySem.F.type_list_append mt_append (pv 6) (pa_cons (pe_ix ix_tup (pv 7) (pe_op op_sub (pe_callB call_len_seq rfl B.len PySem.boot_len (pa_cons (pv 7) pa_nil)) pe_int) (fun _ _ => rfl)) pa_nil)))) pss_nil)))))
    (pss_one (ps_ret (pe_and (pe_cmpR (op_eqD hr.units) (pe_callB cr_sorted rfl B.sorted boot_sorted (pa_cons (pv 5) pa_nil)) (pe_listRg rfl rfl B.list (prg_1 rfl B.range (pe_callB call_len_seq rfl B.len PySem.boot_len (pa_cons (pv 0) pa_nil)))) (nomark _))
      (pe_one (pe_cmpR (op_eqD hr.units) (pe_callB cr_sorted rfl B.sorted boot_sorted (pa_cons (pv 6) pa_nil)) (pe_listRg rfl rfl B.list (prg_1 rfl B.range (pe_callB call_len_seq rfl B.len PySem.boot_len (pa_cons (pv 1) pa_nil)))) (nomark _))))))))), ?_⟩
  have iok := instOf_ok pr cs1 cs2
  refine ⟨_, rfl, _, rfl, _, rfl, fun c dx nc ndx nex => ?_⟩
  refine ⟨H, c, dx, t, h, q, pr, cs1, cs2, rfl, same_made nc ndx, nc, upd_same, ht, hh, hq, by omega, by omega, fun H1 s1 hc => ⟨rfl, ?_⟩⟩
  refine ⟨Nat.zero_le _, fun l hl => ⟨Nat.zero_le _, fun r hr2 => ?_⟩⟩
  obtain ⟨vs, hvs, a2⟩ := hd
  obtain ⟨dxc, ca, cb, cc, rs, hc1, _⟩ := id hc
  have nlr : l ≠ r := ne_of_none upd_same hr2
  have hr1 : H1 r = none := by rw [upd_ne nlr.symm] at hr2; exact hr2
  have s3 : Same H1 (upd (upd H1 l (.lst [])) r (.lst [])) := ((same_new hl).mut hr1)
  refine ⟨_, rfl, d, rfl, ⟨_, SqL.of (s3 _ _ (s1 _ _ hvs))⟩, for_list (K := K) (a := d) (xs := vs) (fun i σ H' => Same H1 H' ∧ H' l = some (.lst (((ds.take i).filterMap leftOf).map nV)) ∧ H' r = some (.lst (((ds.take i).filterMap rightOf).map nV)) ∧
      ∃ v7, σ = [some (.ref t), some (.ref h), some (.ref q), some (.ref d), some (.ref c), some (.ref l), some (.ref r), v7])
    ⟨s3, by rw [upd_ne nlr]; exact upd_same, upd_same, none, rfl⟩ (fun i σ H' _ p => SqL.of (p.1 _ _ (s1 _ _ hvs))) ?_ ?_⟩
  · rintro i x σ H' hx ⟨s, hl', hr', v7, rfl⟩
    obtain ⟨dd, hdd, a, rfl, ha⟩ := a2.of hx
    have hi := (List.getElem?_eq_some_iff.mp hdd).1
    have dok := pok.ok dd (List.mem_of_getElem? hdd)
    have ha' : H' a = some (.tup (deedV dd)) := s _ _ (s1 _ _ ha)
    have el := fm_take leftOf hdd
    have er := fm_take rightOf hdd
    have zl : (((ds.take i).filterMap leftOf).map nV).length < sizeLine := szl (by
      rw [List.length_map]
      have := List.length_filterMap_le leftOf (ds.take i)
      rw [List.length_take] at this; omega)
    have zr : (((ds.take i).filterMap rightOf).map nV).length < sizeLine := szl (by
      rw [List.length_map]
      have := List.length_filterMap_le rightOf (ds.take i)
      rw [List.length_take] at this; omega)
    -- if costs.of(deed) is None: return False
    refine ⟨_, rfl, c, dxc, _, rfl, s _ _ hc1, rfl, _, rfl, c, _, _, dd, rfl, hc.mono s, iok, ⟨a, rfl, ha'⟩, dok.1, ?_⟩
    refine ⟨rfl, _, rfl, ?_⟩
    obtain ⟨cv, ecv⟩ := Option.isSome_iff_exists.mp dok.2
    refine iteNe (by rw [ecv]; intro z; cases z) ?_
    cases dd with
    | undo n =>
      have ha1 : H' a = some (.tup [.str "undo", .int n]) := ha'
      refine ⟨_, rfl, a, _, 0, _, rfl, rfl, SqT.of ha1, rfl, by show 2 ≤ sizeLine; decide, fun p1 hp1 => ⟨p1, _, rfl, .inr (SqT.of upd_same), rfl, rfl, _, rfl, ?_⟩⟩
      refine iteB in_l1 ?_
      have sp1 : Same H' (upd H' p1 (.tup [.str "undo", .str "change"])) := same_new hp1
      refine ⟨_, rfl, .inl ⟨rfl, _, SqL.of (sp1 _ _ hl')⟩, _, rfl, a, _, 1, _, rfl, rfl, SqT.of (sp1 _ _ ha1), rfl, l, _, _, rfl, rfl, sp1 _ _ hl', zl, ?_⟩
      have t1 := ((s.trans sp1).mut hl (o := .lst (((ds.take i).filterMap leftOf).map nV ++ [.int n])))
      have ha2 := t1 _ _ (s1 _ _ ha)
      refine ⟨_, rfl, a, _, 0, _, rfl, rfl, SqT.of ha2, rfl, by show 2 ≤ sizeLine; decide, fun p2 hp2 => ⟨p2, _, rfl, .inr (SqT.of upd_same), rfl, rfl, _, rfl, ?_⟩⟩
      refine iteBf in_r1 ?_
      refine ⟨t1.trans (same_new hp2), ?_, ?_, _, rfl⟩
      · refine same_new hp2 _ _ ?_
        rw [upd_same, el, List.map_append]
        all_goals rfl
      · refine same_new hp2 _ _ ?_
        rw [upd_ne nlr.symm, er, List.map_append]
        refine (sp1 _ _ hr').trans ?_
        exact congrArg (fun z => some (HO.lst z)) (List.append_nil _).symm
    | do_ n =>
      have ha1 : H' a = some (.tup [.str "do", .int n]) := ha'
      refine ⟨_, rfl, a, _, 0, _, rfl, rfl, SqT.of ha1, rfl, by show 2 ≤ sizeLine; decide, fun p1 hp1 => ⟨p1, _, rfl, .inr (SqT.of upd_same), rfl, rfl, _, rfl, ?_⟩⟩
      refine iteBf in_l2 ?_
      have sp1 : Same H' (upd H' p1 (.tup [.str "undo", .str "change"])) := same_new hp1
      have t1 := s.trans sp1
      have ha2 : (upd H' p1 (.tup [.str "undo", .str "change"])) a = some (.tup [.str "do", .int n]) := sp1 _ _ ha1
      refine ⟨_, rfl, a, _, 0, _, rfl, rfl, SqT.of ha2, rfl, by show 2 ≤ sizeLine; decide, fun p2 hp2 => ⟨p2, _, rfl, .inr (SqT.of upd_same), rfl, rfl, _, rfl, ?_⟩⟩
      refine iteB in_r2 ?_
      have sp2 := same_new hp2 (o := .tup [.str "do", .str "change"])
      have ha3 := sp2 _ _ ha2
      refine ⟨_, rfl, .inl ⟨rfl, _, SqL.of (sp2 _ _ (sp1 _ _ hr'))⟩, _, rfl, _, rfl, a, _, rfl, .inr (SqT.of ha3), _, _, rfl, rfl, a, _, _, _, rfl, rfl, SqT.of ha3, (by rfl), r, _, _, rfl, rfl, sp2 _ _ (sp1 _ _ hr'), zr, ?_⟩
      refine ⟨(t1.trans sp2).mut hr1, ?_, ?_, _, rfl⟩
      · rw [upd_ne nlr, el, List.map_append]
        refine (sp2 _ _ (sp1 _ _ hl')).trans ?_
        exact congrArg (fun z => some (HO.lst z)) (List.append_nil _).symm
      · rw [upd_same, er, List.map_append]
        all_goals rfl
    | chg n j =>
      have ha1 : H' a = some (.tup [.str "change", .int n, .int j]) := ha'
      refine ⟨_, rfl, a, _, 0, _, rfl, rfl, SqT.of ha1, rfl, by show 2 ≤ sizeLine; decide, fun p1 hp1 => ⟨p1, _, rfl, .inr (SqT.of upd_same), rfl, rfl, _, rfl, ?_⟩⟩
      refine iteB in_l3 ?_
      have sp1 : Same H' (upd H' p1 (.tup [.str "undo", .str "change"])) := same_new hp1
      refine ⟨_, rfl, .inl ⟨rfl, _, SqL.of (sp1 _ _ hl')⟩, _, rfl, a, _, 1, _, rfl, rfl, SqT.of (sp1 _ _ ha1), rfl, l, _, _, rfl, rfl, sp1 _ _ hl', zl, ?_⟩
      have t1 := ((s.trans sp1).mut hl (o := .lst (((ds.take i).filterMap leftOf).map nV ++ [.int n])))
      have ha2 := t1 _ _ (s1 _ _ ha)
      refine ⟨_, rfl, a, _, 0, _, rfl, rfl, SqT.of ha2, rfl, by show 2 ≤ sizeLine; decide, fun p2 hp2 => ⟨p2, _, rfl, .inr (SqT.of upd_same), rfl, rfl, _, rfl, ?_⟩⟩
      refine iteB in_r3 ?_
      have sp2 := same_new hp2 (o := .tup [.str "do", .str "change"])
      have ha3 := sp2 _ _ ha2
      have hr3 : upd (upd (upd H' p1 (.tup [.str "undo", .str "change"])) l (.lst (((ds.take i).filterMap leftOf).map nV ++ [.int n]))) p2 (.tup [.str "do", .str "change"]) r = some (.lst (((ds.take i).filterMap rightOf).map nV)) := by
        refine sp2 _ _ ?_
        rw [upd_ne nlr.symm]
        exact sp1 _ _ hr'
      refine ⟨_, rfl, .inl ⟨rfl, _, SqL.of hr3⟩, _, rfl, _, rfl, a, _, rfl, .inr (SqT.of ha3), _, _, rfl, rfl, a, _, _, _, rfl, rfl, SqT.of ha3, (by rfl), r, _, _, rfl, rfl, hr3, zr, ?_⟩
      refine ⟨(t1.trans sp2).mut hr1, ?_, ?_, _, rfl⟩
      · rw [upd_ne nlr]
        refine sp2 _ _ ?_
        rw [upd_same, el, List.map_append]
        all_goals rfl
      · rw [upd_same, er, List.map_append]
        all_goals rfl
  · rintro σ H' ⟨s, hl', hr', v7, rfl⟩
    rw [← a2.1.symm, List.take_length, map_nV] at hl' hr'
    obtain ⟨vt, ht1, b1⟩ := ht
    obtain ⟨vh, hh1, b2⟩ := hh
    have lt : (instOf pr cs1 cs2).us.length = vt.length := by rw [b1.1]; exact List.length_map _
    have lh : (instOf pr cs1 cs2).ds.length = vh.length := by rw [b2.1]; exact List.length_map _
    refine ⟨_, rfl, l, _, rfl, SqL.of hl', ?_, fun ys p pm so hp => ?_⟩
    · rw [List.length_map, pok.left.length_eq, List.length_range, lt, b1.1]; omega
    have e1 := sorted_range (n := vt.length) (by rw [← lt]; exact pok.left) pm so
    subst e1
    have sp := same_new hp (o := .lst (((List.range vt.length).map zi).map V.int))
    refine ⟨_, rfl, t, _, rfl, .inl (SqL.of (sp _ _ (s _ _ (s1 _ _ ht1)))), _, rfl, RgOk.of_le (by omega) (by rw [b1.1]; omega) (by omega) (by omega), fun p2 hp2 => ?_⟩
    have sp2 := same_new hp2 (o := .lst (rgV 0 (vt.length : Nat)))
    refine ⟨_, _, .lst (SqL.of (sp2 _ _ upd_same)) (dpAll_ints _), .lst (SqL.of upd_same) (by rw [rgV_range]; exact dpAll_ints _), ints_shaped _, ints_shaped _, ?_⟩
    rw [ints_eqv]
    refine ⟨true, rfl, iteT ?_⟩
    have hr2 := sp2 _ _ (sp _ _ hr')
    refine ⟨_, rfl, r, _, rfl, SqL.of hr2, ?_, fun ys p3 pm so hp3 => ?_⟩
    · rw [List.length_map, pok.right.length_eq, List.length_range, lh, b2.1]; omega
    have e2 := sorted_range (n := vh.length) (by rw [← lh]; exact pok.right) pm so
    subst e2
    have sp3 := same_new hp3 (o := .lst (((List.range vh.length).map zi).map V.int))
    refine ⟨_, rfl, h, _, rfl, .inl (SqL.of (sp3 _ _ (sp2 _ _ (sp _ _ (s _ _ (s1 _ _ hh1)))))), _, rfl, RgOk.of_le (by omega) (by rw [b2.1]; omega) (by omega) (by omega), fun p4 hp4 => ?_⟩
    have sp4 := same_new hp4 (o := .lst (rgV 0 (vh.length : Nat)))
    refine ⟨_, _, .lst (SqL.of (sp4 _ _ upd_same)) (dpAll_ints _), .lst (SqL.of upd_same) (by rw [rgV_range vh.length]; exact dpAll_ints _), ints_shaped _, ints_shaped _, ?_⟩
    rw [ints_eqv]
    exact k _ (s1.trans (s.trans (sp.trans (sp2.trans (sp3.trans sp4)))))
end
end K33
namespace K33
open PySem PySem.Spec PyProof.Rows L2
section
variable {P : Program} {w : World} {K : PySem.W.Frag} {mg : Str → Option Value} {base : Heap} {CP CC : Addr}
/-! ### cost -/
def sumCost (I : Inst) (ds : List Deed) : Int := (ds.map fun d => (dcost I d).getD 0).sum
def nCost : List Str := ["there", "here", "prices", "deeds", "costs", "deed"]
theorem scCost : FnScope nCost ["there", "here", "prices", "deeds"] (defScope (top 17)) := ⟨rfl, rfl, rfl, by decide +kernel, rfl, by decide +kernel, by decide +kernel⟩
def spCost (CP : Addr) : Sp := fun vs H Q _ => ∃ (t h q d : Addr) (pr : Str → Price) (cs1 cs2 : List Cll) (ds : List Deed), vs = [.ref t, .ref h, .ref q, .ref d] ∧ CallsAt H t cs1 ∧ CallsAt H h cs2 ∧ PricesAt CP H q pr ∧ cs1.length ≤ 8 ∧ cs2.length ≤ 8 ∧
  DeedsAt H d ds ∧ ds.length ≤ 16 ∧ (∀ x ∈ ds, DOk (instOf pr cs1 cs2).us.length (instOf pr cs1 cs2).ds.length x ∧ (dcost (instOf pr cs1 cs2) x).isSome = true) ∧ ∀ H', Same H H' → Q (.int (sumCost (instOf pr cs1 cs2) ds)) H'
theorem ok_cost (B : Bl mg) (T : ClsC K CC) (M : Mak P w K mg base 3 "Costs" CC (spCInit CP CC)) (O : Met P w K mg base 1 CC "of" (spOf CC)) (D : DefAt K mg "cost" (top 17)) : Cal P w K mg base 5 "cost" (spCost CP) := by
  refine cal_of D scCost (fun _ _ _ _ _ _ us hl => match us, hl with | [_, _, _, _], _ => rfl) (fun vs H Q E h => by obtain ⟨t, h, q, d, pr, cs1, cs2, ds, rfl, _⟩ := h; rfl) fun f cdv A outer s H vs Q E hr h => ?_
  obtain ⟨t, h, q, d, pr, cs1, cs2, ds, rfl, ht, hh, hq, l1, l2, hd, ld, pok, k⟩ := h
  have nd := scCost.nd
  refine ⟨_, pss_cons (ps_set (i := 4) nd rfl (Or.inr rfl) (pe_mk M hr (by decide) rfl (pa_cons (pv 0) (pa_cons (pv 1) (pa_cons (pv 2) pa_nil)))))
    (pss_one (ps_ret (pe_callB (cr_sum rfl) rfl B.sum boot_sum (pa_cons
      (pe_lc (own := [("deed", 5)]) (g := gName 5) (tt := tYes) (te := tMeth CC "of" (spOf CC) [] E0 (tVar 4) (tCons (tVar 5) tNil)) rfl nd (pi_list (pv 3)) (blkOk_by (own := [("deed", 5)]) (N := nCost) (sc := defScope (top 17)) (by decide +kernel))
        (fun _ _ _ _ _ => pg_name (i := 5) nd rfl (Or.inl rfl)) (fun _ _ _ _ _ => pts_nil) (fun _ _ _ _ _ => pe_mt O T.cl hr (by decide) (pv 4) (pa_cons (pv 5) pa_nil))) pa_nil)))), ?_⟩
  have iok := instOf_ok pr cs1 cs2
  refine ⟨_, rfl, _, rfl, _, rfl, fun c dx nc ndx nex => ?_⟩
  refine ⟨H, c, dx, t, h, q, pr, cs1, cs2, rfl, same_made nc ndx, nc, upd_same, ht, hh, hq, by omega, by omega, fun H1 s1 hc => ⟨rfl, ?_⟩⟩
  obtain ⟨vs, hvs, a2⟩ := hd
  obtain ⟨dxc, ca, cb, cc, rs, hc1, _⟩ := id hc
  refine ⟨_, rfl, d, rfl, ⟨_, SqL.of (s1 _ _ hvs)⟩, fun Dl hD => lc_map walk_list hD (fun i v _ => ∃ dd, ds[i]? = some dd ∧ v = .int ((dcost (instOf pr cs1 cs2) dd).getD 0)) (by rw [a2.1]; omega) (fun Hx s => SqL.of (s _ _ (s1 _ _ hvs))) (fun i y H H' _ _ r _ => r) ?_ ?_⟩
  · rintro i x _ Hx Qe hi s hl ⟨rfl, h1⟩ kq
    obtain ⟨dd, hdd, da⟩ := a2.of h1
    have dok := pok dd (List.mem_of_getElem? hdd)
    refine ⟨rfl, _, rfl, c, dxc, _, rfl, s _ _ hc1, rfl, _, rfl, c, x, _, dd, rfl, hc.mono s, iok, da.mono (s1.trans s), dok.1, ?_⟩
    obtain ⟨cv, ecv⟩ := Option.isSome_iff_exists.mp dok.2
    rw [ecv]
    exact kq _ _ (Same.refl _) ⟨dd, hdd, by rw [ecv]; rfl⟩
  · intro Hx ys s hys hlen hR
    have e := list_of V.int (ds.map fun d => (dcost (instOf pr cs1 cs2) d).getD 0) ys (by rw [hlen, a2.1, List.length_map]) fun i v hv => by
      obtain ⟨dd, hdd, rfl⟩ := hR i v hv
      exact ⟨_, at_map hdd, rfl⟩
    subst e
    exact ⟨Dl, _, rfl, SqL.of hys, k _ (s1.trans s)⟩
/-! ### is_fair -/
structure FairI (I : Inst) (ls rs : List Int) : Prop where
  left : ∀ (i : Nat) (l u : Int), ls[i]? = some l → I.us[i]? = some u → l ≤ u
  both : ∀ (i : Nat) (row : List (Option Int)) (l : Int) (j : Nat) (r c : Int), I.cs[i]? = some row → ls[i]? = some l → rs[j]? = some r → row[j]? = some (some c) → l + r ≤ c
  right : ∀ (j : Nat) (r d : Int), rs[j]? = some r → I.ds[j]? = some d → r ≤ d
def RowFair (I : Inst) (ls rs : List Int) (i : Nat) : Prop := (∀ l u : Int, ls[i]? = some l → I.us[i]? = some u → l ≤ u) ∧
  ∀ (row : List (Option Int)) (l : Int) (j : Nat) (r c : Int), I.cs[i]? = some row → ls[i]? = some l → rs[j]? = some r → row[j]? = some (some c) → l + r ≤ c
def nIsFair : List Str := ["there", "here", "prices", "paper", "costs", "lefts", "rights", "left", "row", "undo", "right", "change", "do"]
theorem scIsFair : FnScope nIsFair ["there", "here", "prices", "paper"] (defScope (top 18)) := ⟨rfl, rfl, rfl, by decide +kernel, rfl, by decide +kernel, by decide +kernel⟩
def spIsFair (CP : Addr) : Sp := fun vs H Q _ => ∃ (t h q : Addr) (pp : V) (pr : Str → Price) (cs1 cs2 : List Cll) (ls rs : List Int), vs = [.ref t, .ref h, .ref q, pp] ∧ CallsAt H t cs1 ∧ CallsAt H h cs2 ∧ PricesAt CP H q pr ∧ cs1.length ≤ 8 ∧ cs2.length ≤ 8 ∧
  PaperAt H pp ls rs ∧ ls.length = cs1.length ∧ rs.length = cs2.length ∧ ∀ b H', (b = true ↔ FairI (instOf pr cs1 cs2) ls rs) → Same H H' → Q (.bl b) H'
theorem ok_is_fair (B : Bl mg) (T : ClsC K CC) (M : Mak P w K mg base 3 "Costs" CC (spCInit CP CC)) (D : DefAt K mg "is_fair" (top 18)) : Cal P w K mg base 5 "is_fair" (spIsFair CP) := by
  refine cal_of D scIsFair (fun _ _ _ _ _ _ us hl => match us, hl with | [_, _, _, _], _ => rfl) (fun vs H Q E h => by obtain ⟨t, h, q, d, pr, cs1, cs2, ls, rs, rfl, _⟩ := h; rfl) fun f cdv A outer s H vs Q E hr h => ?_
  obtain ⟨t, h, q, pp, pr, cs1, cs2, ls, rs, rfl, ht, hh, hq, l1, l2, hpp, ell, elr, k⟩ := h
  have nd := scIsFair.nd
  refine ⟨_, pss_cons (ps_set (i := 4) nd rfl (Or.inl rfl) (pe_mk M hr (by decide) rfl (pa_cons (pv 0) (pa_cons (pv 1) (pa_cons (pv 2) pa_nil)))))
    (pss_cons (ps_asg (pv 3) (pg_tup rfl (pgs_cons (pg_name (i := 5) nd rfl (Or.inl rfl)) (pgs_cons (pg_name (i := 6) nd rfl (Or.inl rfl)) pgs_nil))))
    (pss_cons (ps_if (PW.pt (pw_or (pt_cmpR op_ne (pe_callB call_len_seq rfl B.len PySem.boot_len (pa_cons (pv 5) pa_nil)) (pe_callB call_len_seq rfl B.len PySem.boot_len (pa_cons (pv 0) pa_nil)) (nomark _))
        (pw_or1 (pt_cmpR op_ne (pe_callB call_len_seq rfl B.len PySem.boot_len (pa_cons (pv 6) pa_nil)) (pe_callB call_len_seq rfl B.len PySem.boot_len (pa_cons (pv 1) pa_nil)) (nomark _))))) (pss_one (ps_ret pe_bl)) pss_nil)
    (pss_cons (ps_for PassesOwn.never rfl (pi_zip3 rfl B.zip (pa_cons (pv 5) (pa_cons (pe_fld (pv 4) rfl) (pa_cons (pe_fld (pv 4) rfl) pa_nil)))) (pg_tup rfl (pgs_cons (pg_name (i := 7) nd rfl (Or.inl rfl)) (pgs_cons (pg_name (i := 8) nd rfl (Or.inl rfl)) (pgs_cons (pg_name (i := 9) nd rfl (Or.inl rfl)) pgs_nil))))
      (pss_cons (ps_if (pt_cmpR op_gt (pv 7) (pv 9) (nomark _)) (pss_one (ps_ret pe_bl)) pss_nil)
      (pss_one (ps_for PassesOwn.never rfl (pi_zip rfl B.zip (pa_cons (pv 6) (pa_cons (pv 8) pa_nil))) (pg_tup rfl (pgs_cons (pg_name (i := 10) nd rfl (Or.inl rfl)) (pgs_cons (pg_name (i := 11) nd rfl (Or.inl rfl)) pgs_nil)))
        (pss_one (ps_if (PW.pt (pw_and (pt_cmpR op_notN (pv 11) pe_non (nomark _)) (pw_and1 (pt_cmpR op_gt (pe_op op_add (pv 7) (pv 10)) (pv 11) (nomark _))))) (pss_one (ps_ret pe_bl)) pss_nil))))))
    (pss_one (ps_ret (pe_callB (cr_all rfl) rfl B.all boot_all (pa_cons
      (pe_lc (own := [("right", 10), ("do", 12)]) (g := gTup K 2 (gCons (gName 10) (gCons (gName 12) gNil))) (tt := tYes) (te := tOp (rI0 fun i j => .bl (decide (i ≤ j))) (tVar 10) (tVar 12)) rfl nd
        (pi_zip rfl B.zip (pa_cons (pv 6) (pa_cons (pe_fld (pv 4) rfl) pa_nil))) (blkOk_by (own := [("right", 10), ("do", 12)]) (N := nIsFair) (sc := defScope (top 18)) (by decide +kernel))
        (fun _ _ _ _ _ => pg_tup rfl (pgs_cons (pg_name (i := 10) nd rfl (Or.inl rfl)) (pgs_cons (pg_name (i := 12) nd rfl (Or.inl rfl)) pgs_nil))) (fun _ _ _ _ _ => pts_nil)
        (fun _ _ _ _ _ => pe_cmpR op_le (pv 10) (pv 12) (nomark _))) pa_nil))))))), ?_⟩
  have iok := instOf_ok pr cs1 cs2
  refine ⟨_, rfl, _, rfl, _, rfl, fun c dx nc ndx nex => ?_⟩
  refine ⟨H, c, dx, t, h, q, pr, cs1, cs2, rfl, same_made nc ndx, nc, upd_same, ht, hh, hq, by omega, by omega, fun H1 s1 hc => ⟨rfl, ?_⟩⟩
  obtain ⟨pa, l, r, rfl, hpa, hl, hr1⟩ := hpp
  obtain ⟨vt, ht1, b1⟩ := ht
  obtain ⟨vh, hh1, b2⟩ := hh
  obtain ⟨dxc, ca, cb, cc, rv, hc1, hca, hcb, hcc, hrv⟩ := hc
  refine ⟨_, rfl, pa, _, rfl, SqT.of (s1 _ _ hpa), rfl, _, _, rfl, _, _, rfl, rfl, ?_⟩
  refine ⟨_, rfl, l, _, rfl, .inl (SqL.of (s1 _ _ hl)), _, rfl, t, _, rfl, .inl (SqL.of (s1 _ _ ht1)), rfl, _, rfl, ?_⟩
  rw [decide_eq_true (show V.int ((ls.map V.int).length : Nat) = V.int (vt.length : Nat) by rw [List.length_map, ell, b1.1])]
  refine iteF ?_
  refine ⟨_, rfl, r, _, rfl, .inl (SqL.of (s1 _ _ hr1)), _, rfl, h, _, rfl, .inl (SqL.of (s1 _ _ hh1)), rfl, _, rfl, ?_⟩
  rw [decide_eq_true (show V.int ((rs.map V.int).length : Nat) = V.int (vh.length : Nat) by rw [List.length_map, elr, b2.1])]
  refine iteF ?_
  have lus : (instOf pr cs1 cs2).us.length = cs1.length := List.length_map _
  have lds : (instOf pr cs1 cs2).ds.length = cs2.length := List.length_map _
  have lcs : (instOf pr cs1 cs2).cs.length = cs1.length := List.length_map _
  refine ⟨_, rfl, _, rfl, c, CC, dxc, _, _, rfl, hc1, T.cl, T.changes, rfl, _, rfl, c, CC, dxc, _, _, rfl, hc1, T.cl, T.undos, rfl, l, cc, ca, _, _, _, rfl, SqL.of (s1 _ _ hl), SqL.of hcc, SqL.of hca, ?_⟩
  have hrl : rv.length = cs1.length := by rw [hrv.1, lcs]
  refine for_it (walk_zip3 (K := K) (a := l) (b := cc) (c := ca) (xs := ls.map V.int) (ys := rv) (us := (instOf pr cs1 cs2).us.map V.int) (by rw [List.length_map, hrl, ell]) (by rw [List.length_map, List.length_map, lus, ell]))
    (fun i σ H' => Same H1 H' ∧ (∀ i', i' < i → RowFair (instOf pr cs1 cs2) ls rs i') ∧ ∃ v7 v8 v9 v10 v11 v12, σ = [some (.ref t), some (.ref h), some (.ref q), some (.ref pa), some (.ref c), some (.ref l), some (.ref r), v7, v8, v9, v10, v11, v12])
    ⟨Same.refl _, fun i' z => absurd z (Nat.not_lt_zero i'), none, none, none, none, none, none, rfl⟩ (fun i σ H' _ p => ⟨SqL.of (p.1 _ _ (s1 _ _ hl)), SqL.of (p.1 _ _ hcc), SqL.of (p.1 _ _ hca)⟩) ?_ ?_
  · rintro i x σ H' _ hi ⟨s, hp, v7, v8, v9, v10, v11, v12, rfl⟩ ⟨Tt, x1, x2, x3, rfl, hT, rfl, e1, e2, e3⟩
    obtain ⟨lv, f1, rfl⟩ := map_at e1
    obtain ⟨row, f2, rr, rfl, hrr⟩ := hrv.of e2
    obtain ⟨uv, f3, rfl⟩ := map_at e3
    have sT := s.trans (same_new hT (o := .tup [.int lv, .ref rr, .int uv]))
    have lrow := iok.row i row f2
    refine ⟨Tt, _, rfl, SqT.of upd_same, rfl, _, _, rfl, _, _, rfl, _, _, rfl, rfl, ?_⟩
    refine ⟨_, rfl, _, rfl, _, _, rfl, rfl, _, rfl, ?_⟩
    by_cases hlt : uv < lv
    · refine iteTr hlt ?_
      exact k false _ ⟨fun z => (by cases z), fun F => absurd (F.left i lv uv f1 f3) (by omega)⟩ (s1.trans sT)
    · refine iteFa hlt ?_
      refine ⟨_, rfl, _, rfl, r, rr, _, _, rfl, SqL.of (sT _ _ (s1 _ _ hr1)), SqL.of (sT _ _ hrr), ?_⟩
      refine for_it (walk_zip (K := K) (a := r) (b := rr) (xs := rs.map V.int) (ys := row.map optV) rfl)
        (fun j σ H' => Same H1 H' ∧ (∀ j', j' < j → ∀ rx cx : Int, rs[j']? = some rx → row[j']? = some (some cx) → lv + rx ≤ cx) ∧ ∃ v10 v11 v12, σ = [some (.ref t), some (.ref h), some (.ref q), some (.ref pa), some (.ref c), some (.ref l), some (.ref r), some (.int lv), some (.ref rr), some (.int uv), v10, v11, v12])
        ⟨sT, fun j' z => absurd z (Nat.not_lt_zero j'), _, _, _, rfl⟩ (fun j σ H' _ p => ⟨SqL.of (p.1 _ _ (s1 _ _ hr1)), SqL.of (p.1 _ _ hrr)⟩) ?_ ?_
      · rintro j y σ H2 _ hj ⟨s2, hp2, w10, w11, w12, rfl⟩ ⟨T2, y1, y2, rfl, hT2, rfl, g1, g2⟩
        obtain ⟨rx, h1, rfl⟩ := map_at g1
        obtain ⟨ox, h2, rfl⟩ := map_at g2
        have sT2 := s2.trans (same_new hT2 (o := .tup [.int rx, optV ox]))
        refine ⟨T2, _, rfl, SqT.of upd_same, rfl, _, _, rfl, _, _, rfl, rfl, ?_⟩
        refine ⟨_, rfl, rfl, _, rfl, ?_⟩
        cases ox with
        | none =>
          refine iteF ?_
          refine iteF ?_
          refine ⟨sT2, fun j' hj' rx' cx' q1 q2 => ?_, _, _, _, rfl⟩
          by_cases e : j' = j
          · subst e; rw [h2] at q2; cases q2
          · exact hp2 j' (by omega) rx' cx' q1 q2
        | some cx =>
          refine iteT ?_
          refine ⟨_, rfl, _, rfl, _, _, rfl, rfl, _, rfl, _, _, rfl, rfl, _, rfl, ?_⟩
          by_cases hgt : cx < lv + rx
          · refine iteTr hgt ?_
            exact k false _ ⟨fun z => (by cases z), fun F => absurd (F.both i row lv j rx cx f2 f1 h1 h2) (by omega)⟩ (s1.trans sT2)
          · refine iteFa hgt ?_
            refine ⟨sT2, fun j' hj' rx' cx' q1 q2 => ?_, _, _, _, rfl⟩
            by_cases e : j' = j
            · subst e
              rw [h1] at q1
              rw [h2] at q2
              cases q1
              cases q2
              omega
            · exact hp2 j' (by omega) rx' cx' q1 q2
      · rintro σ H2 ⟨s2, hp2, w10, w11, w12, rfl⟩
        refine ⟨s2, fun i' hi' => ?_, _, _, _, _, _, _, rfl⟩
        by_cases e : i' = i
        · subst e
          refine ⟨fun l' u' q1 q2 => ?_, fun row' l' j r' c' q1 q2 q3 q4 => ?_⟩
          · rw [f1] at q1
            rw [f3] at q2
            cases q1
            cases q2
            omega
          · rw [f2] at q1
            rw [f1] at q2
            cases q1
            cases q2
            have k1 := (List.getElem?_eq_some_iff.mp q3).1
            have k2 := (List.getElem?_eq_some_iff.mp q4).1
            exact hp2 j (by rw [List.length_map, List.length_map]; omega) r' c' q3 q4
        · exact hp i' (by omega)
  · rintro σ H' ⟨s, hp, v7, v8, v9, v10, v11, v12, rfl⟩
    refine ⟨_, rfl, _, rfl, c, CC, dxc, _, _, rfl, s _ _ hc1, T.cl, T.dos, rfl, r, cb, _, _, rfl, SqL.of (s _ _ (s1 _ _ hr1)), SqL.of (s _ _ hcb), fun Dl hD => ?_⟩
    refine lc_map (walk_zip (K := K) (a := r) (b := cb) (xs := rs.map V.int) (ys := (instOf pr cs1 cs2).ds.map V.int) rfl) hD (fun i v _ => ∃ x y : Int, rs[i]? = some x ∧ (instOf pr cs1 cs2).ds[i]? = some y ∧ v = .bl (decide (x ≤ y)))
      (by rw [List.length_map, List.length_map]; omega) (fun Hx s2 => ⟨SqL.of (s2 _ _ (s _ _ (s1 _ _ hr1))), SqL.of (s2 _ _ (s _ _ hcb))⟩) (fun i y H H' _ _ r _ => r) ?_ ?_
    · rintro i xx Hx _ Qe hi s2 hl ⟨T2, x1, y1, rfl, hT, rfl, h1, h2⟩ kq
      obtain ⟨m1, e1, rfl⟩ := map_at h1
      obtain ⟨m2, e2, rfl⟩ := map_at h2
      refine ⟨T2, _, rfl, SqT.of upd_same, rfl, _, _, rfl, _, _, rfl, rfl, rfl, _, rfl, _, rfl, _, _, rfl, rfl, ?_⟩
      exact kq _ _ (same_new hT) ⟨m1, m2, e1, e2, rfl⟩
    · intro Hx ys s2 hys hlen hR
      have en : min (rs.map V.int).length ((instOf pr cs1 cs2).ds.map V.int).length = cs2.length := by rw [List.length_map, List.length_map]; omega
      rw [en] at hlen
      have e := list_of V.bl ((List.range cs2.length).map fun j => decide (rs.getD j 0 ≤ (instOf pr cs1 cs2).ds.getD j 0)) ys (by rw [hlen, List.length_map, List.length_range]) fun i v hv => by
        obtain ⟨x, y, h1, h2, rfl⟩ := hR i v hv
        have li := (List.getElem?_eq_some_iff.mp hv).1
        refine ⟨_, at_map (List.getElem?_range (by omega)), ?_⟩
        rw [List.getD_eq_getElem?_getD, List.getD_eq_getElem?_getD, h1, h2]
        all_goals rfl
      subst e
      refine ⟨Dl, _, rfl, SqL.of hys, ?_⟩
      refine k _ _ ?_ (s1.trans (s.trans s2))
      rw [List.all_map, List.all_eq_true]
      constructor
      · intro hall
        refine ⟨fun i l' u' q1 q2 => ?_, fun i row' l' j r' c' q1 q2 q3 q4 => ?_, fun j r' d' q1 q2 => ?_⟩
        · have := (List.getElem?_eq_some_iff.mp q1).1
          exact (hp i (by rw [List.length_map]; omega)).1 l' u' q1 q2
        · have := (List.getElem?_eq_some_iff.mp q2).1
          exact (hp i (by rw [List.length_map]; omega)).2 row' l' j r' c' q1 q2 q3 q4
        · have := (List.getElem?_eq_some_iff.mp q1).1
          have z := hall j (List.mem_range.mpr (by omega))
          have z' : decide (rs.getD j 0 ≤ (instOf pr cs1 cs2).ds.getD j 0) = true := z
          rw [List.getD_eq_getElem?_getD, List.getD_eq_getElem?_getD, q1, q2] at z'
          exact of_decide_eq_true z'
      · intro F j hj
        have hj' := List.mem_range.mp hj
        have g1 := getD_at (d := 0) (l := rs) (i := j) (by omega)
        have g2 := getD_at (d := 0) (l := (instOf pr cs1 cs2).ds) (i := j) (by omega)
        exact decide_eq_true (F.right j _ _ g1 g2)
/-! ### accepts -/
def nAccepts : List Str := ["there", "here", "prices", "deeds", "paper"]
theorem scAccepts : FnScope nAccepts nAccepts (defScope (top 19)) := ⟨rfl, rfl, rfl, by decide +kernel, rfl, by decide +kernel, by decide +kernel⟩
def spAccepts (CP : Addr) : Sp := fun vs H Q _ => ∃ (t h q d : Addr) (pp : V) (pr : Str → Price) (cs1 cs2 : List Cll) (ds : List Deed) (ls rs : List Int), vs = [.ref t, .ref h, .ref q, .ref d, pp] ∧ CallsAt H t cs1 ∧ CallsAt H h cs2 ∧ PricesAt CP H q pr ∧ cs1.length ≤ 8 ∧ cs2.length ≤ 8 ∧
  DeedsAt H d ds ∧ ds.length ≤ 16 ∧ PlanOk (instOf pr cs1 cs2) ds ∧ PaperAt H pp ls rs ∧ ls.length = cs1.length ∧ rs.length = cs2.length ∧
  ∀ b H', (b = true ↔ (FairI (instOf pr cs1 cs2) ls rs ∧ ls.sum + rs.sum = sumCost (instOf pr cs1 cs2) ds)) → Same H H' → Q (.bl b) H'
theorem ok_accepts (B : Bl mg) (Cp : Cal P w K mg base 5 "is_plan" (spIsPlan CP)) (Cf : Cal P w K mg base 5 "is_fair" (spIsFair CP)) (Cc : Cal P w K mg base 5 "cost" (spCost CP)) (D : DefAt K mg "accepts" (top 19)) : Cal P w K mg base 6 "accepts" (spAccepts CP) := by
  refine cal_of D scAccepts (fun _ _ _ _ _ _ us hl => match us, hl with | [_, _, _, _, _], _ => rfl) (fun vs H Q E h => by obtain ⟨t, h, q, d, pp, pr, cs1, cs2, ds, ls, rs, rfl, _⟩ := h; rfl) fun f cdv A outer s H vs Q E hr h => ?_
  obtain ⟨t, h, q, d, pp, pr, cs1, cs2, ds, ls, rs, rfl, ht, hh, hq, l1, l2, hd, ld, pok, hpp, ell, elr, k⟩ := h
  refine ⟨_, pss_cons (ps_if (PW.pt (pw_or (pt_not (pt_val (pe_c Cp hr (by decide) rfl (pa_cons (pv 0) (pa_cons (pv 1) (pa_cons (pv 2) (pa_cons (pv 3) pa_nil))))))) (pw_or1 (pt_not (pt_val (pe_c Cf hr (by decide) rfl (pa_cons (pv 0) (pa_cons (pv 1) (pa_cons (pv 2) (pa_cons (pv 4) pa_nil)))))))))) (pss_one (ps_ret pe_bl)) pss_nil)
    (pss_one (ps_ret (pe_cmpR op_eq (pe_op op_add (pe_callB (cr_sum rfl) rfl B.sum boot_sum (pa_cons (pe_ix ix_tup (pv 4) pe_int (fun _ _ => rfl)) pa_nil)) (pe_callB (cr_sum rfl) rfl B.sum boot_sum (pa_cons (pe_ix ix_tup (pv 4) pe_int (fun _ _ => rfl)) pa_nil)))
      (pe_c Cc hr (by decide) rfl (pa_cons (pv 0) (pa_cons (pv 1) (pa_cons (pv 2) (pa_cons (pv 3) pa_nil))))) (nomark _)))), ?_⟩
  refine ⟨_, rfl, _, rfl, _, rfl, _, rfl, t, h, q, d, pr, cs1, cs2, ds, rfl, ht, hh, hq, l1, l2, hd, ld, pok, fun H1 s1 => ⟨_, rfl, ?_⟩⟩
  refine iteF ?_
  refine ⟨_, rfl, _, rfl, _, rfl, _, rfl, t, h, q, pp, pr, cs1, cs2, ls, rs, rfl, ht.mono s1, hh.mono s1, hq.mono s1, l1, l2, hpp.mono s1, ell, elr, fun b H2 hb s2 => ⟨_, rfl, ?_⟩⟩
  have s12 := s1.trans s2
  cases b with
  | false =>
    refine iteT ?_
    exact k false _ ⟨fun z => (by cases z), fun z => absurd (hb.mpr z.1) Bool.false_ne_true⟩ s12
  | true =>
    refine iteF ?_
    obtain ⟨pa, l, r, rfl, hpa, hl, hr1⟩ := hpp
    refine ⟨_, rfl, pa, _, 0, _, rfl, rfl, SqT.of (s12 _ _ hpa), rfl, l, ls, rfl, SqL.of (s12 _ _ hl), ?_⟩
    refine ⟨_, rfl, pa, _, 1, _, rfl, rfl, SqT.of (s12 _ _ hpa), rfl, r, rs, rfl, SqL.of (s12 _ _ hr1), ?_⟩
    refine ⟨_, _, rfl, rfl, _, rfl, _, rfl, _, rfl, _, rfl, t, h, q, d, pr, cs1, cs2, ds, rfl, ht.mono s12, hh.mono s12, hq.mono s12, l1, l2, hd.mono s12, ld, pok.ok, fun H3 s3 => ⟨rfl, ?_⟩⟩
    refine k _ _ ?_ (s12.trans s3)
    constructor
    · intro z
      have := of_decide_eq_true z
      exact ⟨hb.mp rfl, V.int.inj this⟩
    · intro z
      exact decide_eq_true (congrArg V.int z.2)
end
end K33
namespace K33
open PySem PySem.Spec PyProof.Rows L2
/-! ### square -/
def bigOf (I : Inst) : Int := 1 + I.us.sum + I.ds.sum
def sqTop (I : Inst) : List (List Int) := List.zipWith (fun u row => row.map (fun o => o.getD (bigOf I)) ++ List.replicate I.us.length u) I.us I.cs
def sqBot (I : Inst) : List Int := I.ds ++ List.replicate I.us.length 0
def squareL (I : Inst) : List (List Int) := sqTop I ++ List.replicate I.ds.length (sqBot I)
/-- a list of lists of ints, none of them at Z -/
def RowX (Z : List Addr) (H : Hp) (v : V) (ns : List Int) : Prop := ∃ r, v = .ref r ∧ r ∉ Z ∧ IntsAt H r ns
def RowsX (Z : List Addr) (H : Hp) (a : Addr) (rows : List (List Int)) : Prop := a ∉ Z ∧ ∃ vs, H a = some (.lst vs) ∧ All2 (RowX Z H) vs rows
theorem RowX.sm {Z : List Addr} {H H' : Hp} {v : V} {ns : List Int} (h : RowX Z H v ns) (s : Sm Z H H') : RowX Z H' v ns := by
  obtain ⟨r, e, n, q⟩ := h; exact ⟨r, e, n, s _ _ n q⟩
theorem RowsX.sm {Z : List Addr} {H H' : Hp} {a : Addr} {rows : List (List Int)} (h : RowsX Z H a rows) (s : Sm Z H H') : RowsX Z H' a rows := by
  obtain ⟨n, vs, q, r⟩ := h; exact ⟨n, vs, s _ _ n q, r.mono fun v c x => x.sm s⟩
theorem flat_rep (x : V) : ∀ n : Nat, (List.replicate n [x]).flatten = List.replicate n x
  | 0 => rfl
  | n + 1 => by
    rw [List.replicate_succ, List.flatten_cons, flat_rep x n]
    all_goals rfl
theorem map_rep (x : Int) (n : Nat) : (List.replicate n x).map V.int = List.replicate n (V.int x) := List.map_replicate ..
theorem sz8 {n : Nat} (h : n ≤ 1000) : n ≤ sizeLine := sz (by omega)
section
variable {P : Program} {w : World} {K : PySem.W.Frag} {mg : Str → Option Value} {base : Heap} {CP CC CA : Addr}
def nSquare : List Str := ["costs", "big", "rows", "undo", "row", "_", "change"]
theorem scSquare : FnScope nSquare ["costs"] (defScope (top 20)) := ⟨rfl, rfl, rfl, by decide +kernel, rfl, by decide +kernel, by decide +kernel⟩
def spSquare (CC : Addr) : Sp := fun vs H Q _ => ∃ (p : Addr) (I : Inst), vs = [.ref p] ∧ CostsAt CC H p I ∧ InstOk I ∧ I.us.length ≤ 8 ∧ I.ds.length ≤ 8 ∧ ∀ a H', Same H H' → H a = none → RowsX [] H' a (squareL I) → Q (.ref a) H'
theorem ok_square (B : Bl mg) (T : ClsC K CC) (D : DefAt K mg "square" (top 20)) : Cal P w K mg base 1 "square" (spSquare CC) := by
  refine cal_of D scSquare (fun _ _ _ _ _ _ us hl => match us, hl with | [_], _ => rfl) (fun vs H Q E h => by obtain ⟨p, I, rfl, _⟩ := h; rfl) fun f cdv A outer s H vs Q E hr h => ?_
  obtain ⟨p, I, rfl, ⟨dx, a, b, c, rv, hp, ha, hb, hc, hrv⟩, iok, l1, l2, k⟩ := h
  have nd := scSquare.nd
  refine ⟨_, pss_cons (ps_set (i := 1) nd rfl (Or.inr rfl) (pe_op op_add (pe_op op_add pe_int (pe_callB (cr_sum rfl) rfl B.sum boot_sum (pa_cons (pe_fld (pv 0) rfl) pa_nil))) (pe_callB (cr_sum rfl) rfl B.sum boot_sum (pa_cons (pe_fld (pv 0) rfl) pa_nil))))
    (pss_cons (ps_set (i := 2) nd rfl (Or.inl rfl) (pe_lst pa_nil))
    (pss_cons (ps_for PassesOwn.never rfl (pi_zip rfl B.zip (pa_cons (pe_fld (pv 0) rfl) (pa_cons (pe_fld (pv 0) rfl) pa_nil))) (pg_tup rfl (pgs_cons (pg_name (i := 3) nd rfl (Or.inl rfl)) (pgs_cons (pg_name (i := 4) nd rfl (Or.inl rfl)) pgs_nil)))
      (pss_one (ps_expr (pe_bm PySem.F.plainAttrs_list PySem.F.slot_list_append PySem.F.type_list_append mt_append (pv 2) (pa_cons
        (pe_op op_cat (pe_lc (own := [("change", 6)]) (g := gName 6) (tt := tYes) (te := tIf (tTest (tOp (fun x y H Q => y = .non ∧ Q (.bl (decide (x = .non))) H) (tVar 6) (tC .non))) (tVar 1) (tVar 6)) rfl nd (pi_list (pv 4)) (blkOk_by (own := [("change", 6)]) (N := nSquare) (sc := defScope (top 20)) (by decide +kernel))
            (fun _ _ _ _ _ => pg_name (i := 6) nd rfl (Or.inl rfl)) (fun _ _ _ _ _ => pts_nil) (fun _ _ _ _ _ => pe_ifExp (pt_cmpR op_isN (pv 6) pe_non (nomark _)) (pv 1) (pv 6)))
          (pe_op op_rep (pe_lst (pa_cons (pv 3) pa_nil)) (pe_callB call_len_seq rfl B.len PySem.boot_len (pa_cons (pe_fld (pv 0) rfl) pa_nil)))) pa_nil)))))
    (pss_cons (ps_for PassesOwn.never rfl (pi_list (pe_fld (pv 0) rfl)) (pg_name (i := 5) nd rfl (Or.inl rfl))
      (pss_one (ps_expr (pe_bm PySem.F.plainAttrs_list PySem.F.slot_list_append PySem.F.type_list_append mt_append (pv 2) (pa_cons
        (pe_op op_cat (pe_callTy call_list_of rfl B.list (by decide +kernel) (pa_cons (pe_fld (pv 0) rfl) pa_nil))
          (pe_op op_rep (pe_lst (pa_cons pe_int pa_nil)) (pe_callB call_len_seq rfl B.len PySem.boot_len (pa_cons (pe_fld (pv 0) rfl) pa_nil)))) pa_nil)))))
    (pss_one (ps_ret (pv 2)))))), ?_⟩
  have lrv : rv.length = I.us.length := by rw [hrv.1, iok.len]
  have lmu : (I.us.map V.int).length = I.us.length := List.length_map _
  refine ⟨_, rfl, p, CC, dx, _, _, rfl, hp, T.cl, T.undos, rfl, a, _, rfl, SqL.of ha, _, _, rfl, rfl, _, rfl, p, CC, dx, _, _, rfl, hp, T.cl, T.dos, rfl, b, _, rfl, SqL.of hb, _, _, rfl, rfl, ?_⟩
  refine ⟨Nat.zero_le _, fun R hR => ?_⟩
  refine ⟨_, rfl, p, CC, dx, _, _, rfl, same_new hR _ _ hp, T.cl, T.undos, rfl, _, rfl, p, CC, dx, _, _, rfl, same_new hR _ _ hp, T.cl, T.changes, rfl, a, c, _, _, rfl, SqL.of (same_new hR _ _ ha), SqL.of (same_new hR _ _ hc), ?_⟩
  refine for_it (walk_zip (K := K) (a := a) (b := c) (xs := I.us.map V.int) (ys := rv) rfl)
    (fun i σ H' => Same H H' ∧ (∃ ys, H' R = some (.lst ys) ∧ All2 (RowX [R] H') ys ((sqTop I).take i)) ∧ ∃ v3 v4 v5 v6, σ = [some (.ref p), some (.int (bigOf I)), some (.ref R), v3, v4, v5, v6])
    ⟨same_new hR, ⟨[], upd_same, All2.nil⟩, none, none, none, none, rfl⟩ (fun i σ H' _ q => ⟨SqL.of (q.1 _ _ ha), SqL.of (q.1 _ _ hc)⟩) ?_ ?_
  · rintro i x σ H' _ hi ⟨s, ⟨ys, hys, ay⟩, v3, v4, v5, v6, rfl⟩ ⟨Tt, x1, x2, rfl, hT, rfl, e1, e2⟩
    obtain ⟨uv, f1, rfl⟩ := map_at e1
    obtain ⟨row, f2, rr, rfl, hrr⟩ := hrv.of e2
    have lrow := iok.row i row f2
    have hi' := (List.getElem?_eq_some_iff.mp f1).1
    have hta := (List.getElem?_eq_some_iff.mp f2).1
    have sT := s.trans (same_new hT (o := .tup [.int uv, .ref rr]))
    refine ⟨Tt, _, rfl, SqT.of upd_same, rfl, _, _, rfl, _, _, rfl, rfl, ?_⟩
    refine ⟨_, rfl, .inl ⟨rfl, _, SqL.of (same_new hT _ _ hys)⟩, _, rfl, rr, rfl, ⟨_, SqL.of (sT _ _ hrr)⟩, fun D1 hD1 => lc_map walk_list hD1 (fun j v _ => ∃ o, row[j]? = some o ∧ v = .int (o.getD (bigOf I))) (by rw [List.length_map]; omega) (fun Hx s2 => SqL.of (s2 _ _ (sT _ _ hrr))) (fun i y H H' _ _ r _ => r) ?_ ?_⟩
    · rintro j y _ Hx Qe hj s2 hl ⟨rfl, g1⟩ kq
      obtain ⟨ox, h1, rfl⟩ := map_at g1
      refine ⟨rfl, _, rfl, rfl, _, rfl, ?_⟩
      cases ox with
      | none =>
        refine iteT ?_
        exact ⟨_, rfl, kq _ _ (Same.refl _) ⟨none, h1, rfl⟩⟩
      | some z =>
        refine iteF ?_
        exact ⟨_, rfl, kq _ _ (Same.refl _) ⟨some z, h1, rfl⟩⟩
    · intro H1 zs s2 hzs hlen hRz
      have e := list_of V.int (row.map fun o => o.getD (bigOf I)) zs (by rw [hlen, List.length_map, List.length_map]) fun i v hv => by
        obtain ⟨o, ho, rfl⟩ := hRz i v hv
        exact ⟨_, at_map ho, rfl⟩
      subst e
      have s3 := sT.trans s2
      refine ⟨_, rfl, by show 1 ≤ sizeLine; decide, fun D2 hD2 => ?_⟩
      have s4 := s3.trans (same_new hD2 (o := .lst [.int uv]))
      refine ⟨_, rfl, p, CC, dx, _, _, rfl, s4 _ _ hp, T.cl, T.undos, rfl, a, _, rfl, .inl (SqL.of (s4 _ _ ha)), D2, _, _, rfl, rfl, upd_same, by omega, by rw [lmu]; omega, sz8 (by rw [lmu]; show 1 * _ ≤ 1000; omega), fun D3 hD3 => ?_⟩
      have s5 := s4.trans (same_new hD3 (o := .lst (List.replicate (((I.us.map V.int).length : Nat) : Int).toNat [V.int uv]).flatten))
      have h5 : ∀ b o, H1 b = some o → (upd (upd H1 D2 (.lst [.int uv])) D3 (.lst (List.replicate (((I.us.map V.int).length : Nat) : Int).toNat [V.int uv]).flatten)) b = some o := fun b o q => same_new hD3 _ _ (same_new hD2 _ _ q)
      have lz : ((row.map fun o => o.getD (bigOf I)).map V.int).length ≤ 8 := by rw [List.length_map, List.length_map]; omega
      have el : (List.replicate (((I.us.map V.int).length : Nat) : Int).toNat [V.int uv]).flatten = (List.replicate I.us.length uv).map V.int := by
        rw [flat_rep, map_rep, lmu]
        all_goals rfl
      refine ⟨D1, D3, _, _, rfl, rfl, h5 _ _ hzs, upd_same, sz8 (by rw [el, List.length_map (as := List.replicate _ _), List.length_replicate]; omega), fun D4 hD4 => ?_⟩
      have hR5 : upd (upd H1 D2 (.lst [.int uv])) D3 (.lst (List.replicate (((I.us.map V.int).length : Nat) : Int).toNat [V.int uv]).flatten) R = some (.lst ys) := h5 _ _ (s2 _ _ (same_new hT _ _ hys))
      have n4 : D4 ≠ R := fun e => by rw [e, hR5] at hD4; cases hD4
      have ylen : ys.length ≤ 8 := by rw [ay.1, List.length_take]; have : (sqTop I).length ≤ I.us.length := by { unfold sqTop; rw [List.length_zipWith]; omega }; omega
      refine ⟨R, _, _, rfl, rfl, same_new hD4 _ _ hR5, szl (by omega), ?_⟩
      have s6 := s5.trans (same_new hD4 (o := .lst ((row.map fun o => o.getD (bigOf I)).map V.int ++ (List.replicate (((I.us.map V.int).length : Nat) : Int).toNat [V.int uv]).flatten)))
      refine ⟨s6.mut hR, ⟨_, upd_same, ?_⟩, _, _, _, _, rfl⟩
      have et : (sqTop I)[i]? = some (row.map (fun o => o.getD (bigOf I)) ++ List.replicate I.us.length uv) := by
        unfold sqTop
        rw [List.getElem?_zipWith, f1, f2]
      have li : i < (sqTop I).length := (List.getElem?_eq_some_iff.mp et).1
      have ei : (sqTop I)[i] = _ := (List.getElem?_eq_some_iff.mp et).2
      rw [List.take_succ_eq_append_getElem li, ei]
      have keep : Sm [R] H' (upd (upd (upd (upd H1 D2 (.lst [.int uv])) D3 (.lst (List.replicate (((I.us.map V.int).length : Nat) : Int).toNat [V.int uv]).flatten)) D4 (.lst ((row.map fun o => o.getD (bigOf I)).map V.int ++ (List.replicate (((I.us.map V.int).length : Nat) : Int).toNat [V.int uv]).flatten))) R (.lst (ys ++ [.ref D4]))) :=
        Sm.put (fun b o _ q => same_new hD4 _ _ (h5 _ _ (s2 _ _ (same_new hT _ _ q)))) (List.mem_singleton.mpr rfl)
      refine All2.snoc (ay.mono fun v c x => x.sm keep) ⟨D4, rfl, fun m => n4 (List.mem_singleton.mp m), ?_⟩
      show upd _ R _ D4 = _
      rw [upd_ne n4, upd_same, el, ← List.map_append]
  · rintro σ H' ⟨s, ⟨ys, hys, ay⟩, v3, v4, v5, v6, rfl⟩
    have et : (sqTop I).take (min (I.us.map V.int).length rv.length) = sqTop I := by
      refine List.take_of_length_le ?_
      unfold sqTop
      rw [List.length_zipWith, lmu, lrv, iok.len]
      exact Nat.le_refl _
    rw [et] at ay
    have ltop : (sqTop I).length ≤ 8 := by unfold sqTop; rw [List.length_zipWith]; omega
    refine ⟨_, rfl, p, CC, dx, _, _, rfl, s _ _ hp, T.cl, T.dos, rfl, b, rfl, ⟨_, SqL.of (s _ _ hb)⟩, ?_⟩
    refine for_it (walk_list (K := K) (a := b) (xs := I.ds.map V.int))
      (fun i σ H' => Same H H' ∧ (∃ ys, H' R = some (.lst ys) ∧ All2 (RowX [R] H') ys (sqTop I ++ List.replicate i (sqBot I))) ∧ ∃ v3 v4 v5 v6, σ = [some (.ref p), some (.int (bigOf I)), some (.ref R), v3, v4, v5, v6])
      ⟨s, ⟨ys, hys, by rw [List.replicate_zero, List.append_nil]; exact ay⟩, v3, v4, v5, v6, rfl⟩ (fun i σ H' _ q => SqL.of (q.1 _ _ hb)) ?_ ?_
    · rintro i x σ _ H1 hi ⟨s, ⟨ys, hys, ay⟩, v3, v4, v5, v6, rfl⟩ ⟨rfl, e1⟩
      have hi' : i < I.ds.length := by rw [List.length_map] at hi; exact hi
      refine ⟨_, rfl, .inl ⟨rfl, _, SqL.of hys⟩, _, rfl, p, CC, dx, _, _, rfl, s _ _ hp, T.cl, T.dos, rfl, b, _, rfl, .inl (SqL.of (s _ _ hb)), fun D1 hD1 => ?_⟩
      have s1 := s.trans (same_new hD1 (o := .lst (I.ds.map V.int)))
      refine ⟨by show 1 ≤ sizeLine; decide, fun D2 hD2 => ?_⟩
      have s4 := s1.trans (same_new hD2 (o := .lst [.int 0]))
      refine ⟨_, rfl, p, CC, dx, _, _, rfl, s4 _ _ hp, T.cl, T.undos, rfl, a, _, rfl, .inl (SqL.of (s4 _ _ ha)), D2, _, _, rfl, rfl, upd_same, by omega, by rw [lmu]; omega, sz8 (by rw [lmu]; show 1 * _ ≤ 1000; omega), fun D3 hD3 => ?_⟩
      have h5 : ∀ b o, H1 b = some o → (upd (upd (upd H1 D1 (.lst (I.ds.map V.int))) D2 (.lst [.int 0])) D3 (.lst (List.replicate (((I.us.map V.int).length : Nat) : Int).toNat [V.int 0]).flatten)) b = some o := fun b o q => same_new hD3 _ _ (same_new hD2 _ _ (same_new hD1 _ _ q))
      have el : (List.replicate (((I.us.map V.int).length : Nat) : Int).toNat [V.int 0]).flatten = (List.replicate I.us.length (0 : Int)).map V.int := by
        rw [flat_rep, map_rep, lmu]
        all_goals rfl
      refine ⟨D1, D3, _, _, rfl, rfl, same_new hD3 _ _ (same_new hD2 _ _ upd_same), upd_same, sz8 (by rw [el, List.length_map, List.length_map, List.length_replicate]; omega), fun D4 hD4 => ?_⟩
      have hR5 := h5 _ _ hys
      have n4 : D4 ≠ R := fun e => by rw [e, hR5] at hD4; cases hD4
      have ylen : ys.length ≤ 100 := by rw [ay.1, List.length_append, List.length_replicate]; omega
      refine ⟨R, _, _, rfl, rfl, same_new hD4 _ _ hR5, szl (by omega), ?_⟩
      have s6 : Same H (upd (upd (upd (upd H1 D1 (.lst (I.ds.map V.int))) D2 (.lst [.int 0])) D3 (.lst (List.replicate (((I.us.map V.int).length : Nat) : Int).toNat [V.int 0]).flatten)) D4 (.lst (I.ds.map V.int ++ (List.replicate (((I.us.map V.int).length : Nat) : Int).toNat [V.int 0]).flatten))) :=
        fun b o q => same_new hD4 _ _ (h5 _ _ (s _ _ q))
      refine ⟨s6.mut hR, ⟨_, upd_same, ?_⟩, _, _, _, _, rfl⟩
      have keep : Sm [R] H1 (upd (upd (upd (upd (upd H1 D1 (.lst (I.ds.map V.int))) D2 (.lst [.int 0])) D3 (.lst (List.replicate (((I.us.map V.int).length : Nat) : Int).toNat [V.int 0]).flatten)) D4 (.lst (I.ds.map V.int ++ (List.replicate (((I.us.map V.int).length : Nat) : Int).toNat [V.int 0]).flatten))) R (.lst (ys ++ [.ref D4]))) :=
        Sm.put (fun b o _ q => same_new hD4 _ _ (h5 _ _ q)) (List.mem_singleton.mpr rfl)
      rw [List.replicate_succ', ← List.append_assoc]
      refine All2.snoc (ay.mono fun v c x => x.sm keep) ⟨D4, rfl, fun m => n4 (List.mem_singleton.mp m), ?_⟩
      show upd _ R _ D4 = _
      rw [upd_ne n4, upd_same, el, ← List.map_append]
      all_goals rfl
    · rintro σ H1 ⟨s, ⟨ys, hys, ay⟩, v3, v4, v5, v6, rfl⟩
      refine ⟨_, rfl, k R H1 s hR ⟨by simp, ys, hys, ?_⟩⟩
      rw [List.length_map] at ay
      exact ay.mono fun v c ⟨r, e, _, q⟩ => ⟨r, e, by simp, q⟩
end
end K33
namespace K33
open PySem PySem.Spec PyProof.Rows L2
/-! ### Assignment -/
def asF (a : Addr) (n : Nat) (l r o : Addr) : List (Str × V) := [("rows", .ref a), ("size", .int n), ("lefts", .ref l), ("rights", .ref r), ("row_of", .ref o)]
def Cf (rows : List (List Int)) (i j : Nat) : Int := (rows.getD i []).getD j 0
def fZ (L : List Int) : Nat → Int := fun i => L.getD i 0
def fO (ro : List (Option Nat)) : Nat → Option Nat := fun i => ro.getD i none
structure AsgFix (C : Addr) (H : Hp) (p dx a l r o : Addr) (rows : List (List Int)) : Prop where
  ins : H p = some (.ins C dx (asF a rows.length l r o))
  rws : RowsX [l, r, o] H a rows
  pn : p ∉ [l, r, o]
  lr : l ≠ r
  lo : l ≠ o
  ro : r ≠ o
  sq : ∀ (i : Nat) (row : List Int), rows[i]? = some row → row.length = rows.length
  len : rows.length ≤ 16
structure AsgVar (H : Hp) (l r o : Addr) (n : Nat) (L R : List Int) (ro : List (Option Nat)) : Prop where
  hl : IntsAt H l L
  hr : IntsAt H r R
  ho : H o = some (.lst (ro.map optN))
  nl : L.length = n
  nr : R.length = n
  no : ro.length = n
theorem AsgFix.sm {C : Addr} {H H' : Hp} {p dx a l r o : Addr} {rows : List (List Int)} (h : AsgFix C H p dx a l r o rows) (s : Sm [l, r, o] H H') : AsgFix C H' p dx a l r o rows :=
  ⟨s _ _ h.pn h.ins, h.rws.sm s, h.pn, h.lr, h.lo, h.ro, h.sq, h.len⟩
theorem AsgVar.same {H H' : Hp} {l r o : Addr} {n : Nat} {L R : List Int} {ro : List (Option Nat)} (h : AsgVar H l r o n L R ro) (s : Same H H') : AsgVar H' l r o n L R ro :=
  ⟨s _ _ h.hl, s _ _ h.hr, s _ _ h.ho, h.nl, h.nr, h.no⟩
theorem as1 (a b : V) : putF "size" b ([("rows", a)] : List (Str × V)) = ([("rows", a), ("size", b)] : List (Str × V)) := by
  rw [putF_ne (by decide +kernel)]
  all_goals rfl
theorem as2 (a b c : V) : putF "lefts" c ([("rows", a), ("size", b)] : List (Str × V)) = ([("rows", a), ("size", b), ("lefts", c)] : List (Str × V)) := by
  rw [putF_ne (by decide +kernel), putF_ne (by decide +kernel)]
  all_goals rfl
theorem as3 (a b c d : V) : putF "rights" d ([("rows", a), ("size", b), ("lefts", c)] : List (Str × V)) = ([("rows", a), ("size", b), ("lefts", c), ("rights", d)] : List (Str × V)) := by
  rw [putF_ne (by decide +kernel), putF_ne (by decide +kernel), putF_ne (by decide +kernel)]
  all_goals rfl
theorem as4 (a b c d e : V) : putF "row_of" e ([("rows", a), ("size", b), ("lefts", c), ("rights", d)] : List (Str × V)) = ([("rows", a), ("size", b), ("lefts", c), ("rights", d), ("row_of", e)] : List (Str × V)) := by
  rw [putF_ne (by decide +kernel), putF_ne (by decide +kernel), putF_ne (by decide +kernel), putF_ne (by decide +kernel)]
  all_goals rfl
section
variable {P : Program} {w : World} {K : PySem.W.Frag} {mg : Str → Option Value} {base : Heap} {CA : Addr}
/-- self.f = [x] * self.size -/
theorem step_rep {CA p dx : Addr} {fs : List (Str × V)} {n : Nat} {x : V} {f : Str} {D : Ends} {σ : L2.St} {H : Hp} (hσ : σ[0]? = some (some (.ref p))) (hp : H p = some (.ins CA dx fs)) (hs : fs.lookup ("size" : Str) = some (.int (n : Nat))) (hn : n ≤ 16) (cl : Cls K CA) (a1 : NoAttr K CA "size") (a2 : NoAttr K CA f) (lf : fs.length < 1000)
    (k : ∀ (H' : Hp) (l : Addr), Sm [p] H H' → H l = none → H' l = some (.lst (List.replicate n x)) → H' p = some (.ins CA dx (putF f (.ref l) fs)) → D.nx σ H') :
    sFld K (tVar 0) (tOp rRep (tLst (tCons (tC x) tNil)) (tFld K (tVar 0) "size")) f D σ H := by
  refine ⟨by show 1 ≤ sizeLine; decide, fun t ht => ?_⟩
  have n1 : p ≠ t := fun e => by rw [← e, hp] at ht; cases ht
  refine ⟨_, hσ, p, CA, dx, fs, _, rfl, (upd_ne n1).trans hp, cl, a1, hs, t, _, _, rfl, rfl, upd_same, by omega, by omega, sz8 (by show 1 * _ ≤ 1000; omega), fun l hl => ?_⟩
  have n2 : p ≠ l := fun e => by rw [← e, upd_ne n1, hp] at hl; cases hl
  refine ⟨_, hσ, p, CA, dx, fs, rfl, (upd_ne n2).trans ((upd_ne n1).trans hp), cl, a2, lf, ?_⟩
  refine k _ l (((Sm.new ht).trans (Sm.new hl)).put (List.mem_singleton.mpr rfl)) (Same.free (same_new ht) hl) ?_ upd_same
  rw [upd_ne n2.symm, upd_same, flat_rep]
  all_goals rfl
abbrev sAInit : Stmt := inClass (top 21) 0
theorem scAInit : FnScope ["self", "rows"] ["self", "rows"] (defScope sAInit) := ⟨rfl, rfl, rfl, by decide +kernel, rfl, by decide +kernel, by decide +kernel⟩
def spAInit (CA : Addr) : Sp := fun vs H Q _ => ∃ (H0 : Hp) (p dx a : Addr) (rows : List (List Int)), vs = [.ref p, .ref a] ∧ Same H0 H ∧ H0 p = none ∧ H p = some (.ins CA dx []) ∧ RowsX [] H0 a rows ∧
  (∀ (i : Nat) (row : List Int), rows[i]? = some row → row.length = rows.length) ∧ rows.length ≤ 16 ∧
  ∀ H' l r o, Same H0 H' → H0 l = none → H0 r = none → H0 o = none → AsgFix CA H' p dx a l r o rows → AsgVar H' l r o rows.length (List.replicate rows.length 0) (List.replicate rows.length 0) (List.replicate rows.length none) → Q .non H'
theorem ok_ainit (B : Bl mg) (T : ClsA K CA) (D : ClsAt K mg "Assignment" "Assignment.__init__" CA sAInit) : Mak P w K mg base 1 "Assignment" CA (spAInit CA) := by
  refine mak_of D scAInit (fun _ _ _ _ _ _ us hl => match us, hl with | [_, _], _ => rfl) (fun vs H Q E h => by obtain ⟨H0, p, dx, a, rows, rfl, _⟩ := h; rfl) fun f cdv A outer s H vs Q E hr h => ?_
  obtain ⟨H0, p, dx, a, rows, rfl, s0, hp0, hp, ⟨_, va, ha, ar⟩, sq, ln, k⟩ := h
  have nd := scAInit.nd
  refine ⟨_, pss_cons (ps_fld (pv 0) (pv 1) rfl) (pss_cons (ps_fld (pv 0) (pe_callB call_len_seq rfl B.len PySem.boot_len (pa_cons (pv 1) pa_nil)) rfl)
    (pss_cons (ps_fld (pv 0) (pe_op op_rep (pe_lst (pa_cons pe_int pa_nil)) (pe_fld (pv 0) rfl)) rfl)
    (pss_cons (ps_fld (pv 0) (pe_op op_rep (pe_lst (pa_cons pe_int pa_nil)) (pe_fld (pv 0) rfl)) rfl)
    (pss_one (ps_fld (pv 0) (pe_op op_rep (pe_lst (pa_cons pe_non pa_nil)) (pe_fld (pv 0) rfl)) rfl))))), ?_⟩
  have lva : va.length = rows.length := ar.1
  have na : a ≠ p := fun e => by rw [e, hp0] at ha; cases ha
  refine ⟨_, rfl, _, rfl, p, CA, dx, [], rfl, hp, T.cl, T.rows, by decide, ?_⟩
  have s1 := s0.mut hp0 (o := .ins CA dx (putF "rows" (.ref a) []))
  refine ⟨_, rfl, a, va, rfl, .inl (SqL.of (s1 _ _ ha)), _, rfl, p, CA, dx, _, rfl, upd_same, T.cl, T.size, (by show 1 < 1000; decide), ?_⟩
  have e1 : putF "size" (.int (va.length : Nat)) (putF "rows" (.ref a) []) = ([("rows", .ref a), ("size", .int (rows.length : Nat))] : List (Str × V)) := by rw [lva]; exact as1 _ _
  rw [e1]
  have s2 := s1.mut hp0 (o := .ins CA dx [("rows", .ref a), ("size", .int (rows.length : Nat))])
  have hp2 : (upd (upd H p (.ins CA dx (putF "rows" (.ref a) []))) p (.ins CA dx [("rows", .ref a), ("size", .int (rows.length : Nat))])) p = some (.ins CA dx ([("rows", .ref a), ("size", .int (rows.length : Nat))] : List (Str × V))) := upd_same
  refine step_rep rfl hp2 rfl ln T.cl T.size T.lefts (by show 2 < 1000; decide) fun H3 l s3 hl h3l h3p => ?_
  rw [as2] at h3p
  have hl0 := Same.free s2 hl
  have t3 : Same H0 H3 := Sm.out s2 s3 fun b hb => by rw [List.mem_singleton.mp hb]; exact hp0
  refine step_rep rfl h3p rfl ln T.cl T.size T.rights (by show 3 < 1000; decide) fun H4 r s4 hr4 h4r h4p => ?_
  rw [as3] at h4p
  have hr0 := Same.free t3 hr4
  have t4 : Same H0 H4 := Sm.out t3 s4 fun b hb => by rw [List.mem_singleton.mp hb]; exact hp0
  have nlr : l ≠ r := ne_of_none h3l hr4
  have npl : l ≠ p := fun e => by rw [e, hp2] at hl; cases hl
  have h4l := s4 _ _ (fun m => npl (List.mem_singleton.mp m)) h3l
  refine step_rep rfl h4p rfl ln T.cl T.size T.rowOf (by show 4 < 1000; decide) fun H5 o s5 ho h5o h5p => ?_
  rw [as4] at h5p
  have ho0 := Same.free t4 ho
  have t5 : Same H0 H5 := Sm.out t4 s5 fun b hb => by rw [List.mem_singleton.mp hb]; exact hp0
  have nlo : l ≠ o := ne_of_none h4l ho
  have nro : r ≠ o := ne_of_none h4r ho
  have npr : r ≠ p := fun e => by rw [e, h3p] at hr4; cases hr4
  have npo : o ≠ p := fun e => by rw [e, h4p] at ho; cases ho
  have h5l := s5 _ _ (fun m => npl (List.mem_singleton.mp m)) h4l
  have h5r := s5 _ _ (fun m => npr (List.mem_singleton.mp m)) h4r
  have out : ∀ b ob, H0 b = some ob → b ∉ [l, r, o] := fun b ob q m => by
    simp only [List.mem_cons, List.not_mem_nil, or_false] at m
    rcases m with e | e | e
    · rw [e, hl0] at q; cases q
    · rw [e, hr0] at q; cases q
    · rw [e, ho0] at q; cases q
  refine k H5 l r o t5 hl0 hr0 ho0 ⟨h5p, ⟨out a _ ha, va, t5 _ _ ha, ar.mono fun v c ⟨q, e, _, x⟩ => ⟨q, e, out q _ x, t5 _ _ x⟩⟩, fun m => ?_, nlr, nlo, nro, sq, ln⟩ ⟨?_, ?_, ?_, List.length_replicate, List.length_replicate, List.length_replicate⟩
  · simp only [List.mem_cons, List.not_mem_nil, or_false] at m
    rcases m with e | e | e
    · exact npl e.symm
    · exact npr e.symm
    · exact npo e.symm
  · show H5 l = _
    rw [h5l, map_rep]
  · show H5 r = _
    rw [h5r, map_rep]
  · rw [h5o, List.map_replicate]
    all_goals rfl
/-! ### slack -/
theorem scSlack : FnScope ["self", "row", "column"] ["self", "row", "column"] (defScope (inClass (top 21) 1)) := ⟨rfl, rfl, rfl, by decide +kernel, rfl, by decide +kernel, by decide +kernel⟩
def spSlack (CA : Addr) : Sp := fun vs H Q _ => ∃ (p dx a l r o : Addr) (rows : List (List Int)) (L R : List Int) (ro : List (Option Nat)) (i j : Nat), vs = [.ref p, .int i, .int j] ∧ AsgFix CA H p dx a l r o rows ∧ AsgVar H l r o rows.length L R ro ∧
  i < rows.length ∧ j < rows.length ∧ Q (.int (Cf rows i j - fZ L i - fZ R j)) H
theorem ok_slack (T : ClsA K CA) (D : MetAt K CA "slack" "Assignment.slack" (inClass (top 21) 1)) : Met P w K mg base 1 CA "slack" (spSlack CA) := by
  refine met_of D scSlack (fun _ _ _ _ _ _ us hl => match us, hl with | [_, _, _], _ => rfl) (fun vs H Q E h => by obtain ⟨p, dx, a, l, r, o, rows, L, R, ro, i, j, rfl, _⟩ := h; rfl) fun f cdv A outer s H vs Q E hr h => ?_
  obtain ⟨p, dx, a, l, r, o, rows, L, R, ro, i, j, rfl, F, W, hi, hj, k⟩ := h
  refine ⟨_, pss_one (ps_ret (pe_op op_sub (pe_op op_sub (pe_ix ix_list (pe_ix ix_list (pe_fld (pv 0) rfl) (pv 1) (fun _ _ => rfl)) (pv 2) (fun _ _ => rfl)) (pe_ix ix_list (pe_fld (pv 0) rfl) (pv 1) (fun _ _ => rfl))) (pe_ix ix_list (pe_fld (pv 0) rfl) (pv 2) (fun _ _ => rfl)))), ?_⟩
  obtain ⟨_, va, ha, ar⟩ := F.rws
  have hrow := getD_at (d := []) (l := rows) hi
  obtain ⟨v, hv, q, rfl, _, hq⟩ := ar.at_ hrow
  have lrow := F.sq i _ hrow
  refine ⟨_, rfl, p, CA, dx, _, _, rfl, F.ins, T.cl, T.rows, rfl, _, rfl, a, _, _, _, rfl, rfl, SqL.of ha, atI_nat hv, _, rfl, q, _, _, _, rfl, rfl, SqL.of hq, atI_nat (at_map (getD_at (d := 0) (by rw [lrow]; exact hj))), ?_⟩
  refine ⟨_, rfl, p, CA, dx, _, _, rfl, F.ins, T.cl, T.lefts, rfl, _, rfl, l, _, _, _, rfl, rfl, SqL.of W.hl, atI_nat (at_map (getD_at (d := 0) (by rw [W.nl]; exact hi))), _, _, rfl, rfl, ?_⟩
  refine ⟨_, rfl, p, CA, dx, _, _, rfl, F.ins, T.cl, T.rights, rfl, _, rfl, r, _, _, _, rfl, rfl, SqL.of W.hr, atI_nat (at_map (getD_at (d := 0) (by rw [W.nr]; exact hj))), _, _, rfl, rfl, k⟩
/-! ### shift -/
def addAll (L : List Int) (ix : List Nat) (s : Int) : List Int := ix.foldl (fun L i => L.set i (L.getD i 0 + s)) L
theorem addAll_snoc (L : List Int) (ix : List Nat) (i : Nat) (s : Int) : addAll L (ix ++ [i]) s = (addAll L ix s).set i ((addAll L ix s).getD i 0 + s) := by
  unfold addAll
  rw [List.foldl_append]
  all_goals rfl
theorem addAll_len (s : Int) : ∀ (ix : List Nat) (L : List Int), (addAll L ix s).length = L.length
  | [], _ => rfl
  | i :: ix, L => by
    show (addAll (L.set i (L.getD i 0 + s)) ix s).length = _
    rw [addAll_len s ix, List.length_set]
theorem addAll_get (s : Int) : ∀ (ix : List Nat) (L : List Int), ix.Nodup → (∀ i ∈ ix, i < L.length) → ∀ j, fZ (addAll L ix s) j = if j ∈ ix then fZ L j + s else fZ L j
  | [], _, _, _, j => by simp [addAll]
  | i :: ix, L, nd, hl, j => by
    have nd' := List.nodup_cons.mp nd
    show fZ (addAll (L.set i (L.getD i 0 + s)) ix s) j = _
    rw [addAll_get s ix _ nd'.2 (fun q hq => by rw [List.length_set]; exact hl q (List.mem_cons_of_mem _ hq)) j]
    have hi := hl i (List.mem_cons_self ..)
    by_cases e : j = i
    · subst e
      rw [if_neg nd'.1, if_pos (List.mem_cons_self ..)]
      show (L.set j _).getD j 0 = _
      rw [List.getD_eq_getElem?_getD, List.getElem?_set_self hi]
      all_goals rfl
    · have g : fZ (L.set i (L.getD i 0 + s)) j = fZ L j := by
        show (L.set i _).getD j 0 = L.getD j 0
        rw [List.getD_eq_getElem?_getD, List.getElem?_set_ne (fun q => e q.symm), List.getD_eq_getElem?_getD]
      rw [g]
      by_cases e2 : j ∈ ix
      · rw [if_pos e2, if_pos (List.mem_cons_of_mem _ e2)]
      · rw [if_neg e2, if_neg (fun m => by rcases List.mem_cons.mp m with q | q; exact e q; exact e2 q)]
theorem ixN_nat {n j : Nat} (h : j < n) : ixN n (j : Int) = some j := by
  unfold ixN
  rw [if_pos (by omega), if_pos (by omega)]
  all_goals rfl
theorem ix_at {l : List Nat} {i : Nat} {x : V} (h : ((l.map zi).map V.int)[i]? = some x) : ∃ n, l[i]? = some n ∧ x = .int (n : Int) := by
  obtain ⟨z, h1, e⟩ := map_at h
  obtain ⟨n, h2, e2⟩ := map_at h1
  exact ⟨n, h2, by rw [e, e2]; rfl⟩
theorem scShift : FnScope ["self", "rows", "columns", "slack", "row", "column"] ["self", "rows", "columns", "slack"] (defScope (inClass (top 21) 3)) := ⟨rfl, rfl, rfl, by decide +kernel, rfl, by decide +kernel, by decide +kernel⟩
def spShift (CA : Addr) : Sp := fun vs H Q _ => ∃ (p dx a l r o ra ca : Addr) (rows : List (List Int)) (L R : List Int) (ro : List (Option Nat)) (rws cols : List Nat) (s : Int), vs = [.ref p, .ref ra, .ref ca, .int s] ∧ AsgFix CA H p dx a l r o rows ∧ AsgVar H l r o rows.length L R ro ∧
  IntsAt H ra (rws.map zi) ∧ IntsAt H ca (cols.map zi) ∧ ra ∉ [l, r] ∧ ca ∉ [l, r] ∧ (∀ i ∈ rws, i < rows.length) ∧ (∀ i ∈ cols, i < rows.length) ∧
  ∀ H', Sm [l, r] H H' → AsgVar H' l r o rows.length (addAll L rws s) (addAll R cols (-s)) ro → Q .non H'
theorem ok_shift (T : ClsA K CA) (D : MetAt K CA "shift" "Assignment.shift" (inClass (top 21) 3)) : Met P w K mg base 1 CA "shift" (spShift CA) := by
  refine met_of D scShift (fun _ _ _ _ _ _ us hl => match us, hl with | [_, _, _, _], _ => rfl) (fun vs H Q E h => by obtain ⟨p, dx, a, l, r, o, ra, ca, rows, L, R, ro, rws, cols, s, rfl, _⟩ := h; rfl) fun f cdv A outer s H vs Q E hr h => ?_
  obtain ⟨p, dx, a, l, r, o, ra, ca, rows, L, R, ro, rws, cols, s, rfl, F, W, hra, hca, nra, nca, hrl, hcl, k⟩ := h
  have nd := scShift.nd
  refine ⟨_, pss_cons (ps_for PassesOwn.never rfl (pi_list (pv 1)) (pg_name (i := 4) nd rfl (Or.inl rfl)) (pss_one (ps_augS (pe_fld (pv 0) rfl) (pv 4) get_list (pv 3) ip_add set_list)))
    (pss_one (ps_for PassesOwn.never rfl (pi_list (pv 2)) (pg_name (i := 5) nd rfl (Or.inl rfl)) (pss_one (ps_augS (pe_fld (pv 0) rfl) (pv 5) get_list (pv 3) ip_sub set_list)))), ?_⟩
  have mlr : l ∈ [l, r] := List.mem_cons_self ..
  have mrr : r ∈ [l, r] := by simp
  have npl : p ∉ [l, r] := fun m => F.pn (by simp at m ⊢; rcases m with e | e <;> simp [e])
  have nol : o ∉ [l, r] := fun m => by
    simp at m
    rcases m with e | e
    · exact F.lo e.symm
    · exact F.ro e.symm
  refine ⟨_, rfl, ra, rfl, ⟨_, SqL.of hra⟩, for_list (K := K) (a := ra) (xs := (rws.map zi).map V.int)
    (fun i σ H' => Sm [l, r] H H' ∧ IntsAt H' l (addAll L (rws.take i) s) ∧ H' r = some (.lst (R.map V.int)) ∧ ∃ v4 v5, σ = [some (.ref p), some (.ref ra), some (.ref ca), some (.int s), v4, v5])
    ⟨Sm.refl _ _, W.hl, W.hr, none, none, rfl⟩ (fun i σ H' _ q => SqL.of (q.1 _ _ nra hra)) ?_ ?_⟩
  · rintro i x σ H' hx ⟨sm, hl, hr', v4, v5, rfl⟩
    obtain ⟨n, hn, rfl⟩ := ix_at hx
    have ni := hrl n (List.mem_of_getElem? hn)
    have li := (List.getElem?_eq_some_iff.mp hn).1
    have len := addAll_len s (rws.take i) L
    refine ⟨_, rfl, p, CA, dx, _, _, rfl, sm _ _ npl F.ins, T.cl, T.lefts, rfl, _, rfl, l, _, _, _, rfl, rfl, SqL.of hl, atI_nat (at_map (getD_at (d := 0) (by rw [len, W.nl]; exact ni))), _, rfl, _, _, rfl, rfl, ?_⟩
    refine ⟨l, _, _, n, rfl, rfl, hl, ixN_nat (by rw [List.length_map, len, W.nl]; exact ni), ?_⟩
    refine ⟨sm.put mlr, ?_, (upd_ne F.lr.symm).trans hr', _, _, rfl⟩
    show upd _ _ _ _ = _
    rw [upd_same, List.take_succ_eq_append_getElem li, (List.getElem?_eq_some_iff.mp hn).2, addAll_snoc, List.map_set]
    all_goals rfl
  · rintro σ H' ⟨sm, hl, hr', v4, v5, rfl⟩
    rw [List.length_map, List.length_map, List.take_length] at hl
    refine ⟨_, rfl, ca, rfl, ⟨_, SqL.of (sm _ _ nca hca)⟩, for_list (K := K) (a := ca) (xs := (cols.map zi).map V.int)
      (fun i σ H2 => Sm [l, r] H H2 ∧ H2 l = some (.lst ((addAll L rws s).map V.int)) ∧ IntsAt H2 r (addAll R (cols.take i) (-s)) ∧ ∃ v4 v5, σ = [some (.ref p), some (.ref ra), some (.ref ca), some (.int s), v4, v5])
      ⟨sm, hl, hr', v4, v5, rfl⟩ (fun i σ H' _ q => SqL.of (q.1 _ _ nca hca)) ?_ ?_⟩
    · rintro i x σ H' hx ⟨sm, hl, hr', v4, v5, rfl⟩
      obtain ⟨n, hn, rfl⟩ := ix_at hx
      have ni := hcl n (List.mem_of_getElem? hn)
      have li := (List.getElem?_eq_some_iff.mp hn).1
      have len := addAll_len (-s) (cols.take i) R
      refine ⟨_, rfl, p, CA, dx, _, _, rfl, sm _ _ npl F.ins, T.cl, T.rights, rfl, _, rfl, r, _, _, _, rfl, rfl, SqL.of hr', atI_nat (at_map (getD_at (d := 0) (by rw [len, W.nr]; exact ni))), _, rfl, _, _, rfl, rfl, ?_⟩
      refine ⟨r, _, _, n, rfl, rfl, hr', ixN_nat (by rw [List.length_map, len, W.nr]; exact ni), ?_⟩
      refine ⟨sm.put mrr, (upd_ne F.lr).trans hl, ?_, _, _, rfl⟩
      show upd _ _ _ _ = _
      rw [upd_same, List.take_succ_eq_append_getElem li, (List.getElem?_eq_some_iff.mp hn).2, addAll_snoc, List.map_set]
      all_goals rfl
    · rintro σ H' ⟨sm, hl, hr', v4, v5, rfl⟩
      rw [List.length_map, List.length_map, List.take_length] at hr'
      exact k H' sm ⟨hl, hr', sm _ _ nol W.ho, by rw [addAll_len]; exact W.nl, by rw [addAll_len]; exact W.nr, W.no⟩
/-! ### column_of -/
theorem scColOf : FnScope ["self", "row", "column", "assigned"] ["self", "row"] (defScope (inClass (top 21) 5)) := ⟨rfl, rfl, rfl, by decide +kernel, rfl, by decide +kernel, by decide +kernel⟩
def spColOf (CA : Addr) : Sp := fun vs H Q _ => ∃ (p dx a l r o : Addr) (rows : List (List Int)) (ro : List (Option Nat)) (i : Nat), vs = [.ref p, .int i] ∧ AsgFix CA H p dx a l r o rows ∧ H o = some (.lst (ro.map optN)) ∧ ro.length = rows.length ∧
  ∀ c H', RP.IsCol rows.length (fO ro) i c → Same H H' → Q (optN c) H'
theorem ok_col_of (B : Bl mg) (T : ClsA K CA) (D : MetAt K CA "column_of" "Assignment.column_of" (inClass (top 21) 5)) : Met P w K mg base 1 CA "column_of" (spColOf CA) := by
  refine met_of D scColOf (fun _ _ _ _ _ _ us hl => match us, hl with | [_, _], _ => rfl) (fun vs H Q E h => by obtain ⟨p, dx, a, l, r, o, rows, ro, i, rfl, _⟩ := h; rfl) fun f cdv A outer s H vs Q E hr h => ?_
  obtain ⟨p, dx, a, l, r, o, rows, ro, n, rfl, F, ho, no, k⟩ := h
  have nd := scColOf.nd
  refine ⟨_, pss_cons (ps_for PassesOwn.never rfl (pi_enum rfl B.enumerate (pa_cons (pe_fld (pv 0) rfl) pa_nil)) (pg_tup rfl (pgs_cons (pg_name (i := 2) nd rfl (Or.inl rfl)) (pgs_cons (pg_name (i := 3) nd rfl (Or.inl rfl)) pgs_nil)))
      (pss_one (ps_if (pt_cmpR op_eq (pv 3) (pv 1) (nomark _)) (pss_one (ps_ret (pv 2))) pss_nil))) (pss_one (ps_ret pe_non)), ?_⟩
  refine ⟨_, rfl, p, CA, dx, _, _, rfl, F.ins, T.cl, T.rowOf, rfl, o, _, rfl, SqL.of ho, ?_⟩
  refine for_it (walk_enum (K := K) (a := o) (xs := ro.map optN)) (fun i σ H' => Same H H' ∧ (∀ c, c < i → fO ro c ≠ some n) ∧ ∃ v2 v3, σ = [some (.ref p), some (.int n), v2, v3])
    ⟨Same.refl _, fun c z => absurd z (Nat.not_lt_zero c), none, none, rfl⟩ (fun i σ H' _ q => SqL.of (q.1 _ _ ho)) ?_ ?_
  · rintro i x σ H' _ hi ⟨s, hn, v2, v3, rfl⟩ ⟨Tt, x1, x2, rfl, hT, rfl, e1, e2⟩
    cases e1
    obtain ⟨ox, hx, rfl⟩ := map_at e2
    have fo : fO ro i = ox := by
      show ro.getD i none = ox
      rw [List.getD_eq_getElem?_getD, hx]
      all_goals rfl
    have li := (List.getElem?_eq_some_iff.mp hx).1
    refine ⟨Tt, _, rfl, SqT.of upd_same, rfl, _, _, rfl, _, _, rfl, rfl, ?_⟩
    refine ⟨_, rfl, _, rfl, (by cases ox <;> rfl), _, rfl, ?_⟩
    by_cases e : ox = some n
    · subst e
      refine iteEq rfl ?_
      exact ⟨_, rfl, k (some i) _ (.inr ⟨i, rfl, by rw [← no]; exact li, fo⟩) (s.trans (same_new hT))⟩
    · refine iteNe (fun z => ?_) ?_
      · cases ox with
        | none => cases z
        | some m =>
          have : (m : Int) = (n : Int) := V.int.inj z
          exact e (by rw [show m = n by omega])
      · refine ⟨s.trans (same_new hT), fun c hc => ?_, _, _, rfl⟩
        by_cases ec : c = i
        · rw [ec, fo]; exact e
        · exact hn c (by omega)
  · rintro σ H' ⟨s, hn, v2, v3, rfl⟩
    rw [List.length_map, no] at hn
    exact k none _ (.inl ⟨rfl, hn⟩) s
end
end K33
namespace K33
open PySem PySem.Spec PyProof.Rows L2
/-! ### a dict from ints to ints -/
def DictB (H : Hp) (b : Addr) (bf : Nat → Option Nat) : Prop := ∃ kvs : List (Key × V), H b = some (.dK kvs) ∧ kvs.length ≤ 100 ∧ ∀ c : Nat, valV kvs (Sum.inl (c : Int)) = (bf c).map nV
theorem key_inj {c c' : Nat} : (Sum.inl (c : Int) : Key) = Sum.inl (c' : Int) ↔ c = c' := by
  constructor
  · intro h
    have := Sum.inl.inj h
    omega
  · intro h; rw [h]
theorem fO_set {ro : List (Option Nat)} {c : Nat} (h : c < ro.length) (v : Option Nat) : fO (ro.set c v) = RP.upF (fO ro) c v := by
  funext i
  show (ro.set c v).getD i none = if i = c then v else ro.getD i none
  by_cases e : i = c
  · subst e
    rw [if_pos rfl, List.getD_eq_getElem?_getD, List.getElem?_set_self h]
    all_goals rfl
  · rw [if_neg e, List.getD_eq_getElem?_getD, List.getElem?_set_ne (fun q => e q.symm), List.getD_eq_getElem?_getD]
section
variable {P : Program} {w : World} {K : PySem.W.Frag} {mg : Str → Option Value} {base : Heap} {CA : Addr}
/-! ### turn -/
def nTurn : List Str := ["self", "column", "before", "row", "other"]
theorem scTurn : FnScope nTurn ["self", "column", "before"] (defScope (inClass (top 21) 4)) := ⟨rfl, rfl, rfl, by decide +kernel, rfl, by decide +kernel, by decide +kernel⟩
def spTurn (CA : Addr) : Sp := fun vs H Q _ => ∃ (p dx a l r o b : Addr) (rows : List (List Int)) (L R : List Int) (ro : List (Option Nat)) (k c c0 r0 j : Nat) (bf0 : Nat → Option Nat) (rws cols : List Nat) (ro0 : Nat → Option Nat),
  vs = [.ref p, .int c, .ref b] ∧ AsgFix CA H p dx a l r o rows ∧ AsgVar H l r o rows.length L R ro ∧ b ∉ [o] ∧ DictB H b (RP.upF bf0 c0 (some r0)) ∧
  RP.Tree rows.length k (Cf rows) (fZ L) (fZ R) ro0 rws cols bf0 ∧ c0 ∉ cols ∧ RP.Way rows.length k (Cf rows) (fZ L) (fZ R) rws cols (RP.upF bf0 c0 (some r0)) (fO ro) c j ∧
  ∀ H' ro', Sm [o] H H' → AsgVar H' l r o rows.length L R ro' → RP.Asg rows.length (k + 1) (Cf rows) (fZ L) (fZ R) (fO ro') → Q .non H'
theorem ok_turn (T : ClsA K CA) (Co : Met P w K mg base 1 CA "column_of" (spColOf CA)) (D : MetAt K CA "turn" "Assignment.turn" (inClass (top 21) 4)) : Met P w K mg base 2 CA "turn" (spTurn CA) := by
  refine met_of D scTurn (fun _ _ _ _ _ _ us hl => match us, hl with | [_, _, _], _ => rfl) (fun vs H Q E h => by obtain ⟨p, dx, a, l, r, o, b, rows, L, R, ro, k, c, c0, r0, j, bf0, rws, cols, ro0, rfl, _⟩ := h; rfl) fun f cdv A outer s H vs Q E hr h => ?_
  obtain ⟨p, dx, a, l, r, o, b, rows, L, R, ro, n, c, c0, r0, j, bf0, rws, cols, ro0, rfl, F, W, nb, hb, Tr, hn0, Wy, k⟩ := h
  have nd := scTurn.nd
  have hu' := hu_of hr
  refine ⟨_, pss_one (ps_while PassesOwn.never (pt_cmpR op_notN (pv 1) pe_non (nomark _))
    (pss_cons (ps_set (i := 3) nd rfl (Or.inl rfl) (pe_dget hu' (pv 2) (pv 1) (fun _ _ => rfl)))
    (pss_cons (ps_set (i := 4) nd rfl (Or.inl rfl) (pe_mt Co T.cl hr (by decide) (pv 0) (pa_cons (pv 3) pa_nil)))
    (pss_cons (ps_asg (pv 3) (pg_sub (pe_fld (pv 0) rfl) (pv 1) set_list))
    (pss_one (ps_set (i := 1) nd rfl (Or.inl rfl) (pv 4))))))), ?_⟩
  have npo : p ∉ [o] := fun m => F.pn (by rw [List.mem_singleton.mp m]; simp)
  have nlo : l ∉ [o] := fun m => F.lo (List.mem_singleton.mp m)
  have nro : r ∉ [o] := fun m => F.ro (List.mem_singleton.mp m)
  have sub : ∀ x ∈ [o], x ∈ [l, r, o] := fun x m => by rw [List.mem_singleton.mp m]; simp
  obtain ⟨kvs, hkv, hkl, hkb⟩ := hb
  refine ⟨fun m σ H' => Sm [o] H H' ∧ ∃ (ro' : List (Option Nat)) (v3 v4 : Option V), H' o = some (.lst (ro'.map optN)) ∧ ro'.length = rows.length ∧
      ((∃ c j : Nat, m = j + 1 ∧ σ = [some (.ref p), some (.int c), some (.ref b), v3, v4] ∧ RP.Way rows.length n (Cf rows) (fZ L) (fZ R) rws cols (RP.upF bf0 c0 (some r0)) (fO ro') c j) ∨
       (m = 0 ∧ σ = [some (.ref p), some .non, some (.ref b), v3, v4] ∧ RP.Asg rows.length (n + 1) (Cf rows) (fZ L) (fZ R) (fO ro'))),
    ⟨j + 1, Sm.refl _ _, ro, none, none, W.ho, W.no, .inl ⟨c, j, rfl, rfl, Wy⟩⟩, ?_⟩
  rintro m σ H' ⟨sm, ro', v3, v4, ho, no, st⟩
  rcases st with ⟨c, j, rfl, rfl, Wy⟩ | ⟨rfl, rfl, As⟩
  · refine ⟨_, rfl, rfl, _, rfl, ?_⟩
    refine iteT ?_
    obtain ⟨rr, _, hbc, _⟩ := Wy.ats
    refine ⟨fun σ' H2 => Sm [o] H H2 ∧ ∃ (ro2 : List (Option Nat)) (v3 v4 : Option V), H2 o = some (.lst (ro2.map optN)) ∧ ro2.length = rows.length ∧
      ((∃ c2 j2 : Nat, j2 < j ∧ σ' = [some (.ref p), some (.int c2), some (.ref b), v3, v4] ∧ RP.Way rows.length n (Cf rows) (fZ L) (fZ R) rws cols (RP.upF bf0 c0 (some r0)) (fO ro2) c2 j2) ∨
       (σ' = [some (.ref p), some .non, some (.ref b), v3, v4] ∧ RP.Asg rows.length (n + 1) (Cf rows) (fZ L) (fZ R) (fO ro2))), ?_, ?_⟩
    · rintro σ' H2 ⟨sm2, ro2, w3, w4, ho2, no2, st⟩
      rcases st with ⟨c2, j2, lt, e, Wy2⟩ | ⟨e, As⟩
      · exact ⟨j2 + 1, by omega, sm2, ro2, w3, w4, ho2, no2, .inl ⟨c2, j2, rfl, e, Wy2⟩⟩
      · exact ⟨0, by omega, sm2, ro2, w3, w4, ho2, no2, .inr ⟨rfl, e, As⟩⟩
    · have hc : c < rows.length := Wy.hc
      have gd : DGet H' b (.int (c : Int)) (some (.int (rr : Int))) := by
        have e := hkb c
        rw [hbc] at e
        rw [← (show valV kvs (Sum.inl (c : Int)) = some (.int (rr : Int)) from e)]
        exact DGet.k (k := Sum.inl (c : Int)) (sm _ _ nb hkv)
      refine ⟨_, rfl, _, rfl, b, _, rfl, gd, ?_⟩
      have F' := F.sm (sm.mono sub)
      refine ⟨_, rfl, p, dx, _, rfl, F'.ins, rfl, _, rfl, p, dx, a, l, r, o, rows, ro', rr, rfl, F', ho, no, fun oc H2 hcol s2 => ?_⟩
      refine ⟨_, rfl, _, rfl, p, CA, dx, _, _, rfl, s2 _ _ F'.ins, T.cl, T.rowOf, rfl, _, rfl, o, _, _, c, rfl, rfl, s2 _ _ ho, ixN_nat (by rw [List.length_map, no]; exact hc), ?_⟩
      have hset : (ro'.map optN).set c (.int (rr : Int)) = (ro'.set c (some rr)).map optN := by rw [List.map_set]; rfl
      have fset := fO_set (ro := ro') (c := c) (by rw [no]; exact hc) (some rr)
      have smN : Sm [o] H (upd H2 o (.lst ((ro'.map optN).set c (.int (rr : Int))))) := (sm.trans (s2.sm [o])).put (List.mem_singleton.mpr rfl)
      have hoN : (upd H2 o (.lst ((ro'.map optN).set c (.int (rr : Int))))) o = some (.lst ((ro'.set c (some rr)).map optN)) := by rw [upd_same, hset]
      rcases RP.Way.turn Tr hn0 Wy hbc hcol with ⟨rfl, As⟩ | ⟨c2, j2, rfl, lt, Wy2⟩
      · exact ⟨_, rfl, smN, ro'.set c (some rr), _, _, hoN, by rw [List.length_set]; exact no, .inr ⟨rfl, by rw [fset]; exact As⟩⟩
      · exact ⟨_, rfl, smN, ro'.set c (some rr), _, _, hoN, by rw [List.length_set]; exact no, .inl ⟨c2, j2, lt, rfl, by rw [fset]; exact Wy2⟩⟩
  · refine ⟨_, rfl, rfl, _, rfl, ?_⟩
    refine iteF ?_
    exact k H' ro' sm ⟨sm _ _ nlo W.hl, sm _ _ nro W.hr, ho, W.nl, W.nr, no⟩ As
end
end K33
namespace K33
open PySem PySem.Spec PyProof.Rows L2
/-! ### the least slack so far -/
def BestAt (H : Hp) (v : V) : Option (Int × Nat × Nat) → Prop
  | none => v = .non
  | some (s, c, r) => ∃ a, v = .ref a ∧ H a = some (.tup [.int s, .int (c : Int), .int (r : Int)])
theorem BestAt.mono {H H' : Hp} {v : V} {b : Option (Int × Nat × Nat)} (h : BestAt H v b) (s : Same H H') : BestAt H' v b := by
  match b, h with
  | none, h => exact h
  | some (_, _, _), ⟨a, e, q⟩ => exact ⟨a, e, s _ _ q⟩
def BestOk (sl : Nat → Nat → Int) (Pd : Nat → Nat → Prop) : Option (Int × Nat × Nat) → Prop
  | none => ∀ r c, ¬ Pd r c
  | some (s, c, r) => Pd r c ∧ s = sl r c ∧ ∀ r' c', Pd r' c' → s ≤ sl r' c'
theorem BestOk.congr {sl : Nat → Nat → Int} {Pd Pd' : Nat → Nat → Prop} {b : Option (Int × Nat × Nat)} (h : BestOk sl Pd b) (e : ∀ r c, Pd r c ↔ Pd' r c) : BestOk sl Pd' b := by
  match b, h with
  | none, h => exact fun r c q => h r c ((e r c).mpr q)
  | some (s, c, r), ⟨h1, h2, h3⟩ => exact ⟨(e r c).mp h1, h2, fun r' c' q => h3 r' c' ((e r' c').mpr q)⟩
/-- one more pair -/
theorem BestOk.take {sl : Nat → Nat → Int} {Pd Pd' : Nat → Nat → Prop} {b : Option (Int × Nat × Nat)} {r c : Nat} (h : BestOk sl Pd b) (e : ∀ r' c', Pd' r' c' ↔ Pd r' c' ∨ (r' = r ∧ c' = c)) (lt : ∀ s c0 r0, b = some (s, c0, r0) → sl r c ≤ s) :
    BestOk sl Pd' (some (sl r c, c, r)) := by
  refine ⟨(e r c).mpr (.inr ⟨rfl, rfl⟩), rfl, fun r' c' q => ?_⟩
  rcases (e r' c').mp q with q | ⟨rfl, rfl⟩
  · match b, h, lt with
    | none, h, _ => exact absurd q (h r' c')
    | some (s, c0, r0), ⟨_, _, h3⟩, lt => exact Int.le_trans (lt s c0 r0 rfl) (h3 r' c' q)
  · exact Int.le_refl _
theorem BestOk.leave {sl : Nat → Nat → Int} {Pd Pd' : Nat → Nat → Prop} {s : Int} {c0 r0 r c : Nat} (h : BestOk sl Pd (some (s, c0, r0))) (e : ∀ r' c', Pd' r' c' ↔ Pd r' c' ∨ (r' = r ∧ c' = c)) (lt : s ≤ sl r c) : BestOk sl Pd' (some (s, c0, r0)) := by
  obtain ⟨h1, h2, h3⟩ := h
  refine ⟨(e _ _).mpr (.inl h1), h2, fun r' c' q => ?_⟩
  rcases (e r' c').mp q with q | ⟨rfl, rfl⟩
  · exact h3 r' c' q
  · exact lt
theorem inV_nat (i : Nat) : ∀ l : List Nat, inV (.int (i : Int)) ((l.map zi).map V.int) = decide (i ∈ l)
  | [] => rfl
  | n :: l => by
    have ih := inV_nat i l
    show (((n : Int) == (i : Int)) || inV (.int (i : Int)) ((l.map zi).map V.int)) = _
    rw [ih]
    by_cases e : n = i
    · subst e; simp
    · have e' : ((n : Int) == (i : Int)) = false := beq_eq_false_iff_ne.mpr (by omega)
      rw [e', Bool.false_or]
      by_cases m : i ∈ l
      · simp [m]
      · have : i ≠ n := fun q => e q.symm
        simp [m, this]
theorem flat_nat : ∀ l : List Nat, ((l.map zi).map V.int).all flatV = true
  | [] => rfl
  | n :: l => by
    show (true && ((l.map zi).map V.int).all flatV) = true
    rw [flat_nat l]
    all_goals rfl
section
variable {P : Program} {w : World} {K : PySem.W.Frag} {mg : Str → Option Value} {base : Heap} {CA : Addr}
def nAdd : List Str := ["self", "row", "rows", "columns", "before", "best", "column", "other", "slack"]
theorem scAdd : FnScope nAdd ["self", "row"] (defScope (inClass (top 21) 2)) := ⟨rfl, rfl, rfl, by decide +kernel, rfl, by decide +kernel, by decide +kernel⟩
def spAdd (CA : Addr) : Sp := fun vs H Q _ => ∃ (p dx a l r o : Addr) (rows : List (List Int)) (L R : List Int) (ro : List (Option Nat)) (k : Nat), vs = [.ref p, .int k] ∧ AsgFix CA H p dx a l r o rows ∧ AsgVar H l r o rows.length L R ro ∧
  k < rows.length ∧ RP.Asg rows.length k (Cf rows) (fZ L) (fZ R) (fO ro) ∧
  ∀ H' L' R' ro', Sm [l, r, o] H H' → AsgVar H' l r o rows.length L' R' ro' → RP.Asg rows.length (k + 1) (Cf rows) (fZ L') (fZ R') (fO ro') → Q .non H'
theorem ok_add (B : Bl mg) (T : ClsA K CA) (Ms : Met P w K mg base 1 CA "slack" (spSlack CA)) (Mh : Met P w K mg base 1 CA "shift" (spShift CA)) (Mt : Met P w K mg base 2 CA "turn" (spTurn CA))
    (D : MetAt K CA "add" "Assignment.add" (inClass (top 21) 2)) : Met P w K mg base 3 CA "add" (spAdd CA) := by
  refine met_of D scAdd (fun _ _ _ _ _ _ us hl => match us, hl with | [_, _], _ => rfl) (fun vs H Q E h => by obtain ⟨p, dx, a, l, r, o, rows, L, R, ro, k, rfl, _⟩ := h; rfl) fun f cdv A outer s H vs Q E hr h => ?_
  obtain ⟨p, dx, a, l, r, o, rows, L, R, ro, n, rfl, F, W, hn, As, k⟩ := h
  have nd := scAdd.nd
  have hu' := hu_of hr
  refine ⟨_, pss_cons (ps_set (i := 2) nd rfl (Or.inl rfl) (pe_lst (pa_cons (pv 1) pa_nil)))
    (pss_cons (ps_set (i := 3) nd rfl (Or.inl rfl) (pe_lst pa_nil))
    (pss_cons (ps_set (i := 4) nd rfl (Or.inl rfl) pe_dnewK)
    (pss_one (ps_while PassesOwn.never (pt_val pe_bl)
      (pss_cons (ps_set (i := 5) nd rfl (Or.inl rfl) pe_non)
      (pss_cons (ps_for PassesOwn.never rfl (pi_range1 rfl B.range (pa_cons (pe_fld (pv 0) rfl) pa_nil)) (pg_name (i := 6) nd rfl (Or.inl rfl))
        (pss_one (ps_if (pt_cmpR op_notIn_seq (pv 6) (pv 3) (by rfl))
          (pss_one (ps_for PassesOwn.never rfl (pi_list (pv 2)) (pg_name (i := 7) nd rfl (Or.inl rfl))
            (pss_cons (ps_set (i := 8) nd rfl (Or.inl rfl) (pe_mt Ms T.cl hr (by decide) (pv 0) (pa_cons (pv 7) (pa_cons (pv 6) pa_nil))))
            (pss_one (ps_if (PW.pt (pw_or (pt_cmpR op_isN (pv 5) pe_non (nomark _)) (pw_or1 (pt_cmpR op_lt (pv 8) (pe_ix ix_tup (pv 5) pe_int (fun _ _ => rfl)) (nomark _)))))
              (pss_one (ps_set (i := 5) nd rfl (Or.inl rfl) (pe_tup (pa_cons (pv 8) (pa_cons (pv 6) (pa_cons (pv 7) pa_nil)))))) pss_nil))))) pss_nil)))
      (pss_cons (ps_asg (pv 5) (pg_tup rfl (pgs_cons (pg_name (i := 8) nd rfl (Or.inl rfl)) (pgs_cons (pg_name (i := 6) nd rfl (Or.inl rfl)) (pgs_cons (pg_name (i := 7) nd rfl (Or.inl rfl)) pgs_nil)))))
      (pss_cons (ps_expr (pe_mt Mh T.cl hr (by decide) (pv 0) (pa_cons (pv 2) (pa_cons (pv 3) (pa_cons (pv 8) pa_nil)))))
      (pss_cons (ps_dput hu' (pv 4) (pv 6) (pv 7) rfl)
      (pss_cons (ps_if (pt_cmpR op_isN (pe_ix ix_list (pe_fld (pv 0) rfl) (pv 6) (fun _ _ => rfl)) pe_non (nomark _))
        (pss_cons (ps_expr (pe_mt Mt T.cl hr (by decide) (pv 0) (pa_cons (pv 6) (pa_cons (pv 4) pa_nil)))) (pss_one ps_retN)) pss_nil)
      (pss_cons (ps_expr (pe_bm PySem.F.plainAttrs_list PySem.F.slot_list_append PySem.F.type_list_append mt_append (pv 3) (pa_cons (pv 6) pa_nil)))
      (pss_one (ps_expr (pe_bm PySem.F.plainAttrs_list PySem.F.slot_list_append PySem.F.type_list_append mt_append (pv 2) (pa_cons (pe_ix ix_list (pe_fld (pv 0) rfl) (pv 6) (fun _ _ => rfl)) pa_nil))))))))))))))), ?_⟩
  refine ⟨_, rfl, by show 1 ≤ sizeLine; decide, fun RL hRL => ⟨Nat.zero_le _, fun CL hCL => fun BF hBF => ?_⟩⟩
  have nRC : RL ≠ CL := ne_of_none upd_same hCL
  have nCB : CL ≠ BF := ne_of_none upd_same hBF
  have nRB : RL ≠ BF := ne_of_none ((upd_ne nRC).trans upd_same) hBF
  have hCL0 : H CL = none := by rw [upd_ne nRC.symm] at hCL; exact hCL
  have hBF0 : H BF = none := by rw [upd_ne nCB.symm, upd_ne nRB.symm] at hBF; exact hBF
  have out : ∀ x : Addr, H x = none → x ∉ [l, r, o] := fun x hx m => by
    simp only [List.mem_cons, List.not_mem_nil, or_false] at m
    rcases m with e | e | e
    · rw [e, W.hl] at hx; cases hx
    · rw [e, W.hr] at hx; cases hx
    · rw [e, W.ho] at hx; cases hx
  have oR := out RL hRL
  have oC := out CL hCL0
  have oB := out BF hBF0
  have sub2 : ∀ x ∈ [l, r], x ∈ [l, r, o] := fun x m => by simp at m ⊢; rcases m with e | e <;> simp [e]
  have sub1 : ∀ x ∈ [o], x ∈ [l, r, o] := fun x m => by simp at m ⊢; simp [m]
  -- while True
  let WW : Nat → L2.St → Hp → Prop := fun m σ H' => ∃ (rws cols : List Nat) (bf : Nat → Option Nat) (L' R' : List Int) (kvs : List (Key × V)) (v5 v6 v7 v8 : Option V), m = rows.length - cols.length ∧ RP.Tree rows.length n (Cf rows) (fZ L') (fZ R') (fO ro) rws cols bf ∧ Sm [l, r, o] H H' ∧ AsgVar H' l r o rows.length L' R' ro ∧
    IntsAt H' RL (rws.map zi) ∧ IntsAt H' CL (cols.map zi) ∧ H' BF = some (.dK kvs) ∧ kvs.length ≤ cols.length ∧ (∀ c : Nat, valV kvs (Sum.inl (c : Int)) = (bf c).map nV) ∧
    σ = [some (.ref p), some (.int n), some (.ref RL), some (.ref CL), some (.ref BF), v5, v6, v7, v8]
  refine ⟨WW, ⟨rows.length, [n], [], fun _ => none, L, R, [], none, none, none, none, rfl, RP.Tree.start As hn, ((Sm.new hRL).trans ((Sm.new hCL).trans (Sm.new hBF))), ?_, ?_, ?_, upd_same, Nat.le_refl _, fun c => rfl, rfl⟩, ?_⟩
  · exact W.same ((same_new hRL).trans ((same_new hCL).trans (same_new hBF)))
  · exact (upd_ne nRB).trans ((upd_ne nRC).trans upd_same)
  · exact (upd_ne nCB).trans upd_same
  rintro m σ H' ⟨rws, cols, bf, L', R', kvs, v5, v6, v7, v8, rfl, Tr, sm, W', hR', hC', hB', lkv, hkv, rfl⟩
  refine ⟨_, rfl, iteT ⟨fun σ' H2 => ∃ m', m' < rows.length - cols.length ∧ WW m' σ' H2, fun _ _ h => h, ?_⟩⟩
  have F' := F.sm sm
  have clt := Tr.colsLt
  have rlt : ∀ i ∈ rws, i < rows.length := fun i hi => Nat.lt_of_le_of_lt (Tr.rowLe hi) hn
  have llt : ∀ i ∈ cols, i < rows.length := fun i hi => by
    obtain ⟨j, hj⟩ := List.getElem?_of_mem hi
    exact (Tr.next j i hj).1
  have lrw := Tr.len
  -- the least slack
  refine ⟨_, rfl, p, CA, dx, _, _, rfl, F'.ins, T.cl, T.size, rfl, _, rfl, by omega, by have := F.len; omega, ?_⟩
  refine for_range (lo := 0) (n := ((rows.length : Nat) : Int).toNat) (fun i σ H2 => Same H' H2 ∧ ∃ (best : Option (Int × Nat × Nat)) (b5 : V) (w6 w7 w8 : Option V), BestAt H2 b5 best ∧ BestOk (fun r c => Cf rows r c - fZ L' r - fZ R' c) (fun r c => r ∈ rws ∧ c < i ∧ c ∉ cols) best ∧
      σ = [some (.ref p), some (.int n), some (.ref RL), some (.ref CL), some (.ref BF), some b5, w6, w7, w8])
    ⟨Same.refl _, none, .non, _, _, _, rfl, fun r c q => absurd q.2.1 (Nat.not_lt_zero c), rfl⟩ ?_ ?_
  · rintro i σ H2 hi ⟨s2, best, b5, w6, w7, w8, hb, bok, rfl⟩
    rw [Int.zero_add]
    have hi' : i < rows.length := by omega
    refine ⟨_, rfl, _, rfl, CL, _, rfl, .inl (SqL.of (s2 _ _ hC')), rfl, flat_nat cols, _, rfl, ?_⟩
    by_cases hic : i ∈ cols
    · refine iteBf (b := !inV (.int (i : Int)) ((cols.map zi).map V.int)) (by rw [inV_nat, decide_eq_true hic]; rfl) ?_
      refine ⟨s2, best, b5, _, _, _, hb, bok.congr fun r c => ⟨fun q => ⟨q.1, by omega, q.2.2⟩, fun q => ⟨q.1, ?_, q.2.2⟩⟩, rfl⟩
      have : c ≠ i := fun e => q.2.2 (e ▸ hic)
      have := q.2.1
      omega
    · refine iteB (b := !inV (.int (i : Int)) ((cols.map zi).map V.int)) (by rw [inV_nat, decide_eq_false hic]; rfl) ?_
      refine ⟨_, rfl, RL, rfl, ⟨_, SqL.of (s2 _ _ hR')⟩, for_list (K := K) (a := RL) (xs := (rws.map zi).map V.int)
        (fun j σ H2 => Same H' H2 ∧ ∃ (best : Option (Int × Nat × Nat)) (b5 : V) (w7 w8 : Option V), BestAt H2 b5 best ∧ BestOk (fun r c => Cf rows r c - fZ L' r - fZ R' c) (fun r c => (r ∈ rws ∧ c < i ∧ c ∉ cols) ∨ (c = i ∧ r ∈ rws.take j)) best ∧
          σ = [some (.ref p), some (.int n), some (.ref RL), some (.ref CL), some (.ref BF), some b5, some (.int i), w7, w8])
        ⟨s2, best, b5, _, _, hb, bok.congr fun r c => ⟨.inl, fun q => q.elim id fun z => (by simp at z)⟩, rfl⟩ (fun j σ H2 _ q => SqL.of (q.1 _ _ hR')) ?_ ?_⟩
      · rintro j x σ H3 hx ⟨s3, best, b5, w7, w8, hb, bok, rfl⟩
        obtain ⟨q, hq, rfl⟩ := ix_at hx
        have lj := (List.getElem?_eq_some_iff.mp hq).1
        have et : rws.take (j + 1) = rws.take j ++ [q] := by rw [List.take_succ_eq_append_getElem lj, (List.getElem?_eq_some_iff.mp hq).2]
        have ex : ∀ r' c', ((r' ∈ rws ∧ c' < i ∧ c' ∉ cols) ∨ (c' = i ∧ r' ∈ rws.take (j + 1))) ↔ ((r' ∈ rws ∧ c' < i ∧ c' ∉ cols) ∨ (c' = i ∧ r' ∈ rws.take j)) ∨ (r' = q ∧ c' = i) := fun r' c' => by
          rw [et, List.mem_append, List.mem_singleton]
          constructor
          · rintro (h | ⟨h1, h2 | h2⟩)
            · exact .inl (.inl h)
            · exact .inl (.inr ⟨h1, h2⟩)
            · exact .inr ⟨h2, h1⟩
          · rintro ((h | ⟨h1, h2⟩) | ⟨h1, h2⟩)
            · exact .inl h
            · exact .inr ⟨h1, .inl h2⟩
            · exact .inr ⟨h2, .inr h1⟩
        have F3 := F'.sm (s3.sm [l, r, o])
        refine ⟨_, rfl, p, dx, _, rfl, F3.ins, rfl, _, rfl, _, rfl, p, dx, a, l, r, o, rows, L', R', ro, q, i, rfl, F3, W'.same s3, rlt q (List.mem_of_getElem? hq), hi', ?_⟩
        match best, hb, bok with
        | none, hb, bok =>
          have hb' : b5 = .non := hb
          subst hb'
          refine ⟨_, rfl, rfl, _, rfl, iteEq rfl ?_⟩
          refine iteT ?_
          refine ⟨_, rfl, _, rfl, _, rfl, by show 3 ≤ sizeLine; decide, fun t ht => ?_⟩
          exact ⟨s3.trans (same_new ht), some (_, i, q), .ref t, _, _, ⟨t, rfl, upd_same⟩, bok.take ex (fun s c0 r0 e => nomatch e), rfl⟩
        | some (s0, c0, r0), ⟨ta, eta, hta⟩, bok =>
          subst eta
          refine ⟨_, rfl, rfl, _, rfl, iteNe (fun z => nomatch z) ?_⟩
          refine ⟨_, rfl, _, rfl, ta, _, 0, _, rfl, rfl, SqT.of hta, rfl, _, _, rfl, rfl, _, rfl, ?_⟩
          by_cases lt : Cf rows q i - fZ L' q - fZ R' i < s0
          · refine iteB (decide_eq_true lt) ?_
            refine ⟨_, rfl, _, rfl, _, rfl, by show 3 ≤ sizeLine; decide, fun t ht => ?_⟩
            refine ⟨s3.trans (same_new ht), some (_, i, q), .ref t, _, _, ⟨t, rfl, upd_same⟩, bok.take ex (fun s c1 r1 e => ?_), rfl⟩
            cases e
            exact Int.le_of_lt lt
          · refine iteBf (decide_eq_false lt) ?_
            exact ⟨s3, some (s0, c0, r0), .ref ta, _, _, ⟨ta, rfl, hta⟩, bok.leave ex (by omega), rfl⟩
      · rintro σ H3 ⟨s3, best, b5, w7, w8, hb, bok, rfl⟩
        refine ⟨s3, best, b5, _, _, _, hb, bok.congr fun r c => ?_, rfl⟩
        rw [List.length_map, List.length_map, List.take_length]
        constructor
        · rintro (h | ⟨h1, h2⟩)
          · exact ⟨h.1, by omega, h.2.2⟩
          · subst h1; exact ⟨h2, by omega, hic⟩
        · rintro ⟨h1, h2, h3⟩
          by_cases e : c = i
          · exact .inr ⟨e, h1⟩
          · exact .inl ⟨h1, by omega, h3⟩
  · rintro σ H2 ⟨s2, best, b5, w6, w7, w8, hb, bok, rfl⟩
    have en : ((rows.length : Nat) : Int).toNat = rows.length := by omega
    rw [en] at bok
    match best, hb, bok with
    | none, hb, bok =>
      obtain ⟨c, hc, hnc⟩ := RP.missing clt
      exact absurd ⟨List.mem_of_getElem? Tr.root, hc, hnc⟩ (bok n c)
    | some (s0, c0, r0), ⟨ta, eta, hta⟩, ⟨⟨hr0, hc0, hnc⟩, es, hmin⟩ =>
      subst eta
      refine ⟨_, rfl, ta, _, rfl, SqT.of hta, rfl, _, _, rfl, _, _, rfl, _, _, rfl, rfl, ?_⟩
      -- shift
      have es' : s0 = Cf rows r0 c0 - fZ L' r0 - fZ R' c0 := es
      have s0n : 0 ≤ s0 := by
        have := Tr.asg.feas r0 c0 (rlt r0 hr0) hc0
        omega
      have Tr2 := Tr.shift s0n (fun r' c' h1 h2 h3 => hmin r' c' ⟨h1, h2, h3⟩)
      have rnd := Tr.rowsNd
      have eL : (fun r => if r ∈ rws then fZ L' r + s0 else fZ L' r) = fZ (addAll L' rws s0) := by
        funext j
        rw [addAll_get s0 rws L' rnd (fun i hi => by rw [W'.nl]; exact rlt i hi)]
      have eR : (fun c => if c ∈ cols then fZ R' c - s0 else fZ R' c) = fZ (addAll R' cols (-s0)) := by
        funext j
        rw [addAll_get (-s0) cols R' Tr.nd (fun i hi => by rw [W'.nr]; exact llt i hi)]
        all_goals rfl
      rw [eL, eR] at Tr2
      have tt : fZ (addAll L' rws s0) r0 + fZ (addAll R' cols (-s0)) c0 = Cf rows r0 c0 := by
        rw [← eL, ← eR]
        show (if r0 ∈ rws then fZ L' r0 + s0 else fZ L' r0) + (if c0 ∈ cols then fZ R' c0 - s0 else fZ R' c0) = _
        rw [if_pos hr0, if_neg hnc]
        omega
      have F2 := F'.sm (s2.sm [l, r, o])
      have W2 := W'.same s2
      refine ⟨_, rfl, p, dx, _, rfl, F2.ins, rfl, _, rfl, _, rfl, _, rfl, p, dx, a, l, r, o, RL, CL, rows, L', R', ro, rws, cols, s0, rfl, F2, W2, s2 _ _ hR', s2 _ _ hC', fun m => oR (sub2 _ m), fun m => oC (sub2 _ m), rlt, llt, fun H4 s4 W4 => ?_⟩
      have s4' := s4.mono sub2
      have sm4 : Sm [l, r, o] H H4 := (sm.trans (s2.sm _)).trans s4'
      have F4 := F.sm sm4
      have hB4 : H4 BF = some (.dK kvs) := s4' _ _ oB (s2 _ _ hB')
      have hR4 : H4 RL = _ := s4' _ _ oR (s2 _ _ hR')
      have hC4 : H4 CL = _ := s4' _ _ oC (s2 _ _ hC')
      -- before[column] = other
      have lkv2 : kvs.length ≤ 16 := by have := F.len; omega
      refine ⟨_, rfl, _, rfl, _, rfl, BF, _, rfl, DPut.k (k := Sum.inl (c0 : Int)) hB4 (szl (by omega)), ?_⟩
      have sm5 : Sm [l, r, o] H (upd H4 BF (.dK (putK kvs (Sum.inl (c0 : Int)) (.int (r0 : Int))))) := sm4.mut hBF0
      have F5 := F.sm sm5
      have W5 : AsgVar (upd H4 BF (.dK (putK kvs (Sum.inl (c0 : Int)) (.int (r0 : Int))))) l r o rows.length (addAll L' rws s0) (addAll R' cols (-s0)) ro := by
        have nb : ∀ x ∈ [l, r, o], x ≠ BF := fun x m e => oB (e ▸ m)
        exact ⟨(upd_ne (nb l (by simp))).trans W4.hl, (upd_ne (nb r (by simp))).trans W4.hr, (upd_ne (nb o (by simp))).trans W4.ho, W4.nl, W4.nr, W4.no⟩
      have plen : (putK kvs (Sum.inl (c0 : Int)) (.int (r0 : Int))).length ≤ kvs.length + 1 := by
        unfold putK
        split
        · rw [List.length_map]; omega
        · rw [List.length_append]; exact Nat.le_refl _
      have pval : ∀ c : Nat, valV (putK kvs (Sum.inl (c0 : Int)) (.int (r0 : Int))) (Sum.inl (c : Int)) = (RP.upF bf c0 (some r0) c).map nV := fun c => by
        rw [valV_put]
        by_cases e : c = c0
        · subst e
          rw [if_pos rfl, RP.upF_at]
          all_goals rfl
        · rw [if_neg (fun z => e (key_inj.mp z)), RP.upF_ne e, hkv c]
      -- if self.row_of[column] is None
      have hro := getD_at (d := none) (l := ro) (i := c0) (by rw [W4.no]; exact hc0)
      refine ⟨_, rfl, p, CA, dx, _, _, rfl, F5.ins, T.cl, T.rowOf, rfl, _, rfl, o, _, _, _, rfl, rfl, SqL.of W5.ho, atI_nat (at_map hro), rfl, _, rfl, ?_⟩
      cases e2 : ro.getD c0 none with
      | none =>
        have efo : fO ro c0 = none := e2
        refine iteEq rfl ?_
        obtain ⟨j, _, Wy⟩ := Tr2.way hr0 hc0 hnc tt efo
        refine ⟨_, rfl, p, dx, _, rfl, F5.ins, rfl, _, rfl, _, rfl, p, dx, a, l, r, o, BF, rows, _, _, ro, n, c0, c0, r0, j, bf, rws, cols, fO ro, rfl, F5, W5, fun m => oB (sub1 _ m), ⟨_, upd_same, by omega, pval⟩, Tr2, hnc, Wy, fun H6 ro' s6 W6 As6 => ?_⟩
        exact k H6 _ _ ro' (sm5.trans (s6.mono sub1)) W6 As6
      | some r2 =>
        have efo : fO ro c0 = some r2 := e2
        refine iteNe (fun z => nomatch z) ?_
        have Tr3 := Tr2.grow hr0 hc0 hnc tt efo
        have hC5 : (upd H4 BF (.dK (putK kvs (Sum.inl (c0 : Int)) (.int (r0 : Int))))) CL = _ := (upd_ne nCB).trans hC4
        have hR5 : (upd H4 BF (.dK (putK kvs (Sum.inl (c0 : Int)) (.int (r0 : Int))))) RL = _ := (upd_ne nRB).trans hR4
        refine ⟨_, rfl, .inl ⟨rfl, _, SqL.of hC5⟩, _, rfl, CL, _, _, rfl, rfl, hC5, szl (by rw [List.length_map, List.length_map]; have := F.len; omega), ?_⟩
        have sm6 := sm5.mut hCL0 (o := .lst ((cols.map zi).map V.int ++ [.int (c0 : Int)]))
        have F6 := F.sm sm6
        have nc : ∀ x ∈ [l, r, o], x ≠ CL := fun x m e => oC (e ▸ m)
        have nr : ∀ x ∈ [l, r, o], x ≠ RL := fun x m e => oR (e ▸ m)
        have hR6 := (upd_ne nRC (o := .lst ((cols.map zi).map V.int ++ [.int (c0 : Int)]))).trans hR5
        refine ⟨_, rfl, .inl ⟨rfl, _, SqL.of hR6⟩, _, rfl, p, CA, dx, _, _, rfl, F6.ins, T.cl, T.rowOf, rfl, _, rfl, o, _, _, _, rfl, rfl, SqL.of ((upd_ne (nc o (by simp))).trans W5.ho), atI_nat (at_map hro), RL, _, _, rfl, rfl, hR6, szl (by rw [List.length_map, List.length_map]; have := F.len; omega), ?_⟩
        rw [e2]
        refine ⟨rows.length - (cols ++ [c0]).length, by rw [List.length_append, List.length_singleton]; omega, rws ++ [r2], cols ++ [c0], _, _, _, _, _, _, _, _, rfl, Tr3, sm6.mut hRL, ?_, ?_, ?_, ?_, ?_, pval, rfl⟩
        · exact ⟨(upd_ne (nr l (by simp))).trans ((upd_ne (nc l (by simp))).trans W5.hl), (upd_ne (nr r (by simp))).trans ((upd_ne (nc r (by simp))).trans W5.hr), (upd_ne (nr o (by simp))).trans ((upd_ne (nc o (by simp))).trans W5.ho), W5.nl, W5.nr, W5.no⟩
        · show upd _ _ _ _ = _
          rw [upd_same, List.map_append, List.map_append]
          all_goals rfl
        · show upd _ _ _ _ = _
          rw [upd_ne nRC.symm, upd_same, List.map_append, List.map_append]
          all_goals rfl
        · rw [upd_ne nRB.symm, upd_ne nCB.symm, upd_same]
        · rw [List.length_append, List.length_singleton]; omega
end
end K33
namespace K33
open PySem PySem.Spec PyProof.Rows L2
theorem cut_to {xs : List V} {k : Nat} (h : k ≤ xs.length) : cutV xs none (some (k : Int)) = xs.take k := by
  unfold cutV
  rw [HT.sIx_none, HT.sIx_nat, List.drop_zero, Nat.sub_zero, Nat.min_eq_left h]
theorem cut_from {xs : List V} {k : Nat} (h : k ≤ xs.length) : cutV xs (some (k : Int)) none = xs.drop k := by
  unfold cutV
  rw [HT.sIx_none, HT.sIx_nat, Nat.min_eq_left h]
  refine List.take_of_length_le ?_
  rw [List.length_drop]
  exact Nat.le_refl _
theorem fZ_at {L : List Int} {i : Nat} {x : Int} (h : L[i]? = some x) : fZ L i = x := by
  show L.getD i 0 = x
  rw [List.getD_eq_getElem?_getD, h]
  all_goals rfl
section
variable {P : Program} {w : World} {K : PySem.W.Frag} {mg : Str → Option Value} {base : Heap} {CP CC CA : Addr}
/-! ### made_paper -/
def nPaper : List Str := ["assignment", "there", "here", "lefts", "rights", "more", "left", "right"]
theorem scPaper : FnScope nPaper ["assignment", "there", "here"] (defScope (top 22)) := ⟨rfl, rfl, rfl, by decide +kernel, rfl, by decide +kernel, by decide +kernel⟩
/-- a paper whose lists are new -/
def PaperNew (H H' : Hp) (v : V) (ls rs : List Int) : Prop := ∃ a l r, v = .ref a ∧ H' a = some (.tup [.ref l, .ref r]) ∧ IntsAt H' l ls ∧ IntsAt H' r rs ∧ H l = none ∧ H r = none
theorem PaperNew.at_ {H H' : Hp} {v : V} {ls rs : List Int} (h : PaperNew H H' v ls rs) : PaperAt H' v ls rs := by
  obtain ⟨a, l, r, e, q, x, y, _⟩ := h
  exact ⟨a, l, r, e, q, x, y⟩
theorem PaperNew.mono {H0 H H' H2 : Hp} {v : V} {ls rs : List Int} (h : PaperNew H H' v ls rs) (s0 : Same H0 H) (s : Same H' H2) : PaperNew H0 H2 v ls rs := by
  obtain ⟨a, l, r, e, q, x, y, z1, z2⟩ := h
  exact ⟨a, l, r, e, s _ _ q, x.mono s, y.mono s, Same.free s0 z1, Same.free s0 z2⟩
structure PaperOk (n m : Nat) (L R : List Int) (ls rs : List Int) (mR mL : Int) : Prop where
  hR : 0 < n → (∃ i, i < n ∧ mR = fZ R (m + i)) ∧ ∀ i, i < n → fZ R (m + i) ≤ mR
  hL : 0 < m → (∃ i, i < m ∧ mL = fZ L (n + i)) ∧ ∀ i, i < m → fZ L (n + i) ≤ mL
  ell : ls.length = n
  elr : rs.length = m
  al : ∀ (i : Nat) (l : Int), ls[i]? = some l → l = fZ L i + mR
  ar : ∀ (j : Nat) (r : Int), rs[j]? = some r → r = fZ R j + mL
def spPaper (CA : Addr) : Sp := fun vs H Q _ => ∃ (p dx a l r o : Addr) (rows : List (List Int)) (L R : List Int) (ro : List (Option Nat)) (n m : Nat), vs = [.ref p, .int n, .int m] ∧ AsgFix CA H p dx a l r o rows ∧ AsgVar H l r o rows.length L R ro ∧ n + m = rows.length ∧
  ∀ H' v ls rs mR mL, Same H H' → PaperNew H H' v ls rs → PaperOk n m L R ls rs mR mL → Q v H'
/-- max of what is cut off -/
theorem max_cut {R : List Int} {n m : Nat} {x : Int} (h : R.length = m + n) (hm : x ∈ R.drop m) (hl : ∀ y, y ∈ R.drop m → y ≤ x) : (∃ i, i < n ∧ x = fZ R (m + i)) ∧ ∀ i, i < n → fZ R (m + i) ≤ x := by
  constructor
  · obtain ⟨i, hi⟩ := List.getElem?_of_mem hm
    have li := (List.getElem?_eq_some_iff.mp hi).1
    rw [List.length_drop] at li
    rw [List.getElem?_drop] at hi
    exact ⟨i, by omega, (fZ_at hi).symm⟩
  · intro i hi
    have e := getD_at (d := 0) (l := R) (i := m + i) (by omega)
    exact hl _ (List.mem_of_getElem? (i := i) (by rw [List.getElem?_drop]; exact e))
theorem ok_paper (B : Bl mg) (T : ClsA K CA) (D : DefAt K mg "made_paper" (top 22)) : Cal P w K mg base 1 "made_paper" (spPaper CA) := by
  refine cal_of D scPaper (fun _ _ _ _ _ _ us hl => match us, hl with | [_, _, _], _ => rfl) (fun vs H Q E h => by obtain ⟨p, dx, a, l, r, o, rows, L, R, ro, n, m, rfl, _⟩ := h; rfl) fun f cdv A outer s H vs Q E hr h => ?_
  obtain ⟨p, dx, a, l, r, o, rows, L, R, ro, n, m, rfl, F, W, hnm, k⟩ := h
  have nd := scPaper.nd
  refine ⟨_, pss_cons (ps_set (i := 3) nd rfl (Or.inl rfl) (pe_slice sl_list (pe_fld (pv 0) rfl) po_none (po_some (pv 1))))
    (pss_cons (ps_set (i := 4) nd rfl (Or.inl rfl) (pe_slice sl_list (pe_fld (pv 0) rfl) po_none (po_some (pv 2))))
    (Evl.pss_cut (ps_if (pt_cmpR op_gt (pv 1) pe_int (nomark _))
        (pss_cons (ps_set (i := 5) nd rfl (Or.inr rfl) (pe_callB (cr_max rfl) rfl B.max boot_max (pa_cons (pe_slice sl_list (pe_fld (pv 0) rfl) (po_some (pv 2)) po_none) pa_nil)))
        (pss_one (ps_setLc (i := 3) (own := [("left", 6)]) (g := gName 6) (tt := tYes) (te := tOp (rI0 fun i j => .int (i + j)) (tVar 6) (tVar 5)) rfl nd rfl rfl (sw_true rfl rfl rfl (by decide +kernel)) (pi_list (pv 3)) (blkOk_by (own := [("left", 6)]) (N := nPaper) (sc := defScope (top 22)) (by decide +kernel))
          (fun _ _ _ _ _ => pg_name (i := 6) nd rfl (Or.inl rfl)) (fun _ _ _ _ _ => pts_nil) (fun _ _ _ _ _ => pe_op op_add (pv 6) (pv 5))))) pss_nil)
    (Evl.pss_cut (ps_if (pt_cmpR op_gt (pv 2) pe_int (nomark _))
        (pss_cons (ps_set (i := 5) nd rfl (Or.inr rfl) (pe_callB (cr_max rfl) rfl B.max boot_max (pa_cons (pe_slice sl_list (pe_fld (pv 0) rfl) (po_some (pv 1)) po_none) pa_nil)))
        (pss_one (ps_setLc (i := 4) (own := [("right", 7)]) (g := gName 7) (tt := tYes) (te := tOp (rI0 fun i j => .int (i + j)) (tVar 7) (tVar 5)) rfl nd rfl rfl (sw_true rfl rfl rfl (by decide +kernel)) (pi_list (pv 4)) (blkOk_by (own := [("right", 7)]) (N := nPaper) (sc := defScope (top 22)) (by decide +kernel))
          (fun _ _ _ _ _ => pg_name (i := 7) nd rfl (Or.inl rfl)) (fun _ _ _ _ _ => pts_nil) (fun _ _ _ _ _ => pe_op op_add (pv 7) (pv 5))))) pss_nil)
    (pss_one (ps_ret (pe_tup (pa_cons (pv 3) (pa_cons (pv 4) pa_nil)))))))), ?_⟩
  have nl := W.nl
  have nr := W.nr
  refine ⟨_, rfl, p, CA, dx, _, _, rfl, F.ins, T.cl, T.lefts, rfl, _, rfl, _, rfl, l, _, rfl, SqL.of W.hl, fun D1 hD1 => ?_⟩
  have s1 := same_new hD1 (o := .lst (cutV (L.map V.int) none (some (n : Int))))
  refine ⟨_, rfl, p, CA, dx, _, _, rfl, s1 _ _ F.ins, T.cl, T.rights, rfl, _, rfl, _, rfl, r, _, rfl, SqL.of (s1 _ _ W.hr), fun D2 hD2 => ?_⟩
  have s2 := s1.trans (same_new hD2 (o := .lst (cutV (R.map V.int) none (some (m : Int)))))
  have e1 : cutV (L.map V.int) none (some (n : Int)) = (L.take n).map V.int := by rw [cut_to (by rw [List.length_map]; omega), List.map_take]
  have e2 : cutV (R.map V.int) none (some (m : Int)) = (R.take m).map V.int := by rw [cut_to (by rw [List.length_map]; omega), List.map_take]
  have n12 : D1 ≠ D2 := ne_of_none upd_same hD2
  have hd1 : (upd (upd H D1 (.lst (cutV (L.map V.int) none (some (n : Int))))) D2 (.lst (cutV (R.map V.int) none (some (m : Int))))) D1 = some (.lst ((L.take n).map V.int)) := by rw [upd_ne n12, upd_same, e1]
  have hd2 : (upd (upd H D1 (.lst (cutV (L.map V.int) none (some (n : Int))))) D2 (.lst (cutV (R.map V.int) none (some (m : Int))))) D2 = some (.lst ((R.take m).map V.int)) := by rw [upd_same, e2]
  -- lefts
  refine ⟨fun σ H' => Same H H' ∧ H' D2 = some (.lst ((R.take m).map V.int)) ∧ ∃ (d : Addr) (ls : List Int) (mR : Int) (v5 v6 v7 : Option V), σ = [some (.ref p), some (.int n), some (.int m), some (.ref d), some (.ref D2), v5, v6, v7] ∧ (IntsAt H' d ls ∧ H d = none) ∧ ls.length = n ∧
      (∀ (i : Nat) (l : Int), ls[i]? = some l → l = fZ L i + mR) ∧ (0 < n → (∃ i, i < n ∧ mR = fZ R (m + i)) ∧ ∀ i, i < n → fZ R (m + i) ≤ mR), ?_, ?_⟩
  · refine ⟨_, rfl, _, _, rfl, rfl, _, rfl, ?_⟩
    by_cases hn : (0 : Int) < (n : Int)
    · refine iteTr hn ?_
      refine ⟨_, rfl, p, CA, dx, _, _, rfl, s2 _ _ F.ins, T.cl, T.rights, rfl, _, rfl, _, rfl, r, _, rfl, SqL.of (s2 _ _ W.hr), fun D3 hD3 => ?_⟩
      have e3 : cutV (R.map V.int) (some (m : Int)) none = (R.drop m).map V.int := by rw [cut_from (by rw [List.length_map]; omega), List.map_drop]
      refine ⟨D3, R.drop m, rfl, SqL.of (by rw [upd_same, e3]), by rw [List.length_drop]; omega, fun mR hm hle => ?_⟩
      have mc := max_cut (R := R) (n := n) (m := m) (by omega) hm hle
      have s3 := s2.trans (same_new hD3 (o := .lst (cutV (R.map V.int) (some (m : Int)) none)))
      have hd1' := same_new hD3 (o := .lst (cutV (R.map V.int) (some (m : Int)) none)) _ _ hd1
      refine ⟨_, rfl, D1, rfl, ⟨_, SqL.of hd1'⟩, fun D4 hD4 => lc_map walk_list hD4 (fun i v _ => ∃ x, (L.take n)[i]? = some x ∧ v = .int (x + mR)) (by rw [List.length_map, List.length_take]; have := F.len; omega) (fun Hx s => SqL.of (s _ _ hd1')) (fun i y H H' _ _ r _ => r) ?_ ?_⟩
      · rintro i x _ Hx Qe hi s hl ⟨rfl, h1⟩ kq
        obtain ⟨z, hz, rfl⟩ := map_at h1
        exact ⟨rfl, _, rfl, _, rfl, _, _, rfl, rfl, kq _ _ (Same.refl _) ⟨z, hz, rfl⟩⟩
      · intro Hx ys s hys hlen hRy
        have e := list_of V.int ((L.take n).map fun x => x + mR) ys (by rw [hlen, List.length_map, List.length_map]) fun i v hv => by
          obtain ⟨z, hz, rfl⟩ := hRy i v hv
          exact ⟨_, at_map hz, rfl⟩
        subst e
        refine ⟨s3.trans s, s _ _ (same_new hD3 _ _ hd2), D4, _, mR, _, _, _, rfl, ⟨hys, Same.free s3 hD4⟩, by rw [List.length_map, List.length_take]; omega, fun i l' hl' => ?_, fun _ => mc⟩
        obtain ⟨z, hz, rfl⟩ := map_at hl'
        have hi := (List.getElem?_eq_some_iff.mp hz).1
        rw [List.length_take] at hi
        rw [List.getElem?_take_of_lt (by omega)] at hz
        rw [fZ_at hz]
    · refine iteFa hn ?_
      refine ⟨s2, hd2, D1, L.take n, 0, _, _, _, rfl, ⟨hd1, hD1⟩, by rw [List.length_take]; omega, fun i l' hl' => ?_, fun z => absurd z (by omega)⟩
      have hi := (List.getElem?_eq_some_iff.mp hl').1
      rw [List.length_take] at hi
      omega
  -- rights
  rintro σ H1 ⟨t1, hD2', d, ls, mR, v5, v6, v7, rfl, ⟨hls, hd0⟩, ell, al, hR⟩
  refine ⟨fun σ H' => Same H H' ∧ ∃ (d2 : Addr) (rs : List Int) (mL : Int) (v5 v6 v7 : Option V), σ = [some (.ref p), some (.int n), some (.int m), some (.ref d), some (.ref d2), v5, v6, v7] ∧ IntsAt H' d ls ∧ (IntsAt H' d2 rs ∧ H d2 = none) ∧ rs.length = m ∧
      (∀ (i : Nat) (l : Int), rs[i]? = some l → l = fZ R i + mL) ∧ (0 < m → (∃ i, i < m ∧ mL = fZ L (n + i)) ∧ ∀ i, i < m → fZ L (n + i) ≤ mL), ?_, ?_⟩
  · refine ⟨_, rfl, _, _, rfl, rfl, _, rfl, ?_⟩
    by_cases hm : (0 : Int) < (m : Int)
    · refine iteTr hm ?_
      refine ⟨_, rfl, p, CA, dx, _, _, rfl, t1 _ _ F.ins, T.cl, T.lefts, rfl, _, rfl, _, rfl, l, _, rfl, SqL.of (t1 _ _ W.hl), fun D3 hD3 => ?_⟩
      have e3 : cutV (L.map V.int) (some (n : Int)) none = (L.drop n).map V.int := by rw [cut_from (by rw [List.length_map]; omega), List.map_drop]
      refine ⟨D3, L.drop n, rfl, SqL.of (by rw [upd_same, e3]), by rw [List.length_drop]; omega, fun mL hm hle => ?_⟩
      have mc := max_cut (R := L) (n := m) (m := n) (by omega) hm hle
      have s3 := same_new hD3 (o := .lst (cutV (L.map V.int) (some (n : Int)) none))
      have hd1' := s3 _ _ hD2'
      refine ⟨_, rfl, D2, rfl, ⟨_, SqL.of hd1'⟩, fun D4 hD4 => lc_map walk_list hD4 (fun i v _ => ∃ x, (R.take m)[i]? = some x ∧ v = .int (x + mL)) (by rw [List.length_map, List.length_take]; have := F.len; omega) (fun Hx s => SqL.of (s _ _ hd1')) (fun i y H H' _ _ r _ => r) ?_ ?_⟩
      · rintro i x _ Hx Qe hi s hl ⟨rfl, h1⟩ kq
        obtain ⟨z, hz, rfl⟩ := map_at h1
        exact ⟨rfl, _, rfl, _, rfl, _, _, rfl, rfl, kq _ _ (Same.refl _) ⟨z, hz, rfl⟩⟩
      · intro Hx ys s hys hlen hRy
        have e := list_of V.int ((R.take m).map fun x => x + mL) ys (by rw [hlen, List.length_map, List.length_map]) fun i v hv => by
          obtain ⟨z, hz, rfl⟩ := hRy i v hv
          exact ⟨_, at_map hz, rfl⟩
        subst e
        refine ⟨t1.trans (s3.trans s), D4, _, mL, _, _, _, rfl, s _ _ (s3 _ _ hls), ⟨hys, Same.free (t1.trans s3) hD4⟩, by rw [List.length_map, List.length_take]; omega, fun i l' hl' => ?_, fun _ => mc⟩
        obtain ⟨z, hz, rfl⟩ := map_at hl'
        have hi := (List.getElem?_eq_some_iff.mp hz).1
        rw [List.length_take] at hi
        rw [List.getElem?_take_of_lt (by omega)] at hz
        rw [fZ_at hz]
    · refine iteFa hm ?_
      refine ⟨t1, D2, R.take m, 0, _, _, _, rfl, hls, ⟨hD2', Same.free s1 hD2⟩, by rw [List.length_take]; omega, fun i l' hl' => ?_, fun z => absurd z (by omega)⟩
      have hi := (List.getElem?_eq_some_iff.mp hl').1
      rw [List.length_take] at hi
      omega
  rintro σ H2 ⟨t2, d2, rs, mL, w5, w6, w7, rfl, hls2, ⟨hrs, hd20⟩, elr, ar, hL⟩
  refine ⟨_, rfl, _, rfl, by show 2 ≤ sizeLine; decide, fun t ht => ?_⟩
  have sN := same_new ht (o := .tup [.ref d, .ref d2])
  exact k _ _ ls rs mR mL (t2.trans sN) ⟨t, d, d2, rfl, upd_same, sN _ _ hls2, sN _ _ hrs, hd0, hd20⟩ ⟨hR, hL, ell, elr, al, ar⟩
end
end K33
namespace K33
open PySem PySem.Spec PyProof.Rows L2
/-! ### the instance of the mathematics -/
def uC (pr : Str → Price) (c : Cll) : Int := (pr c.eff).undo
def dC (pr : Str → Price) (cs2 : List Cll) (j : Nat) : Int := (cs2.map fun c => (pr c.eff).do_).getD j 0
def chC (pr : Str → Price) (cs2 : List Cll) (c : Cll) (j : Nat) : Option Int := (cs2.map fun c2 => chgC pr c c2).getD j none
theorem dist_nn : ∀ xs ys : List Int, 0 ≤ dist xs ys
  | [], _ => by unfold dist; simp
  | _ :: _, [] => by unfold dist; simp
  | x :: xs, y :: ys => by
    have ih := dist_nn xs ys
    have := iabs_nn (x - y)
    unfold dist at ih ⊢
    rw [List.zipWith_cons_cons, List.sum_cons]
    omega
theorem chgC_nn {pr : Str → Price} {c c2 : Cll} {x : Int} (h : PriceOk (pr c.eff)) (e : chgC pr c c2 = some x) : 0 ≤ x := by
  unfold chgC at e
  split at e
  · split at e
    · cases e
    · rename_i b ea hb
      have ok := h.ch _ _ hb
      have := Int.mul_nonneg ok.2.2.1 (dist_nn c.args c2.args)
      cases e
      omega
  · cases e
theorem getD_app_left {α : Type} {l m : List α} {i : Nat} {d : α} (h : i < l.length) : (l ++ m).getD i d = l.getD i d := by
  rw [List.getD_eq_getElem?_getD, List.getElem?_append_left h, List.getD_eq_getElem?_getD]
theorem getD_app_right {α : Type} {l m : List α} {i : Nat} {d : α} : (l ++ m).getD (l.length + i) d = m.getD i d := by
  rw [List.getD_eq_getElem?_getD, List.getElem?_append_right (by omega), List.getD_eq_getElem?_getD]
  have : l.length + i - l.length = i := by omega
  rw [this]
theorem getD_rep {α : Type} {n i : Nat} {x d : α} (h : i < n) : (List.replicate n x).getD i d = x := by
  rw [List.getD_eq_getElem?_getD, List.getElem?_replicate, if_pos h]
  all_goals rfl
theorem getD_of {α : Type} {l : List α} {i : Nat} {x d : α} (h : l[i]? = some x) : l.getD i d = x := by
  rw [List.getD_eq_getElem?_getD, h]
  all_goals rfl
theorem sqTop_at {I : Inst} {i : Nat} {u : Int} {row : List (Option Int)} (h1 : I.us[i]? = some u) (h2 : I.cs[i]? = some row) : (sqTop I)[i]? = some (row.map (fun o => o.getD (bigOf I)) ++ List.replicate I.us.length u) := by
  unfold sqTop
  rw [List.getElem?_zipWith, h1, h2]
theorem sqTop_len {I : Inst} (ok : InstOk I) : (sqTop I).length = I.us.length := by
  unfold sqTop
  rw [List.length_zipWith, ok.len]
  exact Nat.min_self _
theorem squareL_len {I : Inst} (ok : InstOk I) : (squareL I).length = I.us.length + I.ds.length := by
  unfold squareL
  rw [List.length_append, sqTop_len ok, List.length_replicate]
theorem squareL_sq {I : Inst} (ok : InstOk I) : ∀ (i : Nat) (row : List Int), (squareL I)[i]? = some row → row.length = (squareL I).length := by
  intro i row h
  rw [squareL_len ok]
  unfold squareL at h
  by_cases hi : i < (sqTop I).length
  · rw [List.getElem?_append_left hi] at h
    have li : i < I.us.length := by rw [sqTop_len ok] at hi; exact hi
    have h1 := getD_at (d := 0) li
    have h2 := getD_at (d := []) (l := I.cs) (i := i) (by rw [ok.len]; exact li)
    rw [sqTop_at h1 h2] at h
    have lr := ok.row i _ h2
    cases h
    rw [List.length_append, List.length_map, List.length_replicate, lr]
    omega
  · rw [List.getElem?_append_right (by omega)] at h
    have := List.mem_of_getElem? h
    have e := List.eq_of_mem_replicate this
    rw [e]
    unfold sqBot
    rw [List.length_append, List.length_replicate]
    omega
theorem sq_ok (pr : Str → Price) (cs1 cs2 : List Cll) (hp : ∀ e, IsEff e → PriceOk (pr e)) (h1 : ∀ c ∈ cs1, CllOk c) (h2 : ∀ c ∈ cs2, CllOk c) :
    RP.Sq cs2.length (dC pr cs2) (uC pr) (chC pr cs2) cs1 (bigOf (instOf pr cs1 cs2)) (Cf (squareL (instOf pr cs1 cs2))) := by
  have ok := instOf_ok pr cs1 cs2
  have lu : (instOf pr cs1 cs2).us.length = cs1.length := List.length_map _
  have ld : (instOf pr cs1 cs2).ds.length = cs2.length := List.length_map _
  have top : ∀ (i : Nat) (c : Cll), cs1[i]? = some c → (squareL (instOf pr cs1 cs2)).getD i [] = (cs2.map fun c2 => chgC pr c c2).map (fun o => o.getD (bigOf (instOf pr cs1 cs2))) ++ List.replicate cs1.length (uC pr c) := fun i c hc => by
    have li := (List.getElem?_eq_some_iff.mp hc).1
    unfold squareL
    rw [getD_app_left (by rw [sqTop_len ok, lu]; exact li)]
    have e1 : (instOf pr cs1 cs2).us[i]? = some (uC pr c) := at_map hc
    have e2 : (instOf pr cs1 cs2).cs[i]? = some (cs2.map fun c2 => chgC pr c c2) := at_map hc
    rw [getD_of (sqTop_at e1 e2), lu]
  have bot : ∀ k, k < cs2.length → (squareL (instOf pr cs1 cs2)).getD (cs1.length + k) [] = sqBot (instOf pr cs1 cs2) := fun k hk => by
    unfold squareL
    have : cs1.length = (sqTop (instOf pr cs1 cs2)).length := by rw [sqTop_len ok, lu]
    rw [this, getD_app_right, getD_rep (by rw [ld]; exact hk)]
  refine ⟨fun i a ha => (hp _ (h1 a (List.mem_of_getElem? ha)).eff).u0, fun j hj => ?_, fun i a j c ha hc => ?_, ?_, fun i a j ha hj => ?_, fun i a k ha hk => ?_, fun k j hk hj => ?_, fun k i hk hi => ?_⟩
  · have e : cs2[j]? = some cs2[j] := List.getElem?_eq_getElem hj
    show 0 ≤ (cs2.map fun c => (pr c.eff).do_).getD j 0
    rw [getD_of (at_map e)]
    exact (hp _ (h2 _ (List.mem_of_getElem? e)).eff).d0
  · have hc' : (cs2.map fun c2 => chgC pr a c2).getD j none = some c := hc
    by_cases hj : j < cs2.length
    · have e : cs2[j]? = some cs2[j] := List.getElem?_eq_getElem hj
      rw [getD_of (at_map e)] at hc'
      exact chgC_nn (hp _ (h1 a (List.mem_of_getElem? ha)).eff) hc'
    · rw [List.getD_eq_getElem?_getD, List.getElem?_eq_none (by rw [List.length_map]; omega)] at hc'
      cases hc'
  · show 1 + (cs1.map fun c => (pr c.eff).undo).sum + (cs2.map fun c => (pr c.eff).do_).sum = _
    rw [RP.sum_sumTo (cs2.map fun c => (pr c.eff).do_), List.length_map]
    all_goals rfl
  · show ((squareL (instOf pr cs1 cs2)).getD i []).getD j 0 = _
    rw [top i a ha, getD_app_left (by rw [List.length_map, List.length_map]; exact hj)]
    have e : cs2[j]? = some cs2[j] := List.getElem?_eq_getElem hj
    rw [getD_of (at_map (at_map e))]
    show _ = ((cs2.map fun c2 => chgC pr a c2).getD j none).getD _
    rw [getD_of (at_map e)]
  · show ((squareL (instOf pr cs1 cs2)).getD i []).getD (cs2.length + k) 0 = _
    rw [top i a ha]
    have : cs2.length = ((cs2.map fun c2 => chgC pr a c2).map (fun o => o.getD (bigOf (instOf pr cs1 cs2)))).length := by rw [List.length_map, List.length_map]
    rw [this, getD_app_right, getD_rep hk]
  · show ((squareL (instOf pr cs1 cs2)).getD (cs1.length + k) []).getD j 0 = _
    rw [bot k hk]
    unfold sqBot
    rw [getD_app_left (by rw [ld]; exact hj)]
    all_goals rfl
  · show ((squareL (instOf pr cs1 cs2)).getD (cs1.length + k) []).getD (cs2.length + i) 0 = _
    rw [bot k hk]
    unfold sqBot
    rw [← ld, getD_app_right, getD_rep (by rw [lu]; exact hi)]
/-! ### the deeds of a plan by its choices -/
def deedI (i : Nat) : Option Nat → Deed
  | none => .undo i
  | some j => .chg i j
def headDeeds (ch : List (Option Nat)) : List Deed := ch.mapIdx deedI
def tailDeeds (m : Nat) (ch : List (Option Nat)) : List Deed := ((List.range m).filter fun j => decide (j ∉ RP.usedOf ch)).map Deed.do_
def deedsOf (m : Nat) (ch : List (Option Nat)) : List Deed := headDeeds ch ++ tailDeeds m ch
theorem headDeeds_snoc (ch : List (Option Nat)) (o : Option Nat) : headDeeds (ch ++ [o]) = headDeeds ch ++ [deedI ch.length o] := by
  unfold headDeeds
  rw [List.mapIdx_append]
  simp
theorem DeedAt.sm {D : Addr} {H H' : Hp} {v : V} {d : Deed} (h : DeedAt H v d) {l : List V} (hD : H D = some (.lst l)) (s : Sm [D] H H') : DeedAt H' v d := by
  obtain ⟨a, e, q⟩ := h
  have ne : a ≠ D := ne_of q hD (fun z => by cases z)
  exact ⟨a, e, s _ _ (fun m => ne (List.mem_singleton.mp m)) q⟩
theorem asg0 {N : Nat} {C : Nat → Nat → Int} (h : ∀ r c, r < N → c < N → 0 ≤ C r c) : RP.Asg N 0 C (fZ (List.replicate N 0)) (fZ (List.replicate N 0)) (fO (List.replicate N none)) := by
  have z : ∀ i, fZ (List.replicate N 0) i = 0 := fun i => by
    show (List.replicate N 0).getD i 0 = 0
    rw [List.getD_eq_getElem?_getD, List.getElem?_replicate]
    split <;> rfl
  have y : ∀ i, fO (List.replicate N none) i = none := fun i => by
    show (List.replicate N none).getD i none = none
    rw [List.getD_eq_getElem?_getD, List.getElem?_replicate]
    split <;> rfl
  refine ⟨fun r c hr hc => ?_, fun c r hc e => ?_, fun c c' r hc hc' e => ?_, fun c r hc e => ?_, fun r hr => absurd hr (Nat.not_lt_zero r)⟩
  · rw [z, z]; exact h r c hr hc
  · rw [y] at e; cases e
  · rw [y] at e; cases e
  · rw [y] at e; cases e
structure PlanRes (pr : Str → Price) (cs1 cs2 : List Cll) (ch : List (Option Nat)) (ls rs : List Int) : Prop where
  good : RP.Good cs2.length (chC pr cs2) cs1 ch []
  fair : RP.Fair cs2.length (dC pr cs2) (uC pr) (chC pr cs2) cs1 ls rs
  sum : ls.sum + rs.sum = RP.planCost cs2.length (dC pr cs2) (uC pr) (chC pr cs2) cs1 ch []
section
variable {P : Program} {w : World} {K : PySem.W.Frag} {mg : Str → Option Value} {base : Heap} {CP CC CA : Addr}
def nPlan : List Str := ["there", "here", "prices", "costs", "assignment", "row", "deeds", "i", "column", "j"]
theorem scPlan : FnScope nPlan ["there", "here", "prices"] (defScope (top 23)) := ⟨rfl, rfl, rfl, by decide +kernel, rfl, by decide +kernel, by decide +kernel⟩
def spPlan (CP : Addr) : Sp := fun vs H Q _ => ∃ (t h q : Addr) (pr : Str → Price) (cs1 cs2 : List Cll), vs = [.ref t, .ref h, .ref q] ∧ CallsAt H t cs1 ∧ CallsAt H h cs2 ∧ PricesAt CP H q pr ∧ cs1.length ≤ 8 ∧ cs2.length ≤ 8 ∧
  ∀ H' x d pp ch ls rs, Same H H' → H' x = some (.tup [.ref d, pp]) → DeedsAt H' d (deedsOf cs2.length ch) → H d = none → PaperNew H H' pp ls rs → PlanRes pr cs1 cs2 ch ls rs → Q (.ref x) H'
theorem ok_plan (B : Bl mg) (TA : ClsA K CA) (M : Mak P w K mg base 3 "Costs" CC (spCInit CP CC)) (Cs : Cal P w K mg base 1 "square" (spSquare CC)) (MA : Mak P w K mg base 1 "Assignment" CA (spAInit CA))
    (Ad : Met P w K mg base 3 CA "add" (spAdd CA)) (Co : Met P w K mg base 1 CA "column_of" (spColOf CA)) (Pp : Cal P w K mg base 1 "made_paper" (spPaper CA)) (D : DefAt K mg "plan" (top 23)) : Cal P w K mg base 5 "plan" (spPlan CP) := by
  refine cal_of D scPlan (fun _ _ _ _ _ _ us hl => match us, hl with | [_, _, _], _ => rfl) (fun vs H Q E h => by obtain ⟨t, h, q, pr, cs1, cs2, rfl, _⟩ := h; rfl) fun f cdv A outer s H vs Q E hr h => ?_
  obtain ⟨t, h, q, pr, cs1, cs2, rfl, ht, hh, hq, l1, l2, k⟩ := h
  have nd := scPlan.nd
  obtain ⟨tc, mc⟩ := B.calls
  refine ⟨_, pss_cons (ps_set (i := 3) nd rfl (Or.inl rfl) (pe_mk M hr (by decide) rfl (pa_cons (pv 0) (pa_cons (pv 1) (pa_cons (pv 2) pa_nil)))))
    (pss_cons (ps_if (PW.pt (pw_or (pt_cmpR op_gt (pe_callB call_len_seq rfl B.len PySem.boot_len (pa_cons (pv 0) pa_nil)) (pe_glob (v := .int 12) rfl mc ⟨tc, rfl⟩) (nomark _)) (pw_or1 (pt_cmpR op_gt (pe_callB call_len_seq rfl B.len PySem.boot_len (pa_cons (pv 1) pa_nil)) (pe_glob (v := .int 12) rfl mc ⟨tc, rfl⟩) (nomark _))))) pss_never pss_nil)
    (pss_cons (ps_set (i := 4) nd rfl (Or.inl rfl) (pe_mk MA hr (by decide) rfl (pa_cons (pe_c Cs hr (by decide) rfl (pa_cons (pv 3) pa_nil)) pa_nil)))
    (pss_cons (ps_for PassesOwn.never rfl (pi_range1 rfl B.range (pa_cons (pe_fld (pv 4) rfl) pa_nil)) (pg_name (i := 5) nd rfl (Or.inl rfl)) (pss_one (ps_expr (pe_mt Ad TA.cl hr (by decide) (pv 4) (pa_cons (pv 5) pa_nil)))))
    (pss_cons (ps_set (i := 6) nd rfl (Or.inl rfl) (pe_lst pa_nil))
    (pss_cons (ps_for PassesOwn.never rfl (pi_range1 rfl B.range (pa_cons (pe_callB call_len_seq rfl B.len PySem.boot_len (pa_cons (pv 0) pa_nil)) pa_nil)) (pg_name (i := 7) nd rfl (Or.inl rfl))
      (pss_cons (ps_set (i := 8) nd rfl (Or.inl rfl) (pe_mt Co TA.cl hr (by decide) (pv 4) (pa_cons (pv 7) pa_nil)))
      (pss_one (ps_expr (pe_bm PySem.F.plainAttrs_list PySem.F.slot_list_append PySem.F.type_list_append mt_append (pv 6) (pa_cons
        (pe_ifExp (pt_cmpR op_lt (pv 8) (pe_callB call_len_seq rfl B.len PySem.boot_len (pa_cons (pv 1) pa_nil)) (nomark _)) (pe_tup (pa_cons pe_str (pa_cons (pv 7) (pa_cons (pv 8) pa_nil)))) (pe_tup (pa_cons pe_str (pa_cons (pv 7) pa_nil)))) pa_nil))))))
    (pss_cons (ps_for PassesOwn.never rfl (pi_range1 rfl B.range (pa_cons (pe_callB call_len_seq rfl B.len PySem.boot_len (pa_cons (pv 1) pa_nil)) pa_nil)) (pg_name (i := 9) nd rfl (Or.inl rfl))
      (pss_one (ps_if (pt_cmpR op_ge (pe_ix ix_list (pe_fld (pv 4) rfl) (pv 9) (fun _ _ => rfl)) (pe_callB call_len_seq rfl B.len PySem.boot_len (pa_cons (pv 0) pa_nil)) (nomark _))
        (pss_one (ps_expr (pe_bm PySem.F.plainAttrs_list PySem.F.slot_list_append PySem.F.type_list_append mt_append (pv 6) (pa_cons (pe_tup (pa_cons pe_str (pa_cons (pv 9) pa_nil))) pa_nil)))) pss_nil)))
    (pss_one (ps_ret (pe_tup (pa_cons (pv 6) (pa_cons (pe_c Pp hr (by decide) rfl (pa_cons (pv 4) (pa_cons (pe_callB call_len_seq rfl B.len PySem.boot_len (pa_cons (pv 0) pa_nil)) (pa_cons (pe_callB call_len_seq rfl B.len PySem.boot_len (pa_cons (pv 1) pa_nil)) pa_nil)))) pa_nil))))))))))), ?_⟩
  have iok := instOf_ok pr cs1 cs2
  have lu : (instOf pr cs1 cs2).us.length = cs1.length := List.length_map _
  have ld : (instOf pr cs1 cs2).ds.length = cs2.length := List.length_map _
  have eN : (squareL (instOf pr cs1 cs2)).length = cs1.length + cs2.length := by rw [squareL_len iok, lu, ld]
  have hpok : ∀ e, IsEff e → PriceOk (pr e) := by
    obtain ⟨_, _, _, he⟩ := id hq
    exact fun e ie => he.ok ie
  obtain ⟨vt, ht1, b1⟩ := id ht
  obtain ⟨vh, hh1, b2⟩ := id hh
  have ok1 : ∀ c ∈ cs1, CllOk c := fun c hc => by
    obtain ⟨i, hi⟩ := List.getElem?_of_mem hc
    obtain ⟨v, _, _, _, _, _, _, _, ok⟩ := b1.at_ hi
    exact ok
  have ok2 : ∀ c ∈ cs2, CllOk c := fun c hc => by
    obtain ⟨i, hi⟩ := List.getElem?_of_mem hc
    obtain ⟨v, _, _, _, _, _, _, _, ok⟩ := b2.at_ hi
    exact ok
  have Sq := sq_ok pr cs1 cs2 hpok ok1 ok2
  have lvt : vt.length = cs1.length := b1.1
  have lvh : vh.length = cs2.length := b2.1
  -- costs
  refine ⟨_, rfl, _, rfl, _, rfl, fun c dxc nc ndx nex => ?_⟩
  refine ⟨H, c, dxc, t, h, q, pr, cs1, cs2, rfl, same_made nc ndx, nc, upd_same, ht, hh, hq, by omega, by omega, fun H1 s1 hc => ⟨rfl, ?_⟩⟩
  refine ⟨_, rfl, t, _, rfl, .inl (SqL.of (s1 _ _ ht1)), _, _, rfl, rfl, _, rfl, iteFa (by omega) ?_⟩
  refine ⟨_, rfl, h, _, rfl, .inl (SqL.of (s1 _ _ hh1)), _, _, rfl, rfl, _, rfl, iteFa (by omega) ?_⟩
  -- assignment
  refine ⟨_, rfl, c, _, rfl, hc, iok, by omega, by omega, fun sq H2 s2 nsq rws => ?_⟩
  intro p dx np ndp nep
  refine ⟨H2, p, dx, sq, _, rfl, same_made np ndp, np, upd_same, rws, squareL_sq iok, by omega, fun H3 l r o s3 hl0 hr0 ho0 F W => ⟨rfl, ?_⟩⟩
  have t3 : Same H H3 := s1.trans (s2.trans s3)
  refine ⟨_, rfl, p, CA, dx, _, _, rfl, F.ins, TA.cl, TA.size, rfl, _, rfl, by omega, by omega, ?_⟩
  refine for_range (lo := 0) (n := (((squareL (instOf pr cs1 cs2)).length : Nat) : Int).toNat) (fun i σ H' => Sm [l, r, o] H3 H' ∧ ∃ (L R : List Int) (ro : List (Option Nat)) (v5 v6 v7 v8 v9 : Option V), AsgVar H' l r o (squareL (instOf pr cs1 cs2)).length L R ro ∧
      RP.Asg (squareL (instOf pr cs1 cs2)).length i (Cf (squareL (instOf pr cs1 cs2))) (fZ L) (fZ R) (fO ro) ∧ σ = [some (.ref t), some (.ref h), some (.ref q), some (.ref c), some (.ref p), v5, v6, v7, v8, v9])
    ⟨Sm.refl _ _, _, _, _, none, none, none, none, none, W, asg0 (fun a b ha hb => Sq.nn a b (by omega) (by omega)), rfl⟩ ?_ ?_
  · rintro i σ H' hi ⟨sm, L, R, ro, v5, v6, v7, v8, v9, Wv, As, rfl⟩
    rw [Int.zero_add]
    refine ⟨_, rfl, p, dx, _, rfl, (F.sm sm).ins, rfl, _, rfl, p, dx, sq, l, r, o, _, L, R, ro, i, rfl, F.sm sm, Wv, by omega, As, fun H5 L' R' ro' s5 W5 A5 => ?_⟩
    exact ⟨sm.trans s5, L', R', ro', _, _, _, _, _, W5, A5, rfl⟩
  rintro σ H4 ⟨sm, L, R, ro, v5, v6, v7, v8, v9, W4, As, rfl⟩
  have en : (((squareL (instOf pr cs1 cs2)).length : Nat) : Int).toNat = cs1.length + cs2.length := by omega
  rw [en, eN] at As
  have t2 : Same H H2 := s1.trans s2
  have t4 : Same H H4 := Sm.out t3 sm fun b hb => by
    simp only [List.mem_cons, List.not_mem_nil, or_false] at hb
    rcases hb with e | e | e
    · rw [e]; exact Same.free t2 hl0
    · rw [e]; exact Same.free t2 hr0
    · rw [e]; exact Same.free t2 ho0
  have F4 := F.sm sm
  refine ⟨Nat.zero_le _, fun D hD => ?_⟩
  -- for i in range(len(there))
  refine ⟨_, rfl, t, _, rfl, .inl (SqL.of (same_new hD _ _ (t4 _ _ ht1))), _, rfl, by omega, by omega, ?_⟩
  refine for_range (lo := 0) (n := ((vt.length : Nat) : Int).toNat) (fun i σ H' => Same H4 H' ∧ ∃ (ch : List (Option Nat)) (ys : List V) (v5 v7 v8 v9 : Option V), ch.length = i ∧
      (∀ (i : Nat) (x : Option Nat), ch[i]? = some x → ∃ c, c < cs1.length + cs2.length ∧ fO ro c = some i ∧ x = if c < cs2.length then some c else none) ∧ H' D = some (.lst ys) ∧ All2 (DeedAt H') ys (headDeeds ch) ∧
      σ = [some (.ref t), some (.ref h), some (.ref q), some (.ref c), some (.ref p), v5, some (.ref D), v7, v8, v9])
    ⟨same_new hD, [], [], _, _, _, _, rfl, fun i x z => (by simp at z), upd_same, All2.nil, rfl⟩ ?_ ?_
  · rintro i σ H' hi ⟨s, ch, ys, w5, w7, w8, w9, lch, hch, hDy, ay, rfl⟩
    rw [Int.zero_add]
    have F' := F4.sm (s.sm [l, r, o])
    refine ⟨_, rfl, p, dx, _, rfl, F'.ins, rfl, _, rfl, p, dx, sq, l, r, o, _, ro, i, rfl, F', s _ _ W4.ho, W4.no, fun oc H6 hcol s6 => ?_⟩
    rw [eN] at hcol
    rcases hcol with ⟨_, hno⟩ | ⟨cc, rfl, hcc, ecc⟩
    · obtain ⟨c', h1, h2⟩ := As.sur i (by omega)
      exact absurd h2 (hno c' h1)
    have hD6 := s6 _ _ hDy
    have s46 := s.trans s6
    have yl : ys.length ≤ 100 := by
      rw [ay.1]
      unfold headDeeds
      rw [List.length_mapIdx]
      omega
    have hch' : ∀ (i' : Nat) (x : Option Nat), (ch ++ [if cc < cs2.length then some cc else none])[i']? = some x → ∃ c, c < cs1.length + cs2.length ∧ fO ro c = some i' ∧ x = if c < cs2.length then some c else none := fun i' x hx => by
      by_cases e : i' < ch.length
      · rw [List.getElem?_append_left e] at hx
        exact hch i' x hx
      · have li := (List.getElem?_eq_some_iff.mp hx).1
        rw [List.length_append, List.length_singleton] at li
        have ei : i' = ch.length := by omega
        subst ei
        rw [List.getElem?_append_right (Nat.le_refl _)] at hx
        have ex : (if cc < cs2.length then some cc else none) = x := by simpa using hx
        exact ⟨cc, hcc, by rw [lch]; exact ecc, ex.symm⟩
    refine ⟨_, rfl, .inl ⟨rfl, _, SqL.of hD6⟩, _, rfl, _, rfl, h, _, rfl, .inl (SqL.of (s46 _ _ (t4 _ _ hh1))), _, _, rfl, rfl, _, rfl, ?_⟩
    by_cases hlt : (cc : Int) < (vh.length : Int)
    · refine iteTr hlt ?_
      refine ⟨_, rfl, _, rfl, by show 3 ≤ sizeLine; decide, fun tt htt => ?_⟩
      have st := same_new htt (o := .tup [.str "change", .int (i : Int), .int (cc : Int)])
      have nt : tt ≠ D := fun e => by rw [e, hD6] at htt; cases htt
      refine ⟨D, _, _, rfl, rfl, st _ _ hD6, szl (by omega), ?_⟩
      refine ⟨(s46.trans st).mut hD, _, _, _, _, _, _, by rw [List.length_append, lch]; rfl, hch', upd_same, ?_, rfl⟩
      rw [headDeeds_snoc, lch, if_pos (show cc < cs2.length by omega)]
      have keep : Sm [D] H' (upd (upd H6 tt (.tup [.str "change", .int (i : Int), .int (cc : Int)])) D (.lst (ys ++ [.ref tt]))) := ((s6.trans st).sm [D]).put (List.mem_singleton.mpr rfl)
      exact All2.snoc (ay.mono fun v d x => x.sm hDy keep) ⟨tt, rfl, (upd_ne nt).trans upd_same⟩
    · refine iteFa hlt ?_
      refine ⟨_, rfl, by show 2 ≤ sizeLine; decide, fun tt htt => ?_⟩
      have st := same_new htt (o := .tup [.str "undo", .int (i : Int)])
      have nt : tt ≠ D := fun e => by rw [e, hD6] at htt; cases htt
      refine ⟨D, _, _, rfl, rfl, st _ _ hD6, szl (by omega), ?_⟩
      refine ⟨(s46.trans st).mut hD, _, _, _, _, _, _, by rw [List.length_append, lch]; rfl, hch', upd_same, ?_, rfl⟩
      rw [headDeeds_snoc, lch, if_neg (show ¬ cc < cs2.length by omega)]
      have keep : Sm [D] H' (upd (upd H6 tt (.tup [.str "undo", .int (i : Int)])) D (.lst (ys ++ [.ref tt]))) := ((s6.trans st).sm [D]).put (List.mem_singleton.mpr rfl)
      exact All2.snoc (ay.mono fun v d x => x.sm hDy keep) ⟨tt, rfl, (upd_ne nt).trans upd_same⟩
  rintro σ H5 ⟨s5, ch, ys, w5, w7, w8, w9, lch, hch, hDy, ay, rfl⟩
  have lch' : ch.length = cs1.length := by omega
  have Ch : RP.Chosen cs2.length cs1.length (fO ro) ch := ⟨lch', hch⟩
  -- for j in range(len(here))
  refine ⟨_, rfl, h, _, rfl, .inl (SqL.of (s5 _ _ (t4 _ _ hh1))), _, rfl, by omega, by omega, ?_⟩
  refine for_range (lo := 0) (n := ((vh.length : Nat) : Int).toNat) (fun j σ H' => Same H4 H' ∧ ∃ (ys : List V) (v5 v7 v8 v9 : Option V), H' D = some (.lst ys) ∧
      All2 (DeedAt H') ys (headDeeds ch ++ ((List.range j).filter fun j => decide (j ∉ RP.usedOf ch)).map Deed.do_) ∧
      σ = [some (.ref t), some (.ref h), some (.ref q), some (.ref c), some (.ref p), v5, some (.ref D), v7, v8, v9])
    ⟨s5, ys, _, _, _, _, hDy, by rw [List.range_zero, List.filter_nil, List.map_nil, List.append_nil]; exact ay, rfl⟩ ?_ ?_
  · rintro j σ H' hj ⟨s, ys, w5, w7, w8, w9, hDy, ay, rfl⟩
    rw [Int.zero_add]
    have hj' : j < cs2.length := by omega
    have F' := F4.sm (s.sm [l, r, o])
    obtain ⟨rr, hrr, er⟩ := As.full j (by omega)
    have hro : (ro.map optN)[j]? = some (.int (rr : Int)) := by
      have e : ro[j]? = some (ro.getD j none) := getD_at (by rw [W4.no, eN]; omega)
      have e2 : ro.getD j none = some rr := er
      rw [e2] at e
      exact at_map e
    have yl : ys.length ≤ 100 := by
      rw [ay.1, List.length_append, List.length_map]
      have := List.length_filter_le (fun j => decide (j ∉ RP.usedOf ch)) (List.range j)
      rw [List.length_range] at this
      unfold headDeeds
      rw [List.length_mapIdx]
      omega
    refine ⟨_, rfl, p, CA, dx, _, _, rfl, F'.ins, TA.cl, TA.rowOf, rfl, _, rfl, o, _, _, _, rfl, rfl, SqL.of (s _ _ W4.ho), atI_nat hro, _, rfl, t, _, rfl, .inl (SqL.of (s _ _ (t4 _ _ ht1))), _, _, rfl, rfl, _, rfl, ?_⟩
    have used := Ch.used As hj'
    by_cases hle : (vt.length : Int) ≤ (rr : Int)
    · refine iteTr hle ?_
      have nu : j ∉ RP.usedOf ch := fun m => by
        obtain ⟨r', hr', e'⟩ := used.mp m
        rw [er] at e'
        cases e'
        omega
      refine ⟨_, rfl, .inl ⟨rfl, _, SqL.of hDy⟩, _, rfl, by show 2 ≤ sizeLine; decide, fun tt htt => ?_⟩
      have st := same_new htt (o := .tup [.str "do", .int (j : Int)])
      have nt : tt ≠ D := fun e => by rw [e, hDy] at htt; cases htt
      refine ⟨D, _, _, rfl, rfl, st _ _ hDy, szl (by omega), ?_⟩
      refine ⟨(s.trans st).mut hD, _, _, _, _, _, upd_same, ?_, rfl⟩
      have ef : (List.range (j + 1)).filter (fun j => decide (j ∉ RP.usedOf ch)) = (List.range j).filter (fun j => decide (j ∉ RP.usedOf ch)) ++ [j] := by
        rw [List.range_succ, List.filter_append]
        simp [nu]
      rw [ef, List.map_append, ← List.append_assoc]
      have keep : Sm [D] H' (upd (upd H' tt (.tup [.str "do", .int (j : Int)])) D (.lst (ys ++ [.ref tt]))) := (st.sm [D]).put (List.mem_singleton.mpr rfl)
      exact All2.snoc (ay.mono fun v d x => x.sm hDy keep) ⟨tt, rfl, (upd_ne nt).trans upd_same⟩
    · refine iteFa hle ?_
      have nu : j ∈ RP.usedOf ch := used.mpr ⟨rr, by omega, er⟩
      have ef : (List.range (j + 1)).filter (fun j => decide (j ∉ RP.usedOf ch)) = (List.range j).filter (fun j => decide (j ∉ RP.usedOf ch)) := by
        rw [List.range_succ, List.filter_append]
        simp [nu]
      exact ⟨s, ys, _, _, _, _, hDy, by rw [ef]; exact ay, rfl⟩
  rintro σ H6 ⟨s6, ys, w5, w7, w8, w9, hDy, ay, rfl⟩
  have F6 := F4.sm (s6.sm [l, r, o])
  have eh : ((vh.length : Nat) : Int).toNat = cs2.length := by omega
  rw [eh] at ay
  refine ⟨_, rfl, _, rfl, _, rfl, t, _, rfl, .inl (SqL.of (s6 _ _ (t4 _ _ ht1))), _, rfl, h, _, rfl, .inl (SqL.of (s6 _ _ (t4 _ _ hh1))), p, dx, sq, l, r, o, _, L, R, ro, vt.length, vh.length, rfl, F6, W4.same s6, by omega, fun H7 pp ls rs mR mL s7 hpp pok => ?_⟩
  refine ⟨by show 2 ≤ sizeLine; decide, fun x hx => ?_⟩
  have s8 := same_new hx (o := .tup [.ref D, pp])
  rw [lvt, lvh] at pok
  have fin := Sq.paper As Ch pok.hR pok.hL pok.ell pok.elr pok.al pok.ar
  exact k _ x D pp ch ls rs (t4.trans (s6.trans (s7.trans s8))) upd_same ⟨ys, s8 _ _ (s7 _ _ hDy), ay.mono fun v d z => z.mono (s7.trans s8)⟩ (Same.free t4 hD) (hpp.mono (t4.trans s6) s8) ⟨Sq.good As Ch, fin.1, fin.2⟩
end
end K33
namespace K33
open PySem PySem.Spec PyProof.Rows L2
/-- the list that is drawn from: some ints -/
def RowL (H : Hp) (r : Addr) : Prop := ∃ zs : List Int, H r = some (.lst (zs.map V.int))
theorem RowL.same {H H' : Hp} {r : Addr} (h : RowL H r) (s : Same H H') : RowL H' r := by
  obtain ⟨zs, e⟩ := h; exact ⟨zs, s _ _ e⟩
/-- tuples stand while a list is drawn from -/
theorem tup_sm {H H' : Hp} {r a : Addr} {xs : List V} (hr : RowL H r) (s : Sm [r] H H') (h : H a = some (.tup xs)) : H' a = some (.tup xs) := by
  obtain ⟨zs, e⟩ := hr
  have ne : a ≠ r := ne_of h e (fun z => by cases z)
  exact s _ _ (fun m => ne (List.mem_singleton.mp m)) h
theorem lst_sm {H H' : Hp} {r a : Addr} {o : HO} (ne : a ≠ r) (s : Sm [r] H H') (h : H a = some o) : H' a = some o := s _ _ (fun m => ne (List.mem_singleton.mp m)) h
section
variable {P : Program} {w : World} {K : PySem.W.Frag} {mg : Str → Option Value} {base : Heap}
/-! ### _law_mix -/
theorem scMix : FnScope ["_law_number", "_law_k"] ["_law_number", "_law_k"] (defScope (top 25)) := ⟨rfl, rfl, rfl, by decide +kernel, rfl, by decide +kernel, by decide +kernel⟩
def spMix : Sp := fun vs H Q _ => ∃ x k : Int, vs = [.int x, .int k] ∧ ∀ z : Int, Q (.int z) H
theorem ok_mix (B : Bl mg) (D : DefAt K mg "_law_mix" (top 25)) : Cal P w K mg base 1 "_law_mix" spMix := by
  refine cal_of D scMix (fun _ _ _ _ _ _ us hl => match us, hl with | [_, _], _ => rfl) (fun vs H Q E h => by obtain ⟨x, k, rfl, _⟩ := h; rfl) fun f cdv A outer s H vs Q E hr h => ?_
  obtain ⟨x, k, rfl, q⟩ := h
  refine ⟨_, pss_one (ps_ret (pe_op op_mod (pe_op op_mul (pe_op op_mod (pe_callTy call_int1 rfl B.int (by decide +kernel) (pa_cons (pe_op op_mul (pe_op op_add (pe_op op_add (pe_op op_mod (pe_callTy call_int1 rfl B.int (by decide +kernel) (pa_cons (pv 0) pa_nil)) pe_int) (pe_op op_mul pe_int (pv 1))) pe_int) pe_int) pa_nil)) pe_int) pe_int) pe_int)), ?_⟩
  refine ⟨_, rfl, .inl ⟨_, rfl, ?_⟩⟩
  refine ⟨_, _, rfl, rfl, (by show (0 : Int) < 1000003; decide), ?_⟩
  refine ⟨_, rfl, _, _, rfl, rfl, .inl ⟨by decide, by decide⟩, ?_⟩
  refine ⟨_, _, rfl, rfl, ?_⟩
  refine ⟨_, _, rfl, rfl, ?_⟩
  refine ⟨_, _, rfl, rfl, .inr ⟨by decide, by decide⟩, .inl ⟨_, rfl, ?_⟩⟩
  refine ⟨_, _, rfl, rfl, (by show (0 : Int) < 1000033; decide), ?_⟩
  refine ⟨_, _, rfl, rfl, .inr ⟨by decide, by decide⟩, ?_⟩
  exact ⟨_, _, rfl, rfl, (by show (0 : Int) < 998244353; decide), q _⟩
/-! ### _law_numbers -/
def nNumbers : List Str := ["_law_script", "_law_count", "_law_row", "_law_base", "_law_cell", "_law_rest", "_law_k"]
theorem scNumbers : FnScope nNumbers ["_law_script", "_law_count"] (defScope (top 26)) := ⟨rfl, rfl, rfl, by decide +kernel, rfl, by decide +kernel, by decide +kernel⟩
def spNumbers (K : PySem.W.Frag) : Sp := fun vs H Q _ => ∃ (a : Addr) (ns : List Int), vs = [.ref a, .int 110] ∧ SqL K H a (ns.map V.int) ∧ ns.length ≤ 63 ∧ ∀ p H', Same H H' → H p = none → RowL H' p → Q (.ref p) H'
theorem cut_int {ns : List Int} {hi : Int} {i : Nat} {x : V} (h : (cutV (ns.map V.int) none (some hi))[i]? = some x) : ∃ z : Int, x = .int z := by
  have m := List.mem_of_getElem? h
  unfold cutV at m
  have m2 := List.mem_of_mem_drop (List.mem_of_mem_take m)
  obtain ⟨z, _, e⟩ := List.mem_map.mp m2
  exact ⟨z, e.symm⟩
theorem ok_numbers (B : Bl mg) (Cm : Cal P w K mg base 1 "_law_mix" spMix) (D : DefAt K mg "_law_numbers" (top 26)) : Cal P w K mg base 2 "_law_numbers" (spNumbers K) := by
  refine cal_of D scNumbers (fun _ _ _ _ _ _ us hl => match us, hl with | [_, _], _ => rfl) (fun vs H Q E h => by obtain ⟨a, ns, rfl, _⟩ := h; rfl) fun f cdv A outer s H vs Q E hr h => ?_
  obtain ⟨a, ns, rfl, hS, ln, k⟩ := h
  have nd := scNumbers.nd
  refine ⟨_, pss_cons (ps_set (i := 2) nd rfl (Or.inl rfl) (pe_lst pa_nil))
    (pss_cons (ps_set (i := 3) nd rfl (Or.inl rfl) pe_int)
    (pss_cons (ps_for PassesOwn.never rfl (pi_list (pe_slice sl_list (pv 0) po_none (po_some pe_int))) (pg_name (i := 4) nd rfl (Or.inl rfl))
      (pss_cons (ps_set (i := 3) nd rfl (Or.inl rfl) (pe_op op_add (pv 3) (pv 4)))
      (pss_one (ps_if (pt_cmpR op_ge (pv 4) pe_int (nomark _))
        (pss_cons (ps_set (i := 5) nd rfl (Or.inl rfl) (pv 4))
        (pss_one (ps_for PassesOwn.never rfl (pi_range1 rfl B.range (pa_cons pe_int pa_nil)) (pg_name (i := 6) nd rfl (Or.inl rfl))
          (pss_cons (ps_expr (pe_bm PySem.F.plainAttrs_list PySem.F.slot_list_append PySem.F.type_list_append mt_append (pv 2) (pa_cons (pe_op op_mod (pe_callTy call_int1 rfl B.int (by decide +kernel) (pa_cons (pv 5) pa_nil)) pe_int) pa_nil)))
          (pss_cons (ps_set (i := 5) nd rfl (Or.inl rfl) (pe_op op_fdiv (pv 5) pe_int))
          (pss_one (ps_if (pt_cmpR op_eq (pv 5) pe_int (nomark _)) (pss_one ps_break) pss_nil)))))))
        (pss_one (ps_expr (pe_bm PySem.F.plainAttrs_list PySem.F.slot_list_append PySem.F.type_list_append mt_append (pv 2) (pa_cons (pe_c Cm hr (by decide) rfl (pa_cons (pe_c Cm hr (by decide) rfl (pa_cons (pv 4) (pa_cons pe_int pa_nil))) (pa_cons pe_int pa_nil))) pa_nil))))))))
    (pss_cons (ps_for PassesOwn.never rfl (pi_range1 rfl B.range (pa_cons (pv 1) pa_nil)) (pg_name (i := 6) nd rfl (Or.inl rfl))
      (pss_one (ps_expr (pe_bm PySem.F.plainAttrs_list PySem.F.slot_list_append PySem.F.type_list_append mt_append (pv 2) (pa_cons (pe_c Cm hr (by decide) rfl (pa_cons (pe_c Cm hr (by decide) rfl (pa_cons (pe_op op_add (pv 3) (pe_op op_mul pe_int (pv 6))) (pa_cons (pe_op op_add pe_int (pv 6)) pa_nil))) (pa_cons pe_int pa_nil))) pa_nil)))))
    (pss_cons (ps_expr (pe_bm0 PySem.F.plainAttrs_list PySem.F.slot_list_reverse PySem.F.type_list_reverse mt_reverse (pv 2)))
    (pss_one (ps_ret (pv 2))))))), ?_⟩
  refine ⟨Nat.zero_le _, fun p hp => ?_⟩
  have s1 := same_new hp (o := .lst [])
  refine ⟨_, rfl, _, rfl, a, _, rfl, s1.seq hS, fun c hc => ⟨c, rfl, ⟨_, SqL.of upd_same⟩, ?_⟩⟩
  have npc : p ≠ c := ne_of_none upd_same hc
  have lc : (cutV (ns.map V.int) none (some (63 : Int))).length ≤ 63 := Nat.le_trans (cutV_length _ _ _) (by rw [List.length_map]; exact ln)
  have hc0 : H c = none := by rw [upd_ne npc.symm] at hc; exact hc
  refine for_list (K := K) (a := c) (xs := cutV (ns.map V.int) none (some (63 : Int))) (fun i σ H' => Same H H' ∧ H' c = some (.lst (cutV (ns.map V.int) none (some (63 : Int)))) ∧ ∃ (zs : List Int) (b : Int) (v4 v5 v6 : Option V), H' p = some (.lst (zs.map V.int)) ∧ zs.length ≤ 60 * i ∧ σ = [some (.ref a), some (.int 110), some (.ref p), some (.int b), v4, v5, v6])
    ⟨s1.trans (same_new hc), upd_same, [], 0, none, none, none, (upd_ne npc).trans upd_same, Nat.le_refl _, rfl⟩ (fun i σ H' _ q => SqL.of q.2.1) ?_ ?_
  · rintro i x σ H' hx ⟨s, hcc, zs, b, v4, v5, v6, hz, lz, rfl⟩
    obtain ⟨z, rfl⟩ := cut_int hx
    have li : i < 63 := Nat.lt_of_lt_of_le (List.getElem?_eq_some_iff.mp hx).1 lc
    refine ⟨_, rfl, _, rfl, _, _, rfl, rfl, ?_⟩
    refine ⟨_, rfl, _, _, rfl, rfl, _, rfl, ?_⟩
    refine ite2 (fun _ => ?_) (fun _ => ?_)
    · refine ⟨_, rfl, _, rfl, by omega, by omega, ?_⟩
      refine for_range (lo := 0) (n := (60 : Int).toNat) (fun j σ H' => Same H H' ∧ H' c = some (.lst (cutV (ns.map V.int) none (some (63 : Int)))) ∧ ∃ (zs : List Int) (b x : Int) (v4 v6 : Option V), H' p = some (.lst (zs.map V.int)) ∧ zs.length ≤ 60 * i + j ∧ σ = [some (.ref a), some (.int 110), some (.ref p), some (.int b), v4, some (.int x), v6])
        ⟨s, hcc, zs, _, z, _, _, hz, lz, rfl⟩ ?_ ?_
      · rintro j σ H2 hj ⟨s2, hcc, zs, b, x, v4, v6, hz, lz, rfl⟩
        have hj' : j < 60 := hj
        refine ⟨_, rfl, .inl ⟨rfl, _, SqL.of hz⟩, _, rfl, .inl ⟨_, rfl, _, _, rfl, rfl, (by show (0 : Int) < 840; decide), p, _, _, rfl, rfl, hz, szl (by rw [List.length_map]; omega), ?_⟩⟩
        refine ⟨_, rfl, _, _, rfl, rfl, ⟨by decide, by decide⟩, ?_⟩
        have fin : Same H (upd H2 p (.lst (zs.map V.int ++ [V.int (x % 840)]))) := s2.mut hp
        have hcc2 := (upd_ne npc.symm (o := .lst (zs.map V.int ++ [V.int (x % 840)]))).trans hcc
        have hzz : upd H2 p (.lst (zs.map V.int ++ [V.int (x % 840)])) p = some (.lst ((zs ++ [x % 840]).map V.int)) := by rw [upd_same, List.map_append]; rfl
        refine ⟨_, rfl, rfl, _, rfl, ?_⟩
        refine ite2 (fun _ => ?_) (fun _ => ?_)
        · exact ⟨fin, hcc2, _, _, _, _, _, hzz, by rw [List.length_append, List.length_singleton]; omega, rfl⟩
        · exact ⟨fin, hcc2, _, _, _, _, _, hzz, by rw [List.length_append, List.length_singleton]; omega, rfl⟩
      · rintro σ H2 ⟨s2, hcc, zs, b, x, v4, v6, hz, lz, rfl⟩
        exact ⟨s2, hcc, zs, b, _, _, _, hz, by have : (60 : Int).toNat = 60 := rfl; omega, rfl⟩
    · refine ⟨_, rfl, .inl ⟨rfl, _, SqL.of hz⟩, _, rfl, z, 3, rfl, fun y1 => ⟨y1, 5, rfl, fun y2 => ?_⟩⟩
      refine ⟨p, _, _, rfl, rfl, hz, szl (by rw [List.length_map]; omega), ?_⟩
      refine ⟨s.mut hp, (upd_ne npc.symm).trans hcc, zs ++ [y2], _, _, _, _, by rw [upd_same, List.map_append]; rfl, by rw [List.length_append, List.length_singleton]; omega, rfl⟩
  · rintro σ H' ⟨s, hcc, zs, b, v4, v5, v6, hz, lz, rfl⟩
    refine ⟨_, rfl, _, rfl, by omega, by omega, ?_⟩
    refine for_range (lo := 0) (n := (110 : Int).toNat) (fun j σ H' => Same H H' ∧ ∃ (zs : List Int) (v4 v5 v6 : Option V), H' p = some (.lst (zs.map V.int)) ∧ zs.length ≤ 3780 + j ∧ σ = [some (.ref a), some (.int 110), some (.ref p), some (.int b), v4, v5, v6])
      ⟨s, zs, _, _, _, hz, by omega, rfl⟩ ?_ ?_
    · rintro j σ H2 hj ⟨s2, zs, v4, v5, v6, hz, lz, rfl⟩
      have hj' : j < 110 := hj
      refine ⟨_, rfl, .inl ⟨rfl, _, SqL.of hz⟩, _, rfl, _, rfl, _, _, rfl, rfl, .inl ⟨by decide, by decide⟩, _, _, rfl, rfl, _, rfl, _, _, rfl, rfl, _, _, rfl, fun y1 => ⟨y1, 17, rfl, fun y2 => ?_⟩⟩
      refine ⟨p, _, _, rfl, rfl, hz, szl (by rw [List.length_map]; omega), ?_⟩
      exact ⟨s2.mut hp, zs ++ [y2], _, _, _, by rw [upd_same, List.map_append]; rfl, by rw [List.length_append, List.length_singleton]; omega, rfl⟩
    · rintro σ H2 ⟨s2, zs, v4, v5, v6, hz, lz, rfl⟩
      refine ⟨_, rfl, .inl ⟨rfl, _, SqL.of hz⟩, p, _, rfl, rfl, hz, ?_⟩
      exact ⟨_, rfl, k p _ (s2.mut hp) hp ⟨zs.reverse, by rw [upd_same, List.map_reverse]⟩⟩
/-! ### _law_take -/
theorem scTake : FnScope ["_law_row", "_law_bound"] ["_law_row", "_law_bound"] (defScope (top 27)) := ⟨rfl, rfl, rfl, by decide +kernel, rfl, by decide +kernel, by decide +kernel⟩
def spTake : Sp := fun vs H Q _ => ∃ (r : Addr) (b : Int), vs = [.ref r, .int b] ∧ 0 < b ∧ RowL H r ∧ ∀ (z : Int) H', Sm [r] H H' → RowL H' r → 0 ≤ z → z < b → Q (.int z) H'
theorem ok_take (B : Bl mg) (D : DefAt K mg "_law_take" (top 27)) : Cal P w K mg base 1 "_law_take" spTake := by
  refine cal_of D scTake (fun _ _ _ _ _ _ us hl => match us, hl with | [_, _], _ => rfl) (fun vs H Q E h => by obtain ⟨r, b, rfl, _⟩ := h; rfl) fun f cdv A outer s H vs Q E hr h => ?_
  obtain ⟨r, b, rfl, hb, ⟨zs, hz⟩, k⟩ := h
  refine ⟨_, pss_cons (ps_if (pt_not (pt_truth (pv 0) (by intro _; rfl))) (pss_one (ps_ret pe_int)) pss_nil)
    (pss_one (ps_ret (pe_op op_mod (pe_callTy call_int1 rfl B.int (by decide +kernel) (pa_cons (pe_bm0 PySem.F.plainAttrs_list PySem.F.slot_list_pop PySem.F.type_list_pop mt_pop (pv 0)) pa_nil)) (pv 1)))), ?_⟩
  refine ⟨_, rfl, _, .inl ⟨_, SqL.of hz, rfl⟩, ?_⟩
  cases e : zs with
  | nil =>
    subst e
    refine iteT ?_
    exact k 0 H (Sm.refl _ _) ⟨[], hz⟩ (Int.le_refl 0) hb
  | cons x xs =>
    subst e
    refine iteF ?_
    have hlast : ((x :: xs).map V.int)[((x :: xs).map V.int).length - 1]? = some (.int ((x :: xs).getLast (by simp))) := by
      rw [List.length_map, List.getElem?_map, ← List.getLast?_eq_getElem?, List.getLast?_eq_some_getLast (by simp)]
      all_goals rfl
    refine ⟨_, rfl, .inl ⟨rfl, _, SqL.of hz⟩, r, _, _, rfl, rfl, hz, hlast, .inl ⟨_, rfl, _, rfl, _, _, rfl, rfl, hb, ?_⟩⟩
    refine k _ _ ((Sm.refl _ _).put (List.mem_singleton.mpr rfl)) ⟨(x :: xs).dropLast, ?_⟩ (Int.emod_nonneg _ (by omega)) (Int.emod_lt_of_pos _ hb)
    rw [upd_same, List.map_dropLast]
end
end K33
namespace K33
open PySem PySem.Spec PyProof.Rows L2
/-! ### keys -/
def KeyAt (H : Hp) (kv : V) (d : List Int × Int) : Prop := ∃ q p, kv = .ref q ∧ H q = some (.tup [.ref p, .int d.2]) ∧ H p = some (.tup (d.1.map V.int))
def keyD (d : List Int × Int) : PyData := .tuple [.tuple (d.1.map PyData.int), .int d.2]
theorem keyD_lay (d : List Int × Int) : (keyD d).canLay0 = true := by
  simp [keyD, PyData.canLay0, PyData.canLayAll0, ints_lay]
theorem keyD_depth (d : List Int × Int) : (keyD d).depth ≤ 3 := by
  have := ints_depth d.1
  simp only [keyD, PyData.depth, PyData.depthAll]
  omega
theorem keyDs_lay : ∀ ds : List (List Int × Int), PyData.canLayAll0 (ds.map keyD) = true
  | [] => by simp [PyData.canLayAll0]
  | d :: ds => by simp [PyData.canLayAll0, keyD_lay d, keyDs_lay ds]
theorem keyDs_depth : ∀ ds : List (List Int × Int), PyData.depthAll (ds.map keyD) ≤ 3
  | [] => by simp [PyData.depthAll]
  | d :: ds => by
    have h1 := keyDs_depth ds
    have h2 := keyD_depth d
    simp only [List.map_cons, PyData.depthAll]
    omega
theorem keyD_shaped (d : List Int × Int) : SeqAt.shaped (keyD d) = true := by
  have h := keyD_depth d
  show ((keyD d).canLay0 && decide ((keyD d).depth ≤ 64)) = true
  rw [Bool.and_eq_true]
  exact ⟨keyD_lay d, decide_eq_true (by omega)⟩
theorem keyDs_shaped (ds : List (List Int × Int)) : SeqAt.shaped (.list (ds.map keyD)) = true := by
  have h1 := keyDs_depth ds
  have h2 : PyData.depth (.list (ds.map keyD)) ≤ 64 := by
    simp only [PyData.depth]
    omega
  show (PyData.canLay0 (.list (ds.map keyD)) && decide (PyData.depth (.list (ds.map keyD)) ≤ 64)) = true
  rw [Bool.and_eq_true]
  exact ⟨by simp only [PyData.canLay0]; exact keyDs_lay ds, decide_eq_true h2⟩
theorem KeyAt.dp {K : PySem.W.Frag} {H : Hp} {kv : V} {d : List Int × Int} (h : KeyAt H kv d) : Dp K H kv (keyD d) := by
  obtain ⟨q, p, rfl, hq, hp⟩ := h
  exact .tup (SqT.of hq) (.cons (.tup (SqT.of hp) (dpAll_ints _)) (.cons (.int _) .nil))
theorem KeyAt.same {H H' : Hp} {kv : V} {d : List Int × Int} (h : KeyAt H kv d) (s : Same H H') : KeyAt H' kv d := by
  obtain ⟨q, p, e, hq, hp⟩ := h; exact ⟨q, p, e, s _ _ hq, s _ _ hp⟩
theorem KeyAt.sm {H H' : Hp} {r : Addr} {kv : V} {d : List Int × Int} (h : KeyAt H kv d) (hr : RowL H r) (s : Sm [r] H H') : KeyAt H' kv d := by
  obtain ⟨q, p, e, hq, hp⟩ := h; exact ⟨q, p, e, tup_sm hr s hq, tup_sm hr s hp⟩
theorem keys_dp {K : PySem.W.Frag} {H : Hp} : ∀ {vs : List V} {ds : List (List Int × Int)}, All2 (KeyAt H) vs ds → DpAll K H vs (ds.map keyD)
  | [], [], _ => .nil
  | [], _ :: _, h => by have := h.1; simp at this
  | _ :: _, [], h => by have := h.1; simp at this
  | v :: vs, d :: ds, h => .cons (h.2 0 v d rfl rfl).dp (keys_dp (vs := vs) (ds := ds) ⟨by simpa using h.1, fun i v' d' a b => h.2 (i + 1) v' d' (by simpa using a) (by simpa using b)⟩)
def KeysAt (H : Hp) (a : Addr) (ds : List (List Int × Int)) : Prop := ∃ vs, H a = some (.lst vs) ∧ All2 (KeyAt H) vs ds
/-- a call with its key -/
def CallK (H : Hp) (v : V) (c : Cll × (List Int × Int)) : Prop := ∃ a kv t, v = .ref a ∧ H a = some (.tup [kv, .str c.1.eff, .ref t]) ∧ H t = some (.tup (c.1.args.map V.int)) ∧ CllOk c.1 ∧ KeyAt H kv c.2
theorem CallK.sm {H H' : Hp} {r : Addr} {v : V} {c : Cll × (List Int × Int)} (h : CallK H v c) (hr : RowL H r) (s : Sm [r] H H') : CallK H' v c := by
  obtain ⟨a, kv, t, e, ha, ht, ok, hk⟩ := h
  exact ⟨a, kv, t, e, tup_sm hr s ha, tup_sm hr s ht, ok, hk.sm hr s⟩
theorem tup_smL {H H' : Hp} {r a : Addr} {xs l : List V} (hr : H r = some (.lst l)) (s : Sm [r] H H') (h : H a = some (.tup xs)) : H' a = some (.tup xs) := by
  have ne : a ≠ r := ne_of h hr (fun z => by cases z)
  exact s _ _ (fun m => ne (List.mem_singleton.mp m)) h
theorem KeyAt.smL {H H' : Hp} {r : Addr} {l : List V} {kv : V} {d : List Int × Int} (h : KeyAt H kv d) (hr : H r = some (.lst l)) (s : Sm [r] H H') : KeyAt H' kv d := by
  obtain ⟨q, p, e, hq, hp⟩ := h; exact ⟨q, p, e, tup_smL hr s hq, tup_smL hr s hp⟩
theorem CallK.smL {H H' : Hp} {r : Addr} {l : List V} {v : V} {c : Cll × (List Int × Int)} (h : CallK H v c) (hr : H r = some (.lst l)) (s : Sm [r] H H') : CallK H' v c := by
  obtain ⟨a, kv, t, e, ha, ht, ok, hk⟩ := h
  exact ⟨a, kv, t, e, tup_smL hr s ha, tup_smL hr s ht, ok, hk.smL hr s⟩
theorem CallK.same {H H' : Hp} {v : V} {c : Cll × (List Int × Int)} (h : CallK H v c) (s : Same H H') : CallK H' v c := by
  obtain ⟨a, kv, t, e, ha, ht, ok, hk⟩ := h
  exact ⟨a, kv, t, e, s _ _ ha, s _ _ ht, ok, hk.same s⟩
theorem CallK.call {H : Hp} {v : V} {c : Cll × (List Int × Int)} (h : CallK H v c) : CallAt H v c.1 := by
  obtain ⟨a, kv, t, e, ha, ht, ok, hk⟩ := h
  exact ⟨a, kv, t, e, ha, ht, ok⟩
theorem hu65_of {A : Around} {k : Nat} (hr : Room k A) : A.units + 65 < cLine := by have := hr.un; omega
theorem ne_tell_pay : V.str "pay" ≠ V.str "tell" := vs_ne (by decide +kernel)
theorem ne_ship_tell : V.str "ship" ≠ V.str "tell" := vs_ne (by decide +kernel)
theorem ne_ship_pay : V.str "ship" ≠ V.str "pay" := vs_ne (by decide +kernel)
theorem ok_tell : CllOk ⟨"tell", []⟩ := ⟨.inr (.inr rfl), rfl⟩
theorem ok_pay (x : Int) : CllOk ⟨"pay", [x]⟩ := ⟨.inl rfl, by show 1 = alen "pay"; decide +kernel⟩
theorem ok_ship (x y : Int) : CllOk ⟨"ship", [x, y]⟩ := ⟨.inr (.inl rfl), by show 2 = alen "ship"; decide +kernel⟩
theorem kne {a b : Str} (h : a ≠ b) : ¬ (Sum.inr a : Key) = Sum.inr b := fun e => h (Sum.inr.inj e)
theorem kps : ¬ (Sum.inr "pay" : Key) = (Sum.inr "ship" : Key) := kne (by decide +kernel)
theorem kpt : ¬ (Sum.inr "pay" : Key) = (Sum.inr "tell" : Key) := kne (by decide +kernel)
theorem kst : ¬ (Sum.inr "ship" : Key) = (Sum.inr "tell" : Key) := kne (by decide +kernel)
theorem merge3 (a b c : V) : mergeK ([] : List (Key × V)) ([(Sum.inr "pay", a), (Sum.inr "ship", b), (Sum.inr "tell", c)] : List (Key × V)) = ([(Sum.inr "pay", a), (Sum.inr "ship", b), (Sum.inr "tell", c)] : List (Key × V)) := by
  show putK (putK (putK ([] : List (Key × V)) (Sum.inr "pay" : Key) a) (Sum.inr "ship" : Key) b) (Sum.inr "tell" : Key) c = _
  have e1 : putK ([] : List (Key × V)) (Sum.inr "pay" : Key) a = ([(Sum.inr "pay", a)] : List (Key × V)) := putK_new a valV_nil
  have e2 : putK ([(Sum.inr "pay", a)] : List (Key × V)) (Sum.inr "ship" : Key) b = ([(Sum.inr "pay", a), (Sum.inr "ship", b)] : List (Key × V)) := putK_new b ((valV_neg kps).trans valV_nil)
  have e3 : putK ([(Sum.inr "pay", a), (Sum.inr "ship", b)] : List (Key × V)) (Sum.inr "tell" : Key) c = ([(Sum.inr "pay", a), (Sum.inr "ship", b), (Sum.inr "tell", c)] : List (Key × V)) := putK_new c ((valV_neg kpt).trans ((valV_neg kst).trans valV_nil))
  rw [e1, e2, e3]
section
variable {P : Program} {w : World} {K : PySem.W.Frag} {mg : Str → Option Value} {base : Heap}
/-! ### _law_call -/
def nCall : List Str := ["_law_row", "_law_keys", "_law_key", "_law_effect"]
theorem scCall : FnScope nCall ["_law_row", "_law_keys"] (defScope (top 28)) := ⟨rfl, rfl, rfl, by decide +kernel, rfl, by decide +kernel, by decide +kernel⟩
def spCall : Sp := fun vs H Q _ => ∃ (r kl : Addr) (ds : List (List Int × Int)), vs = [.ref r, .ref kl] ∧ RowL H r ∧ kl ≠ r ∧ KeysAt H kl ds ∧ ds.length ≤ 8 ∧ ∀ H' v c, Sm [r] H H' → RowL H' r → CallK H' v c → Q v H'
theorem ok_call (B : Bl mg) (Ct : Cal P w K mg base 1 "_law_take" spTake) (D : DefAt K mg "_law_call" (top 28)) : Cal P w K mg base 2 "_law_call" spCall := by
  refine cal_of D scCall (fun _ _ _ _ _ _ us hl => match us, hl with | [_, _], _ => rfl) (fun vs H Q E h => by obtain ⟨r, kl, ds, rfl, _⟩ := h; rfl) fun f cdv A outer s H vs Q E hr h => ?_
  obtain ⟨r, kl, ds, rfl, hrow, nkr, ⟨kvs, hkl, hks⟩, ld, k⟩ := h
  have nd := scCall.nd
  refine ⟨_, pss_cons (ps_set (i := 2) nd rfl (Or.inl rfl) (pe_tup (pa_cons (pe_tup pa_nil) (pa_cons (pe_c Ct hr (by decide) rfl (pa_cons (pv 0) (pa_cons pe_int pa_nil))) pa_nil))))
    (Evl.pss_cut (ps_if (pt_cmpR op_eq (pe_c Ct hr (by decide) rfl (pa_cons (pv 0) (pa_cons pe_int pa_nil))) pe_int (nomark _))
      (pss_one (ps_set (i := 2) nd rfl (Or.inl rfl) (pe_tup (pa_cons (pe_tup (pa_cons (pe_c Ct hr (by decide) rfl (pa_cons (pv 0) (pa_cons pe_int pa_nil))) pa_nil)) (pa_cons (pe_c Ct hr (by decide) rfl (pa_cons (pv 0) (pa_cons pe_int pa_nil))) pa_nil))))) pss_nil)
    (Evl.pss_cut (ps_if (pt_cmpR (op_inD (hu65_of hr)) (pv 2) (pv 1) (by rfl))
      (pss_one (ps_set (i := 2) nd rfl (Or.inl rfl) (pe_tup (pa_cons (pe_tup (pa_cons pe_int (pa_cons (pe_callB call_len_seq rfl B.len PySem.boot_len (pa_cons (pv 1) pa_nil)) pa_nil))) (pa_cons (pe_op op_add pe_int (pe_callB call_len_seq rfl B.len PySem.boot_len (pa_cons (pv 1) pa_nil))) pa_nil))))) pss_nil)
    (pss_cons (ps_set (i := 3) nd rfl (Or.inl rfl) (pe_ix ix_list (pe_lst (pa_cons pe_str (pa_cons pe_str (pa_cons pe_str pa_nil)))) (pe_c Ct hr (by decide) rfl (pa_cons (pv 0) (pa_cons pe_int pa_nil))) (fun _ _ => rfl)))
    (pss_cons (ps_if (pt_cmpR op_eq (pv 3) pe_str (nomark _)) (pss_one (ps_ret (pe_tup (pa_cons (pv 2) (pa_cons (pv 3) (pa_cons (pe_tup pa_nil) pa_nil)))))) pss_nil)
    (pss_cons (ps_if (pt_cmpR op_eq (pv 3) pe_str (nomark _)) (pss_one (ps_ret (pe_tup (pa_cons (pv 2) (pa_cons (pv 3) (pa_cons (pe_tup (pa_cons (pe_op op_sub (pe_c Ct hr (by decide) rfl (pa_cons (pv 0) (pa_cons pe_int pa_nil))) pe_int) pa_nil)) pa_nil)))))) pss_nil)
    (pss_one (ps_ret (pe_tup (pa_cons (pv 2) (pa_cons (pv 3) (pa_cons (pe_tup (pa_cons (pe_c Ct hr (by decide) rfl (pa_cons (pv 0) (pa_cons pe_int pa_nil))) (pa_cons (pe_c Ct hr (by decide) rfl (pa_cons (pv 0) (pa_cons pe_int pa_nil))) pa_nil))) pa_nil))))))))))), ?_⟩
  have klS : ∀ H', Sm [r] H H' → H' kl = some (.lst kvs) := fun H' sm => lst_sm nkr sm hkl
  have ksS : ∀ H', Sm [r] H H' → All2 (KeyAt H') kvs ds := fun H' sm => hks.mono fun v c x => x.sm hrow sm
  have nr : ∀ (H' : Hp) (x : Addr), RowL H' r → H' x = none → x ≠ r := fun H' x ⟨zs, e⟩ hx q => by rw [q, e] at hx; cases hx
  -- the key
  refine ⟨Nat.zero_le _, fun p0 hp0 => ⟨_, rfl, r, 9, rfl, by decide, hrow.same (same_new hp0), fun z H1 sm1 row1 _ _ => ⟨by show 2 ≤ sizeLine; decide, fun q0 hq0 => ?_⟩⟩⟩
  have smA : Sm [r] H (upd H1 q0 (.tup [.ref p0, .int z])) := ((Sm.new hp0).trans sm1).trans (Sm.new hq0)
  have keyA : KeyAt (upd H1 q0 (.tup [.ref p0, .int z])) (.ref q0) ([], z) := ⟨q0, p0, rfl, upd_same, same_new hq0 _ _ (tup_sm (hrow.same (same_new hp0)) sm1 upd_same)⟩
  refine ⟨fun σ H' => Sm [r] H H' ∧ RowL H' r ∧ ∃ kv d v3, σ = [some (.ref r), some (.ref kl), some kv, v3] ∧ KeyAt H' kv d, ?_, ?_⟩
  · refine ⟨_, rfl, r, 3, rfl, by decide, row1.same (same_new hq0), fun z1 H2 sm2 row2 _ _ => ⟨rfl, _, rfl, ?_⟩⟩
    refine ite2 (fun _ => ?_) (fun _ => ?_)
    · refine ⟨_, rfl, r, 2, rfl, by decide, row2, fun z2 H3 sm3 row3 _ _ => ⟨by show 1 ≤ sizeLine; decide, fun p1 hp1 => ?_⟩⟩
      refine ⟨_, rfl, r, 4, rfl, by decide, row3.same (same_new hp1), fun z3 H4 sm4 row4 _ _ => ⟨by show 2 ≤ sizeLine; decide, fun q1 hq1 => ?_⟩⟩
      refine ⟨(((smA.trans sm2).trans sm3).trans (Sm.new hp1)).trans (sm4.trans (Sm.new hq1)), row4.same (same_new hq1), .ref q1, ([z2], z3), _, rfl, q1, p1, rfl, upd_same, same_new hq1 _ _ (tup_sm (row3.same (same_new hp1)) sm4 upd_same)⟩
    · exact ⟨smA.trans sm2, row2, .ref q0, _, _, rfl, keyA.sm (row1.same (same_new hq0)) sm2⟩
  rintro σ H2 ⟨smB, row2, kv, d, v3, rfl, hkv⟩
  refine ⟨fun σ H' => Sm [r] H H' ∧ RowL H' r ∧ ∃ kv d v3, σ = [some (.ref r), some (.ref kl), some kv, v3] ∧ KeyAt H' kv d, ?_, ?_⟩
  · refine ⟨_, rfl, _, rfl, keyD d, ds.map keyD, hkv.dp, .lst (SqL.of (klS _ smB)) (keys_dp (ksS _ smB)), keyD_shaped d, keyDs_shaped ds, _, rfl, ?_⟩
    refine ite2 (fun _ => ?_) (fun _ => ?_)
    · refine ⟨_, rfl, kl, _, rfl, .inl (SqL.of (klS _ smB)), by show 2 ≤ sizeLine; decide, fun p1 hp1 => ?_⟩
      have klp := same_new hp1 (o := .tup [.int 1, .int (kvs.length : Nat)]) _ _ (klS _ smB)
      refine ⟨_, rfl, kl, _, rfl, .inl (SqL.of klp), _, _, rfl, rfl, by show 2 ≤ sizeLine; decide, fun q1 hq1 => ?_⟩
      exact ⟨smB.trans ((Sm.new hp1).trans (Sm.new hq1)), row2.same ((same_new hp1).trans (same_new hq1)), .ref q1, ([1, (kvs.length : Nat)], 50 + (kvs.length : Nat)), _, rfl, q1, p1, rfl, upd_same, same_new hq1 _ _ upd_same⟩
    · exact ⟨smB, row2, kv, d, _, rfl, hkv⟩
  rintro σ H3 ⟨smC, row3, kv, d, v3, rfl, hkv⟩
  -- the effect
  refine ⟨by show 3 ≤ sizeLine; decide, fun le hle => ⟨_, rfl, r, 3, rfl, by decide, row3.same (same_new hle), fun z H4 sm4 row4 h0 h1 => ?_⟩⟩
  have smD : Sm [r] H H4 := (smC.trans (Sm.new hle)).trans sm4
  have hle4 := lst_sm (nr _ _ row3 hle) sm4 (upd_same (H := H3) (a := le) (o := .lst [.str "pay", .str "ship", .str "tell"]))
  have hkv4 : KeyAt H4 kv d := (hkv.same (same_new hle)).sm (row3.same (same_new hle)) sm4
  have hz : z = 0 ∨ z = 1 ∨ z = 2 := by omega
  rcases hz with rfl | rfl | rfl
  · refine ⟨le, _, 0, .str "pay", rfl, rfl, SqL.of hle4, rfl, ?_⟩
    refine ⟨_, rfl, rfl, _, rfl, iteNe ne_tell_pay ?_⟩
    refine ⟨_, rfl, rfl, _, rfl, iteEq rfl ?_⟩
    refine ⟨_, rfl, _, rfl, _, rfl, r, 9, rfl, by decide, row4, fun x H5 sm5 row5 _ _ => ⟨_, _, rfl, rfl, by show 1 ≤ sizeLine; decide, fun t ht => ⟨by show 3 ≤ sizeLine; decide, fun a ha => ?_⟩⟩⟩
    refine k _ _ (⟨"pay", [x - 2]⟩, d) (smD.trans (sm5.trans ((Sm.new ht).trans (Sm.new ha)))) (row5.same ((same_new ht).trans (same_new ha))) ⟨a, kv, t, rfl, upd_same, same_new ha _ _ upd_same, ok_pay _, ((hkv4.sm row4 sm5).same (same_new ht)).same (same_new ha)⟩
  · refine ⟨le, _, 1, .str "ship", rfl, rfl, SqL.of hle4, rfl, ?_⟩
    refine ⟨_, rfl, rfl, _, rfl, iteNe ne_ship_tell ?_⟩
    refine ⟨_, rfl, rfl, _, rfl, iteNe ne_ship_pay ?_⟩
    refine ⟨_, rfl, _, rfl, _, rfl, r, 4, rfl, by decide, row4, fun x H5 sm5 row5 _ _ => ⟨_, rfl, r, 6, rfl, by decide, row5, fun y H6 sm6 row6 _ _ => ⟨by show 2 ≤ sizeLine; decide, fun t ht => ⟨by show 3 ≤ sizeLine; decide, fun a ha => ?_⟩⟩⟩⟩
    refine k _ _ (⟨"ship", [x, y]⟩, d) (smD.trans (sm5.trans (sm6.trans ((Sm.new ht).trans (Sm.new ha))))) (row6.same ((same_new ht).trans (same_new ha))) ⟨a, kv, t, rfl, upd_same, same_new ha _ _ upd_same, ok_ship _ _, (((hkv4.sm row4 sm5).sm row5 sm6).same (same_new ht)).same (same_new ha)⟩
  · refine ⟨le, _, 2, .str "tell", rfl, rfl, SqL.of hle4, rfl, ?_⟩
    refine ⟨_, rfl, rfl, _, rfl, iteEq rfl ?_⟩
    refine ⟨_, rfl, _, rfl, Nat.zero_le _, fun t ht => ⟨by show 3 ≤ sizeLine; decide, fun a ha => ?_⟩⟩
    refine k _ _ (⟨"tell", []⟩, d) (smD.trans ((Sm.new ht).trans (Sm.new ha))) (row4.same ((same_new ht).trans (same_new ha))) ⟨a, kv, t, rfl, upd_same, same_new ha _ _ upd_same, ok_tell, (hkv4.same (same_new ht)).same (same_new ha)⟩
/-! ### _law_calls -/
def nCalls : List Str := ["_law_row", "_law_most", "_law_calls_here", "_law_k", "_law_call_here"]
theorem scCalls : FnScope nCalls ["_law_row", "_law_most"] (defScope (top 29)) := ⟨rfl, rfl, rfl, by decide +kernel, rfl, by decide +kernel, by decide +kernel⟩
def spCalls : Sp := fun vs H Q _ => ∃ r : Addr, vs = [.ref r, .int 4] ∧ RowL H r ∧ ∀ H' a cs, Sm [r] H H' → RowL H' r → a ≠ r → CallsAt H' a cs → cs.length ≤ 4 → Q (.ref a) H'
theorem ok_calls (B : Bl mg) (Ct : Cal P w K mg base 1 "_law_take" spTake) (Cc : Cal P w K mg base 2 "_law_call" spCall) (D : DefAt K mg "_law_calls" (top 29)) : Cal P w K mg base 3 "_law_calls" spCalls := by
  refine cal_of D scCalls (fun _ _ _ _ _ _ us hl => match us, hl with | [_, _], _ => rfl) (fun vs H Q E h => by obtain ⟨r, rfl, _⟩ := h; rfl) fun f cdv A outer s H vs Q E hr h => ?_
  obtain ⟨r, rfl, hrow, k⟩ := h
  have nd := scCalls.nd
  refine ⟨_, pss_cons (ps_set (i := 2) nd rfl (Or.inl rfl) (pe_lst pa_nil))
    (pss_cons (ps_for PassesOwn.never rfl (pi_range1 rfl B.range (pa_cons (pe_c Ct hr (by decide) rfl (pa_cons (pv 0) (pa_cons (pe_op op_add (pv 1) pe_int) pa_nil))) pa_nil)) (pg_name (i := 3) nd rfl (Or.inl rfl))
      (pss_one (ps_expr (pe_bm PySem.F.plainAttrs_list PySem.F.slot_list_append PySem.F.type_list_append mt_append (pv 2) (pa_cons (pe_c Cc hr (by decide) rfl (pa_cons (pv 0) (pa_cons
        (pe_lc (own := [("_law_call_here", 4)]) (g := gName 4) (tt := tYes) (te := tOp (rIxT K) (tVar 4) (tC (.int 0))) rfl nd (pi_list (pv 2)) (blkOk_by (own := [("_law_call_here", 4)]) (N := nCalls) (sc := defScope (top 29)) (by decide +kernel))
          (fun _ _ _ _ _ => pg_name (i := 4) nd rfl (Or.inl rfl)) (fun _ _ _ _ _ => pts_nil) (fun _ _ _ _ _ => pe_ix ix_tup (pv 4) pe_int (fun _ _ => rfl))) pa_nil))) pa_nil)))))
    (pss_one (ps_ret (pv 2)))), ?_⟩
  refine ⟨Nat.zero_le _, fun D hD => ?_⟩
  have nDr : D ≠ r := fun e => by obtain ⟨zs, q⟩ := hrow; rw [e, q] at hD; cases hD
  refine ⟨_, rfl, _, rfl, _, _, rfl, rfl, r, 5, rfl, by decide, hrow.same (same_new hD), fun z H1 sm1 row1 h0 h1 => ⟨_, rfl, by omega, by omega, ?_⟩⟩
  have hD1 := lst_sm nDr sm1 (upd_same (H := H) (a := D) (o := .lst []))
  refine for_range (lo := 0) (n := z.toNat) (fun i σ H' => Sm [r] H H' ∧ RowL H' r ∧ ∃ (ys : List V) (cs : List (Cll × (List Int × Int))) (v3 v4 : Option V), H' D = some (.lst ys) ∧ All2 (CallK H') ys cs ∧ cs.length = i ∧ σ = [some (.ref r), some (.int 4), some (.ref D), v3, v4])
    ⟨(Sm.new hD).trans sm1, row1, [], [], none, none, hD1, All2.nil, rfl, rfl⟩ ?_ ?_
  · rintro i σ H' hi ⟨sm, row, ys, cs, v3, v4, hy, ay, lcs, rfl⟩
    have li : i < 4 := by omega
    refine ⟨_, rfl, .inl ⟨rfl, _, SqL.of hy⟩, _, rfl, _, rfl, D, rfl, ⟨_, SqL.of hy⟩, fun E1 hE => ?_⟩
    have nEr : E1 ≠ r := fun e => by obtain ⟨zs, q⟩ := row; rw [e, q] at hE; cases hE
    refine lc_map walk_list hE (fun i v H => ∃ d, (cs.map (·.2))[i]? = some d ∧ KeyAt H v d) (by rw [ay.1]; omega) (fun Hx s => SqL.of (s _ _ hy)) ?_ ?_ ?_
    · rintro i y Ha Hb _ ⟨l, hl⟩ ⟨d, hd, q, p, e, hq, hp⟩ s
      have n1 : q ≠ E1 := ne_of hq hl (fun z => by cases z)
      have n2 : p ≠ E1 := ne_of hp hl (fun z => by cases z)
      exact ⟨d, hd, q, p, e, s _ _ (fun m => n1 (List.mem_singleton.mp m)) hq, s _ _ (fun m => n2 (List.mem_singleton.mp m)) hp⟩
    · rintro j x _ Hx Qe hj s hl ⟨rfl, g1⟩ kq
      obtain ⟨c, hc, a, kv, t, rfl, ha, ht, ok, hk⟩ := ay.of g1
      exact ⟨rfl, _, rfl, a, _, 0, _, rfl, rfl, SqT.of (s _ _ ha), rfl, kq _ _ (Same.refl _) ⟨c.2, at_map hc, hk.same s⟩⟩
    · intro Hx ks s hks hlen hR
      refine ⟨r, E1, cs.map (·.2), rfl, row.same s, nEr, ⟨ks, hks, by rw [hlen, ay.1, List.length_map], fun j v d hv hd => ?_⟩, by rw [List.length_map]; omega, fun H5 v c sm5 row5 hc => ?_⟩
      · obtain ⟨d', hd', q⟩ := hR j v hv
        rw [hd] at hd'
        cases hd'
        exact q
      · have hy5 := lst_sm nDr sm5 (s _ _ hy)
        refine ⟨D, _, _, rfl, rfl, hy5, szl (by rw [ay.1]; omega), ?_⟩
        have pt := (Sm.refl [D] H5).put (List.mem_singleton.mpr rfl) (o := .lst (ys ++ [v]))
        have row6 : RowL (upd H5 D (.lst (ys ++ [v]))) r := by
          obtain ⟨zs, q⟩ := row5
          exact ⟨zs, (upd_ne nDr.symm).trans q⟩
        have smX : Sm [r] H (upd H5 D (.lst (ys ++ [v]))) := ((sm.trans (s.sm [r])).trans sm5).mut hD
        refine ⟨smX, row6, ys ++ [v], cs ++ [c], _, _, upd_same, ?_, by rw [List.length_append, lcs]; rfl, rfl⟩
        exact All2.snoc (ay.mono fun v c x => ((x.same s).sm (row.same s) sm5).smL hy5 pt) (hc.smL hy5 pt)
  · rintro σ H' ⟨sm, row, ys, cs, v3, v4, hy, ay, lcs, rfl⟩
    refine ⟨_, rfl, k H' D (cs.map (·.1)) sm row nDr ⟨ys, hy, by rw [ay.1, List.length_map], fun j v c hv hc => ?_⟩ (by rw [List.length_map]; omega)⟩
    obtain ⟨c', hc', e⟩ := map_at hc
    rw [e]
    exact (ay.2 j v c' hv hc').call
/-! ### _law_price, _law_prices -/
theorem scPrice : FnScope ["_law_row", "_law_change_here"] ["_law_row"] (defScope (top 30)) := ⟨rfl, rfl, rfl, by decide +kernel, rfl, by decide +kernel, by decide +kernel⟩
def spPrice : Sp := fun vs H Q _ => ∃ r : Addr, vs = [.ref r] ∧ RowL H r ∧ ∀ H' v p, Sm [r] H H' → RowL H' r → PriceAt H' v p → PriceOk p → Q v H'
theorem PriceAt.sm {H H' : Hp} {r : Addr} {v : V} {p : Price} (h : PriceAt H v p) (hr : RowL H r) (s : Sm [r] H H') : PriceAt H' v p := by
  obtain ⟨a, cv, e, q, c⟩ := h
  refine ⟨a, cv, e, tup_sm hr s q, ?_⟩
  cases hc : p.chg with
  | none => rw [hc] at c; exact c
  | some be =>
    rw [hc] at c
    obtain ⟨b, e2, q2⟩ := c
    exact ⟨b, e2, tup_sm hr s q2⟩
theorem ok_price (Ct : Cal P w K mg base 1 "_law_take" spTake) (D : DefAt K mg "_law_price" (top 30)) : Cal P w K mg base 2 "_law_price" spPrice := by
  refine cal_of D scPrice (fun _ _ _ _ _ _ us hl => match us, hl with | [_], _ => rfl) (fun vs H Q E h => by obtain ⟨r, rfl, _⟩ := h; rfl) fun f cdv A outer s H vs Q E hr h => ?_
  obtain ⟨r, rfl, hrow, k⟩ := h
  have nd := scPrice.nd
  refine ⟨_, pss_cons (ps_set (i := 1) nd rfl (Or.inl rfl) pe_non)
    (Evl.pss_cut (ps_if (pt_cmpR op_gt (pe_c Ct hr (by decide) rfl (pa_cons (pv 0) (pa_cons pe_int pa_nil))) pe_int (nomark _))
      (pss_one (ps_set (i := 1) nd rfl (Or.inl rfl) (pe_tup (pa_cons (pe_c Ct hr (by decide) rfl (pa_cons (pv 0) (pa_cons pe_int pa_nil))) (pa_cons (pe_c Ct hr (by decide) rfl (pa_cons (pv 0) (pa_cons pe_int pa_nil))) pa_nil))))) pss_nil)
    (pss_one (ps_ret (pe_tup (pa_cons (pe_c Ct hr (by decide) rfl (pa_cons (pv 0) (pa_cons pe_int pa_nil))) (pa_cons (pe_c Ct hr (by decide) rfl (pa_cons (pv 0) (pa_cons pe_int pa_nil))) (pa_cons (pv 1) pa_nil))))))), ?_⟩
  refine ⟨fun σ H' => Sm [r] H H' ∧ RowL H' r ∧ ∃ (cv : V) (ch : Option (Int × Int)), σ = [some (.ref r), some cv] ∧ ChgAt H' cv ch ∧ ∀ b e, ch = some (b, e) → 0 ≤ b ∧ b ≤ 1000000 ∧ 0 ≤ e ∧ e ≤ 1000000, ?_, ?_⟩
  · refine ⟨_, rfl, r, 4, rfl, by decide, hrow, fun z H1 sm1 row1 _ _ => ⟨_, _, rfl, rfl, _, rfl, ?_⟩⟩
    refine ite2 (fun _ => ?_) (fun _ => ?_)
    · refine ⟨_, rfl, r, 4, rfl, by decide, row1, fun z1 H2 sm2 row2 a0 a1 => ⟨_, rfl, r, 3, rfl, by decide, row2, fun z2 H3 sm3 row3 b0 b1 => ⟨by show 2 ≤ sizeLine; decide, fun t ht => ?_⟩⟩⟩
      refine ⟨((sm1.trans sm2).trans sm3).trans (Sm.new ht), row3.same (same_new ht), .ref t, some (z1, z2), rfl, ⟨t, rfl, upd_same⟩, fun b e h => ?_⟩
      cases h
      omega
    · exact ⟨sm1, row1, .non, none, rfl, rfl, fun b e h => (by cases h)⟩
  rintro σ H1 ⟨sm1, row1, cv, ch, rfl, hcv, hok⟩
  refine ⟨_, rfl, r, 9, rfl, by decide, row1, fun z1 H2 sm2 row2 a0 a1 => ⟨_, rfl, r, 9, rfl, by decide, row2, fun z2 H3 sm3 row3 b0 b1 => ⟨_, rfl, by show 3 ≤ sizeLine; decide, fun t ht => ?_⟩⟩⟩
  refine k _ _ ⟨z1, z2, ch⟩ (((sm1.trans sm2).trans sm3).trans (Sm.new ht)) (row3.same (same_new ht)) ⟨t, cv, rfl, upd_same, ?_⟩ ⟨a0, by show z1 ≤ 1000000; omega, b0, by show z2 ≤ 1000000; omega, hok⟩
  show ChgAt _ cv ch
  cases ch with
  | none => exact hcv
  | some be =>
    obtain ⟨b, e2, q2⟩ := hcv
    exact ⟨b, e2, same_new ht _ _ (tup_sm row2 sm3 (tup_sm row1 sm2 q2))⟩
theorem scPrices : FnScope ["_law_row"] ["_law_row"] (defScope (top 31)) := ⟨rfl, rfl, rfl, by decide +kernel, rfl, by decide +kernel, by decide +kernel⟩
def spPrices : Sp := fun vs H Q _ => ∃ r : Addr, vs = [.ref r] ∧ RowL H r ∧ ∀ H' d pr, Sm [r] H H' → RowL H' r → EffsAt H' d pr → Q (.ref d) H'
theorem ok_prices (Cp : Cal P w K mg base 2 "_law_price" spPrice) (D : DefAt K mg "_law_prices" (top 31)) : Cal P w K mg base 3 "_law_prices" spPrices := by
  refine cal_of D scPrices (fun _ _ _ _ _ _ us hl => match us, hl with | [_], _ => rfl) (fun vs H Q E h => by obtain ⟨r, rfl, _⟩ := h; rfl) fun f cdv A outer s H vs Q E hr h => ?_
  obtain ⟨r, rfl, hrow, k⟩ := h
  refine ⟨_, pss_one (ps_ret (pe_disp (pps_cons pe_str (pe_c Cp hr (by decide) rfl (pa_cons (pv 0) pa_nil)) (pps_cons pe_str (pe_c Cp hr (by decide) rfl (pa_cons (pv 0) pa_nil)) (pps_cons pe_str (pe_c Cp hr (by decide) rfl (pa_cons (pv 0) pa_nil)) pps_nil))) (by rfl) (by rfl) (fun z => by cases z) (by decide))), ?_⟩
  intro d hd
  have ndr : d ≠ r := fun e => by obtain ⟨zs, q⟩ := hrow; rw [e, q] at hd; cases hd
  refine ⟨_, rfl, r, rfl, hrow.same (same_new hd), fun H1 v1 p1 sm1 row1 pa1 ok1 => ?_⟩
  refine ⟨_, rfl, r, rfl, row1, fun H2 v2 p2 sm2 row2 pa2 ok2 => ?_⟩
  refine ⟨_, rfl, r, rfl, row2, fun H3 v3 p3 sm3 row3 pa3 ok3 => ?_⟩
  have hd3 := lst_sm ndr ((sm1.trans sm2).trans sm3) (upd_same (H := H) (a := d) (o := .dK []))
  refine ⟨hd3, [(Sum.inr "pay", v1), (Sum.inr "ship", v2), (Sum.inr "tell", v3)], rfl, by show 3 ≤ 15; decide, ?_⟩
  have pv1 := (pa1.sm row1 sm2).sm row2 sm3
  have pv2 := pa2.sm row2 sm3
  rw [merge3]
  have put : ∀ (v : V) (p : Price), PriceAt H3 v p → PriceAt (upd H3 d (.dK [(Sum.inr "pay", v1), (Sum.inr "ship", v2), (Sum.inr "tell", v3)])) v p := fun v p ⟨a, cv, e, q, c⟩ => by
    have na : a ≠ d := ne_of q hd3 (fun z => by cases z)
    refine ⟨a, cv, e, (upd_ne na).trans q, ?_⟩
    cases hc : p.chg with
    | none => rw [hc] at c; exact c
    | some be =>
      rw [hc] at c
      obtain ⟨b, e2, q2⟩ := c
      have nb : b ≠ d := ne_of q2 hd3 (fun z => by cases z)
      exact ⟨b, e2, (upd_ne nb).trans q2⟩
  refine k _ d (fun e => if e = "pay" then p1 else if e = "ship" then p2 else p3) ((((Sm.new hd).trans sm1).trans sm2).trans sm3 |>.mut hd) ?_ ⟨_, upd_same, rfl, fun e he => ?_⟩
  · obtain ⟨zs, q⟩ := row3
    exact ⟨zs, (upd_ne ndr.symm).trans q⟩
  · rcases he with rfl | rfl | rfl
    · refine ⟨v1, valV_pos rfl, ?_, ?_⟩
      · show PriceAt _ v1 (if ("pay" : Str) = "pay" then p1 else _)
        rw [if_pos rfl]; exact put _ _ pv1
      · show PriceOk (if ("pay" : Str) = "pay" then p1 else _)
        rw [if_pos rfl]; exact ok1
    · refine ⟨v2, (valV_neg kps).trans (valV_pos rfl), ?_, ?_⟩
      · show PriceAt _ v2 (if ("ship" : Str) = "pay" then p1 else if ("ship" : Str) = "ship" then p2 else p3)
        rw [if_neg (by decide +kernel), if_pos rfl]; exact put _ _ pv2
      · show PriceOk (if ("ship" : Str) = "pay" then p1 else if ("ship" : Str) = "ship" then p2 else p3)
        rw [if_neg (by decide +kernel), if_pos rfl]; exact ok2
    · refine ⟨v3, (valV_neg kpt).trans ((valV_neg kst).trans (valV_pos rfl)), ?_, ?_⟩
      · show PriceAt _ v3 (if ("tell" : Str) = "pay" then p1 else if ("tell" : Str) = "ship" then p2 else p3)
        rw [if_neg (by decide +kernel), if_neg (by decide +kernel)]; exact put _ _ pa3
      · show PriceOk (if ("tell" : Str) = "pay" then p1 else if ("tell" : Str) = "ship" then p2 else p3)
        rw [if_neg (by decide +kernel), if_neg (by decide +kernel)]; exact ok3
end
end K33
namespace K33
open PySem PySem.Spec PyProof.Rows L2
theorem dist_snoc {xs ys : List Int} {a b : Int} (h : xs.length = ys.length) : dist (xs ++ [a]) (ys ++ [b]) = dist xs ys + iabs (a - b) := by
  unfold dist
  rw [List.zipWith_append h, List.sum_append]
  simp
theorem take_at {α : Type} {l : List α} {i : Nat} {x : α} (h : l[i]? = some x) : l.take (i + 1) = l.take i ++ [x] := by
  have hi := (List.getElem?_eq_some_iff.mp h).1
  rw [List.take_succ_eq_append_getElem hi, (List.getElem?_eq_some_iff.mp h).2]
section
variable {P : Program} {w : World} {K : PySem.W.Frag} {mg : Str → Option Value} {base : Heap}
/-! ### _law_change -/
def nLChange : List Str := ["_law_prices_here", "_law_first", "_law_second", "_law_base", "_law_total", "_law_k"]
theorem scLChange : FnScope nLChange ["_law_prices_here", "_law_first", "_law_second"] (defScope (top 32)) := ⟨rfl, rfl, rfl, by decide +kernel, rfl, by decide +kernel, by decide +kernel⟩
def spLChange : Sp := fun vs H Q _ => ∃ (d : Addr) (v v2 : V) (pr : Str → Price) (c c2 : Cll), vs = [.ref d, v, v2] ∧ EffsAt H d pr ∧ CallAt H v c ∧ CallAt H v2 c2 ∧ Q (optV (chgC pr c c2)) H
theorem ok_lchange (B : Bl mg) (D : DefAt K mg "_law_change" (top 32)) : Cal P w K mg base 1 "_law_change" spLChange := by
  refine cal_of D scLChange (fun _ _ _ _ _ _ us hl => match us, hl with | [_, _, _], _ => rfl) (fun vs H Q E h => by obtain ⟨d, v, v2, pr, c, c2, rfl, _⟩ := h; rfl) fun f cdv A outer s H vs Q E hr h => ?_
  obtain ⟨d, v, v2, pr, c, c2, rfl, he, hc, hc2, q⟩ := h
  have nd := scLChange.nd
  have hu' := hu_of hr
  refine ⟨_, pss_cons (ps_set (i := 3) nd rfl (Or.inl rfl) (pe_ix ix_tup (pe_dget hu' (pv 0) (pe_ix ix_tup (pv 1) pe_int (fun _ _ => rfl)) (fun _ _ => rfl)) pe_int (fun _ _ => rfl)))
    (pss_cons (ps_if (PW.pt (pw_or (pt_cmpR op_ne (pe_ix ix_tup (pv 1) pe_int (fun _ _ => rfl)) (pe_ix ix_tup (pv 2) pe_int (fun _ _ => rfl)) (nomark _)) (pw_or1 (pt_cmpR op_isN (pv 3) pe_non (nomark _))))) (pss_one (ps_ret pe_non)) pss_nil)
    (pss_cons (ps_set (i := 4) nd rfl (Or.inl rfl) (pe_ix ix_tup (pv 3) pe_int (fun _ _ => rfl)))
    (pss_cons (ps_for PassesOwn.never rfl (pi_range1 rfl B.range (pa_cons (pe_callB call_len_seq rfl B.len PySem.boot_len (pa_cons (pe_ix ix_tup (pv 1) pe_int (fun _ _ => rfl)) pa_nil)) pa_nil)) (pg_name (i := 5) nd rfl (Or.inl rfl))
      (pss_one (ps_set (i := 4) nd rfl (Or.inl rfl) (pe_op op_add (pv 4) (pe_op op_mul (pe_ix ix_tup (pv 3) pe_int (fun _ _ => rfl))
        (pe_callB call_abs rfl B.abs boot_abs (pa_cons (pe_op op_sub (pe_ix ix_tup (pe_ix ix_tup (pv 1) pe_int (fun _ _ => rfl)) (pv 5) (fun _ _ => rfl)) (pe_ix ix_tup (pe_ix ix_tup (pv 2) pe_int (fun _ _ => rfl)) (pv 5) (fun _ _ => rfl))) pa_nil)))))))
    (pss_one (ps_ret (pv 4)))))), ?_⟩
  obtain ⟨b, kv, t, rfl, hb, ht, ok⟩ := hc
  obtain ⟨b2, kv2, t2, rfl, hb2, ht2, ok2⟩ := hc2
  have pok := he.ok ok.eff
  obtain ⟨kvs, hd, hk, hf⟩ := id he
  obtain ⟨u, hu, ⟨a, cv, rfl, ha, hcv⟩, _⟩ := hf c.eff ok.eff
  have gd : DGet H d (.str c.eff) (some (.ref a)) := by rw [← hu]; exact DGet.k (k := Sum.inr c.eff) hd
  refine ⟨_, rfl, _, rfl, b, _, 1, _, rfl, rfl, SqT.of hb, rfl, d, _, rfl, gd, a, _, 2, _, rfl, rfl, SqT.of ha, rfl, ?_⟩
  refine ⟨_, rfl, b, _, 1, _, rfl, rfl, SqT.of hb, rfl, _, rfl, b2, _, 1, _, rfl, rfl, SqT.of hb2, rfl, rfl, _, rfl, ?_⟩
  by_cases ee : c.eff = c2.eff
  · have e1 : (!decide (V.str c.eff = V.str c2.eff)) = false := by rw [ee]; simp
    rw [e1]
    refine iteF ?_
    cases hch : (pr c.eff).chg with
    | none =>
      rw [hch] at hcv
      have hcv' : cv = .non := hcv
      subst hcv'
      refine ⟨_, rfl, rfl, _, rfl, ?_⟩
      refine iteT ?_
      unfold chgC at q
      rw [if_pos ee, hch] at q
      exact q
    | some be =>
      obtain ⟨x, y⟩ := be
      rw [hch] at hcv
      obtain ⟨r, er, hr2⟩ := hcv
      subst er
      have bok := pok.ch x y hch
      refine ⟨_, rfl, rfl, _, rfl, ?_⟩
      refine iteF ?_
      refine ⟨_, rfl, r, _, 0, _, rfl, rfl, SqT.of hr2, rfl, ?_⟩
      have hl : c.args.length = c2.args.length := by rw [ok.len, ok2.len, ee]
      have al2 : c.args.length ≤ 2 := by
        rw [ok.len]
        unfold alen
        split
        · omega
        · split <;> omega
      refine ⟨_, rfl, b, _, 2, _, rfl, rfl, SqT.of hb, rfl, t, _, rfl, .inr (SqT.of ht), _, rfl, by omega, by rw [List.length_map]; omega, ?_⟩
      refine for_range (lo := 0) (n := (((c.args.map V.int).length : Nat) : Int).toNat) (fun i σ H' => H' = H ∧ ∃ v5, σ = [some (.ref d), some (.ref b), some (.ref b2), some (.ref r), some (.int (x + y * dist (c.args.take i) (c2.args.take i))), v5])
        ⟨rfl, none, by rw [List.take_zero, List.take_zero, show dist [] [] = 0 from rfl, Int.mul_zero, Int.add_zero]; rfl⟩ ?_ ?_
      · rintro i σ H' hi ⟨rfl, v5, rfl⟩
        rw [Int.zero_add]
        have li : i < c.args.length := by rw [List.length_map] at hi; omega
        have g1 : c.args[i]? = some c.args[i] := List.getElem?_eq_getElem li
        have g2 : c2.args[i]? = some (c2.args[i]'(by omega)) := List.getElem?_eq_getElem (by omega)
        refine ⟨_, rfl, _, rfl, r, _, 1, _, rfl, rfl, SqT.of hr2, rfl, ?_⟩
        refine ⟨_, rfl, b, _, 2, _, rfl, rfl, SqT.of hb, rfl, _, rfl, t, _, _, _, rfl, rfl, SqT.of ht, atI_nat (at_map g1), ?_⟩
        refine ⟨_, rfl, b2, _, 2, _, rfl, rfl, SqT.of hb2, rfl, _, rfl, t2, _, _, _, rfl, rfl, SqT.of ht2, atI_nat (at_map g2), ?_⟩
        refine ⟨_, _, rfl, rfl, _, rfl, _, _, rfl, rfl, .inl ⟨by omega, by omega⟩, _, _, rfl, rfl, rfl, some (.int (i : Int)), ?_⟩
        rw [take_at g1, take_at g2, dist_snoc (by rw [List.length_take, List.length_take, hl]), Int.mul_add, ← Int.add_assoc]
        all_goals rfl
      · rintro σ H' ⟨rfl, v5, rfl⟩
        have en : (((c.args.map V.int).length : Nat) : Int).toNat = c.args.length := by rw [List.length_map]; omega
        rw [en, List.take_length, List.take_of_length_le (by omega)]
        refine ⟨_, rfl, ?_⟩
        unfold chgC at q
        rw [if_pos ee, hch] at q
        exact q
  · have e1 : (!decide (V.str c.eff = V.str c2.eff)) = true := by simp [ee]
    rw [e1]
    refine iteT ?_
    refine iteT ?_
    unfold chgC at q
    rw [if_neg ee] at q
    exact q
/-! ### _law_deed_cost -/
def nDeedCost : List Str := ["_law_there", "_law_here", "_law_prices_here", "_law_deed", "_law_kind"]
theorem scDeedCost : FnScope nDeedCost ["_law_there", "_law_here", "_law_prices_here", "_law_deed"] (defScope (top 33)) := ⟨rfl, rfl, rfl, by decide +kernel, rfl, by decide +kernel, by decide +kernel⟩
def spDeedCost : Sp := fun vs H Q _ => ∃ (t h d : Addr) (v : V) (pr : Str → Price) (cs1 cs2 : List Cll) (dd : Deed), vs = [.ref t, .ref h, .ref d, v] ∧ CallsAt H t cs1 ∧ CallsAt H h cs2 ∧ EffsAt H d pr ∧ DeedAt H v dd ∧ DOk cs1.length cs2.length dd ∧ Q (optV (dcost (instOf pr cs1 cs2) dd)) H
theorem ok_deed_cost (B : Bl mg) (Cl : Cal P w K mg base 1 "_law_change" spLChange) (D : DefAt K mg "_law_deed_cost" (top 33)) : Cal P w K mg base 2 "_law_deed_cost" spDeedCost := by
  refine cal_of D scDeedCost (fun _ _ _ _ _ _ us hl => match us, hl with | [_, _, _, _], _ => rfl) (fun vs H Q E h => by obtain ⟨t, h, d, v, pr, cs1, cs2, dd, rfl, _⟩ := h; rfl) fun f cdv A outer s H vs Q E hr h => ?_
  obtain ⟨t, h, d, v, pr, cs1, cs2, dd, rfl, ⟨vt, ht, b1⟩, ⟨vh, hh, b2⟩, he, ⟨x, rfl, hx⟩, dok, q⟩ := h
  have nd := scDeedCost.nd
  have hu' := hu_of hr
  have lvt : vt.length = cs1.length := b1.1
  have lvh : vh.length = cs2.length := b2.1
  refine ⟨_, pss_cons (ps_set (i := 4) nd rfl (Or.inl rfl) (pe_ix ix_tup (pv 3) pe_int (fun _ _ => rfl)))
    (pss_cons (ps_if (PW.pt (pw_and (pt_cmpR op_eq (pv 4) pe_str (nomark _)) (pw_and1 (pt_chain op_le op_lt pe_int (pe_ix ix_tup (pv 3) pe_int (fun _ _ => rfl)) (pe_callB call_len_seq rfl B.len PySem.boot_len (pa_cons (pv 0) pa_nil))))))
      (pss_one (ps_ret (pe_ix ix_tup (pe_dget hu' (pv 2) (pe_ix ix_tup (pe_ix ix_list (pv 0) (pe_ix ix_tup (pv 3) pe_int (fun _ _ => rfl)) (fun _ _ => rfl)) pe_int (fun _ _ => rfl)) (fun _ _ => rfl)) pe_int (fun _ _ => rfl)))) pss_nil)
    (pss_cons (ps_if (PW.pt (pw_and (pt_cmpR op_eq (pv 4) pe_str (nomark _)) (pw_and1 (pt_chain op_le op_lt pe_int (pe_ix ix_tup (pv 3) pe_int (fun _ _ => rfl)) (pe_callB call_len_seq rfl B.len PySem.boot_len (pa_cons (pv 1) pa_nil))))))
      (pss_one (ps_ret (pe_ix ix_tup (pe_dget hu' (pv 2) (pe_ix ix_tup (pe_ix ix_list (pv 1) (pe_ix ix_tup (pv 3) pe_int (fun _ _ => rfl)) (fun _ _ => rfl)) pe_int (fun _ _ => rfl)) (fun _ _ => rfl)) pe_int (fun _ _ => rfl)))) pss_nil)
    (pss_cons (ps_if (PW.pt (pw_and (pt_cmpR op_eq (pv 4) pe_str (nomark _)) (pw_and (pt_chain op_le op_lt pe_int (pe_ix ix_tup (pv 3) pe_int (fun _ _ => rfl)) (pe_callB call_len_seq rfl B.len PySem.boot_len (pa_cons (pv 0) pa_nil)))
        (pw_and1 (pt_chain op_le op_lt pe_int (pe_ix ix_tup (pv 3) pe_int (fun _ _ => rfl)) (pe_callB call_len_seq rfl B.len PySem.boot_len (pa_cons (pv 1) pa_nil)))))))
      (pss_one (ps_ret (pe_c Cl hr (by decide) rfl (pa_cons (pv 2) (pa_cons (pe_ix ix_list (pv 0) (pe_ix ix_tup (pv 3) pe_int (fun _ _ => rfl)) (fun _ _ => rfl)) (pa_cons (pe_ix ix_list (pv 1) (pe_ix ix_tup (pv 3) pe_int (fun _ _ => rfl)) (fun _ _ => rfl)) pa_nil)))))) pss_nil)
    (pss_one (ps_ret pe_non))))), ?_⟩
  cases dd with
  | undo i =>
    have hx' : H x = some (.tup [.str "undo", .int i]) := hx
    have hi : i < cs1.length := dok
    have hc : cs1[i]? = some cs1[i] := List.getElem?_eq_getElem hi
    obtain ⟨v, hv, b, kv, tt, rfl, hb, _, ok⟩ := b1.at_ hc
    obtain ⟨kvs, hd, hk, hf⟩ := id he
    obtain ⟨u, hu, ⟨a, cv, rfl, ha, hcv⟩, _⟩ := hf _ ok.eff
    have gd : DGet H d (.str cs1[i].eff) (some (.ref a)) := by rw [← hu]; exact DGet.k (k := Sum.inr cs1[i].eff) hd
    refine ⟨_, rfl, x, _, 0, _, rfl, rfl, SqT.of hx', rfl, ?_⟩
    refine ⟨_, rfl, rfl, _, rfl, iteEq rfl ?_⟩
    refine ⟨_, rfl, x, _, 1, _, rfl, rfl, SqT.of hx', rfl, _, _, rfl, rfl, _, rfl, ?_⟩
    refine iteTr (by omega) ?_
    refine ⟨_, rfl, t, _, rfl, .inl (SqL.of ht), _, _, rfl, rfl, _, rfl, ?_⟩
    refine iteTr (by omega) ?_
    refine ⟨_, rfl, _, rfl, _, rfl, x, _, 1, _, rfl, rfl, SqT.of hx', rfl, t, _, _, _, rfl, rfl, SqL.of ht, atI_nat hv, b, _, 1, _, rfl, rfl, SqT.of hb, rfl, d, _, rfl, gd, a, _, 0, _, rfl, rfl, SqT.of ha, rfl, ?_⟩
    have e : dcost (instOf pr cs1 cs2) (.undo i) = some (pr cs1[i].eff).undo := by
      show some ((cs1.map fun c => (pr c.eff).undo).getD i 0) = _
      rw [getD_of (at_map hc)]
    rw [e] at q
    exact q
  | do_ j =>
    have hx' : H x = some (.tup [.str "do", .int j]) := hx
    have hj : j < cs2.length := dok
    have hc : cs2[j]? = some cs2[j] := List.getElem?_eq_getElem hj
    obtain ⟨v, hv, b, kv, tt, rfl, hb, _, ok⟩ := b2.at_ hc
    obtain ⟨kvs, hd, hk, hf⟩ := id he
    obtain ⟨u, hu, ⟨a, cv, rfl, ha, hcv⟩, _⟩ := hf _ ok.eff
    have gd : DGet H d (.str cs2[j].eff) (some (.ref a)) := by rw [← hu]; exact DGet.k (k := Sum.inr cs2[j].eff) hd
    refine ⟨_, rfl, x, _, 0, _, rfl, rfl, SqT.of hx', rfl, ?_⟩
    refine ⟨_, rfl, rfl, _, rfl, iteNe ne_do_undo ?_⟩
    refine iteF ?_
    refine ⟨_, rfl, rfl, _, rfl, iteEq rfl ?_⟩
    refine ⟨_, rfl, x, _, 1, _, rfl, rfl, SqT.of hx', rfl, _, _, rfl, rfl, _, rfl, ?_⟩
    refine iteTr (by omega) ?_
    refine ⟨_, rfl, h, _, rfl, .inl (SqL.of hh), _, _, rfl, rfl, _, rfl, ?_⟩
    refine iteTr (by omega) ?_
    refine ⟨_, rfl, _, rfl, _, rfl, x, _, 1, _, rfl, rfl, SqT.of hx', rfl, h, _, _, _, rfl, rfl, SqL.of hh, atI_nat hv, b, _, 1, _, rfl, rfl, SqT.of hb, rfl, d, _, rfl, gd, a, _, 1, _, rfl, rfl, SqT.of ha, rfl, ?_⟩
    have e : dcost (instOf pr cs1 cs2) (.do_ j) = some (pr cs2[j].eff).do_ := by
      show some ((cs2.map fun c => (pr c.eff).do_).getD j 0) = _
      rw [getD_of (at_map hc)]
    rw [e] at q
    exact q
  | chg i j =>
    have hx' : H x = some (.tup [.str "change", .int i, .int j]) := hx
    obtain ⟨hi, hj⟩ : i < cs1.length ∧ j < cs2.length := dok
    have hc1 : cs1[i]? = some cs1[i] := List.getElem?_eq_getElem hi
    have hc2 : cs2[j]? = some cs2[j] := List.getElem?_eq_getElem hj
    obtain ⟨v1, hv1, ca1⟩ := b1.at_ hc1
    obtain ⟨v2, hv2, ca2⟩ := b2.at_ hc2
    refine ⟨_, rfl, x, _, 0, _, rfl, rfl, SqT.of hx', rfl, ?_⟩
    refine ⟨_, rfl, rfl, _, rfl, iteNe ne_ch_undo ?_⟩
    refine iteF ?_
    refine ⟨_, rfl, rfl, _, rfl, iteNe ne_ch_do ?_⟩
    refine iteF ?_
    refine ⟨_, rfl, rfl, _, rfl, iteEq rfl ?_⟩
    refine ⟨_, rfl, x, _, 1, _, rfl, rfl, SqT.of hx', rfl, _, _, rfl, rfl, _, rfl, ?_⟩
    refine iteTr (by omega) ?_
    refine ⟨_, rfl, t, _, rfl, .inl (SqL.of ht), _, _, rfl, rfl, _, rfl, ?_⟩
    refine iteTr (by omega) ?_
    refine ⟨_, rfl, x, _, 2, _, rfl, rfl, SqT.of hx', rfl, _, _, rfl, rfl, _, rfl, ?_⟩
    refine iteTr (by omega) ?_
    refine ⟨_, rfl, h, _, rfl, .inl (SqL.of hh), _, _, rfl, rfl, _, rfl, ?_⟩
    refine iteTr (by omega) ?_
    refine ⟨_, rfl, _, rfl, _, rfl, x, _, 1, _, rfl, rfl, SqT.of hx', rfl, t, _, _, _, rfl, rfl, SqL.of ht, atI_nat hv1, _, rfl, _, rfl, x, _, 2, _, rfl, rfl, SqT.of hx', rfl, h, _, _, _, rfl, rfl, SqL.of hh, atI_nat hv2, d, v1, v2, pr, _, _, rfl, he, ca1, ca2, ?_⟩
    have e : dcost (instOf pr cs1 cs2) (.chg i j) = chgC pr cs1[i] cs2[j] := by
      show ((cs1.map fun c => cs2.map fun c2 => chgC pr c c2).getD i []).getD j none = _
      rw [getD_of (at_map hc1), getD_of (at_map hc2)]
    rw [e] at q
    exact q
end
end K33
namespace K33
open PySem PySem.Spec PyProof.Rows L2
/-! ### counts -/
def cnt (n : Nat) (l : List Nat) : List Int := (List.range n).map fun i => ((l.count i : Nat) : Int)
theorem cnt_len (n : Nat) (l : List Nat) : (cnt n l).length = n := by unfold cnt; rw [List.length_map, List.length_range]
theorem cnt_at {n : Nat} {l : List Nat} {i : Nat} (h : i < n) : (cnt n l)[i]? = some ((l.count i : Nat) : Int) := at_map (List.getElem?_range h)
theorem cnt_nil (n : Nat) : cnt n [] = List.replicate n 0 := by
  refine List.ext_getElem? fun i => ?_
  by_cases h : i < n
  · rw [cnt_at h, List.getElem?_replicate, if_pos h]
    all_goals rfl
  · rw [List.getElem?_eq_none (by rw [cnt_len]; omega), List.getElem?_eq_none (by rw [List.length_replicate]; omega)]
theorem cnt_snoc {n : Nat} {l : List Nat} {i : Nat} (h : i < n) : cnt n (l ++ [i]) = (cnt n l).set i (((l.count i : Nat) : Int) + 1) := by
  refine List.ext_getElem? fun j => ?_
  by_cases hj : j < n
  · rw [cnt_at hj]
    by_cases e : i = j
    · subst e
      rw [List.getElem?_set_self (by rw [cnt_len]; exact h), List.count_append]
      simp
    · rw [List.getElem?_set_ne e, cnt_at hj, List.count_append]
      simp [e]
  · rw [List.getElem?_eq_none (by rw [cnt_len]; omega), List.getElem?_eq_none (by rw [List.length_set, cnt_len]; omega)]
theorem cnt_perm {n : Nat} {l : List Nat} (h : l.Perm (List.range n)) : cnt n l = List.replicate n 1 := by
  refine List.ext_getElem? fun i => ?_
  by_cases hi : i < n
  · rw [cnt_at hi, h.count_eq, List.Nodup.count List.nodup_range, if_pos (List.mem_range.mpr hi), List.getElem?_replicate, if_pos hi]
    all_goals rfl
  · rw [List.getElem?_eq_none (by rw [cnt_len]; omega), List.getElem?_eq_none (by rw [List.length_replicate]; omega)]
section
variable {P : Program} {w : World} {K : PySem.W.Frag} {mg : Str → Option Value} {base : Heap}
/-! ### _law_is_plan -/
def nLPlan : List Str := ["_law_there", "_law_here", "_law_prices_here", "_law_deeds", "_law_lefts", "_law_rights", "_law_deed", "_law_count"]
theorem scLPlan : FnScope nLPlan ["_law_there", "_law_here", "_law_prices_here", "_law_deeds"] (defScope (top 34)) := ⟨rfl, rfl, rfl, by decide +kernel, rfl, by decide +kernel, by decide +kernel⟩
def spLPlan : Sp := fun vs H Q _ => ∃ (t h d x : Addr) (pr : Str → Price) (cs1 cs2 : List Cll) (ds : List Deed), vs = [.ref t, .ref h, .ref d, .ref x] ∧ CallsAt H t cs1 ∧ CallsAt H h cs2 ∧ EffsAt H d pr ∧ cs1.length ≤ 8 ∧ cs2.length ≤ 8 ∧
  DeedsAt H x ds ∧ ds.length ≤ 16 ∧ PlanOk (instOf pr cs1 cs2) ds ∧ ∀ H', Same H H' → Q (.bl true) H'
theorem ok_lplan (B : Bl mg) (Cd : Cal P w K mg base 2 "_law_deed_cost" spDeedCost) (D : DefAt K mg "_law_is_plan" (top 34)) : Cal P w K mg base 3 "_law_is_plan" spLPlan := by
  refine cal_of D scLPlan (fun _ _ _ _ _ _ us hl => match us, hl with | [_, _, _, _], _ => rfl) (fun vs H Q E h => by obtain ⟨t, h, d, x, pr, cs1, cs2, ds, rfl, _⟩ := h; rfl) fun f cdv A outer s H vs Q E hr h => ?_
  obtain ⟨t, h, d, x, pr, cs1, cs2, ds, rfl, ht, hh, he, l1, l2, hd, ld, pok, k⟩ := h
  have nd := scLPlan.nd
  refine ⟨_, pss_cons (ps_set (i := 4) nd rfl (Or.inl rfl) (pe_op op_rep (pe_lst (pa_cons pe_int pa_nil)) (pe_callB call_len_seq rfl B.len PySem.boot_len (pa_cons (pv 0) pa_nil))))
    (pss_cons (ps_set (i := 5) nd rfl (Or.inl rfl) (pe_op op_rep (pe_lst (pa_cons pe_int pa_nil)) (pe_callB call_len_seq rfl B.len PySem.boot_len (pa_cons (pv 1) pa_nil))))
    (pss_cons (ps_for PassesOwn.never rfl (pi_list (pv 3)) (pg_name (i := 6) nd rfl (Or.inl rfl))
      (pss_cons (ps_if (pt_cmpR op_isN (pe_c Cd hr (by decide) rfl (pa_cons (pv 0) (pa_cons (pv 1) (pa_cons (pv 2) (pa_cons (pv 6) pa_nil))))) pe_non (nomark _)) (pss_one (ps_ret pe_bl)) pss_nil)
      (pss_cons (ps_if (pt_cmpR op_ne (pe_ix ix_tup (pv 6) pe_int (fun _ _ => rfl)) pe_str (nomark _))
        (pss_one (ps_asg (pe_op op_add (pe_ix ix_list (pv 4) (pe_ix ix_tup (pv 6) pe_int (fun _ _ => rfl)) (fun _ _ => rfl)) pe_int) (pg_sub (pv 4) (pe_ix ix_tup (pv 6) pe_int (fun _ _ => rfl)) set_list))) pss_nil)
      (pss_one (ps_if (pt_cmpR op_ne (pe_ix ix_tup (pv 6) pe_int (fun _ _ => rfl)) pe_str (nomark _))
        (pss_one (ps_asg (pe_op op_add (pe_ix ix_list (pv 5) (pe_ix ix_tup (pv 6) (pe_un un_neg pe_int) (fun _ _ => rfl)) (fun _ _ => rfl)) pe_int) (pg_sub (pv 5) (pe_ix ix_tup (pv 6) (pe_un un_neg pe_int) (fun _ _ => rfl)) set_list))) pss_nil)))))
    (pss_one (ps_ret (pe_callB (cr_all rfl) rfl B.all boot_all (pa_cons
      (pe_lc (own := [("_law_count", 7)]) (g := gName 7) (tt := tYes) (te := tOp rEq (tVar 7) (tC (.int 1))) rfl nd (pi_list (pe_op op_cat (pv 4) (pv 5))) (blkOk_by (own := [("_law_count", 7)]) (N := nLPlan) (sc := defScope (top 34)) (by decide +kernel))
        (fun _ _ _ _ _ => pg_name (i := 7) nd rfl (Or.inl rfl)) (fun _ _ _ _ _ => pts_nil) (fun _ _ _ _ _ => pe_cmpR op_eq (pv 7) pe_int (nomark _))) pa_nil)))))), ?_⟩
  obtain ⟨vt, ht1, b1⟩ := id ht
  obtain ⟨vh, hh1, b2⟩ := id hh
  obtain ⟨vs, hvs, a2⟩ := hd
  have lvt : vt.length = cs1.length := b1.1
  have lvh : vh.length = cs2.length := b2.1
  have lus : (instOf pr cs1 cs2).us.length = cs1.length := List.length_map _
  have lds : (instOf pr cs1 cs2).ds.length = cs2.length := List.length_map _
  refine ⟨by show 1 ≤ sizeLine; decide, fun q1 hq1 => ?_⟩
  have s1 := same_new hq1 (o := .lst [.int 0])
  refine ⟨_, rfl, t, _, rfl, .inl (SqL.of (s1 _ _ ht1)), q1, _, _, rfl, rfl, upd_same, by omega, by omega, sz8 (by show 1 * _ ≤ 1000; omega), fun l hl => ?_⟩
  have s2 := s1.trans (same_new hl (o := .lst (List.replicate ((vt.length : Nat) : Int).toNat [V.int 0]).flatten))
  refine ⟨by show 1 ≤ sizeLine; decide, fun q2 hq2 => ?_⟩
  have s3 := s2.trans (same_new hq2 (o := .lst [.int 0]))
  refine ⟨_, rfl, h, _, rfl, .inl (SqL.of (s3 _ _ hh1)), q2, _, _, rfl, rfl, upd_same, by omega, by omega, sz8 (by show 1 * _ ≤ 1000; omega), fun r hr2 => ?_⟩
  have s4 := s3.trans (same_new hr2 (o := .lst (List.replicate ((vh.length : Nat) : Int).toNat [V.int 0]).flatten))
  have hl0 : H l = none := Same.free s1 hl
  have hr0 : H r = none := Same.free s3 hr2
  have nl2 : l ≠ q2 := ne_of_none upd_same hq2
  have nlr : l ≠ r := ne_of_none ((upd_ne nl2).trans upd_same) hr2
  have el : (List.replicate ((vt.length : Nat) : Int).toNat [V.int 0]).flatten = (cnt cs1.length []).map V.int := by
    rw [flat_rep, cnt_nil, map_rep, ← lvt]
    all_goals rfl
  have er : (List.replicate ((vh.length : Nat) : Int).toNat [V.int 0]).flatten = (cnt cs2.length []).map V.int := by
    rw [flat_rep, cnt_nil, map_rep, ← lvh]
    all_goals rfl
  refine ⟨_, rfl, x, rfl, ⟨_, SqL.of (s4 _ _ hvs)⟩, for_list (K := K) (a := x) (xs := vs) (fun i σ H' => Same H H' ∧ IntsAt H' l (cnt cs1.length ((ds.take i).filterMap leftOf)) ∧ IntsAt H' r (cnt cs2.length ((ds.take i).filterMap rightOf)) ∧
      ∃ v6 v7, σ = [some (.ref t), some (.ref h), some (.ref d), some (.ref x), some (.ref l), some (.ref r), v6, v7])
    ⟨s4, ?_, ?_, none, none, rfl⟩ (fun i σ H' _ q => SqL.of (q.1 _ _ hvs)) ?_ ?_⟩
  · show upd _ _ _ _ = _
    rw [upd_ne nlr, upd_ne nl2, upd_same, el]
    all_goals rfl
  · show upd _ _ _ _ = _
    rw [upd_same, er]
    all_goals rfl
  · rintro i y σ H' hy ⟨s, hl', hr', v6, v7, rfl⟩
    obtain ⟨dd, hdd, a, rfl, ha⟩ := a2.of hy
    have dok := pok.ok dd (List.mem_of_getElem? hdd)
    rw [lus, lds] at dok
    have ha' : H' a = some (.tup (deedV dd)) := s _ _ ha
    have fl := fm_take leftOf hdd
    have fr := fm_take rightOf hdd
    refine ⟨_, rfl, _, rfl, _, rfl, _, rfl, t, h, d, .ref a, pr, cs1, cs2, dd, rfl, ht.mono s, hh.mono s, he.mono s, ⟨a, rfl, ha'⟩, dok.1, ?_⟩
    refine ⟨rfl, _, rfl, ?_⟩
    obtain ⟨cv, ecv⟩ := Option.isSome_iff_exists.mp dok.2
    refine iteNe (by rw [ecv]; intro z; cases z) ?_
    -- a store at a place
    have stL : ∀ n : Nat, n < cs1.length → upd H' l (.lst (((cnt cs1.length ((ds.take i).filterMap leftOf)).map V.int).set n (V.int ((((ds.take i).filterMap leftOf).count n : Nat) + 1)))) l = some (.lst ((cnt cs1.length ((ds.take i).filterMap leftOf ++ [n])).map V.int)) := fun n hn => by
      rw [upd_same, cnt_snoc hn, List.map_set]
    have stR : ∀ n : Nat, n < cs2.length → ∀ H2 : Hp, upd H2 r (.lst (((cnt cs2.length ((ds.take i).filterMap rightOf)).map V.int).set n (V.int ((((ds.take i).filterMap rightOf).count n : Nat) + 1)))) r = some (.lst ((cnt cs2.length ((ds.take i).filterMap rightOf ++ [n])).map V.int)) := fun n hn H2 => by
      rw [upd_same, cnt_snoc hn, List.map_set]
    cases dd with
    | undo n =>
      have ha1 : H' a = some (.tup [.str "undo", .int n]) := ha'
      have hn : n < cs1.length := dok.1
      refine ⟨_, rfl, a, _, 0, _, rfl, rfl, SqT.of ha1, rfl, rfl, _, rfl, ?_⟩
      refine iteB (b := !decide (V.str "undo" = V.str "do")) (by rw [decide_eq_false ne_undo_do]; rfl) ?_
      refine ⟨_, rfl, _, rfl, a, _, 1, _, rfl, rfl, SqT.of ha1, rfl, l, _, _, _, rfl, rfl, SqL.of hl', atI_nat (at_map (cnt_at hn)), _, _, rfl, rfl, ?_⟩
      refine ⟨_, rfl, _, rfl, a, _, 1, _, rfl, rfl, SqT.of ha1, rfl, l, _, _, n, rfl, rfl, hl', ixN_nat (by rw [List.length_map, cnt_len]; exact hn), ?_⟩
      have s' := s.mut hl0 (o := .lst (((cnt cs1.length ((ds.take i).filterMap leftOf)).map V.int).set n (V.int ((((ds.take i).filterMap leftOf).count n : Nat) + 1))))
      have ha2 := s' _ _ ha
      refine ⟨_, rfl, a, _, 0, _, rfl, rfl, SqT.of ha2, rfl, rfl, _, rfl, ?_⟩
      refine iteBf (b := !decide (V.str "undo" = V.str "undo")) (by rw [decide_eq_true rfl]; rfl) ?_
      refine ⟨s', ?_, ?_, _, _, rfl⟩
      · rw [fl]; exact stL n hn
      · rw [fr]
        show upd _ _ _ _ = some (.lst ((cnt cs2.length (_ ++ [])).map V.int))
        rw [List.append_nil, upd_ne nlr.symm]; exact hr'
    | do_ n =>
      have ha1 : H' a = some (.tup [.str "do", .int n]) := ha'
      have hn : n < cs2.length := dok.1
      refine ⟨_, rfl, a, _, 0, _, rfl, rfl, SqT.of ha1, rfl, rfl, _, rfl, ?_⟩
      refine iteBf (b := !decide (V.str "do" = V.str "do")) (by rw [decide_eq_true rfl]; rfl) ?_
      refine ⟨_, rfl, a, _, 0, _, rfl, rfl, SqT.of ha1, rfl, rfl, _, rfl, ?_⟩
      refine iteB (b := !decide (V.str "do" = V.str "undo")) (by rw [decide_eq_false ne_do_undo]; rfl) ?_
      refine ⟨_, rfl, _, rfl, _, rfl, a, _, _, _, rfl, rfl, SqT.of ha1, (by rfl), r, _, _, _, rfl, rfl, SqL.of hr', atI_nat (at_map (cnt_at hn)), _, _, rfl, rfl, ?_⟩
      refine ⟨_, rfl, _, rfl, _, rfl, a, _, _, _, rfl, rfl, SqT.of ha1, (by rfl), r, _, _, n, rfl, rfl, hr', ixN_nat (by rw [List.length_map, cnt_len]; exact hn), ?_⟩
      refine ⟨s.mut hr0, ?_, ?_, _, _, rfl⟩
      · rw [fl]
        show upd _ _ _ _ = some (.lst ((cnt cs1.length (_ ++ [])).map V.int))
        rw [List.append_nil, upd_ne nlr]; exact hl'
      · rw [fr]; exact stR n hn H'
    | chg m n =>
      have ha1 : H' a = some (.tup [.str "change", .int m, .int n]) := ha'
      obtain ⟨hm, hn⟩ : m < cs1.length ∧ n < cs2.length := dok.1
      refine ⟨_, rfl, a, _, 0, _, rfl, rfl, SqT.of ha1, rfl, rfl, _, rfl, ?_⟩
      refine iteB (b := !decide (V.str "change" = V.str "do")) (by rw [decide_eq_false ne_ch_do]; rfl) ?_
      refine ⟨_, rfl, _, rfl, a, _, 1, _, rfl, rfl, SqT.of ha1, rfl, l, _, _, _, rfl, rfl, SqL.of hl', atI_nat (at_map (cnt_at hm)), _, _, rfl, rfl, ?_⟩
      refine ⟨_, rfl, _, rfl, a, _, 1, _, rfl, rfl, SqT.of ha1, rfl, l, _, _, m, rfl, rfl, hl', ixN_nat (by rw [List.length_map, cnt_len]; exact hm), ?_⟩
      have s' := s.mut hl0 (o := .lst (((cnt cs1.length ((ds.take i).filterMap leftOf)).map V.int).set m (V.int ((((ds.take i).filterMap leftOf).count m : Nat) + 1))))
      have ha2 := s' _ _ ha
      have hr2 := (upd_ne nlr.symm (o := .lst (((cnt cs1.length ((ds.take i).filterMap leftOf)).map V.int).set m (V.int ((((ds.take i).filterMap leftOf).count m : Nat) + 1))))).trans hr'
      refine ⟨_, rfl, a, _, 0, _, rfl, rfl, SqT.of ha2, rfl, rfl, _, rfl, ?_⟩
      refine iteB (b := !decide (V.str "change" = V.str "undo")) (by rw [decide_eq_false ne_ch_undo]; rfl) ?_
      refine ⟨_, rfl, _, rfl, _, rfl, a, _, _, _, rfl, rfl, SqT.of ha2, (by rfl), r, _, _, _, rfl, rfl, SqL.of hr2, atI_nat (at_map (cnt_at hn)), _, _, rfl, rfl, ?_⟩
      refine ⟨_, rfl, _, rfl, _, rfl, a, _, _, _, rfl, rfl, SqT.of ha2, (by rfl), r, _, _, n, rfl, rfl, hr2, ixN_nat (by rw [List.length_map, cnt_len]; exact hn), ?_⟩
      refine ⟨s'.mut hr0, ?_, ?_, _, _, rfl⟩
      · rw [fl]
        exact (upd_ne nlr).trans (stL m hm)
      · rw [fr]; exact stR n hn _
  · rintro σ H' ⟨s, hl', hr', v6, v7, rfl⟩
    rw [a2.1, List.take_length] at hl' hr'
    have pl := pok.left
    have prr := pok.right
    rw [lus] at pl
    rw [lds] at prr
    rw [cnt_perm pl] at hl'
    rw [cnt_perm prr] at hr'
    refine ⟨_, rfl, _, rfl, l, r, _, _, rfl, rfl, hl', hr', sz8 (by rw [List.length_map, List.length_map, List.length_replicate, List.length_replicate]; omega), fun c hc => ⟨c, rfl, ⟨_, SqL.of upd_same⟩, fun Dl hD => ?_⟩⟩
    have sc := same_new hc (o := .lst ((List.replicate cs1.length (1 : Int)).map V.int ++ (List.replicate cs2.length (1 : Int)).map V.int))
    have ones : (List.replicate cs1.length (1 : Int)).map V.int ++ (List.replicate cs2.length (1 : Int)).map V.int = List.replicate (cs1.length + cs2.length) (V.int 1) := by
      rw [map_rep, map_rep, List.replicate_append_replicate]
    refine lc_map (walk_list (K := K) (a := c) (xs := (List.replicate cs1.length (1 : Int)).map V.int ++ (List.replicate cs2.length (1 : Int)).map V.int)) hD (fun i v _ => v = .bl true) (by rw [ones, List.length_replicate]; omega) (fun Hx s => SqL.of (s _ _ upd_same)) (fun i y H H' _ _ r _ => r) ?_ ?_
    · rintro j z _ Hx Qe hj s2 hl ⟨rfl, h1⟩ kq
      rw [ones] at h1
      have ez := List.eq_of_mem_replicate (List.mem_of_getElem? h1)
      subst ez
      exact ⟨rfl, _, rfl, rfl, kq _ _ (Same.refl _) (by rw [decide_eq_true rfl])⟩
    · intro Hx zs s2 hzs hlen hR
      have ez : zs = (List.replicate (cs1.length + cs2.length) true).map V.bl := list_of V.bl _ zs (by rw [hlen, ones, List.length_replicate, List.length_replicate]) fun i v hv => by
        have hi := (List.getElem?_eq_some_iff.mp hv).1
        rw [hlen, ones, List.length_replicate] at hi
        exact ⟨true, by rw [List.getElem?_replicate, if_pos hi], hR i v hv⟩
      subst ez
      refine ⟨Dl, _, rfl, SqL.of hzs, ?_⟩
      have e : (List.replicate (cs1.length + cs2.length) true).all id = true := by
        rw [List.all_eq_true]
        intro b hb
        rw [List.eq_of_mem_replicate hb]
        all_goals rfl
      rw [e]
      exact k _ (s.trans (sc.trans s2))
end
end K33
namespace K33
open PySem PySem.Spec PyProof.Rows L2
section
variable {P : Program} {w : World} {K : PySem.W.Frag} {mg : Str → Option Value} {base : Heap}
/-! ### _law_cost -/
def nLCost : List Str := ["_law_there", "_law_here", "_law_prices_here", "_law_deeds", "_law_deed"]
theorem scLCost : FnScope nLCost ["_law_there", "_law_here", "_law_prices_here", "_law_deeds"] (defScope (top 35)) := ⟨rfl, rfl, rfl, by decide +kernel, rfl, by decide +kernel, by decide +kernel⟩
def spLCost : Sp := fun vs H Q _ => ∃ (t h d x : Addr) (pr : Str → Price) (cs1 cs2 : List Cll) (ds : List Deed), vs = [.ref t, .ref h, .ref d, .ref x] ∧ CallsAt H t cs1 ∧ CallsAt H h cs2 ∧ EffsAt H d pr ∧
  DeedsAt H x ds ∧ ds.length ≤ 16 ∧ (∀ y ∈ ds, DOk cs1.length cs2.length y ∧ (dcost (instOf pr cs1 cs2) y).isSome = true) ∧ ∀ H', Same H H' → Q (.int (sumCost (instOf pr cs1 cs2) ds)) H'
theorem ok_lcost (B : Bl mg) (Cd : Cal P w K mg base 2 "_law_deed_cost" spDeedCost) (D : DefAt K mg "_law_cost" (top 35)) : Cal P w K mg base 3 "_law_cost" spLCost := by
  refine cal_of D scLCost (fun _ _ _ _ _ _ us hl => match us, hl with | [_, _, _, _], _ => rfl) (fun vs H Q E h => by obtain ⟨t, h, d, x, pr, cs1, cs2, ds, rfl, _⟩ := h; rfl) fun f cdv A outer s H vs Q E hr h => ?_
  obtain ⟨t, h, d, x, pr, cs1, cs2, ds, rfl, ht, hh, he, ⟨vs, hvs, a2⟩, ld, pok, k⟩ := h
  have nd := scLCost.nd
  refine ⟨_, pss_one (ps_ret (pe_callB (cr_sum rfl) rfl B.sum boot_sum (pa_cons
      (pe_lc (own := [("_law_deed", 4)]) (g := gName 4) (tt := tYes) (te := tCall spDeedCost [] E0 (tCons (tVar 0) (tCons (tVar 1) (tCons (tVar 2) (tCons (tVar 4) tNil))))) rfl nd (pi_list (pv 3)) (blkOk_by (own := [("_law_deed", 4)]) (N := nLCost) (sc := defScope (top 35)) (by decide +kernel))
        (fun _ _ _ _ _ => pg_name (i := 4) nd rfl (Or.inl rfl)) (fun _ _ _ _ _ => pts_nil) (fun _ _ _ _ _ => pe_c Cd hr (by decide) rfl (pa_cons (pv 0) (pa_cons (pv 1) (pa_cons (pv 2) (pa_cons (pv 4) pa_nil)))))) pa_nil))), ?_⟩
  refine ⟨_, rfl, x, rfl, ⟨_, SqL.of hvs⟩, fun Dl hD => lc_map walk_list hD (fun i v _ => ∃ dd, ds[i]? = some dd ∧ v = .int ((dcost (instOf pr cs1 cs2) dd).getD 0)) (by rw [a2.1]; omega) (fun Hx s => SqL.of (s _ _ hvs)) (fun i y H H' _ _ r _ => r) ?_ ?_⟩
  · rintro i y _ Hx Qe hi s hl ⟨rfl, h1⟩ kq
    obtain ⟨dd, hdd, da⟩ := a2.of h1
    have dok := pok dd (List.mem_of_getElem? hdd)
    obtain ⟨cv, ecv⟩ := Option.isSome_iff_exists.mp dok.2
    refine ⟨rfl, _, rfl, _, rfl, _, rfl, _, rfl, t, h, d, y, pr, cs1, cs2, dd, rfl, ht.mono s, hh.mono s, he.mono s, da.mono s, dok.1, ?_⟩
    rw [ecv]
    exact kq _ _ (Same.refl _) ⟨dd, hdd, by rw [ecv]; rfl⟩
  · intro Hx ys s hys hlen hR
    have e := list_of V.int (ds.map fun d => (dcost (instOf pr cs1 cs2) d).getD 0) ys (by rw [hlen, a2.1, List.length_map]) fun i v hv => by
      obtain ⟨dd, hdd, rfl⟩ := hR i v hv
      exact ⟨_, at_map hdd, rfl⟩
    subst e
    exact ⟨Dl, _, rfl, SqL.of hys, k _ s⟩
/-! ### _law_fair -/
/-- prices[calls[i][1]], by the heap -/
theorem price_at {H : Hp} {a d : Addr} {cs : List Cll} {pr : Str → Price} (hc : CallsAt H a cs) (he : EffsAt H d pr) {i : Nat} {c : Cll} (hi : cs[i]? = some c) :
    ∃ (vs : List V) (b : Addr) (kv : V) (t q : Addr) (cv : V), H a = some (.lst vs) ∧ vs[i]? = some (.ref b) ∧ H b = some (.tup [kv, .str c.eff, .ref t]) ∧ DGet H d (.str c.eff) (some (.ref q)) ∧ H q = some (.tup [.int (pr c.eff).undo, .int (pr c.eff).do_, cv]) := by
  obtain ⟨vs, ha, a2⟩ := hc
  obtain ⟨v, hv, b, kv, t, rfl, hb, _, ok⟩ := a2.at_ hi
  obtain ⟨kvs, hd, hk, hf⟩ := he
  obtain ⟨u, hu, ⟨q, cv, rfl, hq, _⟩, _⟩ := hf _ ok.eff
  exact ⟨vs, b, kv, t, q, cv, ha, hv, hb, by rw [← hu]; exact DGet.k (k := Sum.inr c.eff) hd, hq⟩
def nLFair : List Str := ["_law_there", "_law_here", "_law_prices_here", "_law_paper", "_law_lefts", "_law_rights", "_law_i", "_law_j", "_law_change_here"]
theorem scLFair : FnScope nLFair ["_law_there", "_law_here", "_law_prices_here", "_law_paper"] (defScope (top 36)) := ⟨rfl, rfl, rfl, by decide +kernel, rfl, by decide +kernel, by decide +kernel⟩
def spLFair : Sp := fun vs H Q _ => ∃ (t h d : Addr) (pp : V) (pr : Str → Price) (cs1 cs2 : List Cll) (ls rs : List Int), vs = [.ref t, .ref h, .ref d, pp] ∧ CallsAt H t cs1 ∧ CallsAt H h cs2 ∧ EffsAt H d pr ∧ cs1.length ≤ 8 ∧ cs2.length ≤ 8 ∧
  PaperAt H pp ls rs ∧ ls.length = cs1.length ∧ rs.length = cs2.length ∧ FairI (instOf pr cs1 cs2) ls rs ∧ ∀ H', Same H H' → Q (.bl true) H'
theorem ok_lfair (B : Bl mg) (Cl : Cal P w K mg base 1 "_law_change" spLChange) (D : DefAt K mg "_law_fair" (top 36)) : Cal P w K mg base 2 "_law_fair" spLFair := by
  refine cal_of D scLFair (fun _ _ _ _ _ _ us hl => match us, hl with | [_, _, _, _], _ => rfl) (fun vs H Q E h => by obtain ⟨t, h, d, pp, pr, cs1, cs2, ls, rs, rfl, _⟩ := h; rfl) fun f cdv A outer s H vs Q E hr h => ?_
  obtain ⟨t, h, d, pp, pr, cs1, cs2, ls, rs, rfl, ht, hh, he, l1, l2, ⟨pa, l, r, rfl, hpa, hl, hr1⟩, ell, elr, F, k⟩ := h
  have nd := scLFair.nd
  have hu' := hu_of hr
  refine ⟨_, pss_cons (ps_asg (pv 3) (pg_tup rfl (pgs_cons (pg_name (i := 4) nd rfl (Or.inl rfl)) (pgs_cons (pg_name (i := 5) nd rfl (Or.inr rfl)) pgs_nil))))
    (pss_cons (ps_if (PW.pt (pw_or (pt_cmpR op_ne (pe_callB call_len_seq rfl B.len PySem.boot_len (pa_cons (pv 4) pa_nil)) (pe_callB call_len_seq rfl B.len PySem.boot_len (pa_cons (pv 0) pa_nil)) (nomark _))
        (pw_or1 (pt_cmpR op_ne (pe_callB call_len_seq rfl B.len PySem.boot_len (pa_cons (pv 5) pa_nil)) (pe_callB call_len_seq rfl B.len PySem.boot_len (pa_cons (pv 1) pa_nil)) (nomark _))))) (pss_one (ps_ret pe_bl)) pss_nil)
    (pss_cons (ps_for PassesOwn.never rfl (pi_range1 rfl B.range (pa_cons (pe_callB call_len_seq rfl B.len PySem.boot_len (pa_cons (pv 0) pa_nil)) pa_nil)) (pg_name (i := 6) nd rfl (Or.inl rfl))
      (pss_cons (ps_if (pt_cmpR op_gt (pe_ix ix_list (pv 4) (pv 6) (fun _ _ => rfl)) (pe_ix ix_tup (pe_dget hu' (pv 2) (pe_ix ix_tup (pe_ix ix_list (pv 0) (pv 6) (fun _ _ => rfl)) pe_int (fun _ _ => rfl)) (fun _ _ => rfl)) pe_int (fun _ _ => rfl)) (nomark _)) (pss_one (ps_ret pe_bl)) pss_nil)
      (pss_one (ps_for PassesOwn.never rfl (pi_range1 rfl B.range (pa_cons (pe_callB call_len_seq rfl B.len PySem.boot_len (pa_cons (pv 1) pa_nil)) pa_nil)) (pg_name (i := 7) nd rfl (Or.inl rfl))
        (pss_cons (ps_set (i := 8) nd rfl (Or.inl rfl) (pe_c Cl hr (by decide) rfl (pa_cons (pv 2) (pa_cons (pe_ix ix_list (pv 0) (pv 6) (fun _ _ => rfl)) (pa_cons (pe_ix ix_list (pv 1) (pv 7) (fun _ _ => rfl)) pa_nil)))))
        (pss_one (ps_if (PW.pt (pw_and (pt_cmpR op_notN (pv 8) pe_non (nomark _)) (pw_and1 (pt_cmpR op_gt (pe_op op_add (pe_ix ix_list (pv 4) (pv 6) (fun _ _ => rfl)) (pe_ix ix_list (pv 5) (pv 7) (fun _ _ => rfl))) (pv 8) (nomark _))))) (pss_one (ps_ret pe_bl)) pss_nil)))))))
    (pss_one (ps_ret (pe_callB (cr_all rfl) rfl B.all boot_all (pa_cons
      (pe_lc (own := [("_law_j", 7)]) (g := gName 7) (tt := tYes)
        (te := tOp (rI0 fun i j => .bl (decide (i ≤ j))) (tOp (rIxL K) (tVar 5) (tVar 7)) (tOp (rIxT K) (tDGet (tVar 2) (tOp (rIxT K) (tOp (rIxL K) (tVar 1) (tVar 7)) (tC (.int 1)))) (tC (.int 1)))) rfl nd
        (pi_range1 rfl B.range (pa_cons (pe_callB call_len_seq rfl B.len PySem.boot_len (pa_cons (pv 1) pa_nil)) pa_nil)) (blkOk_by (own := [("_law_j", 7)]) (N := nLFair) (sc := defScope (top 36)) (by decide +kernel))
        (fun _ _ _ _ _ => pg_name (i := 7) nd rfl (Or.inl rfl)) (fun _ _ _ _ _ => pts_nil)
        (fun _ _ _ _ _ => pe_cmpR op_le (pe_ix ix_list (pv 5) (pv 7) (fun _ _ => rfl)) (pe_ix ix_tup (pe_dget hu' (pv 2) (pe_ix ix_tup (pe_ix ix_list (pv 1) (pv 7) (fun _ _ => rfl)) pe_int (fun _ _ => rfl)) (fun _ _ => rfl)) pe_int (fun _ _ => rfl)) (nomark _))) pa_nil)))))), ?_⟩
  obtain ⟨vt, ht1, b1⟩ := id ht
  obtain ⟨vh, hh1, b2⟩ := id hh
  have lvt : vt.length = cs1.length := b1.1
  have lvh : vh.length = cs2.length := b2.1
  refine ⟨_, rfl, pa, _, rfl, SqT.of hpa, rfl, _, _, rfl, _, _, rfl, rfl, ?_⟩
  refine ⟨_, rfl, l, _, rfl, .inl (SqL.of hl), _, rfl, t, _, rfl, .inl (SqL.of ht1), rfl, _, rfl, ?_⟩
  rw [decide_eq_true (show V.int ((ls.map V.int).length : Nat) = V.int (vt.length : Nat) by rw [List.length_map, ell, lvt])]
  refine iteF ?_
  refine ⟨_, rfl, r, _, rfl, .inl (SqL.of hr1), _, rfl, h, _, rfl, .inl (SqL.of hh1), rfl, _, rfl, ?_⟩
  rw [decide_eq_true (show V.int ((rs.map V.int).length : Nat) = V.int (vh.length : Nat) by rw [List.length_map, elr, lvh])]
  refine iteF ?_
  refine ⟨_, rfl, t, _, rfl, .inl (SqL.of ht1), _, rfl, by omega, by omega, ?_⟩
  refine for_range (lo := 0) (n := ((vt.length : Nat) : Int).toNat) (fun i σ H' => H' = H ∧ ∃ v6 v7 v8, σ = [some (.ref t), some (.ref h), some (.ref d), some (.ref pa), some (.ref l), some (.ref r), v6, v7, v8]) ⟨rfl, none, none, none, rfl⟩ ?_ ?_
  · rintro i σ H hi ⟨rfl, v6, v7, v8, rfl⟩
    rw [Int.zero_add]
    have li : i < cs1.length := by omega
    have hc : cs1[i]? = some cs1[i] := List.getElem?_eq_getElem li
    obtain ⟨vs1, b, kv, tt, q, cv, g1, g2, g3, g4, g5⟩ := price_at ht he hc
    rw [ht1] at g1
    cases g1
    have hls := getD_at (d := 0) (l := ls) (i := i) (by omega)
    refine ⟨_, rfl, _, rfl, l, _, _, _, rfl, rfl, SqL.of hl, atI_nat (at_map hls), _, rfl, _, rfl, _, rfl, t, _, _, _, rfl, rfl, SqL.of ht1, atI_nat g2, b, _, 1, _, rfl, rfl, SqT.of g3, rfl, d, _, rfl, g4, q, _, 0, _, rfl, rfl, SqT.of g5, rfl, _, _, rfl, rfl, _, rfl, ?_⟩
    have hle := F.left i _ (pr cs1[i].eff).undo hls (at_map hc)
    refine iteFa (by omega) ?_
    refine ⟨_, rfl, h, _, rfl, .inl (SqL.of hh1), _, rfl, by omega, by omega, ?_⟩
    refine for_range (lo := 0) (n := ((vh.length : Nat) : Int).toNat) (fun j σ H' => H' = H ∧ ∃ v7 v8, σ = [some (.ref t), some (.ref h), some (.ref d), some (.ref pa), some (.ref l), some (.ref r), some (.int i), v7, v8]) ⟨rfl, _, _, rfl⟩ ?_ ?_
    · rintro j σ H hj ⟨rfl, v7, v8, rfl⟩
      rw [Int.zero_add]
      have lj : j < cs2.length := by omega
      have hc2 : cs2[j]? = some cs2[j] := List.getElem?_eq_getElem lj
      obtain ⟨w1, hw1, ca1⟩ := b1.at_ hc
      obtain ⟨w2, hw2, ca2⟩ := b2.at_ hc2
      have hrs := getD_at (d := 0) (l := rs) (i := j) (by omega)
      refine ⟨_, rfl, _, rfl, _, rfl, t, _, _, _, rfl, rfl, SqL.of ht1, atI_nat hw1, _, rfl, _, rfl, h, _, _, _, rfl, rfl, SqL.of hh1, atI_nat hw2, d, w1, w2, pr, _, _, rfl, he, ca1, ca2, ?_⟩
      refine ⟨_, rfl, rfl, _, rfl, ?_⟩
      cases hch : chgC pr cs1[i] cs2[j] with
      | none =>
        refine iteF ?_
        refine iteF ?_
        exact ⟨rfl, _, _, rfl⟩
      | some x =>
        refine iteT ?_
        refine ⟨_, rfl, _, rfl, l, _, _, _, rfl, rfl, SqL.of hl, atI_nat (at_map hls), _, rfl, _, rfl, r, _, _, _, rfl, rfl, SqL.of hr1, atI_nat (at_map hrs), _, _, rfl, rfl, _, rfl, _, _, rfl, rfl, _, rfl, ?_⟩
        have hb := F.both i (cs2.map fun c2 => chgC pr cs1[i] c2) _ j _ x (at_map hc) hls hrs (by rw [at_map hc2, hch])
        refine iteFa (by omega) ?_
        exact ⟨rfl, _, _, rfl⟩
    · rintro σ _ ⟨rfl, v7, v8, rfl⟩
      exact ⟨rfl, _, _, _, rfl⟩
  · rintro σ _ ⟨rfl, v6, v7, v8, rfl⟩
    refine ⟨_, rfl, h, _, rfl, .inl (SqL.of hh1), _, rfl, by omega, by omega, fun Dl hD => ?_⟩
    refine lc_map (walk_range (lo := 0) (n := ((vh.length : Nat) : Int).toNat)) hD (fun i v _ => v = .bl true) (by omega) (fun _ _ => trivial) (fun i y H H' _ _ r _ => r) ?_ ?_
    · rintro j x _ Hx Qe hj s hl' ⟨rfl, rfl⟩ kq
      have e0 : (0 : Int) + (j : Int) = (j : Int) := Int.zero_add _
      simp only [e0]
      have lj : j < cs2.length := by omega
      have hc2 : cs2[j]? = some cs2[j] := List.getElem?_eq_getElem lj
      obtain ⟨vs1, b, kv, tt, q, cv, g1, g2, g3, g4, g5⟩ := price_at (hh.mono s) (he.mono s) hc2
      have hrs := getD_at (d := 0) (l := rs) (i := j) (by omega)
      have hle := F.right j _ (pr cs2[j].eff).do_ hrs (at_map hc2)
      refine ⟨rfl, _, rfl, _, rfl, r, _, _, _, rfl, rfl, SqL.of (s _ _ hr1), atI_nat (at_map hrs), _, rfl, _, rfl, _, rfl, h, _, _, _, rfl, rfl, SqL.of g1, atI_nat g2, b, _, 1, _, rfl, rfl, SqT.of g3, rfl, d, _, rfl, g4, q, _, 1, _, rfl, rfl, SqT.of g5, rfl, _, _, rfl, rfl, ?_⟩
      exact kq _ _ (Same.refl _) (congrArg V.bl (decide_eq_true hle))
    · intro Hx zs s2 hzs hlen hR
      have ez : zs = (List.replicate vh.length true).map V.bl := list_of V.bl _ zs (by rw [hlen, List.length_replicate]; omega) fun i v hv => by
        have hi := (List.getElem?_eq_some_iff.mp hv).1
        exact ⟨true, by rw [List.getElem?_replicate, if_pos (by omega)], hR i v hv⟩
      subst ez
      refine ⟨Dl, _, rfl, SqL.of hzs, ?_⟩
      have e : (List.replicate vh.length true).all id = true := by
        rw [List.all_eq_true]
        intro b hb
        rw [List.eq_of_mem_replicate hb]
        all_goals rfl
      rw [e]
      exact k _ s2
end
end K33
namespace K33
open PySem PySem.Spec PyProof.Rows L2
section
variable {P : Program} {w : World} {K : PySem.W.Frag} {mg : Str → Option Value} {base : Heap}
/-! ### _law_least -/
def nLeast : List Str := ["_law_there", "_law_here", "_law_prices_here", "_law_used", "_law_j", "_law_best", "_law_change_here"]
theorem scLeast : FnScope nLeast ["_law_there", "_law_here", "_law_prices_here", "_law_used"] (defScope (top 37)) := ⟨rfl, rfl, rfl, by decide +kernel, rfl, by decide +kernel, by decide +kernel⟩
def leastOf (pr : Str → Price) (cs1 cs2 : List Cll) (used : List Nat) : Int := RP.leastM cs2.length (dC pr cs2) (uC pr) (chC pr cs2) cs1 used
def spLeast (n : Nat) : Sp := fun vs H Q _ => ∃ (t h d u : Addr) (pr : Str → Price) (cs1 cs2 : List Cll) (used : List Nat), vs = [.ref t, .ref h, .ref d, .ref u] ∧ CallsAt H t cs1 ∧ CallsAt H h cs2 ∧ EffsAt H d pr ∧
  H u = some (.lst ((used.map zi).map V.int)) ∧ cs1.length < n ∧ cs1.length ≤ 8 ∧ cs2.length ≤ 8 ∧ used.length + cs1.length ≤ 8 ∧ ∀ H', Same H H' → Q (.int (leastOf pr cs1 cs2 used)) H'
theorem least_none (D : DefAt K mg "_law_least" (top 37)) : Cal P w K mg base 1 "_law_least" (spLeast 0) := by
  refine cal_of D scLeast (fun _ _ _ _ _ _ us hl => match us, hl with | [_, _, _, _], _ => rfl) (fun vs H Q E h => by obtain ⟨t, h, d, u, pr, cs1, cs2, used, rfl, _⟩ := h; rfl) fun f cdv A outer s H vs Q E hr h => ?_
  obtain ⟨t, h, d, u, pr, cs1, cs2, used, _, _, _, _, _, l0, _⟩ := h
  exact absurd l0 (Nat.not_lt_zero _)
theorem calls_drop {H H' : Hp} {t p : Addr} {vs : List V} {cs : List Cll} (h : H t = some (.lst vs)) (b : All2 (CallAt H) vs cs) (s : Same H H') (hp : H' p = some (.lst (cutV vs (some 1) none))) (hl : 1 ≤ vs.length) : CallsAt H' p (cs.drop 1) := by
  have e : cutV vs (some 1) none = vs.drop 1 := cut_from (k := 1) hl
  rw [e] at hp
  exact ⟨_, hp, b.drop1.mono fun v c x => x.mono s⟩
theorem ok_least (B : Bl mg) (Cl : Cal P w K mg base 1 "_law_change" spLChange) (D : DefAt K mg "_law_least" (top 37)) {n : Nat} (R : Cal P w K mg base (n + 1) "_law_least" (spLeast n)) : Cal P w K mg base (n + 2) "_law_least" (spLeast (n + 1)) := by
  refine cal_of D scLeast (fun _ _ _ _ _ _ us hl => match us, hl with | [_, _, _, _], _ => rfl) (fun vs H Q E h => by obtain ⟨t, h, d, u, pr, cs1, cs2, used, rfl, _⟩ := h; rfl) fun f cdv A outer s H vs Q E hr h => ?_
  obtain ⟨t, h, d, u, pr, cs1, cs2, used, rfl, ht, hh, he, hu, l0, l1, l2, l3, k⟩ := h
  have nd := scLeast.nd
  have hu' := hu_of hr
  refine ⟨_, pss_cons (ps_if (pt_cmpR op_eq (pe_callB call_len_seq rfl B.len PySem.boot_len (pa_cons (pv 0) pa_nil)) pe_int (nomark _))
      (pss_one (ps_ret (pe_callB (cr_sum rfl) rfl B.sum boot_sum (pa_cons
        (pe_lc (own := [("_law_j", 4)]) (g := gName 4) (tt := tTest (tOp (rIn K true) (tVar 4) (tVar 3))) (te := tOp (rIxT K) (tDGet (tVar 2) (tOp (rIxT K) (tOp (rIxL K) (tVar 1) (tVar 4)) (tC (.int 1)))) (tC (.int 1))) rfl nd
          (pi_range1 rfl B.range (pa_cons (pe_callB call_len_seq rfl B.len PySem.boot_len (pa_cons (pv 1) pa_nil)) pa_nil)) (blkOk_by (own := [("_law_j", 4)]) (N := nLeast) (sc := defScope (top 37)) (by decide +kernel))
          (fun _ _ _ _ _ => pg_name (i := 4) nd rfl (Or.inl rfl)) (fun _ _ _ _ _ => pts_one (pt_cmpR op_notIn_seq (pv 4) (pv 3) (by rfl)))
          (fun _ _ _ _ _ => pe_ix ix_tup (pe_dget hu' (pv 2) (pe_ix ix_tup (pe_ix ix_list (pv 1) (pv 4) (fun _ _ => rfl)) pe_int (fun _ _ => rfl)) (fun _ _ => rfl)) pe_int (fun _ _ => rfl))) pa_nil)))) pss_nil)
    (pss_cons (ps_set (i := 5) nd rfl (Or.inl rfl) (pe_op op_add (pe_ix ix_tup (pe_dget hu' (pv 2) (pe_ix ix_tup (pe_ix ix_list (pv 0) pe_int (fun _ _ => rfl)) pe_int (fun _ _ => rfl)) (fun _ _ => rfl)) pe_int (fun _ _ => rfl))
      (pe_c R hr (Nat.le_refl _) rfl (pa_cons (pe_slice sl_list (pv 0) (po_some pe_int) po_none) (pa_cons (pv 1) (pa_cons (pv 2) (pa_cons (pv 3) pa_nil)))))))
    (pss_cons (ps_for PassesOwn.never rfl (pi_range1 rfl B.range (pa_cons (pe_callB call_len_seq rfl B.len PySem.boot_len (pa_cons (pv 1) pa_nil)) pa_nil)) (pg_name (i := 4) nd rfl (Or.inl rfl))
      (pss_cons (ps_set (i := 6) nd rfl (Or.inl rfl) (pe_c Cl hr (Nat.le_add_left _ _) rfl (pa_cons (pv 2) (pa_cons (pe_ix ix_list (pv 0) pe_int (fun _ _ => rfl)) (pa_cons (pe_ix ix_list (pv 1) (pv 4) (fun _ _ => rfl)) pa_nil)))))
      (pss_one (ps_if (PW.pt (pw_and (pt_cmpR op_notIn_seq (pv 4) (pv 3) (by rfl)) (pw_and1 (pt_cmpR op_notN (pv 6) pe_non (nomark _)))))
        (pss_one (ps_set (i := 5) nd rfl (Or.inl rfl) (pe_callB (call_min2 rfl) rfl B.min boot_min (pa_cons (pv 5) (pa_cons (pe_op op_add (pv 6)
          (pe_c R hr (Nat.le_refl _) rfl (pa_cons (pe_slice sl_list (pv 0) (po_some pe_int) po_none) (pa_cons (pv 1) (pa_cons (pv 2) (pa_cons (pe_op op_cat (pv 3) (pe_lst (pa_cons (pv 4) pa_nil))) pa_nil)))))) pa_nil))))) pss_nil))))
    (pss_one (ps_ret (pv 5))))), ?_⟩
  obtain ⟨vt, ht1, b1⟩ := id ht
  obtain ⟨vh, hh1, b2⟩ := id hh
  have lvt : vt.length = cs1.length := b1.1
  have lvh : vh.length = cs2.length := b2.1
  refine ⟨_, rfl, t, _, rfl, .inl (SqL.of ht1), rfl, _, rfl, ?_⟩
  cases cs1 with
  | nil =>
    have ez : V.int (vt.length : Nat) = V.int 0 := by rw [lvt]; rfl
    refine iteEq ez ?_
    refine ⟨_, rfl, h, _, rfl, .inl (SqL.of hh1), _, rfl, by omega, by omega, fun Dl hD => ?_⟩
    refine lc_gen (walk_range (lo := 0) (n := ((vh.length : Nat) : Int).toNat)) hD [] (fun H => ∃ l, H Dl = some (.lst l)) (fun j => decide (j ∉ used)) (fun j v _ => v = .int (dC pr cs2 j)) (by omega) (by simp) ⟨_, upd_same⟩ (fun H l _ => ⟨l, upd_same⟩) (fun _ _ _ => trivial) (fun i y H H' _ _ r _ => r) ?_ ?_
    · rintro j x _ Hx Qe Qn hj s1 pz ⟨rfl, rfl⟩ kq kn
      have s := s1.same
      have e0 : (0 : Int) + (j : Int) = (j : Int) := Int.zero_add _
      simp only [e0]
      have lj : j < cs2.length := by omega
      have hc2 : cs2[j]? = some cs2[j] := List.getElem?_eq_getElem lj
      refine ⟨rfl, _, rfl, _, rfl, u, _, rfl, .inl (SqL.of (s _ _ hu)), rfl, flat_nat used, _, rfl, ?_⟩
      by_cases hm : j ∈ used
      · refine iteBf (b := !inV (.int (j : Int)) ((used.map zi).map V.int)) (by rw [inV_nat, decide_eq_true hm]; rfl) ?_
        exact kn (decide_eq_false (fun q => q hm)) _ (Sm.refl _ _) pz
      · refine iteB (b := !inV (.int (j : Int)) ((used.map zi).map V.int)) (by rw [inV_nat, decide_eq_false hm]; rfl) ?_
        obtain ⟨vs1, b, kv, tt, q, cv, g1, g2, g3, g4, g5⟩ := price_at (hh.mono s) (he.mono s) hc2
        refine ⟨_, rfl, _, rfl, _, rfl, h, _, _, _, rfl, rfl, SqL.of g1, atI_nat g2, b, _, 1, _, rfl, rfl, SqT.of g3, rfl, d, _, rfl, g4, q, _, 1, _, rfl, rfl, SqT.of g5, rfl, ?_⟩
        refine kq (decide_eq_true hm) _ _ (Sm.refl _ _) pz ?_
        show V.int (pr cs2[j].eff).do_ = V.int ((cs2.map fun c => (pr c.eff).do_).getD j 0)
        rw [getD_of (at_map hc2)]
    · intro Hx zs s2 pz hzs a2
      have e := list_of V.int (((List.range ((vh.length : Nat) : Int).toNat).filter fun j => decide (j ∉ used)).map (dC pr cs2)) zs (by rw [a2.1, List.length_map]) fun i v hv => by
        obtain ⟨j, hj, e⟩ := a2.of hv
        exact ⟨_, at_map hj, e⟩
      subst e
      refine ⟨Dl, _, rfl, SqL.of hzs, ?_⟩
      have el : ((vh.length : Nat) : Int).toNat = cs2.length := by omega
      rw [el]
      exact k _ s2.same
  | cons c rest =>
    have lvt' : vt.length = rest.length + 1 := lvt
    have hcl : (c :: rest).length = rest.length + 1 := rfl
    refine iteNe (fun e => by have e' : (vt.length : Int) = 0 := V.int.inj e; omega) ?_
    obtain ⟨vs1, b, kv, tt, q, cv, g1, g2, g3, g4, g5⟩ := price_at ht he (i := 0) (c := c) rfl
    rw [ht1] at g1
    cases g1
    refine ⟨_, rfl, _, rfl, t, _, 0, _, rfl, rfl, SqL.of ht1, atI_nat g2, b, _, 1, _, rfl, rfl, SqT.of g3, rfl, d, _, rfl, g4, q, _, 0, _, rfl, rfl, SqT.of g5, rfl, ?_⟩
    refine ⟨_, rfl, _, rfl, t, _, rfl, SqL.of ht1, fun p hp => ?_⟩
    have sp := same_new hp (o := .lst (cutV vt (some 1) none))
    refine ⟨_, rfl, _, rfl, _, rfl, p, h, d, u, pr, rest, cs2, used, rfl, calls_drop ht1 b1 sp upd_same (by omega), hh.mono sp, he.mono sp, sp _ _ hu, by omega, by omega, l2, by omega, fun H1 s1 => ?_⟩
    have t1 := sp.trans s1
    refine ⟨_, _, rfl, rfl, ?_⟩
    refine ⟨_, rfl, h, _, rfl, .inl (SqL.of (t1 _ _ hh1)), _, rfl, by omega, by omega, ?_⟩
    refine for_range (lo := 0) (n := ((vh.length : Nat) : Int).toNat) (fun i σ H' => Same H H' ∧ ∃ v4 v6, σ = [some (.ref t), some (.ref h), some (.ref d), some (.ref u), v4,
        some (.int ((List.range i).foldl (RP.leastStep (chC pr cs2 c) used fun j => leastOf pr rest cs2 (used ++ [j])) ((pr c.eff).undo + leastOf pr rest cs2 used))), v6]) ⟨t1, _, _, rfl⟩ ?_ ?_
    · rintro j σ H' hj ⟨s, v4, v6, rfl⟩
      rw [Int.zero_add]
      have lj : j < cs2.length := by omega
      have hc2 : cs2[j]? = some cs2[j] := List.getElem?_eq_getElem lj
      obtain ⟨w1, hw1, ca1⟩ := b1.at_ (i := 0) (c := c) rfl
      obtain ⟨w2, hw2, ca2⟩ := b2.at_ hc2
      have ech : chC pr cs2 c j = chgC pr c cs2[j] := by
        show (cs2.map fun c2 => chgC pr c c2).getD j none = _
        rw [getD_of (at_map hc2)]
      rw [List.range_succ, List.foldl_append]
      generalize (List.range j).foldl (RP.leastStep (chC pr cs2 c) used fun j => leastOf pr rest cs2 (used ++ [j])) ((pr c.eff).undo + leastOf pr rest cs2 used) = best
      refine ⟨_, rfl, _, rfl, t, _, 0, _, rfl, rfl, SqL.of (s _ _ ht1), atI_nat hw1, _, rfl, _, rfl, h, _, _, _, rfl, rfl, SqL.of (s _ _ hh1), atI_nat hw2, d, w1, w2, pr, c, _, rfl, he.mono s, ca1.mono s, ca2.mono s, ?_⟩
      refine ⟨_, rfl, _, rfl, u, _, rfl, .inl (SqL.of (s _ _ hu)), rfl, flat_nat used, _, rfl, ?_⟩
      by_cases hm : j ∈ used
      · refine iteBf (b := !inV (.int (j : Int)) ((used.map zi).map V.int)) (by rw [inV_nat, decide_eq_true hm]; rfl) ?_
        refine iteF ?_
        refine ⟨s, some (.int (j : Int)), some (optV (chgC pr c cs2[j])), ?_⟩
        rw [List.foldl_cons, List.foldl_nil]
        unfold RP.leastStep
        rw [if_pos hm]
        all_goals rfl
      · refine iteB (b := !inV (.int (j : Int)) ((used.map zi).map V.int)) (by rw [inV_nat, decide_eq_false hm]; rfl) ?_
        refine ⟨_, rfl, rfl, _, rfl, ?_⟩
        cases hch : chgC pr c cs2[j] with
        | none =>
          refine iteF ?_
          refine ⟨s, some (.int (j : Int)), some (optV none), ?_⟩
          rw [List.foldl_cons, List.foldl_nil]
          unfold RP.leastStep
          rw [if_neg hm, ech, hch]
          all_goals rfl
        | some x =>
          refine iteT ?_
          refine ⟨_, rfl, _, rfl, _, rfl, _, rfl, t, _, rfl, SqL.of (s _ _ ht1), fun p2 hp2 => ?_⟩
          have sp2 := s.trans (same_new hp2 (o := .lst (cutV vt (some 1) none)))
          refine ⟨_, rfl, _, rfl, _, rfl, _, rfl, by show 1 ≤ sizeLine; decide, fun p3 hp3 => ?_⟩
          have sp3 := sp2.trans (same_new hp3 (o := .lst [.int (j : Int)]))
          refine ⟨u, p3, _, _, rfl, rfl, sp3 _ _ hu, upd_same, sz (by rw [List.length_map, List.length_map]; show used.length + 1 ≤ 100000; omega), fun p4 hp4 => ?_⟩
          have sp4 := sp3.trans (same_new hp4 (o := .lst ((used.map zi).map V.int ++ [.int (j : Int)])))
          have h2 : ∀ o, (upd (upd (upd H' p2 (.lst (cutV vt (some 1) none))) p3 (.lst [.int (j : Int)])) p4 o) p2 = some (.lst (cutV vt (some 1) none)) := fun o => by
            have n23 : p2 ≠ p3 := ne_of_none upd_same hp3
            have n24 : p2 ≠ p4 := ne_of_none ((upd_ne n23).trans upd_same) hp4
            rw [upd_ne n24, upd_ne n23, upd_same]
          refine ⟨p2, h, d, p4, pr, rest, cs2, used ++ [j], rfl, calls_drop ht1 b1 sp4 (h2 _) (by omega), hh.mono sp4, he.mono sp4, ?_, by omega, by omega, l2, by rw [List.length_append, List.length_singleton]; omega, fun H5 s5 => ?_⟩
          · rw [upd_same, List.map_append, List.map_append]
            all_goals rfl
          refine ⟨_, _, rfl, rfl, _, _, rfl, ?_⟩
          refine ⟨sp4.trans s5, some (.int (j : Int)), some (optV (some x)), ?_⟩
          rw [List.foldl_cons, List.foldl_nil]
          unfold RP.leastStep
          rw [if_neg hm, ech, hch]
          all_goals rfl
    · rintro σ H' ⟨s, v4, v6, rfl⟩
      refine ⟨_, rfl, ?_⟩
      have el : ((vh.length : Nat) : Int).toNat = cs2.length := by omega
      rw [el]
      exact k _ s
theorem least_all (B : Bl mg) (Cl : Cal P w K mg base 1 "_law_change" spLChange) (D : DefAt K mg "_law_least" (top 37)) : ∀ n : Nat, Cal P w K mg base (n + 1) "_law_least" (spLeast n)
  | 0 => least_none D
  | n + 1 => ok_least B Cl D (least_all B Cl D n)
end
end K33
namespace K33
open PySem PySem.Spec PyProof.Rows L2
theorem All2.app {β : Type} {R : V → β → Prop} {vs ws : List V} {cs es : List β} (h : All2 R vs cs) (h2 : All2 R ws es) : All2 R (vs ++ ws) (cs ++ es) := by
  refine ⟨by rw [List.length_append, List.length_append, h.1, h2.1], fun i v c a b => ?_⟩
  have hl := h.1
  by_cases e : i < vs.length
  · rw [List.getElem?_append_left e] at a
    rw [List.getElem?_append_left (by omega)] at b
    exact h.2 i v c a b
  · rw [List.getElem?_append_right (by omega)] at a
    rw [List.getElem?_append_right (by omega), ← hl] at b
    exact h2.2 _ v c a b
theorem All2.mapR {β γ : Type} {R : V → γ → Prop} {g : β → γ} {vs : List V} {cs : List β} (h : All2 (fun v c => R v (g c)) vs cs) : All2 R vs (cs.map g) := by
  refine ⟨by rw [List.length_map, h.1], fun i v c a b => ?_⟩
  obtain ⟨x, hx, rfl⟩ := map_at b
  exact h.2 i v x a hx
theorem used_snoc (ch : List (Option Nat)) (o : Option Nat) : RP.usedOf (ch ++ [o]) = RP.usedOf ch ++ o.toList := by
  unfold RP.usedOf
  rw [List.filterMap_append]
  cases o <;> rfl
/-- what changes is a list: tuples and dicts stand -/
theorem CallsAt.sm {H H' : Hp} {r t : Addr} {cs : List Cll} (h : CallsAt H t cs) (ne : t ≠ r) (hr : ∃ l, H r = some (.lst l)) (s : Sm [r] H H') : CallsAt H' t cs := by
  obtain ⟨l, hr⟩ := hr
  obtain ⟨vs, q, a⟩ := h
  refine ⟨vs, lst_sm ne s q, a.mono fun v c x => ?_⟩
  obtain ⟨b, kv, u, rfl, g1, g2, ok⟩ := x
  exact ⟨b, kv, u, rfl, tup_smL hr s g1, tup_smL hr s g2, ok⟩
theorem EffsAt.sm {H H' : Hp} {r d : Addr} {pr : Str → Price} (h : EffsAt H d pr) (hr : RowL H r) (s : Sm [r] H H') : EffsAt H' d pr := by
  obtain ⟨kvs, q, b, f⟩ := h
  obtain ⟨zs, e⟩ := id hr
  have ne : d ≠ r := ne_of q e (fun z => by cases z)
  refine ⟨kvs, lst_sm ne s q, b, fun e he => ?_⟩
  obtain ⟨v, x, y, z⟩ := f e he
  exact ⟨v, x, y.sm hr s, z⟩
section
variable {P : Program} {w : World} {K : PySem.W.Frag} {mg : Str → Option Value} {base : Heap}
/-! ### _law_drawn_deeds -/
def nDrawn : List Str := ["_law_row", "_law_there", "_law_here", "_law_prices_here", "_law_deeds", "_law_used", "_law_i", "_law_j"]
theorem scDrawn : FnScope nDrawn ["_law_row", "_law_there", "_law_here", "_law_prices_here"] (defScope (top 38)) := ⟨rfl, rfl, rfl, by decide +kernel, rfl, by decide +kernel, by decide +kernel⟩
structure DrawnOk (pr : Str → Price) (cs1 cs2 : List Cll) (ch : List (Option Nat)) : Prop where
  at_ : ∀ (i : Nat) (a : Cll) (j : Nat), cs1[i]? = some a → ch[i]? = some (some j) → j < cs2.length ∧ (chC pr cs2 a j).isSome = true
  nd : (RP.usedOf ch).Nodup
theorem DrawnOk.snoc {pr : Str → Price} {cs1 cs2 : List Cll} {ch : List (Option Nat)} {o : Option Nat} (h : DrawnOk pr cs1 cs2 ch) (hl : ch.length < cs1.length)
    (ho : ∀ j, o = some j → j ∉ RP.usedOf ch ∧ j < cs2.length ∧ ∀ a, cs1[ch.length]? = some a → (chC pr cs2 a j).isSome = true) : DrawnOk pr cs1 cs2 (ch ++ [o]) := by
  refine ⟨fun i a j ha hj => ?_, ?_⟩
  · by_cases e : i < ch.length
    · rw [List.getElem?_append_left e] at hj
      exact h.at_ i a j ha hj
    · have li := (List.getElem?_eq_some_iff.mp hj).1
      rw [List.length_append, List.length_singleton] at li
      have ei : i = ch.length := by omega
      subst ei
      rw [List.getElem?_append_right (Nat.le_refl _)] at hj
      have eo : o = some j := by simpa using hj
      obtain ⟨_, h1, h2⟩ := ho j eo
      exact ⟨h1, h2 a ha⟩
  · rw [used_snoc]
    cases o with
    | none => simpa using h.nd
    | some j =>
      have hj := (ho j rfl).1
      refine List.nodup_append.mpr ⟨h.nd, by simp, ?_⟩
      intro a ha b hb e
      have eb : b = j := by simpa using hb
      exact hj (by rw [← eb, ← e]; exact ha)
def spDrawn : Sp := fun vs H Q _ => ∃ (r t h d : Addr) (pr : Str → Price) (cs1 cs2 : List Cll), vs = [.ref r, .ref t, .ref h, .ref d] ∧ RowL H r ∧ t ≠ r ∧ h ≠ r ∧ CallsAt H t cs1 ∧ CallsAt H h cs2 ∧ EffsAt H d pr ∧ cs1.length ≤ 8 ∧ cs2.length ≤ 8 ∧
  ∀ (x : Addr) H' ch, Sm [r] H H' → RowL H' r → x ≠ r → DeedsAt H' x (deedsOf cs2.length ch) → ch.length = cs1.length → DrawnOk pr cs1 cs2 ch → Q (.ref x) H'
theorem ok_drawn (B : Bl mg) (Ct : Cal P w K mg base 1 "_law_take" spTake) (Cl : Cal P w K mg base 1 "_law_change" spLChange) (D : DefAt K mg "_law_drawn_deeds" (top 38)) : Cal P w K mg base 2 "_law_drawn_deeds" spDrawn := by
  refine cal_of D scDrawn (fun _ _ _ _ _ _ us hl => match us, hl with | [_, _, _, _], _ => rfl) (fun vs H Q E h => by obtain ⟨r, t, h, d, pr, cs1, cs2, rfl, _⟩ := h; rfl) fun f cdv A outer s H vs Q E hr h => ?_
  obtain ⟨r, t, h, d, pr, cs1, cs2, rfl, hrow, ntr, nhr, ht, hh, he, l1, l2, k⟩ := h
  have nd := scDrawn.nd
  refine ⟨_, pss_cons (ps_set (i := 4) nd rfl (Or.inl rfl) (pe_lst pa_nil))
    (pss_cons (ps_set (i := 5) nd rfl (Or.inr rfl) (pe_lst pa_nil))
    (pss_cons (ps_for PassesOwn.never rfl (pi_range1 rfl B.range (pa_cons (pe_callB call_len_seq rfl B.len PySem.boot_len (pa_cons (pv 1) pa_nil)) pa_nil)) (pg_name (i := 6) nd rfl (Or.inl rfl))
      (pss_cons (ps_set (i := 7) nd rfl (Or.inl rfl) (pe_c Ct hr (by decide) rfl (pa_cons (pv 0) (pa_cons pe_int pa_nil))))
      (pss_one (ps_if (PW.pt (pw_and (pt_cmpR op_lt (pv 7) (pe_callB call_len_seq rfl B.len PySem.boot_len (pa_cons (pv 2) pa_nil)) (nomark _)) (pw_and (pt_cmpR op_notIn_seq (pv 7) (pv 5) (by rfl))
          (pw_and1 (pt_cmpR op_notN (pe_c Cl hr (by decide) rfl (pa_cons (pv 3) (pa_cons (pe_ix ix_list (pv 1) (pv 6) (fun _ _ => rfl)) (pa_cons (pe_ix ix_list (pv 2) (pv 7) (fun _ _ => rfl)) pa_nil)))) pe_non (nomark _))))))
        (pss_cons (ps_expr (pe_bm PySem.F.plainAttrs_list PySem.F.slot_list_append PySem.F.type_list_append mt_append (pv 4) (pa_cons (pe_tup (pa_cons pe_str (pa_cons (pv 6) (pa_cons (pv 7) pa_nil)))) pa_nil)))
          (pss_one (ps_expr (pe_bm PySem.F.plainAttrs_list PySem.F.slot_list_append PySem.F.type_list_append mt_append (pv 5) (pa_cons (pv 7) pa_nil)))))
        (pss_one (ps_expr (pe_bm PySem.F.plainAttrs_list PySem.F.slot_list_append PySem.F.type_list_append mt_append (pv 4) (pa_cons (pe_tup (pa_cons pe_str (pa_cons (pv 6) pa_nil))) pa_nil))))))))
    (pss_one (ps_ret (pe_op op_cat (pv 4)
      (pe_lc (own := [("_law_j", 7)]) (g := gName 7) (tt := tTest (tOp (rIn K true) (tVar 7) (tVar 5))) (te := tTup (tCons (tC (.str "do")) (tCons (tVar 7) tNil))) rfl nd
        (pi_range1 rfl B.range (pa_cons (pe_callB call_len_seq rfl B.len PySem.boot_len (pa_cons (pv 2) pa_nil)) pa_nil)) (blkOk_by (own := [("_law_j", 7)]) (N := nDrawn) (sc := defScope (top 38)) (by decide +kernel))
        (fun _ _ _ _ _ => pg_name (i := 7) nd rfl (Or.inl rfl)) (fun _ _ _ _ _ => pts_one (pt_cmpR op_notIn_seq (pv 7) (pv 5) (by rfl)))
        (fun _ _ _ _ _ => pe_tup (pa_cons pe_str (pa_cons (pv 7) pa_nil))))))))), ?_⟩
  obtain ⟨zs0, hz0⟩ := id hrow
  refine ⟨Nat.zero_le _, fun D hD => ?_⟩
  have s1 := same_new hD (o := .lst [])
  refine ⟨Nat.zero_le _, fun U hU => ?_⟩
  have s2 := s1.trans (same_new hU (o := .lst []))
  have hU0 : H U = none := Same.free s1 hU
  have nDU : D ≠ U := ne_of_none upd_same hU
  have nDr : D ≠ r := fun e => by rw [e, hz0] at hD; cases hD
  have nUr : U ≠ r := fun e => by rw [e, hz0] at hU0; cases hU0
  obtain ⟨vt, ht1, b1⟩ := id ht
  obtain ⟨vh, hh1, b2⟩ := id hh
  have lvt : vt.length = cs1.length := b1.1
  have lvh : vh.length = cs2.length := b2.1
  refine ⟨_, rfl, t, _, rfl, .inl (SqL.of (s2 _ _ ht1)), _, rfl, by omega, by omega, ?_⟩
  refine for_range (lo := 0) (n := ((vt.length : Nat) : Int).toNat) (fun i σ H' => Sm [r] H H' ∧ RowL H' r ∧ ∃ (ch : List (Option Nat)) (ys : List V) (v6 v7 : Option V), ch.length = i ∧ DrawnOk pr cs1 cs2 ch ∧ H' D = some (.lst ys) ∧ H' U = some (.lst (((RP.usedOf ch).map zi).map V.int)) ∧ All2 (DeedAt H') ys (headDeeds ch) ∧
      σ = [some (.ref r), some (.ref t), some (.ref h), some (.ref d), some (.ref D), some (.ref U), v6, v7])
    ⟨s2.sm [r], ⟨zs0, s2 _ _ hz0⟩, [], [], none, none, rfl, ⟨fun i a j _ z => (by simp at z), by simp [RP.usedOf]⟩, (upd_ne nDU).trans upd_same, upd_same, All2.nil, rfl⟩ ?_ ?_
  · rintro i σ H' hi ⟨s, hr', ch, ys, v6, v7, lch, dk, hDy, hUy, ay, rfl⟩
    rw [Int.zero_add]
    have li : i < cs1.length := by omega
    have yl : ys.length ≤ 100 := by
      rw [ay.1]
      unfold headDeeds
      rw [List.length_mapIdx]
      omega
    refine ⟨_, rfl, r, 6, rfl, by decide, hr', fun z H1 s1 hr1 z0 z6 => ?_⟩
    obtain ⟨j, rfl⟩ := Int.eq_ofNat_of_zero_le z0
    have t1 := s.trans s1
    have hz := hr'
    have hD1 := lst_sm nDr s1 hDy
    have hU1 := lst_sm nUr s1 hUy
    have ay1 : All2 (DeedAt H1) ys (headDeeds ch) := ay.mono fun v dd x => by
      obtain ⟨a, e, q⟩ := x
      exact ⟨a, e, tup_sm hr' s1 q⟩
    have ht2 := ht.sm ntr ⟨_, hz0⟩ t1
    have hh2 := hh.sm nhr ⟨_, hz0⟩ t1
    have he2 := he.sm hrow t1
    obtain ⟨vt2, ht3, c1⟩ := id ht2
    obtain ⟨vh2, hh3, c2⟩ := id hh2
    have lvh2 : vh2.length = cs2.length := c2.1
    -- the branch that undoes
    have elseB : DrawnOk pr cs1 cs2 (ch ++ [none]) := dk.snoc (by omega) fun j e => by cases e
    have ec : cs1[i]? = some cs1[i] := List.getElem?_eq_getElem li
    have finU : ∀ tt, H1 tt = none → Sm [r] H (upd (upd H1 tt (.tup [.str "undo", .int (i : Int)])) D (.lst (ys ++ [.ref tt]))) ∧ RowL (upd (upd H1 tt (.tup [.str "undo", .int (i : Int)])) D (.lst (ys ++ [.ref tt]))) r ∧
        upd (upd H1 tt (.tup [.str "undo", .int (i : Int)])) D (.lst (ys ++ [.ref tt])) U = some (.lst (((RP.usedOf (ch ++ [none])).map zi).map V.int)) ∧ All2 (DeedAt (upd (upd H1 tt (.tup [.str "undo", .int (i : Int)])) D (.lst (ys ++ [.ref tt])))) (ys ++ [.ref tt]) (headDeeds (ch ++ [none])) := fun tt htt => by
      have st := same_new htt (o := .tup [.str "undo", .int (i : Int)])
      have nt : tt ≠ D := fun e => by rw [e, hD1] at htt; cases htt
      obtain ⟨zs1, hz1⟩ := hr1
      refine ⟨(t1.trans (st.sm [r])).mut hD, ⟨zs1, (upd_ne nDr.symm).trans (st _ _ hz1)⟩, ?_, ?_⟩
      · rw [used_snoc]
        show _ = some (HO.lst (((RP.usedOf ch ++ []).map zi).map V.int))
        rw [List.append_nil]
        exact (upd_ne nDU.symm).trans (st _ _ hU1)
      · rw [headDeeds_snoc, lch]
        have keep : Sm [D] H1 (upd (upd H1 tt (.tup [.str "undo", .int (i : Int)])) D (.lst (ys ++ [.ref tt]))) := (st.sm [D]).put (List.mem_singleton.mpr rfl)
        exact All2.snoc (ay1.mono fun v d x => x.sm hD1 keep) ⟨tt, rfl, (upd_ne nt).trans upd_same⟩
    refine ⟨_, rfl, _, rfl, h, _, rfl, .inl (SqL.of hh3), _, _, rfl, rfl, _, rfl, ?_⟩
    by_cases hlt : (j : Int) < (vh2.length : Int)
    · have lj : j < cs2.length := by omega
      refine iteTr hlt ?_
      refine ⟨_, rfl, _, rfl, U, _, rfl, .inl (SqL.of hU1), rfl, flat_nat _, _, rfl, ?_⟩
      by_cases hm : j ∈ RP.usedOf ch
      · refine iteBf (b := !inV (.int (j : Int)) (((RP.usedOf ch).map zi).map V.int)) (by rw [inV_nat, decide_eq_true hm]; rfl) ?_
        refine iteF ?_
        refine ⟨_, rfl, .inl ⟨rfl, _, SqL.of hD1⟩, _, rfl, by show 2 ≤ sizeLine; decide, fun tt htt => ?_⟩
        have st := same_new htt (o := .tup [.str "undo", .int (i : Int)])
        refine ⟨D, _, _, rfl, rfl, st _ _ hD1, szl (by omega), ?_⟩
        obtain ⟨f1, f2, f3, f4⟩ := finU tt htt
        exact ⟨f1, f2, _, _, _, _, by rw [List.length_append, lch]; rfl, elseB, upd_same, f3, f4, rfl⟩
      · refine iteB (b := !inV (.int (j : Int)) (((RP.usedOf ch).map zi).map V.int)) (by rw [inV_nat, decide_eq_false hm]; rfl) ?_
        have hc2 : cs2[j]? = some cs2[j] := List.getElem?_eq_getElem lj
        obtain ⟨w1, hw1, ca1⟩ := c1.at_ ec
        obtain ⟨w2, hw2, ca2⟩ := c2.at_ hc2
        have ech : chC pr cs2 cs1[i] j = chgC pr cs1[i] cs2[j] := by
          show (cs2.map fun c2 => chgC pr cs1[i] c2).getD j none = _
          rw [getD_of (at_map hc2)]
        refine ⟨_, rfl, _, rfl, _, rfl, t, _, _, _, rfl, rfl, SqL.of ht3, atI_nat hw1, _, rfl, _, rfl, h, _, _, _, rfl, rfl, SqL.of hh3, atI_nat hw2, d, w1, w2, pr, cs1[i], _, rfl, he2, ca1, ca2, ?_⟩
        refine ⟨rfl, _, rfl, ?_⟩
        cases hch : chgC pr cs1[i] cs2[j] with
        | none =>
          refine iteF ?_
          refine ⟨_, rfl, .inl ⟨rfl, _, SqL.of hD1⟩, _, rfl, by show 2 ≤ sizeLine; decide, fun tt htt => ?_⟩
          have st := same_new htt (o := .tup [.str "undo", .int (i : Int)])
          refine ⟨D, _, _, rfl, rfl, st _ _ hD1, szl (by omega), ?_⟩
          obtain ⟨f1, f2, f3, f4⟩ := finU tt htt
          exact ⟨f1, f2, _, _, _, _, by rw [List.length_append, lch]; rfl, elseB, upd_same, f3, f4, rfl⟩
        | some x =>
          refine iteT ?_
          refine ⟨_, rfl, .inl ⟨rfl, _, SqL.of hD1⟩, _, rfl, _, rfl, by show 3 ≤ sizeLine; decide, fun tt htt => ?_⟩
          have st := same_new htt (o := .tup [.str "change", .int (i : Int), .int (j : Int)])
          have nt : tt ≠ D := fun e => by rw [e, hD1] at htt; cases htt
          have ntU : tt ≠ U := fun e => by rw [e, hU1] at htt; cases htt
          refine ⟨D, _, _, rfl, rfl, st _ _ hD1, szl (by omega), ?_⟩
          have hU3 : upd (upd H1 tt (.tup [.str "change", .int (i : Int), .int (j : Int)])) D (.lst (ys ++ [.ref tt])) U = some (.lst (((RP.usedOf ch).map zi).map V.int)) := (upd_ne nDU.symm).trans (st _ _ hU1)
          have ul : (RP.usedOf ch).length ≤ ch.length := List.length_filterMap_le _ _
          refine ⟨_, rfl, .inl ⟨rfl, _, SqL.of hU3⟩, _, rfl, U, _, _, rfl, rfl, hU3, szl (by rw [List.length_map, List.length_map]; omega), ?_⟩
          obtain ⟨zs1, hz1⟩ := hr1
          refine ⟨((t1.trans (st.sm [r])).mut hD).mut hU0, ⟨zs1, (upd_ne nUr.symm).trans ((upd_ne nDr.symm).trans (st _ _ hz1))⟩, ch ++ [some j], _, _, _, by rw [List.length_append, lch]; rfl, ?_, (upd_ne nDU).trans upd_same, ?_, ?_, rfl⟩
          · refine dk.snoc (by omega) fun j' e => ?_
            cases e
            refine ⟨hm, lj, fun a ha => ?_⟩
            rw [lch, ec] at ha
            cases ha
            rw [ech, hch]
            all_goals rfl
          · rw [upd_same, used_snoc, List.map_append, List.map_append]
            all_goals rfl
          · rw [headDeeds_snoc, lch]
            have keep : Sm [D] H1 (upd (upd H1 tt (.tup [.str "change", .int (i : Int), .int (j : Int)])) D (.lst (ys ++ [.ref tt]))) := (st.sm [D]).put (List.mem_singleton.mpr rfl)
            have keep2 : Sm [U] (upd (upd H1 tt (.tup [.str "change", .int (i : Int), .int (j : Int)])) D (.lst (ys ++ [.ref tt]))) (upd (upd (upd H1 tt (.tup [.str "change", .int (i : Int), .int (j : Int)])) D (.lst (ys ++ [.ref tt]))) U (.lst (((RP.usedOf ch).map zi).map V.int ++ [.int (j : Int)]))) := (Sm.refl _ _).put (List.mem_singleton.mpr rfl)
            exact (All2.snoc (ay1.mono fun v d x => x.sm hD1 keep) ⟨tt, rfl, (upd_ne nt).trans upd_same⟩).mono fun v d x => x.sm hU3 keep2
    · refine iteFa hlt ?_
      refine iteF ?_
      refine ⟨_, rfl, .inl ⟨rfl, _, SqL.of hD1⟩, _, rfl, by show 2 ≤ sizeLine; decide, fun tt htt => ?_⟩
      have st := same_new htt (o := .tup [.str "undo", .int (i : Int)])
      refine ⟨D, _, _, rfl, rfl, st _ _ hD1, szl (by omega), ?_⟩
      obtain ⟨f1, f2, f3, f4⟩ := finU tt htt
      exact ⟨f1, f2, _, _, _, _, by rw [List.length_append, lch]; rfl, elseB, upd_same, f3, f4, rfl⟩
  · rintro σ H' ⟨s, hr', ch, ys, v6, v7, lch, dk, hDy, hUy, ay, rfl⟩
    have lch' : ch.length = cs1.length := by omega
    have hh2 := hh.sm nhr ⟨_, hz0⟩ s
    obtain ⟨vh2, hh3, c2⟩ := id hh2
    have lvh2 : vh2.length = cs2.length := c2.1
    obtain ⟨zs1, hz1⟩ := hr'
    refine ⟨_, rfl, _, rfl, h, _, rfl, .inl (SqL.of hh3), _, rfl, by omega, by omega, fun Dl hDl => ?_⟩
    refine lc_gen (walk_range (lo := 0) (n := ((vh2.length : Nat) : Int).toNat)) hDl [] (fun H => ∃ l, H Dl = some (.lst l)) (fun j => decide (j ∉ RP.usedOf ch)) (fun j v H => DeedAt H v (.do_ j)) (by omega) (by simp) ⟨_, upd_same⟩ (fun H l _ => ⟨l, upd_same⟩) (fun _ _ _ => trivial)
      (fun i y H H' _ hl r s => by obtain ⟨l, hl⟩ := hl; exact r.sm hl s) ?_ ?_
    · rintro j x _ Hx Qe Qn hj s1 pz ⟨rfl, rfl⟩ kq kn
      have s3 := s1.same
      have e0 : (0 : Int) + (j : Int) = (j : Int) := Int.zero_add _
      simp only [e0]
      refine ⟨rfl, _, rfl, _, rfl, U, _, rfl, .inl (SqL.of (s3 _ _ hUy)), rfl, flat_nat _, _, rfl, ?_⟩
      by_cases hm : j ∈ RP.usedOf ch
      · refine iteBf (b := !inV (.int (j : Int)) (((RP.usedOf ch).map zi).map V.int)) (by rw [inV_nat, decide_eq_true hm]; rfl) ?_
        exact kn (decide_eq_false (fun q => q hm)) _ (Sm.refl _ _) pz
      · refine iteB (b := !inV (.int (j : Int)) (((RP.usedOf ch).map zi).map V.int)) (by rw [inV_nat, decide_eq_false hm]; rfl) ?_
        refine ⟨_, rfl, by show 2 ≤ sizeLine; decide, fun tt htt => ?_⟩
        obtain ⟨l, hl⟩ := pz
        exact kq (decide_eq_true hm) _ _ (Sm.new htt) ⟨l, (same_new htt) _ _ hl⟩ ⟨tt, rfl, upd_same⟩
    · intro Hx ws s4 pz hws a2
      have s5 := s4.same
      have el : ((vh2.length : Nat) : Int).toNat = cs2.length := by omega
      rw [el] at a2
      have ly : ys.length ≤ 100 := by
        rw [ay.1]
        unfold headDeeds
        rw [List.length_mapIdx]
        omega
      have lw : ws.length ≤ 100 := by
        rw [a2.1]
        have := List.length_filter_le (fun j => decide (j ∉ RP.usedOf ch)) (List.range cs2.length)
        rw [List.length_range] at this
        omega
      refine ⟨D, Dl, _, _, rfl, rfl, s5 _ _ hDy, hws, sz (by omega), fun p hp => ?_⟩
      have s6 := s5.trans (same_new hp (o := .lst (ys ++ ws)))
      refine k p _ ch (s.trans (s6.sm [r])) ⟨zs1, s6 _ _ hz1⟩ (fun e => by rw [e, s5 _ _ hz1] at hp; cases hp) ⟨_, upd_same, ?_⟩ lch' dk
      unfold deedsOf tailDeeds
      exact (ay.mono fun v d x => x.mono s6).app ((a2.mono fun v j x => x.mono (same_new hp)).mapR)
end
end K33
namespace K33
open PySem PySem.Spec PyProof.Rows L2
theorem headDeeds_len (ch : List (Option Nat)) : (headDeeds ch).length = ch.length := List.length_mapIdx
theorem tailDeeds_len (m : Nat) (ch : List (Option Nat)) : (tailDeeds m ch).length ≤ m := by
  unfold tailDeeds
  rw [List.length_map]
  have := List.length_filter_le (fun j => decide (j ∉ RP.usedOf ch)) (List.range m)
  rw [List.length_range] at this
  exact this
def freeOf (m : Nat) (ch : List (Option Nat)) : List Nat := (List.range m).filter fun j => decide (j ∉ RP.usedOf ch)
theorem tail_free (m : Nat) (ch : List (Option Nat)) : tailDeeds m ch = (freeOf m ch).map Deed.do_ := rfl
theorem deed_head {m : Nat} {ch : List (Option Nat)} {i : Nat} {d : Deed} (h : i < ch.length) (e : (deedsOf m ch)[i]? = some d) : ∃ o, d = deedI i o := by
  unfold deedsOf at e
  rw [List.getElem?_append_left (by rw [headDeeds_len]; exact h)] at e
  unfold headDeeds at e
  rw [List.getElem?_mapIdx] at e
  obtain ⟨o, _, e2⟩ := Option.map_eq_some_iff.mp e
  exact ⟨o, e2.symm⟩
theorem deed_tail {m : Nat} {ch : List (Option Nat)} {i : Nat} {d : Deed} (h : ¬ i < ch.length) (e : (deedsOf m ch)[i]? = some d) : ∃ j, (freeOf m ch)[i - ch.length]? = some j ∧ d = .do_ j := by
  unfold deedsOf at e
  rw [List.getElem?_append_right (by rw [headDeeds_len]; omega), headDeeds_len, tail_free] at e
  exact map_at e
theorem range_head {L t : Nat} : (List.range (L + t)).filter (fun i => decide (i < L)) = List.range L := by
  rw [List.range_add, List.filter_append]
  have e1 : (List.range L).filter (fun i => decide (i < L)) = List.range L := List.filter_eq_self.mpr fun a ha => decide_eq_true (List.mem_range.mp ha)
  have e2 : ((List.range t).map (L + ·)).filter (fun i => decide (i < L)) = [] := List.filter_eq_nil_iff.mpr fun a ha => by
    obtain ⟨b, _, rfl⟩ := List.mem_map.mp ha
    simp
  rw [e1, e2, List.append_nil]
theorem range_tail {L t : Nat} : (List.range (L + t)).filter (fun i => !decide (i < L)) = (List.range t).map (L + ·) := by
  rw [List.range_add, List.filter_append]
  have e1 : (List.range L).filter (fun i => !decide (i < L)) = [] := List.filter_eq_nil_iff.mpr fun a ha => by
    have := List.mem_range.mp ha
    simp [this]
  have e2 : ((List.range t).map (L + ·)).filter (fun i => !decide (i < L)) = (List.range t).map (L + ·) := List.filter_eq_self.mpr fun a ha => by
    obtain ⟨b, _, rfl⟩ := List.mem_map.mp ha
    simp
  rw [e1, e2, List.nil_append]
theorem free_sorted (m : Nat) (ch : List (Option Nat)) : ((freeOf m ch).map zi).Pairwise (· ≤ ·) := by
  unfold freeOf
  have h : ((List.range m).filter fun j => decide (j ∉ RP.usedOf ch)).Pairwise (· < ·) := List.Pairwise.filter _ List.pairwise_lt_range
  refine List.pairwise_map.mpr (h.imp ?_)
  intro a b h
  show (a : Int) ≤ (b : Int)
  omega
def kinds (L t : Nat) : List Int := List.replicate L 0 ++ List.replicate t 1
theorem kinds_sorted (L t : Nat) : (kinds L t).Pairwise (· ≤ ·) := by
  unfold kinds
  refine List.pairwise_append.mpr ⟨List.pairwise_replicate.mpr (.inr (Int.le_refl _)), List.pairwise_replicate.mpr (.inr (Int.le_refl _)), ?_⟩
  intro a ha b hb
  rw [List.eq_of_mem_replicate ha, List.eq_of_mem_replicate hb]
  decide
theorem kinds_at {L t i : Nat} (h : i < L + t) : (kinds L t)[i]? = some (if i < L then 0 else 1) := by
  unfold kinds
  by_cases e : i < L
  · rw [List.getElem?_append_left (by rw [List.length_replicate]; exact e), List.getElem?_replicate, if_pos e, if_pos e]
  · rw [List.getElem?_append_right (by rw [List.length_replicate]; omega), List.length_replicate, List.getElem?_replicate, if_pos (by omega), if_neg e]
theorem at0 {x : V} {r : List V} : atI (x :: r) 0 = some x := atI_nat (j := 0) rfl
theorem at1 {x y : V} {r : List V} : atI (x :: y :: r) 1 = some y := atI_nat (j := 1) rfl
/-- the tag and the first number of a deed -/
structure TagAt (L i : Nat) (fr : List Nat) (xs : List V) : Prop where
  ex : ∃ (tag : Str) (x : Int) (r : List V), xs = .str tag :: .int x :: r ∧ (i < L → tag ≠ "do" ∧ x = (i : Int)) ∧ (¬ i < L → tag = "do" ∧ ∃ j, fr[i - L]? = some j ∧ x = (j : Int))
theorem tag_of {m : Nat} {ch : List (Option Nat)} {i : Nat} {d : Deed} (e : (deedsOf m ch)[i]? = some d) : TagAt ch.length i (freeOf m ch) (deedV d) := by
  by_cases h : i < ch.length
  · obtain ⟨o, rfl⟩ := deed_head h e
    cases o with
    | none => exact ⟨"undo", i, [], rfl, fun _ => ⟨by decide +kernel, rfl⟩, fun n => absurd h n⟩
    | some j => exact ⟨"change", i, [.int j], rfl, fun _ => ⟨by decide +kernel, rfl⟩, fun n => absurd h n⟩
  · obtain ⟨j, hj, rfl⟩ := deed_tail h e
    exact ⟨"do", j, [], rfl, fun n => absurd n h, fun _ => ⟨rfl, j, hj, rfl⟩⟩
section
variable {P : Program} {w : World} {K : PySem.W.Frag} {mg : Str → Option Value} {base : Heap}
/-! ### _law_ordered -/
def nOrd : List Str := ["_law_deeds", "_law_first", "_law_last", "_law_kinds", "_law_deed"]
theorem scOrd : FnScope nOrd ["_law_deeds"] (defScope (top 39)) := ⟨rfl, rfl, rfl, by decide +kernel, rfl, by decide +kernel, by decide +kernel⟩
def spOrd : Sp := fun vs H Q _ => ∃ (x : Addr) (m : Nat) (ch : List (Option Nat)), vs = [.ref x] ∧ DeedsAt H x (deedsOf m ch) ∧ ch.length ≤ 8 ∧ m ≤ 8 ∧ ∀ H', Same H H' → Q (.bl true) H'
theorem ok_ord (B : Bl mg) (D : DefAt K mg "_law_ordered" (top 39)) : Cal P w K mg base 1 "_law_ordered" spOrd := by
  refine cal_of D scOrd (fun _ _ _ _ _ _ us hl => match us, hl with | [_], _ => rfl) (fun vs H Q E h => by obtain ⟨x, m, ch, rfl, _⟩ := h; rfl) fun f cdv A outer s H vs Q E hr h => ?_
  obtain ⟨x, m, ch, rfl, ⟨vs, hvs, a2⟩, l1, l2, k⟩ := h
  have nd := scOrd.nd
  refine ⟨_, pss_cons (ps_setLc (i := 1) (own := [("_law_deed", 4)]) (g := gName 4) (tt := tTest (tOp rNe (tOp (rIxT K) (tVar 4) (tC (.int 0))) (tC (.str "do")))) (te := tOp (rIxT K) (tVar 4) (tC (.int 1))) rfl nd rfl rfl (sw_true rfl rfl rfl (by decide +kernel)) (pi_list (pv 0)) (blkOk_by (own := [("_law_deed", 4)]) (N := nOrd) (sc := defScope (top 39)) (by decide +kernel))
          (fun _ _ _ _ _ => pg_name (i := 4) nd rfl (Or.inl rfl)) (fun _ _ _ _ _ => pts_one (pt_cmpR op_ne (pe_ix ix_tup (pv 4) pe_int (fun _ _ => rfl)) pe_str (nomark _))) (fun _ _ _ _ _ => pe_ix ix_tup (pv 4) pe_int (fun _ _ => rfl)))
    (pss_cons (ps_setLc (i := 2) (own := [("_law_deed", 4)]) (g := gName 4) (tt := tTest (tOp rEq (tOp (rIxT K) (tVar 4) (tC (.int 0))) (tC (.str "do")))) (te := tOp (rIxT K) (tVar 4) (tC (.int 1))) rfl nd rfl rfl (sw_true rfl rfl rfl (by decide +kernel)) (pi_list (pv 0)) (blkOk_by (own := [("_law_deed", 4)]) (N := nOrd) (sc := defScope (top 39)) (by decide +kernel))
          (fun _ _ _ _ _ => pg_name (i := 4) nd rfl (Or.inl rfl)) (fun _ _ _ _ _ => pts_one (pt_cmpR op_eq (pe_ix ix_tup (pv 4) pe_int (fun _ _ => rfl)) pe_str (nomark _))) (fun _ _ _ _ _ => pe_ix ix_tup (pv 4) pe_int (fun _ _ => rfl)))
    (pss_cons (ps_setLc (i := 3) (own := [("_law_deed", 4)]) (g := gName 4) (tt := tYes) (te := tCB (fun xs H Q => (∃ i, xs = [.int i] ∧ Q (.int i) H) ∨ ∃ k, xs = [.bl k] ∧ Q (.int (if k then 1 else 0)) H) (tCons (tOp rEq (tOp (rIxT K) (tVar 4) (tC (.int 0))) (tC (.str "do"))) tNil)) rfl nd rfl rfl (sw_true rfl rfl rfl (by decide +kernel)) (pi_list (pv 0)) (blkOk_by (own := [("_law_deed", 4)]) (N := nOrd) (sc := defScope (top 39)) (by decide +kernel))
          (fun _ _ _ _ _ => pg_name (i := 4) nd rfl (Or.inl rfl)) (fun _ _ _ _ _ => pts_nil) (fun _ _ _ _ _ => pe_callTy call_int1 rfl B.int (by decide +kernel) (pa_cons (pe_cmpR op_eq (pe_ix ix_tup (pv 4) pe_int (fun _ _ => rfl)) pe_str (nomark _)) pa_nil)))
    (pss_one (ps_ret (pe_and (pe_cmpR (op_eqD hr.units) (pv 1) (pe_callB cr_sorted rfl B.sorted boot_sorted (pa_cons (pv 1) pa_nil)) (nomark _))
      (pe_and (pe_cmpR (op_eqD hr.units) (pv 2) (pe_callB cr_sorted rfl B.sorted boot_sorted (pa_cons (pv 2) pa_nil)) (nomark _))
        (pe_one (pe_cmpR (op_eqD hr.units) (pv 3) (pe_callB cr_sorted rfl B.sorted boot_sorted (pa_cons (pv 3) pa_nil)) (nomark _))))))))), ?_⟩
  have lv : vs.length = ch.length + (tailDeeds m ch).length := by
    rw [a2.1]
    unfold deedsOf
    rw [List.length_append, headDeeds_len]
  have lt := tailDeeds_len m ch
  have lf : (freeOf m ch).length = (tailDeeds m ch).length := (List.length_map _).symm
  generalize hT : (tailDeeds m ch).length = T at *
  generalize hL : ch.length = L at *
  have str0 : ∀ tag : Str, scal (.str tag) (.str "do") = true := fun _ => rfl
  -- first
  refine ⟨_, rfl, x, rfl, ⟨_, SqL.of hvs⟩, fun D1 hD1 => lc_gen walk_list hD1 [] (fun H => ∃ l, H D1 = some (.lst l)) (fun i => decide (i < L)) (fun i v _ => v = .int (i : Int)) (by omega) (by simp) ⟨_, upd_same⟩ (fun H l _ => ⟨l, upd_same⟩) (fun Hx s _ => SqL.of (s _ _ (by simp) hvs)) (fun i y H H' _ _ r _ => r) ?_ ?_⟩
  · rintro i y _ Hx Qe Qn hi s1 pz ⟨rfl, h1⟩ kq kn
    obtain ⟨dd, hdd, a, rfl, ha⟩ := a2.of h1
    obtain ⟨tag, xx, r, exs, c1, c2⟩ := tag_of hdd
    rw [exs] at ha
    rw [hL] at c1 c2
    have ha' := s1 _ _ (by simp) ha
    refine ⟨rfl, _, rfl, a, _, 0, _, rfl, rfl, SqT.of ha', at0, str0 tag, _, rfl, ?_⟩
    by_cases e : i < L
    · obtain ⟨nt, rfl⟩ := c1 e
      refine iteB (b := !decide (V.str tag = V.str "do")) (by rw [decide_eq_false (vs_ne nt)]; rfl) ?_
      refine ⟨_, rfl, a, _, 1, _, rfl, rfl, SqT.of ha', at1, ?_⟩
      exact kq (decide_eq_true e) _ _ (Sm.refl _ _) pz rfl
    · obtain ⟨rfl, _⟩ := c2 e
      refine iteBf (b := !decide (V.str "do" = V.str "do")) (by simp) ?_
      exact kn (decide_eq_false e) _ (Sm.refl _ _) pz
  intro H1 ys1 s1' pz1 hys1 b1
  have s1 := s1'.same
  rw [lv, range_head] at b1
  have ey1 := list_of V.int ((List.range L).map zi) ys1 (by rw [b1.1, List.length_map]) fun i v hv => by
    obtain ⟨j, hj, e⟩ := b1.of hv
    exact ⟨_, at_map hj, e⟩
  subst ey1
  -- last
  refine ⟨_, rfl, x, rfl, ⟨_, SqL.of (s1 _ _ hvs)⟩, fun D2 hD2 => lc_gen walk_list hD2 [] (fun H => ∃ l, H D2 = some (.lst l)) (fun i => !decide (i < L)) (fun i v _ => ∃ j, (freeOf m ch)[i - L]? = some j ∧ v = .int (j : Int)) (by omega) (by simp) ⟨_, upd_same⟩ (fun H l _ => ⟨l, upd_same⟩) (fun Hx s _ => SqL.of (s _ _ (by simp) (s1 _ _ hvs))) (fun i y H H' _ _ r _ => r) ?_ ?_⟩
  · rintro i y _ Hx Qe Qn hi s2 pz ⟨rfl, h1⟩ kq kn
    obtain ⟨dd, hdd, a, rfl, ha⟩ := a2.of h1
    obtain ⟨tag, xx, r, exs, c1, c2⟩ := tag_of hdd
    rw [exs] at ha
    rw [hL] at c1 c2
    have ha' := s2 _ _ (by simp) (s1 _ _ ha)
    refine ⟨rfl, _, rfl, a, _, 0, _, rfl, rfl, SqT.of ha', at0, str0 tag, _, rfl, ?_⟩
    by_cases e : i < L
    · obtain ⟨nt, rfl⟩ := c1 e
      refine iteNe (vs_ne nt) ?_
      exact kn (by rw [decide_eq_true e]; rfl) _ (Sm.refl _ _) pz
    · obtain ⟨rfl, j, hj, rfl⟩ := c2 e
      refine iteEq rfl ?_
      refine ⟨_, rfl, a, _, 1, _, rfl, rfl, SqT.of ha', at1, ?_⟩
      exact kq (by rw [decide_eq_false e]; rfl) _ _ (Sm.refl _ _) pz ⟨j, hj, rfl⟩
  intro H2 ys2 s2' pz2 hys2 b2
  have s2 := s2'.same
  rw [lv, range_tail] at b2
  have ey2 := list_of V.int ((freeOf m ch).map zi) ys2 (by rw [b2.1, List.length_map, List.length_map, List.length_range, lf]) fun i v hv => by
    obtain ⟨j, hj, u, hu, e⟩ := b2.of hv
    obtain ⟨q, hq, rfl⟩ := map_at hj
    have lq := (List.getElem?_eq_some_iff.mp hq).1
    rw [List.length_range] at lq
    have li := (List.getElem?_eq_some_iff.mp hv).1
    rw [b2.1, List.length_map, List.length_range] at li
    rw [List.getElem?_range li] at hq
    cases hq
    rw [Nat.add_sub_cancel_left] at hu
    exact ⟨_, at_map hu, e⟩
  subst ey2
  -- kinds
  have t2 := s1.trans s2
  refine ⟨_, rfl, x, rfl, ⟨_, SqL.of (t2 _ _ hvs)⟩, fun D3 hD3 => lc_map walk_list hD3 (fun i v _ => v = .int (if i < L then 0 else 1)) (by omega) (fun Hx s => SqL.of (s _ _ (t2 _ _ hvs))) (fun i y H H' _ _ r _ => r) ?_ ?_⟩
  · rintro i y _ Hx Qe hi s3 pz ⟨rfl, h1⟩ kq
    obtain ⟨dd, hdd, a, rfl, ha⟩ := a2.of h1
    obtain ⟨tag, xx, r, exs, c1, c2⟩ := tag_of hdd
    rw [exs] at ha
    rw [hL] at c1 c2
    have ha' := s3 _ _ (t2 _ _ ha)
    refine ⟨rfl, _, rfl, a, _, 0, _, rfl, rfl, SqT.of ha', at0, str0 tag, .inr ⟨_, rfl, ?_⟩⟩
    by_cases e : i < L
    · obtain ⟨nt, rfl⟩ := c1 e
      rw [decide_eq_false (vs_ne nt)]
      exact kq _ _ (Same.refl _) (by rw [if_pos e]; rfl)
    · obtain ⟨rfl, j, hj, rfl⟩ := c2 e
      rw [decide_eq_true (show V.str "do" = V.str "do" from rfl)]
      exact kq _ _ (Same.refl _) (by rw [if_neg e]; rfl)
  intro H3 ys3 s3 hys3 ly3 b3
  have lk : (kinds L T).length = L + T := by
    unfold kinds
    rw [List.length_append, List.length_replicate, List.length_replicate]
  have ey3 := list_of V.int (kinds L T) ys3 (by rw [ly3, lv, lk]) fun i v hv => by
    have li := (List.getElem?_eq_some_iff.mp hv).1
    exact ⟨_, kinds_at (by omega), b3 i v hv⟩
  subst ey3
  -- sorted
  have h1 := s3 _ _ (s2 _ _ hys1)
  have h2 := s3 _ _ hys2
  have t3 := t2.trans s3
  refine ⟨_, rfl, _, rfl, D1, _, rfl, SqL.of h1, by rw [List.length_map, List.length_range]; omega, fun ys p pm so hp => ?_⟩
  have e1 := sorted_same pm so (range_sorted L)
  subst e1
  have sp := same_new hp (o := .lst (((List.range L).map zi).map V.int))
  refine ⟨_, _, .lst (SqL.of (sp _ _ h1)) (dpAll_ints _), .lst (SqL.of upd_same) (dpAll_ints _), ints_shaped _, ints_shaped _, ?_⟩
  rw [ints_eqv]
  refine ⟨true, rfl, iteT ?_⟩
  refine ⟨_, rfl, _, rfl, D2, _, rfl, SqL.of (sp _ _ h2), by rw [List.length_map]; omega, fun ys p2 pm so hp2 => ?_⟩
  have e2 := sorted_same pm so (free_sorted m ch)
  subst e2
  have sp2 := sp.trans (same_new hp2 (o := .lst (((freeOf m ch).map zi).map V.int)))
  refine ⟨_, _, .lst (SqL.of (sp2 _ _ h2)) (dpAll_ints _), .lst (SqL.of upd_same) (dpAll_ints _), ints_shaped _, ints_shaped _, ?_⟩
  rw [ints_eqv]
  refine ⟨true, rfl, iteT ?_⟩
  refine ⟨_, rfl, _, rfl, D3, _, rfl, SqL.of (sp2 _ _ hys3), by rw [lk]; omega, fun ys p3 pm so hp3 => ?_⟩
  have e3 := sorted_same pm so (kinds_sorted L T)
  subst e3
  have sp3 := sp2.trans (same_new hp3 (o := .lst ((kinds L T).map V.int)))
  refine ⟨_, _, .lst (SqL.of (sp3 _ _ hys3)) (dpAll_ints _), .lst (SqL.of upd_same) (dpAll_ints _), ints_shaped _, ints_shaped _, ?_⟩
  rw [ints_eqv]
  exact k _ (t3.trans sp3)
/-! ### _law_integers -/
def nIntg : List Str := ["_law_numbers_here", "_law_number"]
theorem scIntg : FnScope nIntg ["_law_numbers_here"] (defScope (top 40)) := ⟨rfl, rfl, rfl, by decide +kernel, rfl, by decide +kernel, by decide +kernel⟩
def spIntg : Sp := fun vs H Q _ => ∃ (x : Addr) (ns : List Int), vs = [.ref x] ∧ IntsAt H x ns ∧ ns.length ≤ 100 ∧ ∀ H', Same H H' → Q (.bl true) H'
theorem ok_intg (B : Bl mg) (D : DefAt K mg "_law_integers" (top 40)) : Cal P w K mg base 1 "_law_integers" spIntg := by
  refine cal_of D scIntg (fun _ _ _ _ _ _ us hl => match us, hl with | [_], _ => rfl) (fun vs H Q E h => by obtain ⟨x, ns, rfl, _⟩ := h; rfl) fun f cdv A outer s H vs Q E hr h => ?_
  obtain ⟨x, ns, rfl, hx, l1, k⟩ := h
  have nd := scIntg.nd
  refine ⟨_, pss_one (ps_ret (pe_callB (cr_all rfl) rfl B.all boot_all (pa_cons
      (pe_lc (own := [("_law_number", 1)]) (g := gName 1) (tt := tYes) (te := tAndV (tCB (rIsi K) (tCons (tVar 1) (tCons (tC (.ty "int")) tNil))) (tNotV (tCB (rIsi K) (tCons (tVar 1) (tCons (tC (.ty "bool")) tNil))))) rfl nd (pi_list (pv 0)) (blkOk_by (own := [("_law_number", 1)]) (N := nIntg) (sc := defScope (top 40)) (by decide +kernel))
        (fun _ _ _ _ _ => pg_name (i := 1) nd rfl (Or.inl rfl)) (fun _ _ _ _ _ => pts_nil)
        (fun _ _ _ _ _ => pe_and (pe_callB call_isi rfl B.isinstance boot_isinstance (pa_cons (pv 1) (pa_cons (pe_bltn (u := .type "int") rfl B.int (by decide +kernel) rfl) pa_nil)))
          (pe_one (pe_not (pe_callB call_isi rfl B.isinstance boot_isinstance (pa_cons (pv 1) (pa_cons (pe_bltn (u := .type "bool") rfl B.bool (by decide +kernel) rfl) pa_nil))))))) pa_nil))), ?_⟩
  refine ⟨_, rfl, x, rfl, ⟨_, SqL.of hx⟩, fun Dl hD => lc_map walk_list hD (fun i v _ => v = .bl true) (by rw [List.length_map]; omega) (fun Hx s => SqL.of (s _ _ hx)) (fun i y H H' _ _ r _ => r) ?_ ?_⟩
  · rintro i y _ Hx Qe hi s3 pz ⟨rfl, h1⟩ kq
    obtain ⟨z, hz, rfl⟩ := map_at h1
    refine ⟨rfl, _, rfl, _, _, _, _, true, rfl, .ty "int", .base (.int _), kit_ty (by decide +kernel), ⟨true, rfl, iteT ?_⟩⟩
    refine ⟨_, rfl, _, _, _, _, false, rfl, .ty "bool", .base (.int _), kit_ty (by decide +kernel), ⟨false, rfl, ?_⟩⟩
    exact kq _ _ (Same.refl _) rfl
  · intro Hx zs s2 hzs hlen hR
    have ez : zs = (List.replicate ns.length true).map V.bl := list_of V.bl _ zs (by rw [hlen, List.length_replicate, List.length_map]) fun i v hv => by
      have hi := (List.getElem?_eq_some_iff.mp hv).1
      rw [hlen, List.length_map] at hi
      exact ⟨true, by rw [List.getElem?_replicate, if_pos hi], hR i v hv⟩
    subst ez
    refine ⟨Dl, _, rfl, SqL.of hzs, ?_⟩
    have e : (List.replicate ns.length true).all id = true := by
      rw [List.all_eq_true]
      intro b hb
      rw [List.eq_of_mem_replicate hb]
      all_goals rfl
    rw [e]
    exact k _ s2
end
end K33
namespace K33
open PySem PySem.Spec PyProof.Rows L2
/-! ### plain: plans by choices are plans, their cost, fair papers -/
theorem good_at {α : Type} {m : Nat} {ch : α → Nat → Option Int} : ∀ (there : List α) (cs : List (Option Nat)) (used : List Nat), RP.Good m ch there cs used →
    there.length = cs.length ∧ (∀ (i : Nat) (a : α) (j : Nat), there[i]? = some a → cs[i]? = some (some j) → j < m ∧ (ch a j).isSome = true) ∧ (RP.usedOf cs).Nodup ∧ (∀ j, j ∈ RP.usedOf cs → j ∉ used)
  | [], [], _, _ => ⟨rfl, fun i a j h => by simp at h, by simp [RP.usedOf], fun j h => by simp [RP.usedOf] at h⟩
  | [], _ :: _, _, h => h.elim
  | _ :: _, [], _, h => h.elim
  | a :: t, none :: cs, used, h => by
    obtain ⟨h1, h2, h3, h4⟩ := good_at t cs used h
    refine ⟨by rw [List.length_cons, List.length_cons, h1], fun i b j hb hj => ?_, h3, h4⟩
    cases i with
    | zero => cases hj
    | succ i => exact h2 i b j hb hj
  | a :: t, some j :: cs, used, h => by
    obtain ⟨⟨g1, g2, g3⟩, g4⟩ := h
    obtain ⟨h1, h2, h3, h4⟩ := good_at t cs (used ++ [j]) g4
    refine ⟨by rw [List.length_cons, List.length_cons, h1], fun i b k hb hk => ?_, ?_, fun k hk => ?_⟩
    · cases i with
      | zero =>
        cases hb
        cases hk
        exact ⟨g1, g3⟩
      | succ i => exact h2 i b k hb hk
    · rw [RP.usedOf_some]
      exact List.nodup_cons.mpr ⟨fun q => h4 j q (List.mem_append_right _ (List.mem_singleton.mpr rfl)), h3⟩
    · rw [RP.usedOf_some] at hk
      rcases List.mem_cons.mp hk with e | q
      · rw [e]; exact g2
      · exact fun z => h4 k q (List.mem_append_left _ z)
theorem used_at {ch : List (Option Nat)} {j : Nat} (h : j ∈ RP.usedOf ch) : ∃ i : Nat, ch[i]? = some (some j) := List.getElem?_of_mem (RP.mem_usedOf.mp h)
theorem head_left (ch : List (Option Nat)) : ∀ i, i ≤ ch.length → ((headDeeds ch).take i).filterMap leftOf = List.range i
  | 0, _ => rfl
  | i + 1, h => by
    have e : (headDeeds ch)[i]? = some (deedI i (ch.getD i none)) := by
      unfold headDeeds
      rw [List.getElem?_mapIdx, getD_at (d := none) (l := ch) (i := i) (by omega)]
      all_goals rfl
    rw [fm_take leftOf e, head_left ch i (by omega), List.range_succ]
    cases ch.getD i none <;> rfl
theorem head_right (ch : List (Option Nat)) : ∀ i, i ≤ ch.length → ((headDeeds ch).take i).filterMap rightOf = RP.usedOf (ch.take i)
  | 0, _ => rfl
  | i + 1, h => by
    have e0 : ch[i]? = some (ch.getD i none) := getD_at (d := none) (by omega)
    have e : (headDeeds ch)[i]? = some (deedI i (ch.getD i none)) := by
      unfold headDeeds
      rw [List.getElem?_mapIdx, e0]
      all_goals rfl
    rw [fm_take rightOf e, head_right ch i (by omega), take_at e0, used_snoc]
    cases ch.getD i none <;> rfl
theorem tail_left (l : List Nat) : (l.map Deed.do_).filterMap leftOf = [] := by
  induction l with
  | nil => rfl
  | cons a l ih => exact ih
theorem tail_right (l : List Nat) : (l.map Deed.do_).filterMap rightOf = l := by
  induction l with
  | nil => rfl
  | cons a l ih =>
    show a :: (l.map Deed.do_).filterMap rightOf = a :: l
    rw [ih]
theorem deed_head' {m : Nat} {ch : List (Option Nat)} {i : Nat} {d : Deed} (h : i < ch.length) (e : (deedsOf m ch)[i]? = some d) : d = deedI i (ch.getD i none) := by
  unfold deedsOf at e
  rw [List.getElem?_append_left (by rw [headDeeds_len]; exact h)] at e
  unfold headDeeds at e
  rw [List.getElem?_mapIdx, getD_at (d := none) h] at e
  cases e
  rfl
theorem deeds_len (m : Nat) (ch : List (Option Nat)) : (deedsOf m ch).length ≤ ch.length + m := by
  unfold deedsOf
  rw [List.length_append, headDeeds_len]
  have := tailDeeds_len m ch
  omega
theorem free_mem {m : Nat} {ch : List (Option Nat)} {j : Nat} : j ∈ freeOf m ch ↔ j < m ∧ j ∉ RP.usedOf ch := by
  unfold freeOf
  rw [List.mem_filter, List.mem_range, decide_eq_true_iff]
theorem chC_at {pr : Str → Price} {cs1 cs2 : List Cll} {i : Nat} {a : Cll} (h : cs1[i]? = some a) (j : Nat) : ((instOf pr cs1 cs2).cs.getD i []).getD j none = chC pr cs2 a j := by
  have e : (instOf pr cs1 cs2).cs[i]? = some (cs2.map fun c2 => chgC pr a c2) := at_map h
  rw [getD_of e]
  all_goals rfl
theorem plan_ok {pr : Str → Price} {cs1 cs2 : List Cll} {ch : List (Option Nat)} (hl : ch.length = cs1.length) (D : DrawnOk pr cs1 cs2 ch) : PlanOk (instOf pr cs1 cs2) (deedsOf cs2.length ch) := by
  have lu : (instOf pr cs1 cs2).us.length = cs1.length := List.length_map _
  have ld : (instOf pr cs1 cs2).ds.length = cs2.length := List.length_map _
  refine ⟨fun d hd => ?_, ?_, ?_⟩
  · rw [lu, ld]
    obtain ⟨i, hi⟩ := List.getElem?_of_mem hd
    by_cases e : i < ch.length
    · have ed := deed_head' e hi
      have ec : cs1[i]? = some (cs1[i]'(by omega)) := List.getElem?_eq_getElem (by omega)
      have eo : ch[i]? = some (ch.getD i none) := getD_at e
      subst ed
      cases ho : ch.getD i none with
      | none => exact ⟨show i < cs1.length by omega, rfl⟩
      | some j =>
        rw [ho] at eo
        obtain ⟨h1, h2⟩ := D.at_ i _ j ec eo
        refine ⟨⟨by omega, h1⟩, ?_⟩
        show (((instOf pr cs1 cs2).cs.getD i []).getD j none).isSome = true
        rw [chC_at ec]
        exact h2
    · obtain ⟨j, hj, rfl⟩ := deed_tail e hi
      exact ⟨(free_mem.mp (List.mem_of_getElem? hj)).1, rfl⟩
  · rw [lu]
    have e := head_left ch ch.length (Nat.le_refl _)
    rw [List.take_of_length_le (by rw [headDeeds_len]; exact Nat.le_refl _)] at e
    unfold deedsOf
    rw [List.filterMap_append, e, tail_free, tail_left, List.append_nil, hl]
  · rw [ld]
    have e := head_right ch ch.length (Nat.le_refl _)
    rw [List.take_of_length_le (by rw [headDeeds_len]; exact Nat.le_refl _), List.take_length] at e
    unfold deedsOf
    rw [List.filterMap_append, e, tail_free, tail_right]
    have nf : (freeOf cs2.length ch).Nodup := by
      unfold freeOf
      exact List.Pairwise.filter _ List.nodup_range
    refine (List.perm_ext_iff_of_nodup (List.nodup_append.mpr ⟨D.nd, nf, fun a ha b hb e => ?_⟩) List.nodup_range).mpr fun j => ?_
    · subst e
      exact (free_mem.mp hb).2 ha
    · rw [List.mem_append, free_mem, List.mem_range]
      constructor
      · rintro (q | q)
        · obtain ⟨i, hi⟩ := used_at q
          have li := (List.getElem?_eq_some_iff.mp hi).1
          exact (D.at_ i _ j (List.getElem?_eq_getElem (by omega)) hi).1
        · exact q.1
      · intro h
        by_cases q : j ∈ RP.usedOf ch
        · exact .inl q
        · exact .inr ⟨h, q⟩
theorem good_drawn {pr : Str → Price} {cs1 cs2 : List Cll} {ch : List (Option Nat)} (hl : ch.length = cs1.length) (D : DrawnOk pr cs1 cs2 ch) : RP.Good cs2.length (chC pr cs2) cs1 ch [] :=
  RP.good_of cs1 ch [] hl.symm D.at_ D.nd fun j _ => by simp
theorem drawn_good {pr : Str → Price} {cs1 cs2 : List Cll} {ch : List (Option Nat)} (G : RP.Good cs2.length (chC pr cs2) cs1 ch []) : ch.length = cs1.length ∧ DrawnOk pr cs1 cs2 ch := by
  obtain ⟨h1, h2, h3, _⟩ := good_at cs1 ch [] G
  exact ⟨h1.symm, h2, h3⟩
theorem cost_eq {pr : Str → Price} {cs1 cs2 : List Cll} {ch : List (Option Nat)} (hl : ch.length = cs1.length) :
    sumCost (instOf pr cs1 cs2) (deedsOf cs2.length ch) = RP.planCost cs2.length (dC pr cs2) (uC pr) (chC pr cs2) cs1 ch [] := by
  rw [RP.planCost_eq cs1 ch [] hl.symm, List.nil_append]
  unfold sumCost deedsOf
  rw [List.map_append, List.sum_append]
  have e2 : ((tailDeeds cs2.length ch).map fun d => (dcost (instOf pr cs1 cs2) d).getD 0).sum = RP.tailSum cs2.length (dC pr cs2) (RP.usedOf ch) := by
    unfold tailDeeds RP.tailSum
    rw [List.map_map]
    all_goals rfl
  have e1 : ((headDeeds ch).map fun d => (dcost (instOf pr cs1 cs2) d).getD 0).sum = RP.headCost (uC pr) (chC pr cs2) cs1 ch := by
    rw [RP.sum_sumTo, List.length_map, headDeeds_len, hl]
    refine (RP.headCost_sumTo cs1 ch _ hl.symm fun i a o ha ho => ?_).symm
    have li := (List.getElem?_eq_some_iff.mp ho).1
    have e : (headDeeds ch)[i]? = some (deedI i o) := by
      unfold headDeeds
      rw [List.getElem?_mapIdx, ho]
      all_goals rfl
    rw [getD_of (at_map e)]
    cases o with
    | none =>
      show uC pr a = (instOf pr cs1 cs2).us.getD i 0
      have e3 : (instOf pr cs1 cs2).us[i]? = some (uC pr a) := at_map ha
      rw [getD_of e3]
    | some j =>
      show (chC pr cs2 a j).getD 0 = (((instOf pr cs1 cs2).cs.getD i []).getD j none).getD 0
      rw [chC_at ha]
  rw [e1, e2]
theorem fair_of {pr : Str → Price} {cs1 cs2 : List Cll} {ls rs : List Int} (l1 : ls.length = cs1.length) (l2 : rs.length = cs2.length) (F : FairI (instOf pr cs1 cs2) ls rs) : RP.Fair cs2.length (dC pr cs2) (uC pr) (chC pr cs2) cs1 ls rs := by
  refine ⟨l1, l2, fun i a l ha hl => F.left i l _ hl (at_map ha), fun i a l j r c ha hl hr hc => ?_, fun j r hr => ?_⟩
  · have hj := (List.getElem?_eq_some_iff.mp hr).1
    have e : cs2[j]? = some (cs2[j]'(by omega)) := List.getElem?_eq_getElem (by omega)
    have hc' : (cs2.map fun c2 => chgC pr a c2).getD j none = some c := hc
    rw [getD_of (at_map e)] at hc'
    exact F.both i _ l j r c (at_map ha) hl hr (by rw [at_map e, hc'])
  · have hj := (List.getElem?_eq_some_iff.mp hr).1
    have e : cs2[j]? = some (cs2[j]'(by omega)) := List.getElem?_eq_getElem (by omega)
    have q := F.right j r _ hr (at_map e)
    show r ≤ (cs2.map fun c => (pr c.eff).do_).getD j 0
    rw [getD_of (at_map e)]
    exact q
theorem of_fair {pr : Str → Price} {cs1 cs2 : List Cll} {ls rs : List Int} (F : RP.Fair cs2.length (dC pr cs2) (uC pr) (chC pr cs2) cs1 ls rs) : FairI (instOf pr cs1 cs2) ls rs := by
  refine ⟨fun i l u hl hu => ?_, fun i row l j r c hrow hl hr hc => ?_, fun j r d hr hd => ?_⟩
  · obtain ⟨a, ha, rfl⟩ := map_at hu
    exact F.left i a l ha hl
  · obtain ⟨a, ha, rfl⟩ := map_at hrow
    refine F.both i a l j r c ha hl hr ?_
    show (cs2.map fun c2 => chgC pr a c2).getD j none = some c
    exact getD_of hc
  · obtain ⟨a, ha, rfl⟩ := map_at hd
    have q := F.right j r hr
    have e : dC pr cs2 j = (pr a.eff).do_ := getD_of hd
    rw [e] at q
    exact q
/-- what the law asks of the plan, of a drawn plan, of a paper -/
theorem plan_least {pr : Str → Price} {cs1 cs2 : List Cll} {ch : List (Option Nat)} {ls rs : List Int} (R : PlanRes pr cs1 cs2 ch ls rs) :
    sumCost (instOf pr cs1 cs2) (deedsOf cs2.length ch) = leastOf pr cs1 cs2 [] ∧ ls.sum + rs.sum = leastOf pr cs1 cs2 [] := by
  have h1 := RP.least_le (d := dC pr cs2) (u := uC pr) cs1 ch [] R.good
  have h2 := R.fair.weak
  have h3 := R.sum
  rw [cost_eq (drawn_good R.good).1]
  unfold leastOf
  omega
theorem drawn_least {pr : Str → Price} {cs1 cs2 : List Cll} {ch : List (Option Nat)} {ls rs : List Int} (hl : ch.length = cs1.length) (D : DrawnOk pr cs1 cs2 ch) (l1 : ls.length = cs1.length) (l2 : rs.length = cs2.length)
    (F : FairI (instOf pr cs1 cs2) ls rs) (e : ls.sum + rs.sum = sumCost (instOf pr cs1 cs2) (deedsOf cs2.length ch)) : sumCost (instOf pr cs1 cs2) (deedsOf cs2.length ch) = leastOf pr cs1 cs2 [] := by
  have h1 := RP.least_le (d := dC pr cs2) (u := uC pr) cs1 ch [] (good_drawn hl D)
  have h2 := (fair_of l1 l2 F).weak
  rw [cost_eq hl] at e ⊢
  unfold leastOf
  omega
theorem fair_least {pr : Str → Price} {cs1 cs2 : List Cll} {ls rs : List Int} (l1 : ls.length = cs1.length) (l2 : rs.length = cs2.length) (F : FairI (instOf pr cs1 cs2) ls rs) : ls.sum + rs.sum ≤ leastOf pr cs1 cs2 [] := (fair_of l1 l2 F).weak
end K33
namespace K33
open PySem PySem.Spec PyProof.Rows L2
/-! ### what stands through the law -/
def PaperFar (H : Hp) (r : Addr) (v : V) (ls rs : List Int) : Prop := ∃ a l q, v = .ref a ∧ H a = some (.tup [.ref l, .ref q]) ∧ IntsAt H l ls ∧ IntsAt H q rs ∧ l ≠ r ∧ q ≠ r
theorem PaperFar.at_ {H : Hp} {r : Addr} {v : V} {ls rs : List Int} (h : PaperFar H r v ls rs) : PaperAt H v ls rs := by
  obtain ⟨a, l, q, e, x, y, z, _⟩ := h
  exact ⟨a, l, q, e, x, y, z⟩
theorem PaperFar.sm {H H' : Hp} {r : Addr} {v : V} {ls rs : List Int} (h : PaperFar H r v ls rs) (hr : RowL H r) (s : Sm [r] H H') : PaperFar H' r v ls rs := by
  obtain ⟨a, l, q, e, x, y, z, n1, n2⟩ := h
  exact ⟨a, l, q, e, tup_sm hr s x, lst_sm n1 s y, lst_sm n2 s z, n1, n2⟩
theorem DeedsAt.sm {H H' : Hp} {r x : Addr} {ds : List Deed} (h : DeedsAt H x ds) (ne : x ≠ r) (hr : RowL H r) (s : Sm [r] H H') : DeedsAt H' x ds := by
  obtain ⟨vs, q, a⟩ := h
  refine ⟨vs, lst_sm ne s q, a.mono fun v c y => ?_⟩
  obtain ⟨b, e, g⟩ := y
  exact ⟨b, e, tup_sm hr s g⟩
theorem PricesAt.sm {C : Addr} {H H' : Hp} {r p : Addr} {pr : Str → Price} (h : PricesAt C H p pr) (hr : RowL H r) (s : Sm [r] H H') : PricesAt C H' p pr := by
  obtain ⟨dx, d, q, e⟩ := h
  obtain ⟨zs, hz⟩ := id hr
  have ne : p ≠ r := ne_of q hz (fun z => by cases z)
  exact ⟨dx, d, lst_sm ne s q, e.sm hr s⟩
structure LawH (CP r d p t h x : Addr) (pp : V) (pr : Str → Price) (cs1 cs2 : List Cll) (ds : List Deed) (ls rs : List Int) (H : Hp) : Prop where
  row : RowL H r
  eff : EffsAt H d pr
  prc : PricesAt CP H p pr
  th : CallsAt H t cs1
  hr : CallsAt H h cs2
  dd : DeedsAt H x ds
  pa : PaperFar H r pp ls rs
  nt : t ≠ r
  nh : h ≠ r
  nx : x ≠ r
theorem LawH.sm {CP r d p t h x : Addr} {pp : V} {pr : Str → Price} {cs1 cs2 : List Cll} {ds : List Deed} {ls rs : List Int} {H H' : Hp} (L : LawH CP r d p t h x pp pr cs1 cs2 ds ls rs H) (s : Sm [r] H H') (row : RowL H' r) : LawH CP r d p t h x pp pr cs1 cs2 ds ls rs H' := by
  obtain ⟨zs, hz⟩ := id L.row
  exact ⟨row, L.eff.sm L.row s, L.prc.sm L.row s, L.th.sm L.nt ⟨_, hz⟩ s, L.hr.sm L.nh ⟨_, hz⟩ s, L.dd.sm L.nx L.row s, L.pa.sm L.row s, L.nt, L.nh, L.nx⟩
theorem LawH.same {CP r d p t h x : Addr} {pp : V} {pr : Str → Price} {cs1 cs2 : List Cll} {ds : List Deed} {ls rs : List Int} {H H' : Hp} (L : LawH CP r d p t h x pp pr cs1 cs2 ds ls rs H) (s : Same H H') : LawH CP r d p t h x pp pr cs1 cs2 ds ls rs H' := L.sm (s.sm [r]) (L.row.same s)
theorem ints_of {ys : List V} (h : ∀ (i : Nat) (v : V), ys[i]? = some v → ∃ z : Int, v = .int z) : ∃ ns : List Int, ys = ns.map V.int := by
  induction ys with
  | nil => exact ⟨[], rfl⟩
  | cons v ys ih =>
    obtain ⟨ns, e⟩ := ih fun i u hu => h (i + 1) u hu
    obtain ⟨z, ez⟩ := h 0 v rfl
    exact ⟨z :: ns, by rw [e, ez]; rfl⟩
section
variable {P : Program} {w : World} {K : PySem.W.Frag} {mg : Str → Option Value} {base : Heap} {CP CC : Addr}
/-! ### law -/
def nLaw : List Str := ["_law_script", "_law_row", "_law_effects", "_law_prices_here", "_law_there", "_law_here", "_law_least_here", "_law_deeds", "_law_paper", "_law_turn", "_law_other", "_law_near", "_law_one", "_law_left", "_law_right"]
theorem scLaw : FnScope nLaw ["_law_script"] (defScope (top 41)) := ⟨rfl, rfl, rfl, by decide +kernel, rfl, by decide +kernel, by decide +kernel⟩
def spLaw (K : PySem.W.Frag) : Sp := fun vs H Q _ => ∃ (a : Addr) (ns : List Int), vs = [.ref a] ∧ SqL K H a (ns.map V.int) ∧ ns.length ≤ 63 ∧ ∀ H', Q (.bl true) H'
theorem ok_law (B : Bl mg) (Ct : Cal P w K mg base 1 "_law_take" spTake) (Cn : Cal P w K mg base 2 "_law_numbers" (spNumbers K)) (Cp : Cal P w K mg base 3 "_law_prices" spPrices) (MP : Mak P w K mg base 2 "Prices" CP (spPInit CP)) (Cc : Cal P w K mg base 3 "_law_calls" spCalls)
    (Cle : Cal P w K mg base 6 "_law_least" (spLeast 5)) (Cpl : Cal P w K mg base 5 "plan" (spPlan CP)) (CLp : Cal P w K mg base 3 "_law_is_plan" spLPlan) (CLc : Cal P w K mg base 3 "_law_cost" spLCost) (COr : Cal P w K mg base 1 "_law_ordered" spOrd)
    (CLf : Cal P w K mg base 2 "_law_fair" spLFair) (CIn : Cal P w K mg base 1 "_law_integers" spIntg) (Cdr : Cal P w K mg base 2 "_law_drawn_deeds" spDrawn) (CAc : Cal P w K mg base 6 "accepts" (spAccepts CP)) (CFa : Cal P w K mg base 5 "is_fair" (spIsFair CP))
    {f : Addr} {fd : FuncData} (F : Fun K "law" "law" (top 41) f fd) : FnOk P w K mg base CX0 7 f fd ["_law_script"] (spLaw K) := by
  refine F.ok scLaw (fun vs H Q E h => by obtain ⟨a, ns, rfl, _⟩ := h; rfl) (fun cdv A outer s H vs Q E hr h => ?_)
  obtain ⟨a, ns, rfl, hS, l63, k⟩ := h
  have nd := scLaw.nd
  refine ⟨_, pss_cons (ps_set (i := 1) nd rfl (Or.inr rfl) (pe_c Cn hr (by decide) rfl (pa_cons (pv 0) (pa_cons pe_int pa_nil))))
    (pss_cons (ps_set (i := 2) nd rfl (Or.inl rfl) (pe_c Cp hr (by decide) rfl (pa_cons (pv 1) pa_nil)))
    (pss_cons (ps_set (i := 3) nd rfl (Or.inl rfl) (pe_mk MP hr (by decide) rfl (pa_cons (pv 2) pa_nil)))
    (pss_cons (ps_par (i := 4) (j := 5) (by rfl) nd rfl rfl (by decide) rfl rfl (pa_cons (pe_c Cc hr (by decide) rfl (pa_cons (pv 1) (pa_cons pe_int pa_nil))) (pa_cons (pe_c Cc hr (by decide) rfl (pa_cons (pv 1) (pa_cons pe_int pa_nil))) pa_nil)) (by rfl))
    (pss_cons (ps_set (i := 6) nd rfl (Or.inl rfl) (pe_c Cle hr (by decide) rfl (pa_cons (pv 4) (pa_cons (pv 5) (pa_cons (pv 2) (pa_cons (pe_lst pa_nil) pa_nil))))))
    (pss_cons (ps_asg (pe_c Cpl hr (by decide) rfl (pa_cons (pv 4) (pa_cons (pv 5) (pa_cons (pv 3) pa_nil)))) (pg_tup rfl (pgs_cons (pg_name (i := 7) nd rfl (Or.inl rfl)) (pgs_cons (pg_name (i := 8) nd rfl (Or.inl rfl)) pgs_nil))))
    (pss_cons (ps_if (PW.pt (pw_or (pt_not (pt_val (pe_c CLp hr (by decide) rfl (pa_cons (pv 4) (pa_cons (pv 5) (pa_cons (pv 2) (pa_cons (pv 7) pa_nil))))))) (pw_or1 (pt_cmpR op_ne (pe_c CLc hr (by decide) rfl (pa_cons (pv 4) (pa_cons (pv 5) (pa_cons (pv 2) (pa_cons (pv 7) pa_nil))))) (pv 6) (nomark _))))) (pss_one (ps_ret pe_bl)) pss_nil)
    (pss_cons (ps_if (PW.pt (pw_or (pt_not (pt_val (pe_c COr hr (by decide) rfl (pa_cons (pv 7) pa_nil)))) (pw_or1 (pt_not (pt_val (pe_c CLf hr (by decide) rfl (pa_cons (pv 4) (pa_cons (pv 5) (pa_cons (pv 2) (pa_cons (pv 8) pa_nil)))))))))) (pss_one (ps_ret pe_bl)) pss_nil)
    (pss_cons (ps_if (PW.pt (pw_or (pt_not (pt_val (pe_c CIn hr (by decide) rfl (pa_cons (pe_op op_cat (pe_ix ix_tup (pv 8) pe_int (fun _ _ => rfl)) (pe_ix ix_tup (pv 8) pe_int (fun _ _ => rfl))) pa_nil))))
        (pw_or1 (pt_cmpR op_ne (pe_op op_add (pe_callB (cr_sum rfl) rfl B.sum boot_sum (pa_cons (pe_ix ix_tup (pv 8) pe_int (fun _ _ => rfl)) pa_nil)) (pe_callB (cr_sum rfl) rfl B.sum boot_sum (pa_cons (pe_ix ix_tup (pv 8) pe_int (fun _ _ => rfl)) pa_nil))) (pv 6) (nomark _))))) (pss_one (ps_ret pe_bl)) pss_nil)
    (pss_cons (ps_for PassesOwn.never rfl (pi_range1 rfl B.range (pa_cons pe_int pa_nil)) (pg_name (i := 9) nd rfl (Or.inl rfl))
      (pss_cons (ps_set (i := 10) nd rfl (Or.inl rfl) (pe_c Cdr hr (by decide) rfl (pa_cons (pv 1) (pa_cons (pv 4) (pa_cons (pv 5) (pa_cons (pv 2) pa_nil))))))
      (pss_cons (ps_set (i := 11) nd rfl (Or.inl rfl) (pe_tup (pa_cons
          (pe_lc (own := [("_law_left", 13)]) (g := gName 13) (tt := tYes) (te := tOp (rI0 fun i j => .int (i - j)) (tVar 13) (tCall spTake [] E0 (tCons (tVar 1) (tCons (tC (.int 3)) tNil)))) rfl nd (pi_list (pe_ix ix_tup (pv 8) pe_int (fun _ _ => rfl))) (blkOk_by (own := [("_law_left", 13)]) (N := nLaw) (sc := defScope (top 41)) (by decide +kernel))
            (fun _ _ _ _ _ => pg_name (i := 13) nd rfl (Or.inl rfl)) (fun _ _ _ _ _ => pts_nil) (fun _ _ _ _ _ => pe_op op_sub (pv 13) (pe_c Ct hr (by decide) rfl (pa_cons (pv 1) (pa_cons pe_int pa_nil)))))
          (pa_cons (pe_lc (own := [("_law_right", 14)]) (g := gName 14) (tt := tYes) (te := tOp (rI0 fun i j => .int (i - j)) (tOp (rI0 fun i j => .int (i + j)) (tVar 14) (tCall spTake [] E0 (tCons (tVar 1) (tCons (tC (.int 3)) tNil)))) (tC (.int 1))) rfl nd (pi_list (pe_ix ix_tup (pv 8) pe_int (fun _ _ => rfl))) (blkOk_by (own := [("_law_right", 14)]) (N := nLaw) (sc := defScope (top 41)) (by decide +kernel))
            (fun _ _ _ _ _ => pg_name (i := 14) nd rfl (Or.inl rfl)) (fun _ _ _ _ _ => pts_nil) (fun _ _ _ _ _ => pe_op op_sub (pe_op op_add (pv 14) (pe_c Ct hr (by decide) rfl (pa_cons (pv 1) (pa_cons pe_int pa_nil)))) pe_int)) pa_nil))))
      (pss_one (ps_for PassesOwn.never rfl (pi_list (pe_lst (pa_cons (pv 8) (pa_cons (pv 11) pa_nil)))) (pg_name (i := 12) nd rfl (Or.inl rfl))
        (pss_cons (ps_if (PW.pt (pw_and (pt_val (pe_c CAc hr (by decide) rfl (pa_cons (pv 4) (pa_cons (pv 5) (pa_cons (pv 3) (pa_cons (pv 10) (pa_cons (pv 12) pa_nil)))))))
            (pw_and1 (pt_cmpR op_ne (pe_c CLc hr (by decide) rfl (pa_cons (pv 4) (pa_cons (pv 5) (pa_cons (pv 2) (pa_cons (pv 10) pa_nil))))) (pv 6) (nomark _))))) (pss_one (ps_ret pe_bl)) pss_nil)
        (pss_one (ps_if (PW.pt (pw_and (pt_val (pe_c CFa hr (by decide) rfl (pa_cons (pv 4) (pa_cons (pv 5) (pa_cons (pv 3) (pa_cons (pv 12) pa_nil))))))
            (pw_and1 (pt_cmpR op_gt (pe_op op_add (pe_callB (cr_sum rfl) rfl B.sum boot_sum (pa_cons (pe_ix ix_tup (pv 12) pe_int (fun _ _ => rfl)) pa_nil)) (pe_callB (cr_sum rfl) rfl B.sum boot_sum (pa_cons (pe_ix ix_tup (pv 12) pe_int (fun _ _ => rfl)) pa_nil))) (pv 6) (nomark _))))) (pss_one (ps_ret pe_bl)) pss_nil))))))))
    (pss_one (ps_ret (pe_cmpR op_isBl (pe_c CAc hr (by decide) rfl (pa_cons (pv 4) (pa_cons (pv 5) (pa_cons (pv 3) (pa_cons (pv 7) (pa_cons (pv 8) pa_nil)))))) pe_bl (nomark _))))))))))))), ?_⟩
  refine ⟨_, rfl, a, ns, rfl, hS, l63, fun r H1 s1 hr0 row1 => ?_⟩
  refine ⟨_, rfl, r, rfl, row1, fun H2 d pr s2 row2 he2 => ?_⟩
  refine ⟨_, rfl, fun p dx np ndp nep => ?_⟩
  refine ⟨p, dx, d, pr, rfl, upd_same, he2.mono (same_made np ndp), fun H3 s3 hp3 => ⟨rfl, ?_⟩⟩
  have t3 : Same H2 H3 := Sm.out (same_made np ndp) s3 fun b hb => by rw [List.mem_singleton.mp hb]; exact np
  have row3 := row2.same t3
  have he3 := he2.mono t3
  refine ⟨_, rfl, r, rfl, row3, fun H4 t cs1 s4 row4 ntr ht4 l1 => ?_⟩
  refine ⟨_, rfl, r, rfl, row4, fun H5 h cs2 s5 row5 nhr hh5 l2 => ⟨_, _, rfl, ?_⟩⟩
  have he5 := (he3.sm row3 s4).sm row4 s5
  have hp5 := (hp3.sm row3 s4).sm row4 s5
  have ht5 := ht4.sm ntr (by obtain ⟨zs, e⟩ := row4; exact ⟨_, e⟩) s5
  -- the least cost
  refine ⟨_, rfl, _, rfl, _, rfl, Nat.zero_le _, fun u hu => ?_⟩
  have su := same_new hu (o := .lst [])
  refine ⟨t, h, d, u, pr, cs1, cs2, [], rfl, ht5.mono su, hh5.mono su, he5.mono su, upd_same, by omega, by omega, by omega, by show 0 + cs1.length ≤ 8; omega, fun H6 s6 => ?_⟩
  have t6 := su.trans s6
  -- the plan
  refine ⟨_, rfl, _, rfl, _, rfl, t, h, p, pr, cs1, cs2, rfl, ht5.mono t6, hh5.mono t6, hp5.mono t6, by omega, by omega, fun H7 x xd pp ch ls rs s7 hx hds nx0 hpp R => ?_⟩
  have t7 := t6.trans s7
  obtain ⟨lch, dok⟩ := drawn_good R.good
  have pok := plan_ok lch dok
  obtain ⟨ec, es⟩ := plan_least R
  have ll : ls.length = cs1.length := R.fair.ll
  have lr : rs.length = cs2.length := R.fair.lr
  have fair := of_fair R.fair
  have row6 := row5.same t6
  have lu : (instOf pr cs1 cs2).us.length = cs1.length := List.length_map _
  have ld : (instOf pr cs1 cs2).ds.length = cs2.length := List.length_map _
  have pokC : ∀ {ch : List (Option Nat)}, ch.length = cs1.length → DrawnOk pr cs1 cs2 ch → ∀ y ∈ deedsOf cs2.length ch, DOk cs1.length cs2.length y ∧ (dcost (instOf pr cs1 cs2) y).isSome = true := fun {ch} h1 h2 y hy => by
    have q := (plan_ok h1 h2).ok y hy
    rw [lu, ld] at q
    exact q
  have dlen : ∀ {ch : List (Option Nat)}, ch.length = cs1.length → (deedsOf cs2.length ch).length ≤ 16 := fun {ch} h1 => by
    have := deeds_len cs2.length ch
    omega
  have far : PaperFar H7 r pp ls rs := by
    obtain ⟨a, l, q, e, x1, x2, x3, z1, z2⟩ := hpp
    obtain ⟨zs, hz⟩ := row6
    exact ⟨a, l, q, e, x1, x2, x3, (fun e => by rw [e, hz] at z1; cases z1), (fun e => by rw [e, hz] at z2; cases z2)⟩
  have L7 : LawH CP r d p t h xd pp pr cs1 cs2 (deedsOf cs2.length ch) ls rs H7 := ⟨row6.same s7, he5.mono t7, hp5.mono t7, ht5.mono t7, hh5.mono t7, hds, far, ntr, nhr, fun e => by
    obtain ⟨zs, hz⟩ := row6
    rw [e, hz] at nx0
    cases nx0⟩
  refine ⟨x, _, rfl, SqT.of hx, rfl, _, _, rfl, _, _, rfl, rfl, ?_⟩
  clear hpp far
  -- the plan is one, of the least cost
  refine ⟨_, rfl, _, rfl, _, rfl, _, rfl, t, h, d, xd, pr, cs1, cs2, _, rfl, L7.th, L7.hr, L7.eff, by omega, by omega, L7.dd, dlen lch, pok, fun H8 s8 => ⟨true, rfl, iteF ?_⟩⟩
  have L8 := L7.same s8
  refine ⟨_, rfl, _, rfl, _, rfl, _, rfl, t, h, d, xd, pr, cs1, cs2, _, rfl, L8.th, L8.hr, L8.eff, L8.dd, dlen lch, pokC lch dok, fun H9 s9 => ?_⟩
  have L9 := L8.same s9
  refine ⟨_, rfl, rfl, _, rfl, ?_⟩
  rw [ec, decide_eq_true (show V.int (leastOf pr cs1 cs2 []) = V.int (leastOf pr cs1 cs2 []) from rfl)]
  refine iteF ?_
  -- in order, and the paper is fair
  refine ⟨_, rfl, xd, cs2.length, ch, rfl, L9.dd, by omega, by omega, fun H10 s10 => ⟨true, rfl, iteF ?_⟩⟩
  have L10 := L9.same s10
  refine ⟨_, rfl, _, rfl, _, rfl, _, rfl, t, h, d, pp, pr, cs1, cs2, ls, rs, rfl, L10.th, L10.hr, L10.eff, by omega, by omega, L10.pa.at_, ll, lr, fair, fun H11 s11 => ⟨true, rfl, iteF ?_⟩⟩
  have L11 := L10.same s11
  -- integers
  obtain ⟨pa, l, q, epp, hpa, hl, hq, nl, nq⟩ := id L11.pa
  subst epp
  refine ⟨_, rfl, pa, _, 0, _, rfl, rfl, SqT.of hpa, rfl, _, rfl, pa, _, 1, _, rfl, rfl, SqT.of hpa, rfl, l, q, _, _, rfl, rfl, hl, hq, sz (by rw [List.length_map, List.length_map]; omega), fun c hc => ?_⟩
  have sc := same_new hc (o := .lst (ls.map V.int ++ rs.map V.int))
  refine ⟨c, ls ++ rs, rfl, by show upd _ _ _ _ = _; rw [upd_same, List.map_append], by rw [List.length_append]; omega, fun H12 s12 => ⟨true, rfl, iteF ?_⟩⟩
  have s13 := sc.trans s12
  have L12 := L11.same s13
  refine ⟨_, rfl, pa, _, 0, _, rfl, rfl, SqT.of (s13 _ _ hpa), rfl, l, _, rfl, SqL.of (s13 _ _ hl), _, rfl, pa, _, 1, _, rfl, rfl, SqT.of (s13 _ _ hpa), rfl, q, _, rfl, SqL.of (s13 _ _ hq), _, _, rfl, rfl, _, rfl, rfl, _, rfl, ?_⟩
  rw [decide_eq_true (show V.int (ls.sum + rs.sum) = V.int (leastOf pr cs1 cs2 []) from congrArg V.int es)]
  refine iteF ?_
  -- the turns
  refine ⟨_, rfl, by omega, by omega, ?_⟩
  refine for_range (lo := 0) (n := (4 : Int).toNat) (fun i σ H' => LawH CP r d p t h xd (.ref pa) pr cs1 cs2 (deedsOf cs2.length ch) ls rs H' ∧ ∃ v9 v10 v11 v12 v13 v14, σ = [some (.ref a), some (.ref r), some (.ref d), some (.ref p), some (.ref t), some (.ref h), some (.int (leastOf pr cs1 cs2 [])), some (.ref xd), some (.ref pa), v9, v10, v11, v12, v13, v14])
    ⟨L12, none, none, none, none, none, none, rfl⟩ ?_ ?_
  · rintro i σ Ha hi ⟨La, v9, v10, v11, v12, v13, v14, rfl⟩
    refine ⟨_, rfl, _, rfl, _, rfl, _, rfl, r, t, h, d, pr, cs1, cs2, rfl, La.row, ntr, nhr, La.th, La.hr, La.eff, by omega, by omega, fun o Hb ch2 sb rowb nor hdb lch2 dok2 => ?_⟩
    have Lb := La.sm sb rowb
    obtain ⟨pa', l', q', e', hpb, hlb, hqb, nlb, nqb⟩ := id Lb.pa
    cases e'
    -- the paper near by
    refine ⟨_, rfl, pa, _, 0, _, rfl, rfl, SqT.of hpb, rfl, l', rfl, ⟨_, SqL.of hlb⟩, fun D1 hD1 => lc_gen walk_list hD1 [r] (fun H => RowL H r) (fun _ => true) (fun i v _ => ∃ z : Int, v = .int z) (by rw [List.length_map]; omega)
      (fun m => by obtain ⟨zs, hz⟩ := rowb; rw [List.mem_singleton.mp m, hz] at hD1; cases hD1) (rowb.same (same_new hD1)) (fun H l hrow => by
        obtain ⟨zs, hz⟩ := hrow
        refine ⟨zs, (upd_ne fun e => ?_).trans hz⟩
        obtain ⟨zb, hzb⟩ := rowb
        rw [← e, hzb] at hD1
        cases hD1) (fun Hx s _ => SqL.of (lst_sm nlb s hlb)) (fun i y H H' _ _ r _ => r) ?_ ?_⟩
    · rintro i y _ Hx Qe Qn hi s pz ⟨rfl, h1⟩ kq kn
      obtain ⟨z, hz, rfl⟩ := map_at h1
      exact ⟨rfl, _, rfl, _, rfl, r, 3, rfl, by decide, pz, fun z2 H2 s2 row2 _ _ => ⟨_, _, rfl, rfl, kq rfl _ _ s2 row2 ⟨_, rfl⟩⟩⟩
    intro Hc ys1 sc1 rowc hys1 b1
    have Lc := Lb.sm sc1 rowc
    have e1 : (List.range (ls.map V.int).length).filter (fun _ => true) = List.range (ls.map V.int).length := List.filter_eq_self.mpr fun _ _ => rfl
    rw [e1] at b1
    obtain ⟨ls2, els2⟩ := ints_of fun i v hv => by
      obtain ⟨_, _, z⟩ := b1.of hv
      exact z
    have lls2 : ls2.length = cs1.length := by
      have := b1.1
      rw [els2, List.length_map, List.length_range, List.length_map] at this
      omega
    subst els2
    obtain ⟨pa', l2', q2', e', hpc, hlc, hqc, nlc, nqc⟩ := id Lc.pa
    cases e'
    have nD1r : D1 ≠ r := fun e => by
      obtain ⟨zs, hz⟩ := rowb
      rw [e, hz] at hD1
      cases hD1
    refine ⟨_, rfl, pa, _, 1, _, rfl, rfl, SqT.of hpc, rfl, q2', rfl, ⟨_, SqL.of hqc⟩, fun D2 hD2 => lc_gen walk_list hD2 [r] (fun H => RowL H r) (fun _ => true) (fun i v _ => ∃ z : Int, v = .int z) (by rw [List.length_map]; omega)
      (fun m => by obtain ⟨zs, hz⟩ := rowc; rw [List.mem_singleton.mp m, hz] at hD2; cases hD2) (rowc.same (same_new hD2)) (fun H l hrow => by
        obtain ⟨zs, hz⟩ := hrow
        refine ⟨zs, (upd_ne fun e => ?_).trans hz⟩
        obtain ⟨zb, hzb⟩ := rowc
        rw [← e, hzb] at hD2
        cases hD2) (fun Hx s _ => SqL.of (lst_sm nqc s hqc)) (fun i y H H' _ _ r _ => r) ?_ ?_⟩
    · rintro i y _ Hx Qe Qn hi s pz ⟨rfl, h1⟩ kq kn
      obtain ⟨z, hz, rfl⟩ := map_at h1
      exact ⟨rfl, _, rfl, _, rfl, r, 3, rfl, by decide, pz, fun z2 H2 s2 row2 _ _ => ⟨_, _, rfl, rfl, _, _, rfl, rfl, kq rfl _ _ s2 row2 ⟨_, rfl⟩⟩⟩
    intro Hd ys2 sd rowd hys2 b2
    have Ld := Lc.sm sd rowd
    have e2 : (List.range (rs.map V.int).length).filter (fun _ => true) = List.range (rs.map V.int).length := List.filter_eq_self.mpr fun _ _ => rfl
    rw [e2] at b2
    obtain ⟨rs2, ers2⟩ := ints_of fun i v hv => by
      obtain ⟨_, _, z⟩ := b2.of hv
      exact z
    have lrs2 : rs2.length = cs2.length := by
      have := b2.1
      rw [ers2, List.length_map, List.length_range, List.length_map] at this
      omega
    subst ers2
    have hys1d := lst_sm nD1r sd hys1
    have hdbd : DeedsAt Hd o (deedsOf cs2.length ch2) := (hdb.sm nor rowb sc1).sm nor rowc sd
    refine ⟨by show 2 ≤ sizeLine; decide, fun nn hnn => ?_⟩
    have sn := same_new hnn (o := .tup [.ref D1, .ref D2])
    -- both papers
    refine ⟨_, rfl, _, rfl, by show 2 ≤ sizeLine; decide, fun z hz => ?_⟩
    have sz2 := sn.trans (same_new hz (o := .lst [.ref pa, .ref nn]))
    have nnz : nn ≠ z := ne_of_none upd_same hz
    generalize hHe : upd (upd Hd nn (.tup [.ref D1, .ref D2])) z (.lst [.ref pa, .ref nn]) = He
    rw [hHe] at sz2
    have hze : He z = some (.lst [.ref pa, .ref nn]) := by rw [← hHe, upd_same]
    have hnne : He nn = some (.tup [.ref D1, .ref D2]) := by rw [← hHe, upd_ne nnz, upd_same]
    have Le := Ld.same sz2
    have nearA : PaperAt He (.ref nn) ls2 rs2 := ⟨nn, D1, D2, rfl, hnne, sz2 _ _ hys1d, sz2 _ _ hys2⟩
    have hdbe := hdbd.mono sz2
    refine ⟨z, rfl, ⟨_, SqL.of hze⟩, for_list (K := K) (a := z) (xs := [.ref pa, .ref nn]) (fun i σ H' => Same He H' ∧ ∃ v9 v12 v13 v14, σ = [some (.ref a), some (.ref r), some (.ref d), some (.ref p), some (.ref t), some (.ref h), some (.int (leastOf pr cs1 cs2 [])), some (.ref xd), some (.ref pa), v9, some (.ref o), some (.ref nn), v12, v13, v14])
      ⟨Same.refl _, _, _, _, _, rfl⟩ (fun i σ H' _ q => SqL.of (q.1 _ _ hze)) ?_ ?_⟩
    · rintro j y σ Hf hy ⟨sf, w9, w12, w13, w14, rfl⟩
      have Lf := Le.same sf
      have one : ∃ ls' rs', PaperAt Hf y ls' rs' ∧ ls'.length = cs1.length ∧ rs'.length = cs2.length := by
        rcases List.mem_cons.mp (List.mem_of_getElem? hy) with e | e
        · rw [e]; exact ⟨ls, rs, Lf.pa.at_, ll, lr⟩
        · rw [List.mem_singleton.mp e]; exact ⟨ls2, rs2, nearA.mono sf, lls2, lrs2⟩
      obtain ⟨ls', rs', py, ll', lr'⟩ := one
      refine ⟨_, rfl, _, rfl, _, rfl, _, rfl, _, rfl, t, h, p, o, y, pr, cs1, cs2, deedsOf cs2.length ch2, ls', rs', rfl, Lf.th, Lf.hr, Lf.prc, by omega, by omega, hdbe.mono sf, dlen lch2, plan_ok lch2 dok2, py, ll', lr', fun b Hg hb sg => ⟨b, rfl, ?_⟩⟩
      have Lg := Lf.same sg
      -- what follows the first test
      have rest : ∀ Hg', Same Hf Hg' → ∀ (Bd : Prop), (∀ H', Same Hf H' → Bd) → Bd := fun Hg' s Bd q => q Hg' s
      cases b with
      | false =>
        refine iteF ?_
        refine iteF ?_
        refine ⟨_, rfl, _, rfl, _, rfl, _, rfl, t, h, p, y, pr, cs1, cs2, ls', rs', rfl, Lg.th, Lg.hr, Lg.prc, by omega, by omega, py.mono sg, ll', lr', fun b2 Hh hb2 sh => ⟨b2, rfl, ?_⟩⟩
        obtain ⟨ya, yl, yr, rfl, h1, h2, h3⟩ := py.mono (sg.trans sh)
        cases b2 with
        | false =>
          refine iteF ?_
          refine iteF ?_
          exact ⟨sf.trans (sg.trans sh), _, _, _, _, rfl⟩
        | true =>
          refine iteT ?_
          have le := fair_least ll' lr' (hb2.mp rfl)
          refine ⟨_, rfl, ya, _, 0, _, rfl, rfl, SqT.of h1, rfl, yl, _, rfl, SqL.of h2, _, rfl, ya, _, 1, _, rfl, rfl, SqT.of h1, rfl, yr, _, rfl, SqL.of h3, _, _, rfl, rfl, _, rfl, _, _, rfl, rfl, _, rfl, ?_⟩
          refine iteFa (by omega) ?_
          exact ⟨sf.trans (sg.trans sh), _, _, _, _, rfl⟩
      | true =>
        refine iteT ?_
        obtain ⟨fa, sa⟩ := hb.mp rfl
        have eo := drawn_least lch2 dok2 ll' lr' fa sa
        refine ⟨_, rfl, _, rfl, _, rfl, _, rfl, t, h, d, o, pr, cs1, cs2, _, rfl, Lg.th, Lg.hr, Lg.eff, hdbe.mono (sf.trans sg), dlen lch2, pokC lch2 dok2, fun Hg2 sg2 => ?_⟩
        have Lg2 := Lg.same sg2
        refine ⟨_, rfl, rfl, _, rfl, ?_⟩
        rw [eo, decide_eq_true (show V.int (leastOf pr cs1 cs2 []) = V.int (leastOf pr cs1 cs2 []) from rfl)]
        refine iteF ?_
        refine ⟨_, rfl, _, rfl, _, rfl, _, rfl, t, h, p, y, pr, cs1, cs2, ls', rs', rfl, Lg2.th, Lg2.hr, Lg2.prc, by omega, by omega, py.mono (sg.trans sg2), ll', lr', fun b2 Hh hb2 sh => ⟨b2, rfl, ?_⟩⟩
        obtain ⟨ya, yl, yr, rfl, h1, h2, h3⟩ := py.mono ((sg.trans sg2).trans sh)
        cases b2 with
        | false =>
          refine iteF ?_
          refine iteF ?_
          exact ⟨sf.trans ((sg.trans sg2).trans sh), _, _, _, _, rfl⟩
        | true =>
          refine iteT ?_
          have le := fair_least ll' lr' (hb2.mp rfl)
          refine ⟨_, rfl, ya, _, 0, _, rfl, rfl, SqT.of h1, rfl, yl, _, rfl, SqL.of h2, _, rfl, ya, _, 1, _, rfl, rfl, SqT.of h1, rfl, yr, _, rfl, SqL.of h3, _, _, rfl, rfl, _, rfl, _, _, rfl, rfl, _, rfl, ?_⟩
          refine iteFa (by omega) ?_
          exact ⟨sf.trans ((sg.trans sg2).trans sh), _, _, _, _, rfl⟩
    · rintro σ Hf ⟨sf, w9, w12, w13, w14, rfl⟩
      exact ⟨Le.same sf, _, _, _, _, _, _, rfl⟩
  · rintro σ Ha ⟨La, v9, v10, v11, v12, v13, v14, rfl⟩
    refine ⟨_, rfl, _, rfl, _, rfl, _, rfl, _, rfl, t, h, p, xd, .ref pa, pr, cs1, cs2, _, ls, rs, rfl, La.th, La.hr, La.prc, by omega, by omega, La.dd, dlen lch, pok, La.pa.at_, ll, lr, fun b Hb hb sb => ?_⟩
    have eb : b = true := hb.mpr ⟨fair, by rw [ec, es]⟩
    subst eb
    exact ⟨true, true, rfl, rfl, k _⟩
end
end K33
namespace K33
open PySem PySem.Spec PyProof.Rows L2
/-! ### the program's top -/
section
variable {K : PySem.W.Frag} {h : Heap} {mg : Str → Option Value}
theorem def_mk {f : Addr} {od an : Option Addr} {sl : Array (Option Value)} {oc kV dc pm cd ct : Value} {x : Str} {st : Stmt} (X : K.In h) (G : h.Ns mainGlobals mg) (a : PySem.W.nsIn K mainGlobals x = some (some (.ref f)))
    (l : K.lookup f = some ⟨oc, od, .func (PySem.W.fnOf x x (defArgs st) (defBody st) (defScope st) .none kV dc pm an cd ct), sl⟩) (c : PySem.W.codeIn K cd x = true) (k : PySem.W.keepIn K (.ref f) = true) : DefAt K mg x st :=
  ⟨f, _, fun_mk (st := st) l c k, PySem.W.mg_of X G a⟩
theorem met_mk {f C : Addr} {od an : Option Addr} {sl : Array (Option Value)} {oc kV dc pm cd ct : Value} {m qual : Str} {st : Stmt} (a : PySem.W.findIn K (.ref C) m = some (some (.ref f))) (i : PySem.W.isFn K (.ref f) = true)
    (l : K.lookup f = some ⟨oc, od, .func (PySem.W.fnOf m qual (defArgs st) (defBody st) (defScope st) .none kV dc pm an cd ct), sl⟩) (c : PySem.W.codeIn K cd qual = true) (k : PySem.W.keepIn K (.ref f) = true) : MetAt K C m qual st :=
  ⟨f, _, fun_mk (st := st) l c k, a, i, k⟩
theorem cls_mk {f C : Addr} {od an : Option Addr} {sl : Array (Option Value)} {oc kV dc pm cd ct : Value} {x qual : Str} {st : Stmt} (X : K.In h) (G : h.Ns mainGlobals mg) (aC : PySem.W.nsIn K mainGlobals x = some (some (.ref C))) (a : PySem.W.findIn K (.ref C) "__init__" = some (some (.ref f))) (i : PySem.W.isFn K (.ref f) = true)
    (l : K.lookup f = some ⟨oc, od, .func (PySem.W.fnOf "__init__" qual (defArgs st) (defBody st) (defScope st) .none kV dc pm an cd ct), sl⟩) (c : PySem.W.codeIn K cd qual = true) (k : PySem.W.keepIn K (.ref f) = true) (mk : PySem.W.makesIn K C = true) (kc : PySem.W.keepIn K (.ref C) = true) : ClsAt K mg x qual C st :=
  ⟨f, _, fun_mk (st := st) l c k, ⟨mk, a, i, kc⟩, PySem.W.mg_of X G aC⟩
theorem bl_mk {t1 t2 : Tok} (X : K.In h) (G : h.Ns mainGlobals mg) (z0 : PySem.W.nsIn K mainGlobals "len" = some none) (z1 : PySem.W.nsIn K mainGlobals "range" = some none) (z2 : PySem.W.nsIn K mainGlobals "sum" = some none) (z3 : PySem.W.nsIn K mainGlobals "sorted" = some none) (z4 : PySem.W.nsIn K mainGlobals "all" = some none) (z5 : PySem.W.nsIn K mainGlobals "dict" = some none) (z6 : PySem.W.nsIn K mainGlobals "abs" = some none) (z7 : PySem.W.nsIn K mainGlobals "zip" = some none) (z8 : PySem.W.nsIn K mainGlobals "list" = some none) (z9 : PySem.W.nsIn K mainGlobals "max" = some none) (z10 : PySem.W.nsIn K mainGlobals "min" = some none) (z11 : PySem.W.nsIn K mainGlobals "int" = some none) (z12 : PySem.W.nsIn K mainGlobals "isinstance" = some none) (z13 : PySem.W.nsIn K mainGlobals "bool" = some none) (z14 : PySem.W.nsIn K mainGlobals "enumerate" = some none)
    (p1 : PySem.W.nsIn K mainGlobals "MOST_PRICE" = some (some (.int 1000000 t1))) (p2 : PySem.W.nsIn K mainGlobals "MOST_CALLS" = some (some (.int 12 t2))) : Bl mg :=
  ⟨PySem.W.mg_none_of X G z0, PySem.W.mg_none_of X G z1, PySem.W.mg_none_of X G z2, PySem.W.mg_none_of X G z3, PySem.W.mg_none_of X G z4, PySem.W.mg_none_of X G z5, PySem.W.mg_none_of X G z6, PySem.W.mg_none_of X G z7, PySem.W.mg_none_of X G z8, PySem.W.mg_none_of X G z9, PySem.W.mg_none_of X G z10, PySem.W.mg_none_of X G z11, PySem.W.mg_none_of X G z12, PySem.W.mg_none_of X G z13, PySem.W.mg_none_of X G z14, ⟨_, PySem.W.mg_of X G p1⟩, ⟨_, PySem.W.mg_of X G p2⟩⟩
end
section
variable {P : Program} {w : World} {K : PySem.W.Frag} {mg : Str → Option Value} {base : Heap} {CP CC CA : Addr}
theorem law_all (B : Bl mg) (TP : ClsP K CP) (IP : ClsAt K mg "Prices" "Prices.__init__" CP (inClass (top 8) 0)) (TC : ClsC K CC) (IC : ClsAt K mg "Costs" "Costs.__init__" CC (inClass (top 15) 0)) (TA : ClsA K CA) (IA : ClsAt K mg "Assignment" "Assignment.__init__" CA (inClass (top 21) 0)) (Mof : MetAt K CC "of" "Costs.of" (inClass (top 15) 1)) (Mslack : MetAt K CA "slack" "Assignment.slack" (inClass (top 21) 1)) (Madd : MetAt K CA "add" "Assignment.add" (inClass (top 21) 2)) (Mshift : MetAt K CA "shift" "Assignment.shift" (inClass (top 21) 3)) (Mturn : MetAt K CA "turn" "Assignment.turn" (inClass (top 21) 4)) (Mcolumn_of : MetAt K CA "column_of" "Assignment.column_of" (inClass (top 21) 5)) (D7 : DefAt K mg "is_price" (top 7)) (D9 : DefAt K mg "prices_of" (top 9)) (D10 : DefAt K mg "undo_cost" (top 10)) (D11 : DefAt K mg "do_cost" (top 11)) (D12 : DefAt K mg "change_cost" (top 12)) (D16 : DefAt K mg "is_plan" (top 16)) (D17 : DefAt K mg "cost" (top 17)) (D18 : DefAt K mg "is_fair" (top 18)) (D19 : DefAt K mg "accepts" (top 19)) (D20 : DefAt K mg "square" (top 20)) (D22 : DefAt K mg "made_paper" (top 22)) (D23 : DefAt K mg "plan" (top 23)) (D25 : DefAt K mg "_law_mix" (top 25)) (D26 : DefAt K mg "_law_numbers" (top 26)) (D27 : DefAt K mg "_law_take" (top 27)) (D28 : DefAt K mg "_law_call" (top 28)) (D29 : DefAt K mg "_law_calls" (top 29)) (D30 : DefAt K mg "_law_price" (top 30)) (D31 : DefAt K mg "_law_prices" (top 31)) (D32 : DefAt K mg "_law_change" (top 32)) (D33 : DefAt K mg "_law_deed_cost" (top 33)) (D34 : DefAt K mg "_law_is_plan" (top 34)) (D35 : DefAt K mg "_law_cost" (top 35)) (D36 : DefAt K mg "_law_fair" (top 36)) (D37 : DefAt K mg "_law_least" (top 37)) (D38 : DefAt K mg "_law_drawn_deeds" (top 38)) (D39 : DefAt K mg "_law_ordered" (top 39)) (D40 : DefAt K mg "_law_integers" (top 40)) {f : Addr} {fd : FuncData} (F : Fun K "law" "law" (top 41) f fd) : FnOk P w K mg base CX0 7 f fd ["_law_script"] (spLaw K) := by
  have c7 : Cal P w K mg base 1 "is_price" spIsPrice := ok_is_price B D7
  have c9 : Cal P w K mg base 1 "prices_of" (spPricesOf CP) := ok_prices_of TP D9
  have c10 : Cal P w K mg base 2 "undo_cost" (spUndoCost CP) := ok_undo_cost c9 D10
  have c11 : Cal P w K mg base 2 "do_cost" (spDoCost CP) := ok_do_cost c9 D11
  have c12 : Cal P w K mg base 2 "change_cost" (spChangeCost CP) := ok_change_cost B c9 D12
  have mP : Mak P w K mg base 2 "Prices" CP (spPInit CP) := ok_pinit B TP c7 IP
  have mC : Mak P w K mg base 3 "Costs" CC (spCInit CP CC) := ok_cinit B TC c10 c11 c12 IC
  have cOf : Met P w K mg base 1 CC "of" (spOf CC) := ok_of B TC Mof
  have c16 : Cal P w K mg base 5 "is_plan" (spIsPlan CP) := ok_is_plan B TC mC cOf D16
  have c17 : Cal P w K mg base 5 "cost" (spCost CP) := ok_cost B TC mC cOf D17
  have c18 : Cal P w K mg base 5 "is_fair" (spIsFair CP) := ok_is_fair B TC mC D18
  have c19 : Cal P w K mg base 6 "accepts" (spAccepts CP) := ok_accepts B c16 c18 c17 D19
  have c20 : Cal P w K mg base 1 "square" (spSquare CC) := ok_square B TC D20
  have mA : Mak P w K mg base 1 "Assignment" CA (spAInit CA) := ok_ainit B TA IA
  have cSl : Met P w K mg base 1 CA "slack" (spSlack CA) := ok_slack TA Mslack
  have cSh : Met P w K mg base 1 CA "shift" (spShift CA) := ok_shift TA Mshift
  have cCo : Met P w K mg base 1 CA "column_of" (spColOf CA) := ok_col_of B TA Mcolumn_of
  have cTu : Met P w K mg base 2 CA "turn" (spTurn CA) := ok_turn TA cCo Mturn
  have cAd : Met P w K mg base 3 CA "add" (spAdd CA) := ok_add B TA cSl cSh cTu Madd
  have c22 : Cal P w K mg base 1 "made_paper" (spPaper CA) := ok_paper B TA D22
  have c23 : Cal P w K mg base 5 "plan" (spPlan CP) := ok_plan B TA mC c20 mA cAd cCo c22 D23
  have c25 : Cal P w K mg base 1 "_law_mix" spMix := ok_mix B D25
  have c26 : Cal P w K mg base 2 "_law_numbers" (spNumbers K) := ok_numbers B c25 D26
  have c27 : Cal P w K mg base 1 "_law_take" spTake := ok_take B D27
  have c28 : Cal P w K mg base 2 "_law_call" spCall := ok_call B c27 D28
  have c29 : Cal P w K mg base 3 "_law_calls" spCalls := ok_calls B c27 c28 D29
  have c30 : Cal P w K mg base 2 "_law_price" spPrice := ok_price c27 D30
  have c31 : Cal P w K mg base 3 "_law_prices" spPrices := ok_prices c30 D31
  have c32 : Cal P w K mg base 1 "_law_change" spLChange := ok_lchange B D32
  have c33 : Cal P w K mg base 2 "_law_deed_cost" spDeedCost := ok_deed_cost B c32 D33
  have c34 : Cal P w K mg base 3 "_law_is_plan" spLPlan := ok_lplan B c33 D34
  have c35 : Cal P w K mg base 3 "_law_cost" spLCost := ok_lcost B c33 D35
  have c36 : Cal P w K mg base 2 "_law_fair" spLFair := ok_lfair B c32 D36
  have c37 : Cal P w K mg base 6 "_law_least" (spLeast 5) := least_all B c32 D37 5
  have c38 : Cal P w K mg base 2 "_law_drawn_deeds" spDrawn := ok_drawn B c27 c32 D38
  have c39 : Cal P w K mg base 1 "_law_ordered" spOrd := ok_ord B D39
  have c40 : Cal P w K mg base 1 "_law_integers" spIntg := ok_intg B D40
  exact ok_law B c27 c26 c31 mP c29 c37 c23 c34 c35 c39 c36 c40 c38 c19 c18 F
end
theorem all_mk {l : PySem.W.OpenLaw} {w : World} {K : PySem.W.Frag} {h : Heap} {mg : Str → Option Value} {fa CP CC CA f1 : Addr} (X : K.In h) (G : h.Ns mainGlobals mg) (hfa : mg "law" = some (.ref fa))
    {od1 an1 : Option Addr} {sl1 : Array (Option Value)} {oc1 kV1 dc1 pm1 cd1 ct1 : Value}
    (aP : PySem.W.nsIn K mainGlobals "Prices" = some (some (.ref CP))) (aC : PySem.W.nsIn K mainGlobals "Costs" = some (some (.ref CC))) (aA : PySem.W.nsIn K mainGlobals "Assignment" = some (some (.ref CA)))
    (B : Bl mg) (TP : ClsP K CP) (IP : ClsAt K mg "Prices" "Prices.__init__" CP (inClass (top 8) 0)) (TC : ClsC K CC) (IC : ClsAt K mg "Costs" "Costs.__init__" CC (inClass (top 15) 0)) (TA : ClsA K CA) (IA : ClsAt K mg "Assignment" "Assignment.__init__" CA (inClass (top 21) 0)) (Mof : MetAt K CC "of" "Costs.of" (inClass (top 15) 1)) (Mslack : MetAt K CA "slack" "Assignment.slack" (inClass (top 21) 1)) (Madd : MetAt K CA "add" "Assignment.add" (inClass (top 21) 2)) (Mshift : MetAt K CA "shift" "Assignment.shift" (inClass (top 21) 3)) (Mturn : MetAt K CA "turn" "Assignment.turn" (inClass (top 21) 4)) (Mcolumn_of : MetAt K CA "column_of" "Assignment.column_of" (inClass (top 21) 5)) (D7 : DefAt K mg "is_price" (top 7)) (D9 : DefAt K mg "prices_of" (top 9)) (D10 : DefAt K mg "undo_cost" (top 10)) (D11 : DefAt K mg "do_cost" (top 11)) (D12 : DefAt K mg "change_cost" (top 12)) (D16 : DefAt K mg "is_plan" (top 16)) (D17 : DefAt K mg "cost" (top 17)) (D18 : DefAt K mg "is_fair" (top 18)) (D19 : DefAt K mg "accepts" (top 19)) (D20 : DefAt K mg "square" (top 20)) (D22 : DefAt K mg "made_paper" (top 22)) (D23 : DefAt K mg "plan" (top 23)) (D25 : DefAt K mg "_law_mix" (top 25)) (D26 : DefAt K mg "_law_numbers" (top 26)) (D27 : DefAt K mg "_law_take" (top 27)) (D28 : DefAt K mg "_law_call" (top 28)) (D29 : DefAt K mg "_law_calls" (top 29)) (D30 : DefAt K mg "_law_price" (top 30)) (D31 : DefAt K mg "_law_prices" (top 31)) (D32 : DefAt K mg "_law_change" (top 32)) (D33 : DefAt K mg "_law_deed_cost" (top 33)) (D34 : DefAt K mg "_law_is_plan" (top 34)) (D35 : DefAt K mg "_law_cost" (top 35)) (D36 : DefAt K mg "_law_fair" (top 36)) (D37 : DefAt K mg "_law_least" (top 37)) (D38 : DefAt K mg "_law_drawn_deeds" (top 38)) (D39 : DefAt K mg "_law_ordered" (top 39)) (D40 : DefAt K mg "_law_integers" (top 40))
    (a1 : PySem.W.nsIn K mainGlobals "law" = some (some (.ref f1))) (l1 : K.lookup f1 = some ⟨oc1, od1, .func (PySem.W.fnOf "law" "law" (defArgs (top 41)) (defBody (top 41)) (defScope (top 41)) .none kV1 dc1 pm1 an1 cd1 ct1), sl1⟩) (c1 : PySem.W.codeIn K cd1 "law" = true) (k1 : PySem.W.keepIn K (.ref f1) = true) :
    ∃ fd : FuncData, (∀ (s : Shared) (v : Value), BindsTo s fd ⟨[v], []⟩ [("_law_script", v)]) ∧ ∀ base : Heap, K.In base → base.Ns mainGlobals mg → FnOk l.prog w K mg base CX0 7 fa fd ["_law_script"] (spLaw K) := by
  have e := hfa.symm.trans (PySem.W.mg_of X G a1)
  cases e
  exact ⟨PySem.W.fnOf "law" "law" (defArgs (top 41)) (defBody (top 41)) (defScope (top 41)) .none kV1 dc1 pm1 an1 cd1 ct1, fun s v => .of_eq rfl, fun base _ _ =>
    law_all B TP IP TC IC TA IA Mof Mslack Madd Mshift Mturn Mcolumn_of D7 D9 D10 D11 D12 D16 D17 D18 D19 D20 D22 D23 D25 D26 D27 D28 D29 D30 D31 D32 D33 D34 D35 D36 D37 D38 D39 D40 (fun_mk (st := top 41) l1 c1 k1)⟩
theorem walk {l : PySem.W.OpenLaw} {q : Program} {loose : List Str} {XP : (Str → Option Value) → Heap → Prop} {YP : World → Heap → Prop} {d : DefRec} {K : Params → PySem.W.Frag} (hn : l.most = some 63) (hdf : d.params.defaults = [])
    (hY : ∀ (w : World) (h : Heap), YP w h → (K w.params).In h)
    (F : ∀ (w : World) (mg : Str → Option Value) (fa : Addr) (h : Heap), (K w.params).In h → h.Ns mainGlobals mg → mg d.name = some (.ref fa) →
      ∃ fd : FuncData, (∀ (s : Shared) (u : Value), BindsTo s fd ⟨[u], []⟩ [("_law_script", u)]) ∧ ∀ base : Heap, (K w.params).In base → base.Ns mainGlobals mg → FnOk l.prog w (K w.params) mg base CX0 7 fa fd ["_law_script"] (spLaw (K w.params))) :
    PySem.W.WalkO q loose XP YP l.row.toRowW d [] (fun f vs => PySem.call f vs) :=
  L2.walk_of (n := 63) (k := 7) (x := "_law_script") (CX := fun _ => CX0) (sp := fun w => spLaw (K w.params)) hn (by decide) hdf ⟨rfl, by decide, by decide⟩ hY F (fun _ _ a ns hl _ hS => ⟨a, ns, rfl, hS, hl, fun _ => rfl⟩) fun _ _ _ _ _ z => z
end K33
open PySem PySem.W PyProof.Rows in
set_option maxRecDepth 100000 in
set_option maxHeartbeats 0 in
theorem PySem.Challenge.cw_retroact_k33_whole_plans_of_least_cost_holds : PySem.Challenge.rw_retroact_k33_whole_plans_of_least_cost.Holds := by
  w_on; o_law; k_head; (case hw => w_witness2)
  k_fill
  refine K33.walk (l := PySem.Challenge.rw_retroact_k33_whole_plans_of_least_cost) rfl rfl (fun w h Y => PySem.W.kIn_of Y) ?F
  case F =>
    intro w mg fa h KX G hmg
    refine' K33.all_mk KX G hmg ?aP ?aC ?aA ?B ?TP ?IP ?TC ?IC ?TA ?IA ?Mof ?Mslack ?Madd ?Mshift ?Mturn ?Mcolumn_of ?D7 ?D9 ?D10 ?D11 ?D12 ?D16 ?D17 ?D18 ?D19 ?D20 ?D22 ?D23 ?D25 ?D26 ?D27 ?D28 ?D29 ?D30 ?D31 ?D32 ?D33 ?D34 ?D35 ?D36 ?D37 ?D38 ?D39 ?D40 ?a1 ?l1 ?c1 ?k1
    (case aP => k_is)
    (case aC => k_is)
    (case aA => k_is)
    case B =>
      refine' K33.bl_mk KX G ?z0 ?z1 ?z2 ?z3 ?z4 ?z5 ?z6 ?z7 ?z8 ?z9 ?z10 ?z11 ?z12 ?z13 ?z14 ?p1 ?p2
      (case z0 => k_is)
      (case z1 => k_is)
      (case z2 => k_is)
      (case z3 => k_is)
      (case z4 => k_is)
      (case z5 => k_is)
      (case z6 => k_is)
      (case z7 => k_is)
      (case z8 => k_is)
      (case z9 => k_is)
      (case z10 => k_is)
      (case z11 => k_is)
      (case z12 => k_is)
      (case z13 => k_is)
      (case z14 => k_is)
      (case p1 => k_is)
      (case p2 => k_is)
    case TP =>
      refine' ⟨⟨?pg, ?hd, ?po, ?sa⟩, ?n0⟩
      (case pg => k_is)
      (case hd => k_is)
      (case po => k_is)
      (case sa => k_is)
      (case n0 => show PySem.W.findIn _ _ "effects" = some none; k_is)
    case IP =>
      refine' K33.cls_mk KX G ?aC ?a ?i ?l ?c ?k ?mk ?kc
      (case aC => k_is)
      (case a => k_is)
      (case i => k_is)
      (case l => k_is)
      (case c => k_is)
      (case k => k_is)
      (case mk => k_is)
      (case kc => k_is)
    case TC =>
      refine' ⟨⟨?pg, ?hd, ?po, ?sa⟩, ?n0, ?n1, ?n2⟩
      (case pg => k_is)
      (case hd => k_is)
      (case po => k_is)
      (case sa => k_is)
      (case n0 => show PySem.W.findIn _ _ "undos" = some none; k_is)
      (case n1 => show PySem.W.findIn _ _ "dos" = some none; k_is)
      (case n2 => show PySem.W.findIn _ _ "changes" = some none; k_is)
    case IC =>
      refine' K33.cls_mk KX G ?aC ?a ?i ?l ?c ?k ?mk ?kc
      (case aC => k_is)
      (case a => k_is)
      (case i => k_is)
      (case l => k_is)
      (case c => k_is)
      (case k => k_is)
      (case mk => k_is)
      (case kc => k_is)
    case TA =>
      refine' ⟨⟨?pg, ?hd, ?po, ?sa⟩, ?n0, ?n1, ?n2, ?n3, ?n4⟩
      (case pg => k_is)
      (case hd => k_is)
      (case po => k_is)
      (case sa => k_is)
      (case n0 => show PySem.W.findIn _ _ "rows" = some none; k_is)
      (case n1 => show PySem.W.findIn _ _ "size" = some none; k_is)
      (case n2 => show PySem.W.findIn _ _ "lefts" = some none; k_is)
      (case n3 => show PySem.W.findIn _ _ "rights" = some none; k_is)
      (case n4 => show PySem.W.findIn _ _ "row_of" = some none; k_is)
    case IA =>
      refine' K33.cls_mk KX G ?aC ?a ?i ?l ?c ?k ?mk ?kc
      (case aC => k_is)
      (case a => k_is)
      (case i => k_is)
      (case l => k_is)
      (case c => k_is)
      (case k => k_is)
      (case mk => k_is)
      (case kc => k_is)
    case Mof =>
      refine' K33.met_mk ?a ?i ?l ?c ?k
      (case a => k_is)
      (case i => k_is)
      (case l => k_is)
      (case c => k_is)
      (case k => k_is)
    case Mslack =>
      refine' K33.met_mk ?a ?i ?l ?c ?k
      (case a => k_is)
      (case i => k_is)
      (case l => k_is)
      (case c => k_is)
      (case k => k_is)
    case Madd =>
      refine' K33.met_mk ?a ?i ?l ?c ?k
      (case a => k_is)
      (case i => k_is)
      (case l => k_is)
      (case c => k_is)
      (case k => k_is)
    case Mshift =>
      refine' K33.met_mk ?a ?i ?l ?c ?k
      (case a => k_is)
      (case i => k_is)
      (case l => k_is)
      (case c => k_is)
      (case k => k_is)
    case Mturn =>
      refine' K33.met_mk ?a ?i ?l ?c ?k
      (case a => k_is)
      (case i => k_is)
      (case l => k_is)
      (case c => k_is)
      (case k => k_is)
    case Mcolumn_of =>
      refine' K33.met_mk ?a ?i ?l ?c ?k
      (case a => k_is)
      (case i => k_is)
      (case l => k_is)
      (case c => k_is)
      (case k => k_is)
    case D7 =>
      refine' K33.def_mk KX G ?a ?l ?c ?k
      (case a => k_is)
      (case l => k_is)
      (case c => k_is)
      (case k => k_is)
    case D9 =>
      refine' K33.def_mk KX G ?a ?l ?c ?k
      (case a => k_is)
      (case l => k_is)
      (case c => k_is)
      (case k => k_is)
    case D10 =>
      refine' K33.def_mk KX G ?a ?l ?c ?k
      (case a => k_is)
      (case l => k_is)
      (case c => k_is)
      (case k => k_is)
    case D11 =>
      refine' K33.def_mk KX G ?a ?l ?c ?k
      (case a => k_is)
      (case l => k_is)
      (case c => k_is)
      (case k => k_is)
    case D12 =>
      refine' K33.def_mk KX G ?a ?l ?c ?k
      (case a => k_is)
      (case l => k_is)
      (case c => k_is)
      (case k => k_is)
    case D16 =>
      refine' K33.def_mk KX G ?a ?l ?c ?k
      (case a => k_is)
      (case l => k_is)
      (case c => k_is)
      (case k => k_is)
    case D17 =>
      refine' K33.def_mk KX G ?a ?l ?c ?k
      (case a => k_is)
      (case l => k_is)
      (case c => k_is)
      (case k => k_is)
    case D18 =>
      refine' K33.def_mk KX G ?a ?l ?c ?k
      (case a => k_is)
      (case l => k_is)
      (case c => k_is)
      (case k => k_is)
    case D19 =>
      refine' K33.def_mk KX G ?a ?l ?c ?k
      (case a => k_is)
      (case l => k_is)
      (case c => k_is)
      (case k => k_is)
    case D20 =>
      refine' K33.def_mk KX G ?a ?l ?c ?k
      (case a => k_is)
      (case l => k_is)
      (case c => k_is)
      (case k => k_is)
    case D22 =>
      refine' K33.def_mk KX G ?a ?l ?c ?k
      (case a => k_is)
      (case l => k_is)
      (case c => k_is)
      (case k => k_is)
    case D23 =>
      refine' K33.def_mk KX G ?a ?l ?c ?k
      (case a => k_is)
      (case l => k_is)
      (case c => k_is)
      (case k => k_is)
    case D25 =>
      refine' K33.def_mk KX G ?a ?l ?c ?k
      (case a => k_is)
      (case l => k_is)
      (case c => k_is)
      (case k => k_is)
    case D26 =>
      refine' K33.def_mk KX G ?a ?l ?c ?k
      (case a => k_is)
      (case l => k_is)
      (case c => k_is)
      (case k => k_is)
    case D27 =>
      refine' K33.def_mk KX G ?a ?l ?c ?k
      (case a => k_is)
      (case l => k_is)
      (case c => k_is)
      (case k => k_is)
    case D28 =>
      refine' K33.def_mk KX G ?a ?l ?c ?k
      (case a => k_is)
      (case l => k_is)
      (case c => k_is)
      (case k => k_is)
    case D29 =>
      refine' K33.def_mk KX G ?a ?l ?c ?k
      (case a => k_is)
      (case l => k_is)
      (case c => k_is)
      (case k => k_is)
    case D30 =>
      refine' K33.def_mk KX G ?a ?l ?c ?k
      (case a => k_is)
      (case l => k_is)
      (case c => k_is)
      (case k => k_is)
    case D31 =>
      refine' K33.def_mk KX G ?a ?l ?c ?k
      (case a => k_is)
      (case l => k_is)
      (case c => k_is)
      (case k => k_is)
    case D32 =>
      refine' K33.def_mk KX G ?a ?l ?c ?k
      (case a => k_is)
      (case l => k_is)
      (case c => k_is)
      (case k => k_is)
    case D33 =>
      refine' K33.def_mk KX G ?a ?l ?c ?k
      (case a => k_is)
      (case l => k_is)
      (case c => k_is)
      (case k => k_is)
    case D34 =>
      refine' K33.def_mk KX G ?a ?l ?c ?k
      (case a => k_is)
      (case l => k_is)
      (case c => k_is)
      (case k => k_is)
    case D35 =>
      refine' K33.def_mk KX G ?a ?l ?c ?k
      (case a => k_is)
      (case l => k_is)
      (case c => k_is)
      (case k => k_is)
    case D36 =>
      refine' K33.def_mk KX G ?a ?l ?c ?k
      (case a => k_is)
      (case l => k_is)
      (case c => k_is)
      (case k => k_is)
    case D37 =>
      refine' K33.def_mk KX G ?a ?l ?c ?k
      (case a => k_is)
      (case l => k_is)
      (case c => k_is)
      (case k => k_is)
    case D38 =>
      refine' K33.def_mk KX G ?a ?l ?c ?k
      (case a => k_is)
      (case l => k_is)
      (case c => k_is)
      (case k => k_is)
    case D39 =>
      refine' K33.def_mk KX G ?a ?l ?c ?k
      (case a => k_is)
      (case l => k_is)
      (case c => k_is)
      (case k => k_is)
    case D40 =>
      refine' K33.def_mk KX G ?a ?l ?c ?k
      (case a => k_is)
      (case l => k_is)
      (case c => k_is)
      (case k => k_is)
    (case a1 => k_is)
    (case l1 => k_is)
    (case c1 => k_is)
    (case k1 => k_is)

import PyProof.Rows.All
import Wide.All
import OpenK.AllK
import Wide.FinOn
import KE.KDictCopyH
import HandS.ForMost
import HandS.Set
import HandS.TupSets
import HandS.Deep
import HandS.RaiseMore
import HandS.Walk
import HandS.Codes
import PySem.Challenge.RW_veilcount_k57_whole_audits_that_pass
set_option Elab.async false
set_option linter.all false
set_option maxRecDepth 100000
set_option maxHeartbeats 4000000
namespace K57
/-! ### plain law: rows, ends, choices -/
abbrev End := Int × Int
/-- a row: what it claims on the left and on the right -/
abbrev Row := Option Int × Option Int
def endsL : Option Int → List End
  | none => []
  | some a => [(0, a)]
def endsR : Option Int → List End
  | none => []
  | some a => [(1, a)]
def endsOf (r : Row) : List End := endsL r.1 ++ endsR r.2
/-- choices of one end a row, all different, none in the used ones -/
def cnt : List (List End) → List End → Nat
  | [], _ => 1
  | es :: rest, U => (es.map fun v => if v ∈ U then 0 else cnt rest (v :: U)).sum

theorem cnt_congr : ∀ (rs : List (List End)) (U W : List End), (∀ v, v ∈ U ↔ v ∈ W) → cnt rs U = cnt rs W
  | [], _, _, _ => rfl
  | es :: rest, U, W, h => by
    show (es.map _).sum = (es.map _).sum
    congr 1
    apply List.map_congr_left
    intro v _
    have ih := cnt_congr rest (v :: U) (v :: W) (by intro x; simp [h x])
    by_cases hv : v ∈ U
    · rw [if_pos hv, if_pos ((h v).mp hv)]
    · rw [if_neg hv, if_neg (fun q => hv ((h v).mpr q)), ih]

theorem sum_map_add {α : Type} (f g : α → Nat) : ∀ l : List α, (l.map fun x => f x + g x).sum = (l.map f).sum + (l.map g).sum
  | [] => rfl
  | a :: l => by
    simp only [List.map_cons, List.sum_cons, sum_map_add f g l]
    omega
theorem sum_map_zero {α : Type} : ∀ l : List α, (l.map fun _ => 0).sum = 0
  | [] => rfl
  | a :: l => by simp only [List.map_cons, List.sum_cons, sum_map_zero l]
theorem sum_swap {α β : Type} (f : α → β → Nat) (l2 : List β) : ∀ l1 : List α,
    (l1.map fun x => (l2.map fun y => f x y).sum).sum = (l2.map fun y => (l1.map fun x => f x y).sum).sum
  | [] => by simp only [List.map_nil, List.sum_nil, sum_map_zero]
  | a :: l1 => by
    simp only [List.map_cons, List.sum_cons, sum_swap f l2 l1, sum_map_add]

theorem cnt_swap (a b : List End) (rs : List (List End)) (U : List End) : cnt (a :: b :: rs) U = cnt (b :: a :: rs) U := by
  have e : ∀ (x y : List End), cnt (x :: y :: rs) U = (x.map fun v => (y.map fun u => if v ∈ U ∨ u ∈ U ∨ u = v then 0 else cnt rs (u :: v :: U)).sum).sum := by
    intro x y
    show (x.map _).sum = (x.map _).sum
    congr 1
    apply List.map_congr_left
    intro v _
    by_cases hv : v ∈ U
    · rw [if_pos hv]
      have : (y.map fun u => if v ∈ U ∨ u ∈ U ∨ u = v then 0 else cnt rs (u :: v :: U)) = y.map fun _ => 0 := by
        apply List.map_congr_left
        intro u _
        rw [if_pos (Or.inl hv)]
      rw [this, sum_map_zero]
    · rw [if_neg hv]
      show (y.map _).sum = _
      congr 1
      apply List.map_congr_left
      intro u _
      by_cases hu : u ∈ U ∨ u = v
      · rw [if_pos (by rcases hu with h | h <;> simp [h]), if_pos (Or.inr hu)]
      · rw [if_neg (by simp only [List.mem_cons]; intro h; exact hu (h.elim Or.inr Or.inl)), if_neg (by intro h; rcases h with h | h; exact hv h; exact hu h)]
  rw [e a b, e b a, sum_swap]
  congr 1
  apply List.map_congr_left
  intro u _
  congr 1
  apply List.map_congr_left
  intro v _
  have e2 : cnt rs (u :: v :: U) = cnt rs (v :: u :: U) := cnt_congr _ _ _ (by intro x; simp only [List.mem_cons]; constructor <;> (intro h; rcases h with h | h | h <;> simp [h]))
  by_cases c : v ∈ U ∨ u ∈ U ∨ u = v
  · rw [if_pos c, if_pos (by rcases c with h | h | h <;> simp [h])]
  · rw [if_neg c, if_neg (by intro h; apply c; rcases h with h | h | h <;> simp [h]), e2]

theorem cnt_cons_congr (a : List End) (rs ts : List (List End)) (h : ∀ U, cnt rs U = cnt ts U) (U : List End) : cnt (a :: rs) U = cnt (a :: ts) U := by
  show (a.map _).sum = (a.map _).sum
  congr 1
  apply List.map_congr_left
  intro v _
  rw [h]

theorem cnt_perm {rs ts : List (List End)} (p : rs.Perm ts) : ∀ U, cnt rs U = cnt ts U := by
  induction p with
  | nil => intro U; rfl
  | cons a _ ih => intro U; exact cnt_cons_congr a _ _ ih U
  | swap a b l => intro U; exact cnt_swap b a l U
  | trans _ _ ih1 ih2 => intro U; rw [ih1, ih2]

theorem cnt_snoc (rs : List (List End)) (es : List End) (U : List End) : cnt (rs ++ [es]) U = (es.map fun v => if v ∈ U then 0 else cnt rs (v :: U)).sum := by
  have p : (rs ++ [es]).Perm (es :: rs) := List.perm_append_comm
  rw [cnt_perm p]
  rfl

/-! ### what a part is worth -/
/-- the number of a part with e ends, w whole rows, h half rows, k of its ends taken elsewhere -/
def worth (e w h k : Nat) : Nat :=
  if k = 0 then (if h = 0 ∧ w + 1 = e then e else if h = 0 ∧ w = e then 2 else if h = 1 ∧ w + 1 = e then 1 else 0)
  else if k = 1 then (if h = 0 ∧ w + 1 = e then 1 else 0) else 0

theorem worth_one (k : Nat) (hk : k ≤ 1) : worth 1 0 0 k = 1 := by
  unfold worth
  rcases Nat.le_one_iff_eq_zero_or_eq_one.mp hk with h | h <;> subst h <;> rfl
theorem worth_two {e w h k : Nat} (hk : 2 ≤ k) : worth e w h k = 0 := by
  unfold worth
  rw [if_neg (by omega), if_neg (by omega)]
theorem worth_1 (e w h : Nat) : worth e w h 1 = if h = 0 ∧ w + 1 = e then 1 else 0 := by
  unfold worth
  rw [if_neg (by omega), if_pos rfl]
theorem worth_0 (e w h : Nat) : worth e w h 0 = (if h = 0 ∧ w + 1 = e then e else if h = 0 ∧ w = e then 2 else if h = 1 ∧ w + 1 = e then 1 else 0) := by
  unfold worth
  rw [if_pos rfl]

/-- a row with one end in the part -/
theorem worth_half {e w h k : Nat} (c : e ≤ w + 1) (b : Bool) (hb : b = true → 1 ≤ k) (hb2 : k = 0 → b = false) :
    (if b = true then 0 else worth e w h (k + 1)) = worth e w (h + 1) k := by
  rcases Nat.eq_zero_or_pos k with h0 | h0
  · subst h0
    rw [hb2 rfl, if_neg (by decide), worth_1, worth_0]
    by_cases h1 : h = 0 ∧ w + 1 = e
    · rw [if_pos h1, if_neg (by omega), if_neg (by omega), if_pos (by omega)]
    · rw [if_neg h1, if_neg (by omega), if_neg (by omega), if_neg (by omega)]
  · have e1 : worth e w h (k + 1) = 0 := worth_two (by omega)
    have e2 : worth e w (h + 1) k = 0 := by
      rcases Nat.lt_or_ge k 2 with h2 | h2
      · have : k = 1 := by omega
        subst this
        rw [worth_1, if_neg (by omega)]
      · exact worth_two h2
    rw [e1, e2]
    cases b <;> rfl
/-- a row with both ends in the part -/
theorem worth_loop {e w h k : Nat} (c : e ≤ w + 1) (a b : Bool) (ha : a = true → 1 ≤ k) (hb : b = true → 1 ≤ k) :
    (if a = true then 0 else worth e w h (k + 1)) + (if b = true then 0 else worth e w h (k + 1)) = worth e (w + 1) h k := by
  rcases Nat.eq_zero_or_pos k with h0 | h0
  · subst h0
    have ha' : a = false := by cases a; rfl; exact absurd (ha rfl) (by omega)
    have hb' : b = false := by cases b; rfl; exact absurd (hb rfl) (by omega)
    subst ha' hb'
    rw [if_neg (by decide), worth_1, worth_0]
    by_cases h1 : h = 0 ∧ w + 1 = e
    · rw [if_pos h1, if_neg (by omega), if_pos (by omega)]
    · rw [if_neg h1, if_neg (by omega), if_neg (by omega), if_neg (by omega)]
  · have e1 : worth e w h (k + 1) = 0 := worth_two (by omega)
    have e2 : worth e (w + 1) h k = 0 := by
      rcases Nat.lt_or_ge k 2 with h2 | h2
      · have : k = 1 := by omega
        subst this
        rw [worth_1, if_neg (by omega)]
      · exact worth_two h2
    rw [e1, e2]
    cases a <;> cases b <;> rfl
/-- a row that joins two parts -/
theorem worth_join {e1 w1 h1 k1 e2 w2 h2 k2 : Nat} (c1 : e1 ≤ w1 + 1) (c2 : e2 ≤ w2 + 1) (p1 : 1 ≤ e1) (p2 : 1 ≤ e2) (a b : Bool) (ha : a = true → 1 ≤ k1) (hb : b = true → 1 ≤ k2) :
    (if a = true then 0 else worth e1 w1 h1 (k1 + 1) * worth e2 w2 h2 k2) + (if b = true then 0 else worth e1 w1 h1 k1 * worth e2 w2 h2 (k2 + 1)) = worth (e1 + e2) (w1 + w2 + 1) (h1 + h2) (k1 + k2) := by
  have tree : worth (e1 + e2) (w1 + w2 + 1) (h1 + h2) 1 = worth e1 w1 h1 1 * worth e2 w2 h2 1 := by
    rw [worth_1, worth_1, worth_1]
    by_cases q1 : h1 = 0 ∧ w1 + 1 = e1
    · rw [if_pos q1]
      by_cases q2 : h2 = 0 ∧ w2 + 1 = e2
      · rw [if_pos q2, if_pos (by omega)]
      · rw [if_neg q2, if_neg (by omega)]
    · rw [if_neg q1, if_neg (by omega), Nat.zero_mul]
  rcases Nat.eq_zero_or_pos k1 with z1 | z1
  · subst z1
    have ha' : a = false := by cases a; rfl; exact absurd (ha rfl) (by omega)
    subst ha'
    rw [if_neg (by decide)]
    rcases Nat.eq_zero_or_pos k2 with z2 | z2
    · subst z2
      have hb' : b = false := by cases b; rfl; exact absurd (hb rfl) (by omega)
      subst hb'
      rw [if_neg (by decide), worth_1, worth_1, worth_0, worth_0, worth_0]
      clear tree
      (repeat' split) <;> omega
    · -- k1 = 0, k2 ≥ 1
      have e0 : worth e2 w2 h2 (k2 + 1) = 0 := worth_two (by omega)
      rw [e0, Nat.mul_zero, Nat.zero_add]
      have ez : (if b = true then 0 else 0) = 0 := by cases b <;> rfl
      rw [ez, Nat.add_zero]
      rcases Nat.lt_or_ge k2 2 with y | y
      · have : k2 = 1 := by omega
        subst this
        exact tree.symm
      · rw [worth_two y, Nat.mul_zero, worth_two (by omega)]
  · have e0 : worth e1 w1 h1 (k1 + 1) = 0 := worth_two (by omega)
    rw [e0, Nat.zero_mul]
    have ez : (if a = true then 0 else 0) = 0 := by cases a <;> rfl
    rw [ez, Nat.zero_add]
    rcases Nat.eq_zero_or_pos k2 with z2 | z2
    · subst z2
      have hb' : b = false := by cases b; rfl; exact absurd (hb rfl) (by omega)
      subst hb'
      rw [if_neg (by decide), Nat.add_zero]
      rcases Nat.lt_or_ge k1 2 with y | y
      · have : k1 = 1 := by omega
        subst this
        exact tree.symm
      · rw [worth_two y, Nat.zero_mul, worth_two (by omega)]
    · have e2' : worth e2 w2 h2 (k2 + 1) = 0 := worth_two (by omega)
      rw [e2', Nat.mul_zero, worth_two (by omega)]
      cases b <;> rfl
/-! ### parts -/
def prodN : List Nat → Nat
  | [] => 1
  | x :: l => x * prodN l
theorem prodN_append : ∀ l m : List Nat, prodN (l ++ m) = prodN l * prodN m
  | [], m => by simp [prodN]
  | x :: l, m => by simp only [List.cons_append, prodN, prodN_append l m, Nat.mul_assoc]
theorem prodN_perm {l m : List Nat} (p : l.Perm m) : prodN l = prodN m := by
  induction p with
  | nil => rfl
  | cons a _ ih => simp only [prodN, ih]
  | swap a b l => simp only [prodN, Nat.mul_left_comm]
  | trans _ _ h1 h2 => rw [h1, h2]
/-- the first end of a row stands in the part -/
def heads (es p : List End) : Bool := match es with
  | [] => false
  | v :: _ => decide (v ∈ p)
def wh (p : List End) (rows : List (List End)) : Nat := (rows.map fun es => if heads es p = true then es.length / 2 else 0).sum
def hf (p : List End) (rows : List (List End)) : Nat := (rows.map fun es => if heads es p = true then 2 - es.length else 0).sum
def kk (p U : List End) : Nat := (p.filter fun v => decide (v ∈ U)).length
def val (rows : List (List End)) (U p : List End) : Nat := worth p.length (wh p rows) (hf p rows) (kk p U)

theorem heads_congr {p q : List End} (h : ∀ v, v ∈ p ↔ v ∈ q) (es : List End) : heads es p = heads es q := by
  cases es with
  | nil => rfl
  | cons v t => simp only [heads, h v]
theorem wh_congr {p q : List End} (h : ∀ v, v ∈ p ↔ v ∈ q) (rows : List (List End)) : wh p rows = wh q rows := by
  unfold wh
  simp only [heads_congr h]
theorem hf_congr {p q : List End} (h : ∀ v, v ∈ p ↔ v ∈ q) (rows : List (List End)) : hf p rows = hf q rows := by
  unfold hf
  simp only [heads_congr h]
theorem kk_perm {p q : List End} (h : p.Perm q) (U : List End) : kk p U = kk q U := (h.filter _).length_eq
theorem val_perm {p q : List End} (h : p.Perm q) (rows : List (List End)) (U : List End) : val rows U p = val rows U q := by
  unfold val
  rw [h.length_eq, wh_congr (fun v => h.mem_iff) rows, hf_congr (fun v => h.mem_iff) rows, kk_perm h U]

structure InvP (rows P : List (List End)) : Prop where
  nd : P.flatten.Nodup
  row : ∀ es ∈ rows, es ≠ [] ∧ ∃ p ∈ P, ∀ v ∈ es, v ∈ p
  conn : ∀ p ∈ P, 1 ≤ p.length ∧ p.length ≤ wh p rows + 1
  prod : ∀ U, cnt rows U = prodN (P.map fun p => val rows U p)

theorem InvP.perm {rows P Q : List (List End)} (I : InvP rows P) (h : P.Perm Q) : InvP rows Q where
  nd := (h.flatten.nodup_iff).mp I.nd
  row := fun es he => let ⟨h1, p, hp, h2⟩ := I.row es he; ⟨h1, p, h.mem_iff.mp hp, h2⟩
  conn := fun p hp => I.conn p (h.mem_iff.mpr hp)
  prod := fun U => by rw [I.prod U]; exact prodN_perm (h.map _)
theorem InvP.head {rows R : List (List End)} {p q : List End} (I : InvP rows (p :: R)) (h : p.Perm q) : InvP rows (q :: R) where
  nd := by
    have e : (p :: R).flatten.Perm (q :: R).flatten := by
      simp only [List.flatten_cons]
      exact h.append_right _
    exact e.nodup_iff.mp I.nd
  row := fun es he => by
    obtain ⟨h1, r, hr, h2⟩ := I.row es he
    rcases List.mem_cons.mp hr with rfl | hr
    · exact ⟨h1, q, List.mem_cons_self, fun v hv => h.mem_iff.mp (h2 v hv)⟩
    · exact ⟨h1, r, List.mem_cons_of_mem _ hr, h2⟩
  conn := fun r hr => by
    rcases List.mem_cons.mp hr with rfl | hr
    · have c := I.conn p List.mem_cons_self
      rw [← h.length_eq, ← wh_congr (fun v => h.mem_iff) rows]
      exact c
    · exact I.conn r (List.mem_cons_of_mem _ hr)
  prod := fun U => by
    rw [I.prod U]
    simp only [List.map_cons, prodN, val_perm h]

theorem heads_none {es p : List End} (h : ∀ v ∈ es, v ∉ p) : heads es p = false := by
  cases es with
  | nil => rfl
  | cons v t => simp only [heads, h v List.mem_cons_self, decide_false]
theorem sum_zero {α : Type} {f : α → Nat} : ∀ l : List α, (∀ x ∈ l, f x = 0) → (l.map f).sum = 0
  | [], _ => rfl
  | a :: l, h => by
    simp only [List.map_cons, List.sum_cons, h a List.mem_cons_self, sum_zero l fun x hx => h x (List.mem_cons_of_mem _ hx)]
theorem mem_flat {P : List (List End)} {p : List End} {v : End} (hp : p ∈ P) (hv : v ∈ p) : v ∈ P.flatten := List.mem_flatten.mpr ⟨p, hp, hv⟩

/-- a new end is a part by itself -/
theorem InvP.single {rows P : List (List End)} (I : InvP rows P) {v : End} (hv : v ∉ P.flatten) : InvP rows ([v] :: P) := by
  have hno : ∀ es ∈ rows, heads es [v] = false := fun es he => by
    obtain ⟨_, p, hp, h2⟩ := I.row es he
    refine heads_none fun u hu hm => hv ?_
    rw [List.mem_singleton] at hm
    rw [← hm]
    exact mem_flat hp (h2 u hu)
  have w0 : wh [v] rows = 0 := sum_zero rows fun es he => by rw [hno es he]; rfl
  have h0 : hf [v] rows = 0 := sum_zero rows fun es he => by rw [hno es he]; rfl
  refine ⟨?_, fun es he => ?_, fun p hp => ?_, fun U => ?_⟩
  · rw [List.flatten_cons]
    exact List.nodup_cons.mpr ⟨hv, I.nd⟩
  · obtain ⟨h1, p, hp, h2⟩ := I.row es he
    exact ⟨h1, p, List.mem_cons_of_mem _ hp, h2⟩
  · rcases List.mem_cons.mp hp with rfl | hp
    · exact ⟨by simp, by simp⟩
    · exact I.conn p hp
  · rw [I.prod U]
    simp only [List.map_cons, prodN]
    have e : val rows U [v] = 1 := by
      unfold val
      rw [w0, h0]
      refine worth_one _ ?_
      exact List.length_filter_le _ [v]
    rw [e, Nat.one_mul]

/-! ### a row more -/
theorem wh_snoc (p : List End) (rows : List (List End)) (es : List End) : wh p (rows ++ [es]) = wh p rows + if heads es p = true then es.length / 2 else 0 := by
  unfold wh
  rw [List.map_append, List.sum_append]
  simp
theorem hf_snoc (p : List End) (rows : List (List End)) (es : List End) : hf p (rows ++ [es]) = hf p rows + if heads es p = true then 2 - es.length else 0 := by
  unfold hf
  rw [List.map_append, List.sum_append]
  simp
theorem kk_out {p U : List End} {v : End} (h : v ∉ p) : kk p (v :: U) = kk p U := by
  unfold kk
  congr 1
  apply List.filter_congr
  intro x hx
  have : x ≠ v := fun e => h (e ▸ hx)
  simp [this]
theorem kk_in : ∀ {p U : List End} {v : End}, p.Nodup → v ∈ p → v ∉ U → kk p (v :: U) = kk p U + 1
  | x :: p, U, v, nd, hv, hU => by
    obtain ⟨n1, n2⟩ := List.nodup_cons.mp nd
    rcases List.mem_cons.mp hv with rfl | hv
    · have e := kk_out (U := U) n1
      unfold kk at e ⊢
      rw [List.filter_cons_of_pos (by simp), List.filter_cons_of_neg (by simpa using hU), List.length_cons, e]
    · have e := kk_in n2 hv hU
      have hx : x ≠ v := fun q => n1 (q ▸ hv)
      unfold kk at e ⊢
      by_cases hxU : x ∈ U
      · rw [List.filter_cons_of_pos (by simp [hxU]), List.filter_cons_of_pos (by simp [hxU]), List.length_cons, List.length_cons, e]
      · rw [List.filter_cons_of_neg (by simp [hxU, hx]), List.filter_cons_of_neg (by simp [hxU]), e]
theorem kk_pos {p U : List End} {v : End} (h : v ∈ p) (hU : v ∈ U) : 1 ≤ kk p U := List.length_pos_of_mem (List.mem_filter.mpr ⟨h, by simpa using hU⟩)
theorem kk_zero {p U : List End} (h : kk p U = 0) {v : End} (hv : v ∈ p) : v ∉ U := fun hU => by
  have := kk_pos hv hU
  omega
/-- the other parts do not feel it -/
theorem rest_same {rows R : List (List End)} {es : List End} (h : ∀ p ∈ R, ∀ v ∈ es, v ∉ p) (U : List End) : (R.map fun p => val (rows ++ [es]) U p) = R.map fun p => val rows U p := by
  apply List.map_congr_left
  intro p hp
  unfold val
  rw [wh_snoc, hf_snoc, heads_none (h p hp)]
  simp
theorem rest_take {rows R : List (List End)} {v : End} (h : ∀ p ∈ R, v ∉ p) (U : List End) : (R.map fun p => val rows (v :: U) p) = R.map fun p => val rows U p := by
  apply List.map_congr_left
  intro p hp
  unfold val
  rw [kk_out (h p hp)]

theorem cnt_two (rows : List (List End)) (a b : End) (U : List End) : cnt (rows ++ [[a, b]]) U = (if a ∈ U then 0 else cnt rows (a :: U)) + (if b ∈ U then 0 else cnt rows (b :: U)) := by
  rw [cnt_snoc]
  simp
theorem cnt_one (rows : List (List End)) (a : End) (U : List End) : cnt (rows ++ [[a]]) U = if a ∈ U then 0 else cnt rows (a :: U) := by
  rw [cnt_snoc]
  simp

theorem InvP.out {rows R : List (List End)} {A : List End} (I : InvP rows (A :: R)) {a : End} (ha : a ∈ A) : ∀ p ∈ R, a ∉ p := fun p hp hap => by
  have n := I.nd
  rw [List.flatten_cons, List.nodup_append] at n
  exact n.2.2 a ha a (mem_flat hp hap) rfl
theorem InvP.ndA {rows R : List (List End)} {A : List End} (I : InvP rows (A :: R)) : A.Nodup := by
  have n := I.nd
  rw [List.flatten_cons, List.nodup_append] at n
  exact n.1

theorem InvP.half {rows R : List (List End)} {A : List End} (I : InvP rows (A :: R)) {a : End} (ha : a ∈ A) : InvP (rows ++ [[a]]) (A :: R) := by
  have c := I.conn A List.mem_cons_self
  have hout : ∀ p ∈ R, ∀ v ∈ [a], v ∉ p := fun p hp v hv => by
    rw [List.mem_singleton] at hv
    rw [hv]
    exact I.out ha p hp
  have hh : heads [a] A = true := by simp [heads, ha]
  have hw : wh A (rows ++ [[a]]) = wh A rows := by rw [wh_snoc, hh]; simp
  have hf' : hf A (rows ++ [[a]]) = hf A rows + 1 := by rw [hf_snoc, hh]; simp
  refine ⟨I.nd, fun es he => ?_, fun p hp => ?_, fun U => ?_⟩
  · rcases List.mem_append.mp he with he | he
    · exact I.row es he
    · rw [List.mem_singleton] at he
      subst he
      exact ⟨by simp, A, List.mem_cons_self, fun v hv => by rw [List.mem_singleton] at hv; rw [hv]; exact ha⟩
  · rcases List.mem_cons.mp hp with rfl | hp2
    · rw [hw]; exact c
    · have := I.conn p hp
      rw [wh_snoc]
      omega
  · rw [cnt_one, List.map_cons, prodN, rest_same hout]
    by_cases hU : a ∈ U
    · rw [if_pos hU]
      have e := worth_half (e := A.length) (w := wh A rows) (h := hf A rows) (k := kk A U) c.2 true (fun _ => kk_pos ha hU) (fun z => absurd (kk_pos ha hU) (by omega))
      rw [if_pos rfl] at e
      unfold val
      rw [hw, hf', ← e, Nat.zero_mul]
    · rw [if_neg hU, I.prod, List.map_cons, prodN, rest_take (I.out ha)]
      have e := worth_half (e := A.length) (w := wh A rows) (h := hf A rows) (k := kk A U) c.2 false (fun z => absurd z (by decide)) (fun _ => rfl)
      rw [if_neg (by decide)] at e
      unfold val
      rw [hw, hf', ← e, kk_in I.ndA ha hU]

theorem InvP.loop {rows R : List (List End)} {A : List End} (I : InvP rows (A :: R)) {a b : End} (ha : a ∈ A) (hb : b ∈ A) : InvP (rows ++ [[a, b]]) (A :: R) := by
  have c := I.conn A List.mem_cons_self
  have hin : ∀ v ∈ [a, b], v ∈ A := fun v hv => by
    simp only [List.mem_cons, List.not_mem_nil, or_false] at hv
    rcases hv with h | h <;> rw [h] <;> assumption
  have hout : ∀ p ∈ R, ∀ v ∈ [a, b], v ∉ p := fun p hp v hv => I.out (hin v hv) p hp
  have hh : heads [a, b] A = true := by simp [heads, ha]
  have hw : wh A (rows ++ [[a, b]]) = wh A rows + 1 := by rw [wh_snoc, hh]; simp
  have hf' : hf A (rows ++ [[a, b]]) = hf A rows := by rw [hf_snoc, hh]; simp
  refine ⟨I.nd, fun es he => ?_, fun p hp => ?_, fun U => ?_⟩
  · rcases List.mem_append.mp he with he | he
    · exact I.row es he
    · rw [List.mem_singleton] at he
      subst he
      exact ⟨by simp, A, List.mem_cons_self, hin⟩
  · rcases List.mem_cons.mp hp with rfl | hp2
    · rw [hw]; exact ⟨c.1, by omega⟩
    · have := I.conn p hp
      rw [wh_snoc]
      omega
  · rw [cnt_two, List.map_cons, prodN, rest_same hout]
    have key : ∀ v ∈ A, (if v ∈ U then 0 else cnt rows (v :: U)) = (if decide (v ∈ U) = true then 0 else worth A.length (wh A rows) (hf A rows) (kk A U + 1)) * prodN (R.map fun p => val rows U p) := fun v hv => by
      by_cases hU : v ∈ U
      · rw [if_pos hU, if_pos (decide_eq_true hU), Nat.zero_mul]
      · rw [if_neg hU, if_neg (by simpa using hU), I.prod, List.map_cons, prodN, rest_take (I.out hv)]
        unfold val
        rw [kk_in I.ndA hv hU]
    rw [key a ha, key b hb, ← Nat.add_mul]
    unfold val
    rw [hw, hf', worth_loop c.2 (decide (a ∈ U)) (decide (b ∈ U)) (fun z => kk_pos ha (of_decide_eq_true z)) (fun z => kk_pos hb (of_decide_eq_true z))]

theorem split_ite {A B : List End} (hd : ∀ v ∈ A, v ∉ B) (es : List End) (x : Nat) : (if heads es (A ++ B) = true then x else 0) = (if heads es A = true then x else 0) + (if heads es B = true then x else 0) := by
  cases es with
  | nil => simp [heads]
  | cons v t =>
    simp only [heads, decide_eq_true_eq, List.mem_append]
    by_cases hA : v ∈ A
    · simp [hA, hd v hA]
    · by_cases hB : v ∈ B <;> simp [hA, hB]
theorem sum_add {α : Type} {f g h : α → Nat} (e : ∀ x, f x = g x + h x) : ∀ l : List α, (l.map f).sum = (l.map g).sum + (l.map h).sum
  | [] => rfl
  | a :: l => by
    simp only [List.map_cons, List.sum_cons, sum_add e l, e a]
    omega

theorem InvP.join {rows R : List (List End)} {A B : List End} (I : InvP rows (A :: B :: R)) {a b : End} (ha : a ∈ A) (hb : b ∈ B) : InvP (rows ++ [[a, b]]) ((A ++ B) :: R) := by
  have cA := I.conn A List.mem_cons_self
  have cB := I.conn B (List.mem_cons_of_mem _ List.mem_cons_self)
  have IB : InvP rows (B :: A :: R) := I.perm (List.Perm.swap _ _ _)
  have aB : a ∉ B := I.out ha B List.mem_cons_self
  have bA : b ∉ A := IB.out hb A List.mem_cons_self
  have aR : ∀ p ∈ R, a ∉ p := fun p hp => I.out ha p (List.mem_cons_of_mem _ hp)
  have bR : ∀ p ∈ R, b ∉ p := fun p hp => IB.out hb p (List.mem_cons_of_mem _ hp)
  have dis : ∀ v ∈ A, v ∉ B := fun v hv => I.out hv B List.mem_cons_self
  have hout : ∀ p ∈ R, ∀ v ∈ [a, b], v ∉ p := fun p hp v hv => by
    simp only [List.mem_cons, List.not_mem_nil, or_false] at hv
    rcases hv with h | h <;> rw [h]
    · exact aR p hp
    · exact bR p hp
  have hin : ∀ v ∈ [a, b], v ∈ A ++ B := fun v hv => by
    simp only [List.mem_cons, List.not_mem_nil, or_false] at hv
    rcases hv with h | h <;> rw [h]
    · exact List.mem_append_left _ ha
    · exact List.mem_append_right _ hb
  have hh : heads [a, b] (A ++ B) = true := by simp [heads, ha]
  have hw0 : wh (A ++ B) rows = wh A rows + wh B rows := sum_add (fun es => split_ite dis es _) rows
  have hf0 : hf (A ++ B) rows = hf A rows + hf B rows := sum_add (fun es => split_ite dis es _) rows
  have hw : wh (A ++ B) (rows ++ [[a, b]]) = wh A rows + wh B rows + 1 := by rw [wh_snoc, hh, hw0]; simp
  have hf' : hf (A ++ B) (rows ++ [[a, b]]) = hf A rows + hf B rows := by rw [hf_snoc, hh, hf0]; simp
  have hk : ∀ U, kk (A ++ B) U = kk A U + kk B U := fun U => by
    unfold kk
    rw [List.filter_append, List.length_append]
  refine ⟨?_, fun es he => ?_, fun p hp => ?_, fun U => ?_⟩
  · have n := I.nd
    simp only [List.flatten_cons] at n ⊢
    rw [List.append_assoc]
    exact n
  · rcases List.mem_append.mp he with he | he
    · obtain ⟨h1, p, hp, h2⟩ := I.row es he
      refine ⟨h1, ?_⟩
      rcases List.mem_cons.mp hp with rfl | hp
      · exact ⟨p ++ B, List.mem_cons_self, fun v hv => List.mem_append_left _ (h2 v hv)⟩
      · rcases List.mem_cons.mp hp with rfl | hp
        · exact ⟨A ++ p, List.mem_cons_self, fun v hv => List.mem_append_right _ (h2 v hv)⟩
        · exact ⟨p, List.mem_cons_of_mem _ hp, h2⟩
    · rw [List.mem_singleton] at he
      subst he
      exact ⟨by simp, A ++ B, List.mem_cons_self, hin⟩
  · rcases List.mem_cons.mp hp with rfl | hp2
    · rw [hw, List.length_append]
      omega
    · have := I.conn p (List.mem_cons_of_mem _ (List.mem_cons_of_mem _ hp2))
      rw [wh_snoc]
      omega
  · rw [cnt_two, List.map_cons, prodN, rest_same hout]
    have e := worth_join (e1 := A.length) (w1 := wh A rows) (h1 := hf A rows) (k1 := kk A U) (e2 := B.length) (w2 := wh B rows) (h2 := hf B rows) (k2 := kk B U) cA.2 cB.2 cA.1 cB.1
      (decide (a ∈ U)) (decide (b ∈ U)) (fun z => kk_pos ha (of_decide_eq_true z)) (fun z => kk_pos hb (of_decide_eq_true z))
    have k1 : (if a ∈ U then 0 else cnt rows (a :: U)) = (if decide (a ∈ U) = true then 0 else worth A.length (wh A rows) (hf A rows) (kk A U + 1) * worth B.length (wh B rows) (hf B rows) (kk B U)) * prodN (R.map fun p => val rows U p) := by
      by_cases hU : a ∈ U
      · rw [if_pos hU, if_pos (decide_eq_true hU), Nat.zero_mul]
      · rw [if_neg hU, if_neg (by simpa using hU), I.prod, List.map_cons, List.map_cons, prodN, prodN, rest_take aR]
        unfold val
        rw [kk_in I.ndA ha hU, kk_out aB, Nat.mul_assoc]
    have k2 : (if b ∈ U then 0 else cnt rows (b :: U)) = (if decide (b ∈ U) = true then 0 else worth A.length (wh A rows) (hf A rows) (kk A U) * worth B.length (wh B rows) (hf B rows) (kk B U + 1)) * prodN (R.map fun p => val rows U p) := by
      by_cases hU : b ∈ U
      · rw [if_pos hU, if_pos (decide_eq_true hU), Nat.zero_mul]
      · rw [if_neg hU, if_neg (by simpa using hU), I.prod, List.map_cons, List.map_cons, prodN, prodN, rest_take bR]
        unfold val
        rw [kk_in IB.ndA hb hU, kk_out bA, Nat.mul_assoc]
    rw [k1, k2, ← Nat.add_mul, e]
    unfold val
    rw [hw, hf', hk, List.length_append]

/-! ### the joining of parts -/
def touch (es p : List End) : Bool := es.any fun v => decide (v ∈ p)
def addNew (w es : List End) : List End := es.foldl (fun w v => if v ∈ w then w else w ++ [v]) w
def joined (P : List (List End)) (es : List End) : List (List End) := P.filter (fun p => !touch es p) ++ [addNew (P.filter fun p => touch es p).flatten es]

theorem filter_nil {α : Type} {f : α → Bool} {l : List α} (h : ∀ x ∈ l, f x = false) : l.filter f = [] := List.filter_eq_nil_iff.mpr fun x hx => by rw [h x hx]; decide
theorem filter_all {α : Type} {f : α → Bool} {l : List α} (h : ∀ x ∈ l, f x = true) : l.filter f = l := List.filter_eq_self.mpr h

theorem bring {rows Q : List (List End)} {X : List End} {R : List (List End)} {f : List End → Bool} (I : InvP rows (X :: R)) (hx : (Q.filter f).flatten.Perm X) (hr : (Q.filter fun p => !f p).Perm R) {W : List End} (hW : W.Perm (Q.filter f).flatten) :
    InvP rows ((Q.filter fun p => !f p) ++ [W]) := by
  have I2 := I.head (hx.symm.trans hW.symm)
  refine I2.perm ?_
  exact (List.Perm.cons W hr.symm).trans (List.perm_append_comm (l₁ := [W]))

theorem find_part {Q : List (List End)} {a : End} (h : a ∈ Q.flatten) : ∃ A R, a ∈ A ∧ Q.Perm (A :: R) := by
  obtain ⟨A, hA, ha⟩ := List.mem_flatten.mp h
  exact ⟨A, Q.erase A, ha, List.perm_cons_erase hA⟩

theorem join_core1 {rows Q : List (List End)} (I : InvP rows Q) {a : End} (ha : a ∈ Q.flatten) {W : List End} (hW : W.Perm (Q.filter fun p => touch [a] p).flatten) : InvP (rows ++ [[a]]) ((Q.filter fun p => !touch [a] p) ++ [W]) := by
  obtain ⟨A, R, hA, hp⟩ := find_part ha
  have J := I.perm hp
  have tA : touch [a] A = true := by simp [touch, hA]
  have tR : ∀ p ∈ R, touch [a] p = false := fun p hpR => by simp [touch, J.out hA p hpR]
  refine bring (J.half hA) ?_ ?_ hW
  · have h := (hp.filter fun p => touch [a] p).flatten
    rw [List.filter_cons_of_pos tA, filter_nil (l := R) tR] at h
    simpa using h
  · have h := hp.filter fun p => !touch [a] p
    rw [List.filter_cons_of_neg (by simp [tA]), filter_all (l := R) (fun p hpR => by simp [tR p hpR])] at h
    exact h

theorem join_core2 {rows Q : List (List End)} (I : InvP rows Q) {a b : End} (ha : a ∈ Q.flatten) (hb : b ∈ Q.flatten) {W : List End} (hW : W.Perm (Q.filter fun p => touch [a, b] p).flatten) : InvP (rows ++ [[a, b]]) ((Q.filter fun p => !touch [a, b] p) ++ [W]) := by
  obtain ⟨A, R, hA, hp⟩ := find_part ha
  have J := I.perm hp
  have tA : touch [a, b] A = true := by simp [touch, hA]
  by_cases hbA : b ∈ A
  · have tR : ∀ p ∈ R, touch [a, b] p = false := fun p hpR => by simp [touch, J.out hA p hpR, J.out hbA p hpR]
    refine bring (J.loop hA hbA) ?_ ?_ hW
    · have h := (hp.filter fun p => touch [a, b] p).flatten
      rw [List.filter_cons_of_pos tA, filter_nil (l := R) tR] at h
      simpa using h
    · have h := hp.filter fun p => !touch [a, b] p
      rw [List.filter_cons_of_neg (by simp [tA]), filter_all (l := R) (fun p hpR => by simp [tR p hpR])] at h
      exact h
  · have hb2 : b ∈ (A :: R).flatten := hp.flatten.mem_iff.mp hb
    have hbR : b ∈ R.flatten := by
      rw [List.flatten_cons, List.mem_append] at hb2
      exact hb2.resolve_left hbA
    obtain ⟨B, R2, hB, hp2⟩ := find_part hbR
    have hq : Q.Perm (A :: B :: R2) := hp.trans (List.Perm.cons A hp2)
    have L := I.perm hq
    have LB : InvP rows (B :: A :: R2) := L.perm (List.Perm.swap _ _ _)
    have tB : touch [a, b] B = true := by simp [touch, hB]
    have tR : ∀ p ∈ R2, touch [a, b] p = false := fun p hpR => by simp [touch, L.out hA p (List.mem_cons_of_mem _ hpR), LB.out hB p (List.mem_cons_of_mem _ hpR)]
    refine bring (L.join hA hB) ?_ ?_ hW
    · have h := (hq.filter fun p => touch [a, b] p).flatten
      rw [List.filter_cons_of_pos tA, List.filter_cons_of_pos tB, filter_nil (l := R2) tR] at h
      simpa using h
    · have h := hq.filter fun p => !touch [a, b] p
      rw [List.filter_cons_of_neg (by simp [tA]), List.filter_cons_of_neg (by simp [tB]), filter_all (l := R2) (fun p hpR => by simp [tR p hpR])] at h
      exact h

theorem in_whole {P : List (List End)} {es : List End} {v : End} (hv : v ∈ es) : v ∈ (P.filter fun p => touch es p).flatten ↔ v ∈ P.flatten := by
  constructor
  · intro h
    obtain ⟨p, hp, h2⟩ := List.mem_flatten.mp h
    exact mem_flat (List.mem_filter.mp hp).1 h2
  · intro h
    obtain ⟨p, hp, h2⟩ := List.mem_flatten.mp h
    refine mem_flat (List.mem_filter.mpr ⟨hp, ?_⟩) h2
    exact List.any_eq_true.mpr ⟨v, hv, decide_eq_true h2⟩

theorem joined_one {rows P : List (List End)} (I : InvP rows P) (a : End) : InvP (rows ++ [[a]]) (joined P [a]) := by
  unfold joined
  by_cases ha : a ∈ P.flatten
  · refine join_core1 I ha ?_
    have e : addNew (P.filter fun p => touch [a] p).flatten [a] = (P.filter fun p => touch [a] p).flatten := by
      show (if a ∈ _ then _ else _) = _
      rw [if_pos ((in_whole (by simp)).mpr ha)]
    rw [e]
  · have I2 := I.single ha
    have t1 : touch [a] [a] = true := by simp [touch]
    have h := join_core1 I2 (a := a) (by simp) (W := addNew (P.filter fun p => touch [a] p).flatten [a]) ?_
    · rw [List.filter_cons_of_neg (by simp [t1])] at h
      exact h
    · rw [List.filter_cons_of_pos t1, List.flatten_cons]
      have e : addNew (P.filter fun p => touch [a] p).flatten [a] = (P.filter fun p => touch [a] p).flatten ++ [a] := by
        show (if a ∈ _ then _ else _) = _
        rw [if_neg (fun q => ha ((in_whole (by simp)).mp q))]
      rw [e]
      exact List.perm_append_comm

theorem joined_two {rows P : List (List End)} (I : InvP rows P) {a b : End} (hab : a ≠ b) : InvP (rows ++ [[a, b]]) (joined P [a, b]) := by
  unfold joined
  have hw : ∀ w : List End, addNew w [a, b] = (if b ∈ (if a ∈ w then w else w ++ [a]) then (if a ∈ w then w else w ++ [a]) else (if a ∈ w then w else w ++ [a]) ++ [b]) := fun _ => rfl
  have ta : touch [a, b] [a] = true := by simp [touch]
  have tb : touch [a, b] [b] = true := by simp [touch]
  have ia := in_whole (P := P) (es := [a, b]) (v := a) (by simp)
  have ib := in_whole (P := P) (es := [a, b]) (v := b) (by simp)
  rw [hw]
  generalize hwe : (P.filter fun p => touch [a, b] p).flatten = w at ia ib ⊢
  by_cases ha : a ∈ P.flatten
  · rw [if_pos (ia.mpr ha)]
    by_cases hb : b ∈ P.flatten
    · rw [if_pos (ib.mpr hb)]
      exact join_core2 I ha hb (by rw [hwe])
    · rw [if_neg (fun q => hb (ib.mp q))]
      have h := join_core2 (I.single hb) (a := a) (b := b) (by simp only [List.flatten_cons, List.mem_append]; exact .inr ha) (by simp) (W := w ++ [b]) ?_
      · rw [List.filter_cons_of_neg (by simp [tb])] at h
        exact h
      · rw [List.filter_cons_of_pos tb, List.flatten_cons, hwe]
        exact List.perm_append_comm
  · rw [if_neg (fun q => ha (ia.mp q))]
    by_cases hb : b ∈ P.flatten
    · rw [if_pos (List.mem_append_left _ (ib.mpr hb))]
      have h := join_core2 (I.single ha) (a := a) (b := b) (by simp) (by simp only [List.flatten_cons, List.mem_append]; exact .inr hb) (W := w ++ [a]) ?_
      · rw [List.filter_cons_of_neg (by simp [ta])] at h
        exact h
      · rw [List.filter_cons_of_pos ta, List.flatten_cons, hwe]
        exact List.perm_append_comm
    · rw [if_neg (fun q => by rcases List.mem_append.mp q with q | q; exact hb (ib.mp q); rw [List.mem_singleton] at q; exact hab q.symm)]
      have I2 := (I.single ha).single (v := b) (by
        rw [List.flatten_cons, List.mem_append]
        intro q
        rcases q with q | q
        · rw [List.mem_singleton] at q; exact hab q.symm
        · exact hb q)
      have h := join_core2 I2 (a := a) (b := b) (by simp) (by simp) (W := w ++ [a] ++ [b]) ?_
      · rw [List.filter_cons_of_neg (by simp [tb]), List.filter_cons_of_neg (by simp [ta])] at h
        exact h
      · rw [List.filter_cons_of_pos tb, List.filter_cons_of_pos ta, List.flatten_cons, List.flatten_cons, hwe]
        exact List.perm_append_comm.trans (List.Perm.append_left [b] List.perm_append_comm)

def GoodE (es : List End) : Prop := (∃ a, es = [a]) ∨ ∃ a b, a ≠ b ∧ es = [a, b]
def partsStep (P : List (List End)) (es : List End) : List (List End) := if es.isEmpty then P else joined P es
def partsOf (rows : List (List End)) : List (List End) := rows.foldl partsStep []
theorem parts_inv : ∀ (rows done P : List (List End)), InvP done P → (∀ es ∈ rows, GoodE es) → InvP (done ++ rows) (rows.foldl partsStep P)
  | [], done, P, I, _ => by rw [List.append_nil]; exact I
  | es :: rows, done, P, I, h => by
    have J : InvP (done ++ [es]) (partsStep P es) := by
      rcases h es List.mem_cons_self with ⟨a, rfl⟩ | ⟨a, b, hab, rfl⟩
      · exact joined_one I a
      · exact joined_two I hab
    have h2 := parts_inv rows (done ++ [es]) (partsStep P es) J fun x hx => h x (List.mem_cons_of_mem _ hx)
    rw [List.append_assoc] at h2
    exact h2
theorem inv_nil : InvP [] [] := ⟨List.nodup_nil, fun _ h => (by cases h), fun _ h => (by cases h), fun _ => rfl⟩
theorem cnt_empty : ∀ (rows : List (List End)), [] ∈ rows → ∀ U, cnt rows U = 0
  | es :: rest, h, U => by
    rcases List.mem_cons.mp h with e | h
    · subst e; rfl
    · show (es.map _).sum = 0
      refine sum_zero es fun v _ => ?_
      rw [cnt_empty rest h]
      split <;> rfl
theorem endsOf_good (r : Row) : endsOf r = [] ∨ GoodE (endsOf r) := by
  obtain ⟨l, r⟩ := r
  cases l with
  | none =>
    cases r with
    | none => exact .inl rfl
    | some b => exact .inr (.inl ⟨(1, b), rfl⟩)
  | some a =>
    cases r with
    | none => exact .inr (.inl ⟨(0, a), rfl⟩)
    | some b => exact .inr (.inr ⟨(0, a), (1, b), by simp, rfl⟩)
/-- the number told part by part -/
def passN (rows : List (List End)) : Nat := (if rows.any (·.isEmpty) then 0 else 1) * prodN ((partsOf rows).map fun p => worth p.length (wh p rows) (hf p rows) 0)
theorem passN_eq (rs : List Row) : passN (rs.map endsOf) = cnt (rs.map endsOf) [] := by
  unfold passN
  by_cases he : [] ∈ rs.map endsOf
  · have e : ((rs.map endsOf).any (·.isEmpty)) = true := List.any_eq_true.mpr ⟨[], he, rfl⟩
    rw [e, cnt_empty _ he]
    simp
  · have e : ((rs.map endsOf).any (·.isEmpty)) = false := by
      rw [List.any_eq_false]
      intro x hx hx2
      have : x = [] := List.isEmpty_iff.mp hx2
      exact he (this ▸ hx)
    rw [e]
    have hg : ∀ es ∈ rs.map endsOf, GoodE es := fun es hes => by
      obtain ⟨r, _, e2⟩ := List.mem_map.mp hes
      rcases endsOf_good r with q | q
      · exact absurd (by rw [← q, e2]; exact hes) he
      · rw [← e2]; exact q
    have I := parts_inv (rs.map endsOf) [] [] inv_nil hg
    rw [List.nil_append] at I
    have p := I.prod []
    rw [p]
    show (if false = true then 0 else 1) * _ = _
    rw [if_neg (by decide), Nat.one_mul]
    congr 1
    apply List.map_congr_left
    intro q _
    unfold val
    have : kk q [] = 0 := by unfold kk; simp
    rw [this]

/-! ### the trying of each row of coins -/
abbrev Link := Int × Option Int
def linkOf (r : Row) (c : Int) : Link := if c = 0 then (0, r.1) else (1, r.2)
def coinsN : Nat → Nat → List Int
  | 0, _ => []
  | n + 1, x => ((x % 2 : Nat) : Int) :: coinsN n (x / 2)
def linksN (rs : List Row) (cs : List Int) : List Link := List.zipWith linkOf rs cs
/-- a middle row that is caught -/
def bad (ls : List Link) (k : Nat) : Bool := match ls[k]? with
  | none => false
  | some l => l.2.isNone || decide (l ∈ ls.take k)
def caughtN (ls : List Link) : List Nat := (List.range ls.length).filter (bad ls)
def freeN (ls : List Link) : Bool := (caughtN ls).isEmpty
def okFrom (U : List End) : List Link → Bool
  | [] => true
  | (s, o) :: rest => match o with
    | none => false
    | some e => !decide ((s, e) ∈ U) && okFrom ((s, e) :: U) rest
def toLink (v : End) : Link := (v.1, some v.2)
theorem okFrom_iff : ∀ (ls : List Link) (U : List End), okFrom U ls = true ↔ ∀ k l, ls[k]? = some l → (∃ v, l = toLink v ∧ v ∉ U) ∧ l ∉ ls.take k
  | [], U => by simp [okFrom]
  | (s, o) :: rest, U => by
    constructor
    · intro h k l hk
      cases o with
      | none => exact absurd h (by simp [okFrom])
      | some e =>
        simp only [okFrom, Bool.and_eq_true, Bool.not_eq_true', decide_eq_false_iff_not] at h
        cases k with
        | zero =>
          have : (s, some e) = l := Option.some.inj hk
          subst this
          exact ⟨⟨(s, e), rfl, h.1⟩, by simp⟩
        | succ k =>
          obtain ⟨⟨v, rfl, hv⟩, h2⟩ := (okFrom_iff rest ((s, e) :: U)).mp h.2 k l hk
          refine ⟨⟨v, rfl, fun q => hv (List.mem_cons_of_mem _ q)⟩, ?_⟩
          rw [List.take_succ_cons]
          intro q
          rcases List.mem_cons.mp q with q | q
          · apply hv
            have e1 : v = (s, e) := by
              unfold toLink at q
              simp only [Prod.mk.injEq, Option.some.injEq] at q
              exact Prod.ext q.1 q.2
            rw [e1]
            exact List.mem_cons_self
          · exact h2 q
    · intro h
      obtain ⟨⟨v, hv, hU⟩, _⟩ := h 0 (s, o) rfl
      obtain ⟨v1, v2⟩ := v
      unfold toLink at hv
      simp only [Prod.mk.injEq] at hv
      obtain ⟨rfl, rfl⟩ := hv
      simp only [okFrom, Bool.and_eq_true, Bool.not_eq_true', decide_eq_false_iff_not]
      refine ⟨hU, (okFrom_iff rest _).mpr fun k l hk => ?_⟩
      obtain ⟨⟨u, rfl, hu⟩, h2⟩ := h (k + 1) l hk
      rw [List.take_succ_cons] at h2
      refine ⟨⟨u, rfl, fun q => ?_⟩, fun q => h2 (List.mem_cons_of_mem _ q)⟩
      rcases List.mem_cons.mp q with q | q
      · exact h2 (by rw [q]; exact List.mem_cons_self)
      · exact hu q
theorem freeN_ok (ls : List Link) : freeN ls = okFrom [] ls := by
  have e : freeN ls = true ↔ okFrom [] ls = true := by
    rw [okFrom_iff]
    unfold freeN caughtN
    rw [List.isEmpty_iff, List.filter_eq_nil_iff]
    constructor
    · intro h k l hk
      have hkl : k < ls.length := (List.getElem?_eq_some_iff.mp hk).1
      have b := h k (List.mem_range.mpr hkl)
      unfold bad at b
      rw [hk] at b
      simp only [Bool.or_eq_true, decide_eq_true_eq, not_or] at b
      refine ⟨?_, b.2⟩
      obtain ⟨s, o⟩ := l
      cases o with
      | none => exact absurd rfl b.1
      | some e => exact ⟨(s, e), rfl, by simp⟩
    · intro h k hk hb
      have hkl := List.mem_range.mp hk
      have e := List.getElem?_eq_getElem hkl
      obtain ⟨⟨v, hv, _⟩, h2⟩ := h k _ e
      unfold bad at hb
      rw [e] at hb
      simp only [Bool.or_eq_true, decide_eq_true_eq] at hb
      rcases hb with hb | hb
      · rw [hv] at hb
        exact absurd hb (by simp [toLink])
      · exact h2 hb
  cases h1 : freeN ls <;> cases h2 : okFrom [] ls <;> simp_all

def sumTo : Nat → (Nat → Nat) → Nat
  | 0, _ => 0
  | n + 1, g => sumTo n g + g n
theorem sumTo_two : ∀ (m : Nat) (g : Nat → Nat), sumTo (2 * m) g = sumTo m fun y => g (2 * y) + g (2 * y + 1)
  | 0, _ => rfl
  | m + 1, g => by
    show sumTo (2 * m + 2) g = _
    simp only [sumTo, sumTo_two m g]
    omega
theorem sumTo_add (f g : Nat → Nat) : ∀ m, sumTo m (fun y => f y + g y) = sumTo m f + sumTo m g
  | 0 => rfl
  | m + 1 => by
    simp only [sumTo, sumTo_add f g m]
    omega
theorem sumTo_congr {f g : Nat → Nat} (h : ∀ y, f y = g y) : ∀ m, sumTo m f = sumTo m g
  | 0 => rfl
  | m + 1 => by simp only [sumTo, sumTo_congr h m, h m]
theorem sumTo_zero : ∀ m, sumTo m (fun _ => 0) = 0
  | 0 => rfl
  | m + 1 => by simp only [sumTo, sumTo_zero m]
def bn (b : Bool) : Nat := if b = true then 1 else 0
theorem half_sum (s : Int) (o : Option Int) (U : List End) (f : Nat → List Link) (m : Nat)  (g : End → Nat) (hg : ∀ v, sumTo m (fun y => bn (okFrom (v :: U) (f y))) = g v) :
    sumTo m (fun y => bn (okFrom U ((s, o) :: f y))) = ((match o with | none => [] | some e => [(s, e)]).map fun v => if v ∈ U then 0 else g v).sum := by
  cases o with
  | none => exact sumTo_zero m
  | some e =>
    show _ = (if (s, e) ∈ U then 0 else g (s, e)) + 0
    rw [Nat.add_zero]
    by_cases hU : (s, e) ∈ U
    · rw [if_pos hU]
      have : ∀ y, bn (okFrom U ((s, some e) :: f y)) = 0 := fun y => by
        simp [okFrom, hU, bn]
      rw [sumTo_congr this, sumTo_zero]
    · rw [if_neg hU, ← hg]
      apply sumTo_congr
      intro y
      simp [okFrom, hU]
theorem tries : ∀ (rs : List Row) (U : List End), sumTo (2 ^ rs.length) (fun x => bn (okFrom U (linksN rs (coinsN rs.length x)))) = cnt (rs.map endsOf) U
  | [], U => rfl
  | r :: rs, U => by
    have e : (2 : Nat) ^ (r :: rs).length = 2 * 2 ^ rs.length := by
      rw [List.length_cons, Nat.pow_succ, Nat.mul_comm]
    rw [e, sumTo_two]
    have c0 : ∀ y, linksN (r :: rs) (coinsN (r :: rs).length (2 * y)) = (0, r.1) :: linksN rs (coinsN rs.length y) := fun y => by
      show linkOf r _ :: linksN rs (coinsN rs.length (2 * y / 2)) = _
      rw [show 2 * y / 2 = y by omega, show 2 * y % 2 = 0 by omega]
      rfl
    have c1 : ∀ y, linksN (r :: rs) (coinsN (r :: rs).length (2 * y + 1)) = (1, r.2) :: linksN rs (coinsN rs.length y) := fun y => by
      show linkOf r _ :: linksN rs (coinsN rs.length ((2 * y + 1) / 2)) = _
      rw [show (2 * y + 1) / 2 = y by omega, show (2 * y + 1) % 2 = 1 by omega]
      rfl
    have h2 := sumTo_congr (f := fun y => bn (okFrom U (linksN (r :: rs) (coinsN (r :: rs).length (2 * y)))) + bn (okFrom U (linksN (r :: rs) (coinsN (r :: rs).length (2 * y + 1)))))
      (g := fun y => bn (okFrom U ((0, r.1) :: linksN rs (coinsN rs.length y))) + bn (okFrom U ((1, r.2) :: linksN rs (coinsN rs.length y)))) (fun y => by rw [c0, c1]) (2 ^ rs.length)
    rw [h2, sumTo_add, half_sum 0 r.1 U _ _ (fun v => cnt (rs.map endsOf) (v :: U)) (fun v => tries rs (v :: U)),
      half_sum 1 r.2 U _ _ (fun v => cnt (rs.map endsOf) (v :: U)) (fun v => tries rs (v :: U))]
    show _ = ((endsL r.1 ++ endsR r.2).map _).sum
    rw [List.map_append, List.sum_append]
    congr 1
/-- THE LAW: the number by trying each row of coins is the number told part by part -/
theorem law_plain (rs : List Row) : sumTo (2 ^ rs.length) (fun x => bn (freeN (linksN rs (coinsN rs.length x)))) = passN (rs.map endsOf) := by
  rw [passN_eq, ← tries]
  apply sumTo_congr
  intro y
  rw [freeN_ok]
end K57

/-! Sets of tuples of whole numbers and None: set(), add, in. -/
namespace K57S
open PySem PySem.Spec PyProof.Rows L2
/-! ### keys: a whole number or None -/
def leafOf : Option Int → Leaf
  | none => .none
  | some i => .num i
def optIs : Option Int → Value → Bool
  | none, .none => true
  | some i, .int j _ => decide (j = i)
  | _, _ => false
theorem optIs_shape : ∀ {k : Option Int} {v : Value}, optIs k v = true → (k = none ∧ v = Value.none) ∨ ∃ i t, k = some i ∧ v = Value.int i t
  | none, v, h => by
    cases v <;> first | exact .inl ⟨rfl, rfl⟩ | exact absurd h Bool.false_ne_true
  | some i, v, h => by
    cases v with
    | int j t =>
      have e : j = i := of_decide_eq_true h
      subst e
      exact .inr ⟨_, t, rfl, rfl⟩
    | _ => exact absurd h Bool.false_ne_true
theorem optIs_int (i : Int) (t : Tok) : optIs (some i) (.int i t) = true := decide_eq_true rfl
theorem optIs_leaf {k : Option Int} {v : Value} (h : optIs k v = true) : Leaf.isOf (leafOf k) v = true := by
  rcases optIs_shape h with ⟨rfl, rfl⟩ | ⟨i, t, rfl, rfl⟩
  · rfl
  · exact decide_eq_true rfl
theorem leafOf_inj {a b : Option Int} (h : leafOf a = leafOf b) : a = b := by
  cases a <;> cases b <;> simp_all [leafOf]
def optKind (P : Program) (w : World) : KeyKind P w (Option Int) where
  is := optIs
  hash := fun k => (leafOf k).key.hash w
  inj := fun v a b ha hb => leafOf_inj ((leafKind P w).inj v _ _ (optIs_leaf ha) (optIs_leaf hb))
  byValue := fun k v h => (leafKind P w).byValue _ v (optIs_leaf h)
  pyHash := fun hv h => pyHash_leaf (optIs_leaf hv) h
  eqBool := fun {A E s a b u v Q} hu hv h => by
    refine eqAt_leaf (optIs_leaf hu) (optIs_leaf hv) _ _ _ _ ?_
    have e : decide (leafOf a = leafOf b) = decide (a = b) := by
      by_cases q : a = b
      · rw [decide_eq_true q, decide_eq_true (congrArg leafOf q)]
      · rw [decide_eq_false q, decide_eq_false fun r => q (leafOf_inj r)]
    rw [e]
    exact h
  «strs» := fun k x t v h => by
    rcases optIs_shape h with ⟨_, e⟩ | ⟨_, _, _, e⟩ <;> cases e
abbrev Ky := List (Option Int)
section
variable (P : Program) (w : World)
abbrev kh (k : Ky) : Int := tupleKeyHash (optKind P w) k
abbrev IsQ (h : Heap) (k : Ky) (b : Addr) : Prop := IsTupleKey (optKind P w) h k b
end
section
variable {P : Program} {w : World} {A : Around} {E : Value → Shared → Prop} {s : Shared}
def Flat1 (v : Value) : Prop := v = Value.none ∨ ∃ i t, v = Value.int i t
theorem flat_items {k : Ky} {vs : List Value} (h : ItemsAre (optKind P w) k vs) : ∀ v ∈ vs, Flat1 v := by
  induction h with
  | nil => exact fun v q => (by cases q)
  | cons q _ ih =>
    intro v m
    rcases List.mem_cons.mp m with rfl | m
    · rcases optIs_shape q with ⟨_, e⟩ | ⟨i, t, _, e⟩
      · exact .inl e
      · exact .inr ⟨i, t, e⟩
    · exact ih v m
theorem flat_class {v : Value} (n : Nat) (h : Flat1 v) : ofAClassStatement n v = pure false := by
  rcases h with rfl | ⟨i, t, rfl⟩ <;> cases n <;> rfl
theorem flat_hash {v : Value} (n : Nat) (h : Flat1 v) : hashByValue n v = pure true := by
  rcases h with rfl | ⟨i, t, rfl⟩ <;> cases n <;> rfl

/-- the tuple's hash is by value -/
theorem hash_q {k : Ky} {b : Addr} {R : Bool → Shared → Prop} (hk : IsQ P w s.heap k b) (q : R true s) : wpAny (model P w) A (hashByValue 8 (.ref b)) R E s := by
  have ty := hk.typeIs
  obtain ⟨ob, its, cap, eo, _, ed, ei⟩ := hk
  have fl := flat_items ei
  unfold hashByValue
  refine wpAny_bind (wpAny_specialOf ty F.slot_tuple_hash.lookup ?_)
  show wpAny (model P w) A (seqItems? (Value.ref b) >>= _) R E s
  refine wpAny_bind (wpAny_seqItems eo ed (wpAny_bind ?_))
  show wpAny (model P w) A (forIn its _ _) _ E s
  rw [← Array.forIn_toList]
  refine wpAny_forIn_list _ (fun left acc st => (st = s ∧ acc.1 = none) ∧ ∀ v ∈ left, Flat1 v) _ (fun v left acc st hyp => ?_) (fun acc st hyp => ?_) _ _ ⟨⟨rfl, rfl⟩, fl⟩
  · obtain ⟨⟨e1, e2⟩, e3⟩ := hyp
    subst e1
    rw [flat_hash _ (e3 v (List.mem_cons.mpr (.inl rfl)))]
    exact wpAny_bind (wpAny_pure (wpAny_pure ⟨⟨rfl, rfl⟩, fun u hu => e3 u (List.mem_cons.mpr (.inr hu))⟩))
  · obtain ⟨⟨e1, e2⟩, _⟩ := hyp
    obtain ⟨a1, a2⟩ := acc
    subst e1
    change a1 = none at e2
    subst e2
    exact wpAny_pure q
/-- nor is it of a class statement -/
theorem class_q {k : Ky} {b : Addr} {R : Bool → Shared → Prop} (hk : IsQ P w s.heap k b) (q : R false s) : wpAny (model P w) A (ofAClassStatement 8 (.ref b)) R E s := by
  have ty := hk.typeIs
  obtain ⟨ob, its, cap, eo, _, ed, ei⟩ := hk
  have fl := flat_items ei
  unfold ofAClassStatement
  refine wpAny_bind (wpAny_typeOf ty ?_)
  have et : ("tuple" == "tuple") = true := by decide
  simp only [et, if_true, Bool.not_true, Bool.false_eq_true, if_false]
  first
    | refine wpAny_bind (wpAny_pure ?_)
    | skip
  show wpAny (model P w) A (seqItems? (Value.ref b) >>= _) R E s
  refine wpAny_bind (wpAny_seqItems eo ed (wpAny_bind ?_))
  show wpAny (model P w) A (forIn its _ _) _ E s
  rw [← Array.forIn_toList]
  refine wpAny_forIn_list _ (fun left acc st => (st = s ∧ acc.1 = none) ∧ ∀ v ∈ left, Flat1 v) _ (fun v left acc st hyp => ?_) (fun acc st hyp => ?_) _ _ ⟨⟨rfl, rfl⟩, fl⟩
  · obtain ⟨⟨e1, e2⟩, e3⟩ := hyp
    subst e1
    rw [flat_class _ (e3 v (List.mem_cons.mpr (.inl rfl)))]
    refine wpAny_bind (wpAny_pure ?_)
    simp only [Bool.false_eq_true, if_false]
    exact wpAny_pure ⟨⟨rfl, rfl⟩, fun u hu => e3 u (List.mem_cons.mpr (.inr hu))⟩
  · obtain ⟨⟨e1, e2⟩, _⟩ := hyp
    obtain ⟨a1, a2⟩ := acc
    subst e1
    change a1 = none at e2
    subst e2
    exact wpAny_pure q
/-- a search among such tuples shows nothing -/
theorem unseen_q {k : Ky} {b : Addr} {R : Bool → Shared → Prop} (hk : IsQ P w s.heap k b) {ys : List Value} (hy : ∀ y ∈ ys, ∃ c k', y = Value.ref c ∧ IsQ P w s.heap k' c) (q : R false s) :
    wpAny (model P w) A (searchCouldBeSeen (.ref b) ys) R E s := by
  unfold searchCouldBeSeen
  refine wpAny_bind (wpAny_forIn_list _ (fun left acc st => (st = s ∧ acc.1 = none) ∧ ∀ y ∈ left, ∃ c k', y = Value.ref c ∧ IsQ P w s.heap k' c) _ (fun v left acc st hyp => ?_) (fun acc st hyp => ?_) _ _ ⟨⟨rfl, rfl⟩, hy⟩)
  · obtain ⟨⟨e1, e2⟩, e3⟩ := hyp
    subst e1
    obtain ⟨c, k', rfl, hc⟩ := e3 v (List.mem_cons.mpr (.inl rfl))
    have go : (st = st ∧ (none : Option Bool) = none) ∧ ∀ y ∈ left, ∃ c k', y = Value.ref c ∧ IsQ P w st.heap k' c := ⟨⟨rfl, rfl⟩, fun u hu => e3 u (List.mem_cons.mpr (.inr hu))⟩
    dsimp only
    by_cases same : (b == c || (carriedByValue (Value.ref b) && carriedByValue (Value.ref c))) = true
    · exact wp_if_pos same (wpAny_pure go)
    · refine wp_if_neg same ?_
      refine wpAny_bind (wpAny_eqIsQuiet_tuple hk ?_)
      simp only [Bool.not_true, Bool.false_eq_true, if_false]
      refine wpAny_bind (wpAny_eqIsQuiet_tuple hc ?_)
      simp only [Bool.not_true, Bool.false_eq_true, if_false]
      refine wpAny_bind (class_q hk ?_)
      simp only [Bool.false_eq_true, if_false]
      refine wpAny_bind (class_q hc ?_)
      simp only [Bool.false_eq_true, if_false]
      exact wpAny_pure go
  · obtain ⟨⟨e1, e2⟩, _⟩ := hyp
    obtain ⟨a1, a2⟩ := acc
    subst e1
    change a1 = none at e2
    subst e2
    exact wpAny_pure q
end
end K57S

namespace K57S
open PySem PySem.Spec PyProof.Rows L2
section
variable {P : Program} {w : World} {A : Around} {E : Value → Shared → Prop} {s : Shared}
abbrev Ents := List (Addr × Ky)
def entsV (P : Program) (w : World) (L : Ents) : List (Int × Value) := L.map fun p => (kh P w p.2, Value.ref p.1)
def entsH (P : Program) (w : World) (L : Ents) : List Int := L.map fun p => kh P w p.2
/-- the set at a holds the tuples of L (the tuples themselves stand elsewhere) -/
structure SetQ (P : Program) (w : World) (h : Heap) (a : Addr) (L : Ents) (es : Array (Int × Value)) (ep : Nat) (t : SetTable) : Prop where
  at_ : ∃ o, h.get? a = some o ∧ o.ExactSet ∧ o.data = .set es ep t
  ents : es.toList = entsV P w L
  table : TabOk t (entsH P w L)
  diff : (L.map (·.2)).Nodup
  byval : t.plain = true
  lead : w.params.followText "set-order" = true ∨ t.led = true
  loose : L.length * 5 < t.mask * 3
  small : L.length < 64
def TupsQ (P : Program) (w : World) (h : Heap) (L : Ents) : Prop := ∀ p ∈ L, IsQ P w h p.2 p.1
variable {a : Addr} {L : Ents} {es : Array (Int × Value)} {ep : Nat} {t : SetTable}
theorem entsH_len (P : Program) (w : World) (L : Ents) : (entsH P w L).length = L.length := List.length_map _
theorem SetQ.count (R : SetQ P w s.heap a L es ep t) : es.size = L.length := by
  rw [← Array.length_toList, R.ents]
  exact List.length_map _
theorem SetQ.placed (R : SetQ P w s.heap a L es ep t) : t.place.size = L.length := R.table.sz.trans (entsH_len P w L)
theorem SetQ.fit (R : SetQ P w s.heap a L es ep t) : t.fits es.size = true := by
  have e1 := R.placed
  have e2 := R.count
  have e3 := R.loose
  have e4 : t.dummies.size = 0 := by rw [R.table.dm]; rfl
  refine Bool.and_eq_true_iff.mpr ⟨beq_iff_eq.mpr (e1.trans e2.symm), decide_eq_true ?_⟩
  show t.place.size + t.dummies.size ≤ t.mask
  omega
theorem SetQ.nth (R : SetQ P w s.heap a L es ep t) {i : Nat} {p : Addr × Ky} (hp : L[i]? = some p) : es[i]? = some (kh P w p.2, Value.ref p.1) := by
  rw [← Array.getElem?_toList, R.ents, entsV, List.getElem?_map, hp]
  rfl
/-- the probe behind c steps -/
abbrev prb (m : Nat) (g : Int) (c : Nat) : SetTable.Probe := nth m (runAt m (SetTable.bits g % (m + 1)) (SetTable.bits g)) c
theorem prb_add (m : Nat) (g : Int) (c q : Nat) : nth m (prb m g c) q = prb m g (c + q) := (nth_add m c _ q).symm
theorem adv_dummy (m : Nat) (p : SetTable.Probe) : (adv m p).dummy = p.dummy := by
  unfold adv
  split <;> rfl
theorem nth_dummy (m : Nat) : ∀ (c : Nat) (p : SetTable.Probe), (nth m p c).dummy = p.dummy
  | 0, _ => rfl
  | c + 1, p => (nth_dummy m c (adv m p)).trans (adv_dummy m p)

/-- the search from the c-th step of its way -/
theorem look_q (R : SetQ P w s.heap a L es ep t) (T : TupsQ P w s.heap L) {x : Addr} {k : Ky} (hx : IsQ P w s.heap k x) (room : A.units < cLine) (ad : Bool) {K : Nat} (big : K < 10 * SetTable.turns t.mask)
    (free : way t.mask (kh P w k) K ∉ t.place.toList) (full : ∀ c, c < K → way t.mask (kh P w k) c ∈ t.place.toList) {Q : SetFound → Shared → Prop}
    (yes : ∀ r, k ∈ L.map (·.2) → (ad = true ∨ r.isSome = true) → Q (.there r) s) (no : k ∉ L.map (·.2) → Q (.free (way t.mask (kh P w k) K) false) s) :
    ∀ (n c f : Nat) (stand : Option SetTable.Probe), K - c = n → c ≤ K → n < f → stand.getD (t.probeStart (kh P w k)) = prb t.mask (kh P w k) c →
      (∀ (i : Nat) (p : Addr × Ky), L[i]? = some p → p.2 = k → ∃ d, c ≤ d ∧ d < K ∧ t.place.toList[i]? = some (way t.mask (kh P w k) d)) →
      wpAny (model P w) A (setSearchFrom a (.ref x) (kh P w k) ad f stand) Q E s := by
  intro n
  induction n using Nat.strongRecOn with
  | ind n ih =>
  intro c f stand hn hc hf hst ahead
  obtain ⟨f, rfl⟩ : ∃ g, f = g + 1 := ⟨f - 1, by omega⟩
  obtain ⟨o, eo, ex, ed⟩ := R.at_
  rw [setSearchFrom_succ]
  refine wpAny_bind (wpAny_setState_of eo ed R.fit ?_)
  dsimp only
  have odd : ¬ t.gaveWay = true := by
    unfold SetTable.gaveWay
    rw [mask_odd R.table.mok]
    decide
  refine wp_if_neg odd ?_
  have hashes : ∀ (i : Nat) (p : Addr × Ky), L[i]? = some p → ((es[i]?).map (·.1)).getD 0 = kh P w p.2 := fun i p hp => by
    rw [R.nth hp]
    rfl
  have told := go_spec t R.table.ris R.table.dm (fun i => ((es[i]?).map (·.1)).getD 0) (kh P w k) (10 * SetTable.turns t.mask) (K - c) (prb t.mask (kh P w k) c) (nth_dummy _ _ _) (by omega)
    (fun q hq => by rw [prb_add]; exact full (c + q) (by omega)) (by rw [prb_add, Nat.add_sub_cancel' hc]; exact free)
  rcases told with ⟨q, i, q1, q2, q3, q4, q5⟩ | ⟨q1, q2⟩
  · rw [prb_add] at q2
    rw [prb_add, prb_add] at q5
    have met : t.probe (fun i => ((es[i]?).map (·.1)).getD 0) (kh P w k) (stand.getD (t.probeStart (kh P w k))) = some (.candidate (way t.mask (kh P w k) (c + q)) i (prb t.mask (kh P w k) (c + (q + 1)))) := by
      rw [hst]
      exact q5
    rw [met]
    dsimp only
    have hi : i < L.length := by
      have b := (List.getElem?_eq_some_iff.mp q2).1
      rw [Array.length_toList, R.placed] at b
      exact b
    obtain ⟨p, hp⟩ : ∃ p, L[i]? = some p := ⟨L[i], List.getElem?_eq_getElem hi⟩
    have mp : p ∈ L := List.mem_of_getElem? hp
    have live : t.slot (way t.mask (kh P w k) (c + q)) = .live i := slot_live R.table.ris q2
    have step : wpAny (model P w) A (searchRest a (.ref x) (kh P w k) ad f es t (way t.mask (kh P w k) (c + q)) i (prb t.mask (kh P w k) (c + (q + 1)))) Q E s := by
      unfold searchRest
      rw [R.nth hp]
      dsimp only
      refine wpAny_bind (wpAny_holding (wpAny_eqBool_tuple room (T p mp) hx (wpAny_bind (wpAny_setState_of eo ed R.fit ?_))))
      dsimp only
      by_cases eq : p.2 = k
      · have hin : k ∈ L.map (·.2) := List.mem_map.mpr ⟨p, mp, eq⟩
        rw [decide_eq_true eq]
        cases ad with
        | true => exact wp_if_pos rfl (wpAny_pure (yes none hin (.inl rfl)))
        | false =>
          refine wp_if_neg Bool.false_ne_true ?_
          rw [sameMem]
          simp only [if_true, live, R.nth hp]
          refine wpAny_bind (wpAny_isSame_ref_self (wpAny_bind (wpAny_pure ?_)))
          simp only [if_true]
          exact wpAny_pure (yes (some i) hin (.inr rfl))
      · rw [decide_eq_false eq]
        refine wp_if_neg (by rw [Bool.and_false]; exact Bool.false_ne_true) ?_
        rw [sameMem]
        simp only [if_true, live, R.nth hp]
        refine wpAny_bind (wpAny_isSame_ref_self (wpAny_bind (wpAny_pure ?_)))
        simp only [if_true, Bool.false_eq_true, if_false]
        refine ih (K - (c + (q + 1))) (by omega) (c + (q + 1)) f _ rfl (by omega) (by omega) rfl fun i2 p2 h2 e2 => ?_
        obtain ⟨d, d1, d2, d3⟩ := ahead i2 p2 h2 e2
        refine ⟨d, ?_, d2, d3⟩
        rcases Nat.lt_trichotomy d (c + q) with z | z | z
        · exfalso
          refine q4 (d - c) i2 (by omega) (by rw [prb_add, Nat.add_sub_cancel' d1]; exact d3) ?_
          rw [hashes i2 p2 h2, e2]
        · exfalso
          rw [z] at d3
          have l2 := slot_live R.table.ris d3
          rw [live] at l2
          injection l2 with l2
          subst l2
          rw [hp] at h2
          cases h2
          exact eq e2
        · omega
    by_cases ld : t.led = true
    · refine wp_if_neg (by rw [ld]; exact Bool.false_ne_true) ?_
      exact step
    · have ld0 : t.led = false := by
        cases z : t.led with
        | true => exact absurd z ld
        | false => rfl
      refine wp_if_pos (by rw [ld0]; rfl) ?_
      refine wpAny_bind (unseen_q hx (fun y hy => ?_) ?_)
      · obtain ⟨e, e1, e2⟩ := List.mem_map.mp hy
        have e3 : e ∈ es.toList := by
          have z := Array.mem_toList_iff.mp e1
          exact Array.mem_toList_iff.mpr (Array.mem_filter.mp z).1
        rw [R.ents] at e3
        obtain ⟨u, u1, u2⟩ := List.mem_map.mp e3
        refine ⟨u.1, u.2, ?_, T u u1⟩
        rw [← e2, ← u2]
      · refine wp_if_neg Bool.false_ne_true ?_
        exact step
  · have met : t.probe (fun i => ((es[i]?).map (·.1)).getD 0) (kh P w k) (stand.getD (t.probeStart (kh P w k))) = some (.empty (way t.mask (kh P w k) K) none) := by
      rw [hst]
      rw [prb_add, Nat.add_sub_cancel' hc] at q2
      exact q2
    rw [met]
    dsimp only
    refine wpAny_pure (no fun hin => ?_)
    obtain ⟨p, p1, p2⟩ := List.mem_map.mp hin
    obtain ⟨i, hi⟩ := List.getElem?_of_mem p1
    obtain ⟨d, d1, d2, d3⟩ := ahead i p hi p2
    refine q1 (d - c) i (by omega) (by rw [prb_add, Nat.add_sub_cancel' d1]; exact d3) ?_
    rw [hashes i p hi, p2]
end
end K57S

namespace K57S
open PySem PySem.Spec PyProof.Rows L2
section
variable {P : Program} {w : World} {A : Around} {E : Value → Shared → Prop} {s : Shared}
variable {a : Addr} {L : Ents} {es : Array (Int × Value)} {ep : Nat} {t : SetTable}
theorem entsH_at {P : Program} {w : World} {L : Ents} {i : Nat} {p : Addr × Ky} (h : L[i]? = some p) : (entsH P w L)[i]? = some (kh P w p.2) := by
  rw [entsH, List.getElem?_map, h]
  rfl
theorem seek_q (R : SetQ P w s.heap a L es ep t) (T : TupsQ P w s.heap L) {x : Addr} {k : Ky} (hx : IsQ P w s.heap k x) (room : A.units < cLine) (ad : Bool) {Q : SetFound → Shared → Prop}
    (yes : ∀ r, k ∈ L.map (·.2) → (ad = true ∨ r.isSome = true) → Q (.there r) s)
    (no : ∀ K, k ∉ L.map (·.2) → way t.mask (kh P w k) K ∉ t.place.toList → (∀ c, c < K → way t.mask (kh P w k) c ∈ t.place.toList) → Q (.free (way t.mask (kh P w k) K) false) s) :
    wpAny (model P w) A (setSearch a (.ref x) (kh P w k) ad) Q E s := by
  have lo := R.loose
  obtain ⟨K, big, free, full⟩ := R.table.first (by rw [entsH_len]; omega) (kh P w k)
  have cap : K < 100000 := by
    have z : 10 * SetTable.turns t.mask < 100000 := by
      unfold SetTable.turns
      rcases R.table.mok with e | e | e <;> omega
    omega
  refine look_q R T hx room ad big free full yes (fun hn => no K hn free full) (K - 0) 0 100000 none rfl (Nat.zero_le K) (by omega) rfl fun i p hp e => ?_
  have hi : i < t.place.toList.length := by
    rw [Array.length_toList, R.placed]
    exact (List.getElem?_eq_some_iff.mp hp).1
  have hj := List.getElem?_eq_getElem hi
  have hh := entsH_at (P := P) (w := w) hp
  rw [e] at hh
  obtain ⟨d, d1, d2⟩ := R.table.before free hh hj
  exact ⟨d, Nat.zero_le d, d1, by rw [hj, d2]⟩
/-- k in the set -/
theorem find_q (R : SetQ P w s.heap a L es ep t) (T : TupsQ P w s.heap L) {x : Addr} {k : Ky} (hx : IsQ P w s.heap k x) (room : A.units < cLine) {Q : Option Nat → Shared → Prop}
    (h : ∀ r : Option Nat, r.isSome = decide (k ∈ L.map (·.2)) → Q r s) : wpAny (model P w) A (setFind a (.ref x) (kh P w k)) Q E s := by
  obtain ⟨o, eo, ex, ed⟩ := R.at_
  show wpAny (model P w) A (setFindIn a (.ref x) (kh P w k) (99999 + 1)) Q E s
  unfold setFindIn
  refine wpAny_bind (wpAny_setState_of eo ed R.fit ?_)
  dsimp only
  refine wp_if_neg (by simp [byScan, Value.scannable]) ?_
  refine wpAny_bind (seek_q R T hx room false (fun r hin hr => ?_) fun K hn _ _ => ?_)
  · exact wpAny_pure (h r (by rw [decide_eq_true hin]; exact hr.resolve_left Bool.false_ne_true))
  · exact wpAny_pure (h none (by rw [decide_eq_false hn]; rfl))
theorem SetQ.type (R : SetQ P w s.heap a L es ep t) : s.TypeIs (.ref a) "set" :=
  let ⟨o, eo, ex, _⟩ := R.at_
  ⟨o, eo, ex.1⟩
theorem in_q (R : SetQ P w s.heap a L es ep t) (T : TupsQ P w s.heap L) {x : Addr} {k : Ky} (hx : IsQ P w s.heap k x) (room : A.units + 1 < cLine) {Q : Value → Shared → Prop}
    (h : ∀ tk, Q (.bool (decide (k ∈ L.map (·.2)))) { s with toks := tk }) : wpAny (model P w) A (compareOp .In (.ref x) (.ref a)) Q E s := by
  show wpAny (model P w) A (contains (.ref a) (.ref x) >>= fun b => pure (Value.bool b)) Q E s
  unfold contains
  refine wpAny_bind (wpAny_holding (wpAny_bind (wpAny_specialOf R.type F.slot_set_contains.lookup ?_)))
  have nn : ¬ ((some (Value.builtin "set.__contains__") == some Value.none) = true) := by
    rw [beq_builtin_none]
    exact Bool.false_ne_true
  refine wp_if_neg nn ?_
  refine wpAny_bind (wpAny_callSpecialUnlessNone?_slot R.type F.slot_set_contains (wpAny_call_entry F.slot_set_contains R.type entry_set_contains ?_ (F.args_set_contains_2 _ _)))
  unfold Builtin.«frozenset.__contains__» Builtin.Frozenset.oneOther Builtin.Frozenset.addrOf
  simp only [List.isEmpty_nil, bind_assoc]
  unfold Builtin.Frozenset.withSetAsKey setContains
  refine wpAny_bind (wpAny_pure ?_)
  dsimp only
  refine wpAny_bind (wpAny_pure ?_)
  dsimp only
  refine wpAny_bind (wpAny_tryCatch (wpAny_holding (wpAny_bind (wpAny_pyHash_tuple (A := A.in1) room hx ?_))))
  refine wpAny_bind (find_q (s := { s with toks := s.toks + (k.length + 1) }) (A := A.in1) R T hx room fun r hr => wpAny_pure ?_)
  show wpAny (model P w) A.in1 (ret (Value.bool r.isSome)) _ _ _
  rw [hr]
  exact wpAny_pure ⟨_, rfl, wpAny_truthy_bool (wpAny_pure (h _))⟩

/-! ### adding -/
theorem range_pick {α : Type} : ∀ l : List α, (List.range l.length).filterMap (fun i => l[i]?) = l
  | [] => rfl
  | x :: l => by
    rw [List.length_cons, List.range_succ_eq_map, List.filterMap_cons]
    show x :: ((List.range l.length).map Nat.succ).filterMap (fun i => (x :: l)[i]?) = x :: l
    rw [List.filterMap_map]
    exact congrArg (x :: ·) (range_pick l)
theorem es_get {P : Program} {w : World} {L : Ents} {es : Array (Int × Value)} (h : es.toList = entsV P w L) (i : Nat) : es[i]? = (L[i]?).map fun p => (kh P w p.2, Value.ref p.1) := by
  rw [← Array.getElem?_toList, h, entsV, List.getElem?_map]
theorem picked_hash {P : Program} {w : World} {L : Ents} {es : Array (Int × Value)} (h : es.toList = entsV P w L) : ∀ l : List Nat, (∀ i ∈ l, i < L.length) →
    l.map (fun i => (es.map (·.1)).getD i 0) = entsH P w (l.filterMap fun i => L[i]?)
  | [], _ => rfl
  | i :: l, b => by
    have hi := b i List.mem_cons_self
    have ih := picked_hash h l fun j hj => b j (List.mem_cons_of_mem _ hj)
    have e : (es.map (·.1)).getD i 0 = kh P w (L[i]).2 := by
      rw [Array.getD_eq_getD_getElem?, Array.getElem?_map, es_get h i, List.getElem?_eq_getElem hi]
      rfl
    rw [List.map_cons, ih, e, List.filterMap_cons, List.getElem?_eq_getElem hi]
    rfl
theorem picked_ents {P : Program} {w : World} {L : Ents} {es : Array (Int × Value)} (h : es.toList = entsV P w L) (order : Array Nat) : (order.filterMap fun i => es[i]?).toList = entsV P w (order.toList.filterMap fun i => L[i]?) := by
  rw [Array.toList_filterMap, entsV, List.map_filterMap]
  congr 1
  funext i
  exact es_get h i
theorem relay_q {o : Obj} (eo : s.heap.get? a = some o) (ex : o.ExactSet) (ed : o.data = .set es ep t) (ents : es.toList = entsV P w L) (pl : t.place.size = es.size) (dm : t.dummies = #[]) (fl : es.size ≤ t.mask)
    (diff : (L.map (·.2)).Nodup) (bv : t.plain = true) (ld : w.params.followText "set-order" = true ∨ t.led = true) (five : L.length = 5) {Q : Unit → Shared → Prop}
    (q : ∀ h' L' es' ep' t', Heap.SameBut a s.heap h' → SetQ P w h' a L' es' ep' t' → L'.Perm L → Q () { s with heap := h' }) : wpAny (model P w) A (setRelay a (SetTable.grown 5)) Q E s := by
  have cn : es.size = L.length := by
    rw [← Array.length_toList, ents]
    exact List.length_map _
  have fit : t.fits es.size = true := by
    refine Bool.and_eq_true_iff.mpr ⟨beq_iff_eq.mpr pl, decide_eq_true ?_⟩
    show t.place.size + t.dummies.size ≤ t.mask
    rw [dm]
    show t.place.size + 0 ≤ t.mask
    omega
  obtain ⟨t', order, e1, e2, e3, e4, e5, e6, e7⟩ := relaid_ok t (hs := es.map (·.1)) (wanted := SetTable.grown 5) (M := 31) (by rw [size_20]) (.inr (.inl rfl)) (by rw [Array.size_map]; omega)
  rw [Array.size_map, cn] at e2
  have inb : ∀ i ∈ order.toList, i < L.length := fun i hi => List.mem_range.mp (e2.mem_iff.mp hi)
  rw [picked_hash ents order.toList inb] at e3
  have pm : (order.toList.filterMap fun i => L[i]?).Perm L := by
    have z := e2.filterMap fun i => L[i]?
    rw [range_pick] at z
    exact z
  have pe := picked_ents ents order
  generalize hL2 : (order.toList.filterMap fun i => L[i]?) = L2 at e3 pm pe
  have sz : (order.filterMap fun i => es[i]?).size = es.size := by
    rw [← Array.length_toList, pe, cn, ← pm.length_eq]
    exact List.length_map _
  rw [setRelay_eq]
  refine wpAny_bind (wpAny_setState_of eo ed fit ?_)
  dsimp only
  refine wp_if_neg (by rw [size_20, sizeLine_eq]; decide) ?_
  rw [e1]
  refine wpAny_bind ?_
  dsimp only
  refine wp_if_neg (by rw [sz]; simp) (wpAny_pure ?_)
  dsimp only
  refine wpAny_storeSet_of eo ed ?_ (by rw [sz, cn, five, sizeLine_eq]; decide)
  refine q _ L2 (order.filterMap fun i => es[i]?) (ep + 1) t' (Heap.SameBut.update ..) ?_ pm
  exact { at_ := ⟨_, store_at eo ed, ⟨ex.1, ex.2.1, ex.2.2⟩, rfl⟩, ents := pe, table := e3, diff := (pm.map (·.2)).nodup_iff.mpr diff, byval := e6.trans bv, lead := by rw [e5]; exact ld,
          loose := by rw [pm.length_eq, e4, five]; decide, small := by rw [pm.length_eq, five]; decide }
theorem tups_keep {h h' : Heap} (T : TupsQ P w h L) {o : Obj} (eo : h.get? a = some o) (ed : o.data = .set es ep t) (sb : Heap.SameBut a h h') : TupsQ P w h' L := fun p hp => by
  obtain ⟨o2, its, n, h1, h2, h3, h4⟩ := T p hp
  refine ⟨o2, its, n, (sb.2 p.1 fun z => ?_).trans h1, h2, h3, h4⟩
  rw [z, eo] at h1
  cases h1
  rw [ed] at h3
  cases h3
theorem put_q {P : Program} {w : World} (L : Ents) (p : Nat) (x : Addr) (k : Ky) : entsV P w (L.take p ++ (x, k) :: L.drop p) = (entsV P w L).take p ++ (kh P w k, Value.ref x) :: (entsV P w L).drop p := by
  simp only [entsV, List.map_append, List.map_cons, List.map_take, List.map_drop]
theorem putH_q {P : Program} {w : World} (L : Ents) (p : Nat) (x : Addr) (k : Ky) : entsH P w (L.take p ++ (x, k) :: L.drop p) = (entsH P w L).take p ++ kh P w k :: (entsH P w L).drop p := by
  simp only [entsH, List.map_append, List.map_cons, List.map_take, List.map_drop]
theorem plus_q (R : SetQ P w s.heap a L es ep t) (T : TupsQ P w s.heap L) {x : Addr} {k : Ky} (hx : IsQ P w s.heap k x) (room : A.units < cLine) (few : L.length ≤ 12) {Q : Bool → Shared → Prop}
    (q : ∀ b h' L' es' ep' t', Heap.SameBut a s.heap h' → SetQ P w h' a L' es' ep' t' → (k ∈ L.map (·.2) ∧ L' = L ∨ k ∉ L.map (·.2) ∧ L'.Perm ((x, k) :: L)) → Q b { s with heap := h' }) :
    wpAny (model P w) A (setAddHashed a (.ref x) (kh P w k)) Q E s := by
  obtain ⟨o, eo, ex, ed⟩ := R.at_
  have cn := R.count
  have lo := R.loose
  refine wpAny_holding ?_
  show wpAny (model P w) A (setAddHashedIn a (.ref x) (kh P w k) (99999 + 1)) Q E s
  rw [setAddHashedIn_succ]
  refine wpAny_bind (wpAny_setState_of eo ed R.fit ?_)
  dsimp only
  refine wp_if_neg (by simp [byScan, Value.scannable]) ?_
  refine wpAny_bind (seek_q R T hx room true (fun r hin _ => ?_) fun K hn free full => ?_)
  · exact wpAny_pure (q false s.heap L es ep t (Heap.SameBut.refl a s.heap) R (.inl ⟨hin, rfl⟩))
  · dsimp only
    refine wpAny_bind (wpAny_setState_of eo ed R.fit ?_)
    dsimp only
    obtain ⟨g1, g2, g3, g4, g5, g6, g7, g8, g9⟩ := R.table.put free full
    generalize hpt : t.put (way t.mask (kh P w k) K) = pt at g1 g3 g4 g5 g6 g7 g8 g9
    obtain ⟨t1, pos⟩ := pt
    change pos = _ at g1
    change t1.mask = _ at g4
    change t1.led = _ at g5
    change t1.plain = _ at g6
    change t1.fill = _ at g9
    change TabOk t1 _ at g3
    rw [← g1] at g3
    rw [← putH_q L pos x k] at g3
    have ins : (SetTable.insertAt es pos (kh P w k, Value.ref x)).toList = entsV P w (L.take pos ++ (x, k) :: L.drop pos) := by
      rw [SetTable.toList_insertAt, put_q, R.ents]
    have pm : (L.take pos ++ (x, k) :: L.drop pos).Perm ((x, k) :: L) := put_perm L pos (x, k)
    generalize hL1 : L.take pos ++ (x, k) :: L.drop pos = L1 at g3 ins pm
    generalize hes1 : SetTable.insertAt es pos (kh P w k, Value.ref x) = es1 at ins
    have len1 : L1.length = L.length + 1 := pm.length_eq
    have cn1 : es1.size = L.length + 1 := by
      rw [← Array.length_toList, ins, ← len1]
      exact List.length_map _
    have diff1 : (L1.map (·.2)).Nodup := (pm.map (·.2)).nodup_iff.mpr (List.nodup_cons.mpr ⟨hn, R.diff⟩)
    have ld1 : w.params.followText "set-order" = true ∨ t1.led = true := by
      rw [g5]
      exact R.lead
    have bv1 : t1.plain = true := g6.trans R.byval
    rw [entsH_len] at g9
    have rest : wpAny (model P w) A (do
        storeSet a es1 t1
        if !false && t1.tooFull then setRelay a (SetTable.grown (es.size + 1))
        return true) Q E s := by
      refine wpAny_bind (wpAny_storeSet_of eo ed ?_ (by rw [cn1, sizeLine_eq]; omega))
      have eo1 := store_at (es' := es1) (t' := t1) eo ed
      have sb1 : Heap.SameBut a s.heap (s.heap.update a (Obj.putSet es1 t1)) := Heap.SameBut.update ..
      generalize s.heap.update a (Obj.putSet es1 t1) = h1 at eo1 sb1
      by_cases full1 : t1.tooFull = true
      · have z : (L.length + 1) * 5 ≥ t1.mask * 3 := by
          have y := full1
          unfold SetTable.tooFull at y
          rw [decide_eq_true_eq, g9] at y
          exact y
        have four : L.length = 4 ∧ t.mask = 7 := by
          rw [g4] at z
          rcases R.table.mok with e | e | e
          · exact ⟨by omega, e⟩
          · omega
          · omega
        refine wp_if_pos (by rw [full1]; rfl) ?_
        rw [cn, four.1]
        refine wpAny_bind (relay_q (s := { s with heap := h1 }) (L := L1) eo1 ⟨ex.1, ex.2.1, ex.2.2⟩ rfl ins ?_ g3.dm ?_ diff1 bv1 ld1 (by rw [len1, four.1]) fun h' L' es' ep' t' sb R' pm' => ?_)
        · rw [g3.sz, entsH_len, len1, cn1]
        · rw [cn1, g4, four.1, four.2]
          decide
        · exact wpAny_pure (q true h' L' es' ep' t' (sb1.trans sb) R' (.inr ⟨hn, pm'.trans pm⟩))
      · refine wp_if_neg (by simpa using full1) ?_
        refine wpAny_pure (q true h1 L1 es1 (ep + 1) t1 sb1 ?_ (.inr ⟨hn, pm⟩))
        refine { at_ := ⟨_, eo1, ⟨ex.1, ex.2.1, ex.2.2⟩, rfl⟩, ents := ins, table := g3, diff := diff1, byval := bv1, lead := ld1, loose := ?_, small := by omega }
        unfold SetTable.tooFull at full1
        rw [decide_eq_true_eq, g9] at full1
        omega
    refine wp_if_pos bv1 (wpAny_bind (hash_q hx ?_))
    simp only [if_true]
    exact rest
end
end K57S

namespace K57S
open PySem PySem.Spec PyProof.Rows L2
/-! ### the layer's rules for such sets -/
def optV : Option Int → V
  | none => .non
  | some i => .int i
theorem optV_is : ∀ {k : Option Int} {u : Value}, RelV (optV k) u → optIs k u = true
  | none, u, r => by cases r; rfl
  | some i, u, r => by obtain ⟨t, rfl⟩ := r; exact optIs_int i t
theorem items_opt {P : Program} {w : World} : ∀ {k : Ky} {us : List Value}, Vals (k.map optV) us → ItemsAre (optKind P w) k us
  | [], _, .nil => .nil
  | x :: k, _, .cons r rest => .cons (optV_is r) (items_opt rest)
def SetO (P : Program) (w : World) (a : Addr) (L : Ents) : HO := .ext fun h => ∃ es ep t, SetQ P w h a L es ep t
theorem SetQ.move {P : Program} {w : World} {h h' : Heap} {a : Addr} {L : Ents} {es : Array (Int × Value)} {ep : Nat} {t : SetTable} (R : SetQ P w h a L es ep t) (k : ∀ o, h.get? a = some o → h'.get? a = some o) : SetQ P w h' a L es ep t :=
  let ⟨o, eo, r⟩ := R.at_
  { R with at_ := ⟨o, k o eo, r⟩ }
theorem setO_ok {P : Program} {w : World} {H : Hp} {h : Heap} {a : Addr} {L : Ents} {es : Array (Int × Value)} {ep : Nat} {t : SetTable} (R : SetQ P w h a L es ep t) : ObjOk P w H h a (SetO P w a L) :=
  ⟨⟨es, ep, t, R⟩, let ⟨o, eo, _⟩ := R.at_; ⟨o, eo⟩, fun _ _ ⟨es', ep', t', R'⟩ k => ⟨es', ep', t', R'.move k⟩⟩
section
variable {X : Cx} {pins : List (Addr × Obj)} {σ : L2.St} {H : Hp} {s : Shared}
theorem isQ_of (I : Inv X pins σ H s) {b : Addr} {k : Ky} (h : SqT X.K H b (k.map optV)) : IsQ X.prog X.w s.heap k b := by
  obtain ⟨us, r, ⟨ob, e1, e2, n, e3⟩, _⟩ := I.tuple h
  refine ⟨ob, us.toArray, n, e1, e2, e3, ?_⟩
  have z := items_opt (P := X.prog) (w := X.w) r
  simpa using z
theorem setQ_of (I : Inv X pins σ H s) {a : Addr} {L : Ents} (h : H a = some (SetO X.prog X.w a L)) : ∃ es ep t, SetQ X.prog X.w s.heap a L es ep t := (I.hok a _ h).1
/-- the tuples of a set stand -/
def TupsH (K : PySem.W.Frag) (H : Hp) (L : Ents) : Prop := ∀ p ∈ L, SqT K H p.1 (p.2.map optV)
theorem tupsQ_of (I : Inv X pins σ H s) {L : Ents} (h : TupsH X.K H L) : TupsQ X.prog X.w s.heap L := fun p hp => isQ_of I (h p hp)
/-- set() -/
def rSetNew (P : Program) (w : World) : List V → Hp → VK → Prop := fun xs H Q => xs = [] ∧ ∀ p, H p = none → Q (.ref p) (upd H p (SetO P w p []))
theorem cr_setNew : CallR X (.type "set") (rSetNew X.prog X.w) := by
  intro pins s σ H xs us Q I r h
  obtain ⟨rfl, q⟩ := h
  cases r
  refine setR_new fun _ => ?_
  have new : SetQ X.prog X.w (s.heap.push { cls := .type "set", dict := none, data := .set #[] 0 (.fresh 0 0 (!X.w.params.followText "set-order")) }) s.heap.objs.size [] #[] 0 (.fresh 0 0 (!X.w.params.followText "set-order")) := by
    have eo : (s.heap.push { cls := .type "set", dict := none, data := .set #[] 0 (.fresh 0 0 (!X.w.params.followText "set-order")) }).get? s.heap.objs.size = some { cls := .type "set", dict := none, data := .set #[] 0 (.fresh 0 0 (!X.w.params.followText "set-order")) } := Heap.get?_push_size _ rfl
    have z := setTR_fresh (P := X.prog) (w := X.w) eo
    exact { at_ := z.ob, ents := rfl, table := z.tab, diff := List.nodup_nil, byval := z.plain, lead := z.led, loose := z.room, small := z.few }
  refine ⟨.ref _, upd H s.heap.objs.size (SetO X.prog X.w s.heap.objs.size []), ?_, rfl, q _ (I.hok.fresh (Nat.le_refl _))⟩
  exact I.laid (t' := s.toks) (fun b u e => Heap.get?_push_of_some _ e) (Nat.le_refl _) (setO_ok new)
/-- k in the set -/
def rSetIn (K : PySem.W.Frag) (P : Program) (w : World) : R2 := fun x y H Q => ∃ (b a : Addr) (k : Ky) (L : Ents), x = .ref b ∧ y = .ref a ∧ SqT K H b (k.map optV) ∧ H a = some (SetO P w a L) ∧ TupsH K H L ∧ Q (.bl (decide (k ∈ L.map (·.2)))) H
theorem op_setIn (hu : X.A.units + 65 < cLine) : OpR X (compareOp .In) (rSetIn X.K X.prog X.w) := by
  intro pins s σ H x y v u Q I rx ry h
  obtain ⟨b, a, k, L, rfl, rfl, hb, ha, ht, q⟩ := h
  cases rx
  cases ry
  obtain ⟨es, ep, t, R⟩ := setQ_of I ha
  exact in_q R (tupsQ_of I ht) (isQ_of I hb) (by omega) fun tk => ⟨.bl _, H, I.tok _, rfl, q⟩
/-- the set's add -/
def rSetAdd (K : PySem.W.Frag) (P : Program) (w : World) (a : Addr) : List V → Hp → VK → Prop := fun xs H Q => ∃ (b : Addr) (k : Ky) (L : Ents), xs = [.ref b] ∧ H a = some (SetO P w a L) ∧ SqT K H b (k.map optV) ∧ TupsH K H L ∧ L.length ≤ 12 ∧
  ∀ L' : Ents, (k ∈ L.map (·.2) ∧ L' = L ∨ k ∉ L.map (·.2) ∧ L'.Perm ((b, k) :: L)) → Q .non (upd H a (SetO P w a L'))
theorem run_setAdd (hu : X.A.units + 65 < cLine) {a : Addr} {xs : List V} {us : List Value} {Q : VK} (I : Inv X pins σ H s) (r : Vals xs us) (h : rSetAdd X.K X.prog X.w a xs H Q) :
    wpAny (model X.prog X.w) X.A (call (.builtin "set.add") (.ref a :: us)) (EP X pins σ Q) X.xe s := by
  obtain ⟨b, k, L, rfl, ha, hb, ht, few, q⟩ := h
  cases r with
  | cons r0 rn =>
  cases rn
  cases r0
  obtain ⟨es, ep, t, R⟩ := setQ_of I ha
  have T := tupsQ_of I ht
  have B := isQ_of I hb
  refine wpAny_call_entry F.slot_set_add R.type F.entry_set_add ?_ (F.args_set_add_2 _ _)
  unfold Builtin.«set.add» Builtin.Frozenset.oneOther Builtin.Frozenset.addrOf
  simp only [List.isEmpty_nil, bind_assoc]
  unfold setAdd
  refine wpAny_bind (wpAny_pure ?_)
  refine wpAny_bind (wpAny_pure ?_)
  refine wpAny_bind (wpAny_holding (wpAny_bind (wpAny_pyHash_tuple (A := X.A.in1) (show X.A.units + 1 < cLine by omega) B ?_)))
  refine plus_q (A := X.A.in1) (s := { s with toks := s.toks + (k.length + 1) }) R T B (show X.A.units + 1 < cLine by omega) few fun fl h' L' es' ep' t' sb R' how => ?_
  show wpAny (model X.prog X.w) X.A.in1 (ret Value.none) _ _ _
  have there : ∃ u, h'.get? a = some u := let ⟨o, eo, _⟩ := R'.at_; ⟨o, eo⟩
  refine wpAny_pure ⟨_, rfl, .non, upd H a (SetO X.prog X.w a L'), ?_, rfl, q L' how⟩
  exact I.write (e := a) (t' := s.toks + (k.length + 1)) (by rw [ha]; trivial) (.inl rfl) (fun b' u hne hu' => (sb.2 b' hne).trans hu') there (setO_ok R')
def tSetAdd (K : PySem.W.Frag) (P : Program) (w : World) (to : TE) (ta : TA) : TE := fun σ H Q => to σ H fun x H1 => ∃ a L, x = V.ref a ∧ H1 a = some (SetO P w a L) ∧ ta σ H1 fun xs H2 => rSetAdd K P w a xs H2 Q
theorem pe_setAdd {o e : Expr} {to : TE} {ta : TA} {ap cp : Pos} (hu : X.A.units + 65 < cLine) (ho : PE X o to) (ha : PA X [e] ta)
    (b1 : attributeBase o "add" X.env (eval o X.env) = eval o X.env := by rfl)
    (b2 : ((backTo cp (starEach [e] X.env)).all (fun x => !x.1) && (backToKw cp (keywordEach [] X.env)).all (fun x => x.1.isSome)
      && decide (([e] : List Expr).length + ([] : List Keyword).length + (if ([] : List Keyword).isEmpty then 0 else 1) < 30)) = true := by rfl)
    (b3 : (ap.endLine == cp.line) = true := by rfl) (b4 : starEach [e] X.env = [(false, eval e X.env)] := by rfl) :
    PE X (.Call (.Attribute o "add" ap) [e] [] cp) (tSetAdd X.K X.prog X.w to ta) := by
  refine ⟨fun pins s σ H Q I h => ?_⟩
  refine wpAny_Call_method_late b1 b2 b3 rfl (thn (ho.run pins s σ H _ I h) fun v s1 ⟨x, H1, I1, r1, a, L, ex, e1, q1⟩ => ?_)
  subst ex
  cases r1
  obtain ⟨es, ep, t, R⟩ := setQ_of I1 e1
  obtain ⟨ob, eo, exact_, _⟩ := R.at_
  refine ⟨"set", "set.add", F.plainAttrs_set, F.slot_set_add, F.type_set_add, R.type, fun b' eb => ⟨ob, ?_, exact_.2.1⟩, ?_⟩
  · injection eb with eb
    rw [← eb]
    exact eo
  · have run := ha.run cp pins s1 σ H1 _ I1 q1
    rw [b4] at run ⊢
    refine Calls.callWith_builtin rfl (Calls.evalArgs_plain (thn run fun us s2 ⟨vs, H2, I2, r2, q2⟩ => ?_))
    exact run_setAdd hu I2 r2 q2
end
end K57S

namespace K57D
open PySem PySem.Spec PyProof.Rows L2 K57S
/-! ### data that stands, tracked, in the heap -/
mutual
inductive Dt (H : Hp) : V → PyData → Prop
  | non : Dt H .non .none
  | int (i : Int) : Dt H (.int i) (.int i)
  | lst {a : Addr} {xs : List V} {ds : List PyData} : H a = some (.lst xs) → DtAll H xs ds → Dt H (.ref a) (.list ds)
  | tup {a : Addr} {xs : List V} {ds : List PyData} : H a = some (.tup xs) → DtAll H xs ds → Dt H (.ref a) (.tuple ds)
inductive DtAll (H : Hp) : List V → List PyData → Prop
  | nil : DtAll H [] []
  | cons {v : V} {vs : List V} {d : PyData} {ds : List PyData} : Dt H v d → DtAll H vs ds → DtAll H (v :: vs) (d :: ds)
end
mutual
theorem Dt.same {H H' : Hp} (e : Same H H') : ∀ (d : PyData) (v : V), Dt H v d → Dt H' v d
  | .none, _, h => by cases h; exact .non
  | .bool _, _, h => by cases h
  | .int i, _, h => by cases h; exact .int i
  | .str _, _, h => by cases h
  | .dict _, _, h => by cases h
  | .list ds, _, h => by
    cases h with
    | lst ha hs => exact .lst (e _ _ ha) (DtAll.same e ds _ hs)
  | .tuple ds, _, h => by
    cases h with
    | tup ha hs => exact .tup (e _ _ ha) (DtAll.same e ds _ hs)
theorem DtAll.same {H H' : Hp} (e : Same H H') : ∀ (ds : List PyData) (vs : List V), DtAll H vs ds → DtAll H' vs ds
  | [], _, h => by cases h; exact .nil
  | d :: ds, _, h => by
    cases h with
    | cons h1 h2 => exact .cons (Dt.same e d _ h1) (DtAll.same e ds _ h2)
end
mutual
theorem Dt.dp {K : PySem.W.Frag} {H : Hp} : ∀ (d : PyData) (v : V), Dt H v d → Dp K H v d
  | .none, _, h => by cases h; exact .non
  | .bool _, _, h => by cases h
  | .int i, _, h => by cases h; exact .int i
  | .str _, _, h => by cases h
  | .dict _, _, h => by cases h
  | .list ds, _, h => by
    cases h with
    | lst ha hs => exact .lst (SqL.of ha) (DtAll.dp ds _ hs)
  | .tuple ds, _, h => by
    cases h with
    | tup ha hs => exact .tup (SqT.of ha) (DtAll.dp ds _ hs)
theorem DtAll.dp {K : PySem.W.Frag} {H : Hp} : ∀ (ds : List PyData) (vs : List V), DtAll H vs ds → DpAll K H vs ds
  | [], _, h => by cases h; exact .nil
  | d :: ds, _, h => by
    cases h with
    | cons h1 h2 => exact .cons (Dt.dp d _ h1) (DtAll.dp ds _ h2)
end
theorem DtAll.len {H : Hp} : ∀ {ds : List PyData} {vs : List V}, DtAll H vs ds → vs.length = ds.length
  | [], _, h => by cases h; rfl
  | d :: ds, _, h => by
    cases h with
    | cons _ h2 => rw [List.length_cons, List.length_cons, DtAll.len h2]
theorem DtAll.get {H : Hp} : ∀ {ds : List PyData} {vs : List V} {i : Nat} {d : PyData}, DtAll H vs ds → ds[i]? = some d → ∃ v, vs[i]? = some v ∧ Dt H v d
  | [], _, i, d, h, e => by simp at e
  | d0 :: ds, _, 0, d, h, e => by
    cases h with
    | cons h1 _ =>
      have z : d0 = d := Option.some.inj e
      subst z
      exact ⟨_, rfl, h1⟩
  | d0 :: ds, _, i + 1, d, h, e => by
    cases h with
    | cons _ h2 =>
      obtain ⟨v, e1, e2⟩ := DtAll.get (i := i) h2 e
      exact ⟨v, e1, e2⟩
theorem DtAll.get2 {H : Hp} {ds : List PyData} {vs : List V} {i : Nat} {v : V} (h : DtAll H vs ds) (e : vs[i]? = some v) : ∃ d, ds[i]? = some d ∧ Dt H v d := by
  have hl := h.len
  have hi : i < ds.length := by
    rw [← hl]
    exact (List.getElem?_eq_some_iff.mp e).1
  obtain ⟨u, e1, e2⟩ := h.get (List.getElem?_eq_getElem hi)
  rw [e] at e1
  cases e1
  exact ⟨_, List.getElem?_eq_getElem hi, e2⟩
theorem DtAll.app {H : Hp} : ∀ {ds es : List PyData} {vs us : List V}, DtAll H vs ds → DtAll H us es → DtAll H (vs ++ us) (ds ++ es)
  | [], _, _, _, h, k => by cases h; exact k
  | d :: ds, _, _, _, h, k => by
    cases h with
    | cons h1 h2 => exact .cons h1 (DtAll.app h2 k)
theorem DtAll.snoc {H : Hp} {ds : List PyData} {d : PyData} {vs : List V} {v : V} (h : DtAll H vs ds) (k : Dt H v d) : DtAll H (vs ++ [v]) (ds ++ [d]) := h.app (.cons k .nil)
theorem DtAll.take {H : Hp} : ∀ {ds : List PyData} {vs : List V} (n : Nat), DtAll H vs ds → DtAll H (vs.take n) (ds.take n)
  | _, _, 0, _ => by rw [List.take_zero, List.take_zero]; exact .nil
  | [], _, n + 1, h => by cases h; exact .nil
  | d :: ds, _, n + 1, h => by
    cases h with
    | cons h1 h2 => exact .cons h1 (DtAll.take n h2)
theorem DtAll.ints {H : Hp} : ∀ {is : List Int} {vs : List V}, DtAll H vs (is.map .int) → vs = is.map V.int
  | [], _, h => by cases h; rfl
  | i :: is, _, h => by
    cases h with
    | cons h1 h2 =>
      cases h1
      rw [DtAll.ints h2]
      rfl
theorem DtAll.of_ints {H : Hp} : ∀ (is : List Int), DtAll H (is.map V.int) (is.map .int)
  | [] => .nil
  | i :: is => .cons (.int i) (DtAll.of_ints is)
def optD : Option Int → PyData
  | none => .none
  | some i => .int i
theorem Dt.opt {H : Hp} {o : Option Int} {v : V} (h : Dt H v (optD o)) : v = optV o := by
  cases o <;> (cases h; rfl)
theorem Dt.of_opt {H : Hp} (o : Option Int) : Dt H (optV o) (optD o) := by
  cases o
  · exact .non
  · exact .int _
theorem DtAll.opts {H : Hp} : ∀ {os : List (Option Int)} {vs : List V}, DtAll H vs (os.map optD) → vs = os.map optV
  | [], _, h => by cases h; rfl
  | o :: os, _, h => by
    cases h with
    | cons h1 h2 => rw [DtAll.opts h2, h1.opt]; rfl
theorem Dt.lst_inv {H : Hp} {v : V} {ds : List PyData} (h : Dt H v (.list ds)) : ∃ a xs, v = .ref a ∧ H a = some (.lst xs) ∧ DtAll H xs ds := by
  cases h with
  | lst ha hs => exact ⟨_, _, rfl, ha, hs⟩
theorem Dt.tup_inv {H : Hp} {v : V} {ds : List PyData} (h : Dt H v (.tuple ds)) : ∃ a xs, v = .ref a ∧ H a = some (.tup xs) ∧ DtAll H xs ds := by
  cases h with
  | tup ha hs => exact ⟨_, _, rfl, ha, hs⟩
/-! ### links, ends, parts -/
def linkD (l : K57.Link) : PyData := .tuple [.int l.1, optD l.2]
def endD (v : K57.End) : PyData := .tuple [.int v.1, .int v.2]
def endsD (es : List K57.End) : PyData := .list (es.map endD)
theorem Dt.link {H : Hp} {v : V} {l : K57.Link} (h : Dt H v (linkD l)) : ∃ b, v = .ref b ∧ H b = some (.tup [.int l.1, optV l.2]) := by
  obtain ⟨a, xs, rfl, ha, hs⟩ := h.tup_inv
  cases hs with
  | cons h1 h2 =>
    cases h2 with
    | cons h3 h4 =>
      cases h4
      cases h1
      rw [h3.opt] at ha
      exact ⟨a, rfl, ha⟩
theorem Dt.of_link {H : Hp} {b : Addr} {l : K57.Link} (h : H b = some (.tup [.int l.1, optV l.2])) : Dt H (.ref b) (linkD l) := .tup h (.cons (.int _) (.cons (Dt.of_opt _) .nil))
theorem Dt.of_end {H : Hp} {b : Addr} {u : K57.End} (h : H b = some (.tup [.int u.1, .int u.2])) : Dt H (.ref b) (endD u) := .tup h (.cons (.int _) (.cons (.int _) .nil))
theorem eqv_int (i j : Int) : PyData.eqv (.int i) (.int j) = decide (i = j) := by
  simp only [PyData.eqv]
  by_cases h : i = j
  · rw [decide_eq_true h]; exact beq_iff_eq.mpr h
  · rw [decide_eq_false h]; exact beq_eq_false_iff_ne.mpr h
theorem eqv_opt (a b : Option Int) : PyData.eqv (optD a) (optD b) = decide (a = b) := by
  cases a with
  | none => cases b <;> simp [optD, PyData.eqv]
  | some i =>
    cases b with
    | none => simp [optD, PyData.eqv]
    | some j => simp [optD, eqv_int]
theorem eqv_two (a b c d : PyData) : PyData.eqv (.tuple [a, b]) (.tuple [c, d]) = (PyData.eqv a c && PyData.eqv b d) := by
  simp only [PyData.eqv, PyData.eqvAll, Bool.and_true]
theorem eqv_link (a b : K57.Link) : PyData.eqv (linkD a) (linkD b) = decide (a = b) := by
  obtain ⟨a1, a2⟩ := a
  obtain ⟨b1, b2⟩ := b
  rw [linkD, linkD, eqv_two, eqv_int, eqv_opt]
  by_cases h1 : a1 = b1 <;> by_cases h2 : a2 = b2 <;> simp [h1, h2]
theorem eqv_end (a b : K57.End) : PyData.eqv (endD a) (endD b) = decide (a = b) := by
  obtain ⟨a1, a2⟩ := a
  obtain ⟨b1, b2⟩ := b
  rw [endD, endD, eqv_two, eqv_int, eqv_int]
  by_cases h1 : a1 = b1 <;> by_cases h2 : a2 = b2 <;> simp [h1, h2]
theorem any_in {α : Type} [DecidableEq α] {f : α → PyData} (hf : ∀ a b, PyData.eqv (f a) (f b) = decide (a = b)) (l : List α) (x : α) : ((l.map f).any fun z => PyData.eqv z (f x)) = decide (x ∈ l) := by
  induction l with
  | nil => simp
  | cons y l ih =>
    rw [List.map_cons, List.any_cons, ih, hf]
    by_cases h : y = x
    · subst h; simp
    · have h2 : ¬ x = y := fun e => h e.symm
      simp [h, h2]
theorem lay_opt (o : Option Int) : (optD o).canLay0 = true ∧ (optD o).depth = 0 := by
  cases o <;> simp [optD, PyData.canLay0, PyData.depth]
theorem lay_link (l : K57.Link) : (linkD l).canLay0 = true ∧ (linkD l).depth ≤ 2 := by
  obtain ⟨h1, h2⟩ := lay_opt l.2
  simp [linkD, PyData.canLay0, PyData.canLayAll0, PyData.depth, PyData.depthAll, h1, h2]
theorem lay_end (l : K57.End) : (endD l).canLay0 = true ∧ (endD l).depth ≤ 2 := by
  simp [endD, PyData.canLay0, PyData.canLayAll0, PyData.depth, PyData.depthAll]
theorem lay_all {ds : List PyData} {n : Nat} (h : ∀ d ∈ ds, d.canLay0 = true ∧ d.depth ≤ n) : PyData.canLayAll0 ds = true ∧ PyData.depthAll ds ≤ n := by
  induction ds with
  | nil => simp [PyData.canLayAll0, PyData.depthAll]
  | cons d ds ih =>
    obtain ⟨h1, h2⟩ := h d List.mem_cons_self
    obtain ⟨h3, h4⟩ := ih fun x hx => h x (List.mem_cons_of_mem _ hx)
    simp only [PyData.canLayAll0, PyData.depthAll, h1, h3, Bool.and_self, true_and]
    omega
theorem shaped_of {d : PyData} (h : d.canLay0 = true) (k : d.depth ≤ 64) : SeqAt.shaped d = true := Bool.and_eq_true_iff.mpr ⟨h, decide_eq_true k⟩
theorem shaped_list {ds : List PyData} (h : ∀ d ∈ ds, d.canLay0 = true ∧ d.depth ≤ 2) : SeqAt.shaped (.list ds) = true := by
  obtain ⟨h1, h2⟩ := lay_all h
  refine shaped_of ?_ ?_
  · simp only [PyData.canLay0]; exact h1
  · simp only [PyData.depth]; omega
theorem shaped_link (l : K57.Link) : SeqAt.shaped (linkD l) = true := shaped_of (lay_link l).1 (Nat.le_trans (lay_link l).2 (by decide))
theorem shaped_end (l : K57.End) : SeqAt.shaped (endD l) = true := shaped_of (lay_end l).1 (Nat.le_trans (lay_end l).2 (by decide))
theorem shaped_links (ls : List K57.Link) : SeqAt.shaped (.list (ls.map linkD)) = true := shaped_list fun d hd => by
  obtain ⟨l, _, rfl⟩ := List.mem_map.mp hd
  exact lay_link l
theorem shaped_ends (es : List K57.End) : SeqAt.shaped (endsD es) = true := shaped_list fun d hd => by
  obtain ⟨l, _, rfl⟩ := List.mem_map.mp hd
  exact lay_end l
/-! ### a heap without one object -/
def wo (H : Hp) (o : Addr) : Hp := fun b => if b = o then none else H b
theorem wo_same (H : Hp) (o : Addr) : Same (wo H o) H := fun b x e => by
  unfold wo at e
  by_cases h : b = o
  · rw [if_pos h] at e; cases e
  · rw [if_neg h] at e; exact e
theorem wo_upd {H : Hp} {o : Addr} {x : HO} : wo (upd H o x) o = wo H o := by
  funext b
  unfold wo upd
  by_cases h : b = o
  · rw [if_pos h, if_pos h]
  · rw [if_neg h, if_neg h, if_neg h]
theorem wo_new {H : Hp} {o p : Addr} {x : HO} (h : H p = none) (ne : p ≠ o) : Same (wo H o) (wo (upd H p x) o) := fun b y e => by
  unfold wo at e ⊢
  by_cases hb : b = o
  · rw [if_pos hb] at e; cases e
  · rw [if_neg hb] at e ⊢
    rw [upd_ne (ne_of_none e h)]
    exact e
theorem wo_of {H H' : Hp} {o : Addr} (s : Same H H') (h : H o = none) : Same H (wo H' o) := fun b x e => by
  unfold wo
  rw [if_neg (ne_of_none e h)]
  exact s b x e
theorem wo_mono {H H' : Hp} {o : Addr} (s : Same H H') : Same (wo H o) (wo H' o) := fun b x e => by
  unfold wo at e ⊢
  by_cases hb : b = o
  · rw [if_pos hb] at e; cases e
  · rw [if_neg hb] at e ⊢
    exact s b x e
theorem wo_at {H : Hp} {o p : Addr} {x : HO} (h : H p = some x) (ne : p ≠ o) : wo H o p = some x := by
  unfold wo
  rw [if_neg ne]
  exact h
theorem new_same {H : Hp} {p : Addr} {o : HO} (h : H p = none) : Same H (upd H p o) := fun b x e => by
  rw [upd_ne (ne_of_none e h)]
  exact e
theorem put_same {H0 H : Hp} {p : Addr} {o : HO} (s : Same H0 H) (h : H0 p = none) : Same H0 (upd H p o) := fun b x e => by
  rw [upd_ne (ne_of_none e h)]
  exact s b x e
theorem Same.sqT {K : PySem.W.Frag} {H H' : Hp} {a : Addr} {xs : List V} (e : Same H H') (h : SqT K H a xs) : SqT K H' a xs := by
  rcases h with (h | ⟨o, h⟩) | h
  · exact .inl (.inl (e _ _ h))
  · exact .inl (.inr ⟨o, e _ _ h⟩)
  · exact .inr h
end K57D

namespace K57W
open PySem PySem.Spec PyProof.Rows L2 K57S K57D
/-! ### the text by its places -/
def topS (i : Nat) : Stmt := PySem.Challenge.pw_veilcount_k57_whole_audits_that_pass.main.body.getD i (.Pass ⟨0, 0, 0, 0⟩)
abbrev sOpened : Stmt := topS 3
abbrev sCaught : Stmt := topS 4
abbrev sCoins : Stmt := topS 5
abbrev sPlain : Stmt := topS 6
abbrev sLinks : Stmt := topS 7
abbrev sJoined : Stmt := topS 8
abbrev sParts : Stmt := topS 9
abbrev sPassIn : Stmt := topS 10
abbrev sPassing : Stmt := topS 11
abbrev sCell : Stmt := topS 13
abbrev sRow : Stmt := topS 14
abbrev sBox : Stmt := topS 15
abbrev sDraw : Stmt := topS 16
abbrev sSame : Stmt := topS 17
abbrev sClaim : Stmt := topS 18
abbrev sFree : Stmt := topS 19
abbrev sLaw : Stmt := topS 20
/-- what the module's names hold -/
structure Glob (mg : Str → Option Value) : Prop where
  left : ∃ t, mg "LEFT" = some (.int 0 t)
  right : ∃ t, mg "RIGHT" = some (.int 1 t)
  enumerate : mg "enumerate" = none
  len : mg "len" = none
  range : mg "range" = none
  set : mg "set" = none
  int : mg "int" = none
  repr : mg "repr" = none
section
variable {P : Program} {w : World} {K : PySem.W.Frag} {mg : Str → Option Value} {base : Heap}
/-! ### opened_claims -/
theorem scOpened : FnScope ["left", "right", "coins", "rows", "row", "coin"] ["left", "right", "coins"] (defScope sOpened) := ⟨rfl, rfl, rfl, by decide +kernel, rfl, by decide +kernel, by decide +kernel⟩
def spOpened : Sp := fun vs H Q _ => ∃ (a b c : V) (ls rs : List (Option Int)) (cs : List Int), vs = [a, b, c] ∧ Dt H a (.list (ls.map optD)) ∧ Dt H b (.list (rs.map optD)) ∧ Dt H c (.list (cs.map .int)) ∧
  cs.length ≤ ls.length ∧ cs.length ≤ rs.length ∧ cs.length ≤ 12 ∧ ∀ H' p, Same H H' → H p = none → Dt H' (.ref p) (.list ((K57.linksN (ls.zip rs) cs).map linkD)) → Q (.ref p) H'
theorem linksN_at {ls rs : List (Option Int)} {cs : List Int} {i : Nat} {l r : Option Int} {c : Int} (h1 : ls[i]? = some l) (h2 : rs[i]? = some r) (h3 : cs[i]? = some c) : (K57.linksN (ls.zip rs) cs)[i]? = some (K57.linkOf (l, r) c) := by
  unfold K57.linksN List.zip
  simp only [List.getElem?_zipWith, h1, h2, h3]
theorem linksN_len {ls rs : List (Option Int)} {cs : List Int} (h1 : cs.length ≤ ls.length) (h2 : cs.length ≤ rs.length) : (K57.linksN (ls.zip rs) cs).length = cs.length := by
  unfold K57.linksN
  rw [List.length_zipWith, List.length_zip]
  omega
theorem take_one {α : Type} {l : List α} {i : Nat} {x : α} (h : l[i]? = some x) : l.take (i + 1) = l.take i ++ [x] := by
  rw [List.take_add_one, h]
  rfl
theorem at_map {α β : Type} {f : α → β} {l : List α} {i : Nat} {y : β} (h : (l.map f)[i]? = some y) : ∃ x, l[i]? = some x ∧ y = f x := by
  rw [List.getElem?_map] at h
  cases e : l[i]? with
  | none => rw [e] at h; cases h
  | some x => rw [e] at h; exact ⟨x, rfl, (Option.some.inj h).symm⟩
theorem map_at {α β : Type} {f : α → β} {l : List α} {i : Nat} {x : α} (h : l[i]? = some x) : (l.map f)[i]? = some (f x) := by
  rw [List.getElem?_map, h]
  rfl
theorem small_line {n : Nat} (h : n ≤ 300) : n < sizeLine := Nat.lt_of_le_of_lt h (by decide)
theorem ok_opened {f : Addr} {fd : FuncData} (F : Fun K "opened_claims" "opened_claims" sOpened f fd) (T : Glob mg) : FnOk P w K mg base CX0 1 f fd ["left", "right", "coins"] spOpened := by
  obtain ⟨tL, mL⟩ := T.left
  obtain ⟨tR, mR⟩ := T.right
  refine F.ok scOpened (fun vs H Q E h => ?_) (fun cdv A outer s H vs Q E hr h => ?_)
  · obtain ⟨_, _, _, _, _, _, rfl, _⟩ := h
    rfl
  · obtain ⟨a, b, c, ls, rs, cs, rfl, ha, hb, hc, n1, n2, n3, q⟩ := h
    obtain ⟨a, xa, rfl, ha, za⟩ := ha.lst_inv
    obtain ⟨b, xb, rfl, hb, zb⟩ := hb.lst_inv
    obtain ⟨c, xc, rfl, hc, zc⟩ := hc.lst_inv
    have ea := za.opts
    have eb := zb.opts
    have ec := zc.ints
    subst ea eb ec
    refine ⟨_, pss_cons (ps_set (i := 3) scOpened.nd rfl (.inl rfl) (pe_lst pa_nil))
      (pss_cons (ps_for PassesOwn.never rfl (pi_enum (by rfl) T.enumerate (pa_cons (pv 2) pa_nil))
          (pg_tup rfl (pgs_cons (pg_name (i := 4) scOpened.nd rfl (.inl rfl)) (pgs_cons (pg_name (i := 5) scOpened.nd rfl (.inl rfl)) pgs_nil)))
        (pss_one (ps_if (pt_cmpR op_eq (pv 5) (pe_glob (v := .int 0) rfl mL ⟨_, rfl⟩) (nomark _))
          (pss_one (ps_expr (pe_bm PySem.F.plainAttrs_list PySem.F.slot_list_append PySem.F.type_list_append mt_append (pv 3)
            (pa_cons (pe_tup (pa_cons (pe_glob (v := .int 0) rfl mL ⟨_, rfl⟩) (pa_cons (pe_ix ix_list (pv 0) (pv 4) (fun _ _ => rfl)) pa_nil))) pa_nil))))
          (pss_one (ps_expr (pe_bm PySem.F.plainAttrs_list PySem.F.slot_list_append PySem.F.type_list_append mt_append (pv 3)
            (pa_cons (pe_tup (pa_cons (pe_glob (v := .int 1) rfl mR ⟨_, rfl⟩) (pa_cons (pe_ix ix_list (pv 1) (pv 4) (fun _ _ => rfl)) pa_nil))) pa_nil)))))))
      (pss_one (ps_ret (pv 3)))), ?_⟩
    refine ⟨Nat.zero_le _, fun o no => ?_⟩
    have cl : (cs.map V.int).length = cs.length := List.length_map _
    refine ⟨_, rfl, c, cs.map V.int, rfl, SqL.of (new_same no _ _ hc), ?_⟩
    refine for_it walk_enum (fun i σ H3 => ∃ y4 y5 acc, σ = [some (.ref a), some (.ref b), some (.ref c), some (.ref o), y4, y5] ∧ Same H (wo H3 o) ∧ H3 o = some (.lst acc) ∧ DtAll (wo H3 o) acc (((K57.linksN (ls.zip rs) cs).take i).map linkD))
      ⟨none, none, [], rfl, wo_of (new_same no) no, upd_same, .nil⟩ (fun i σ H3 _ ⟨_, _, _, _, sm, _⟩ => SqL.of (wo_same _ _ _ _ (sm _ _ hc))) ?_ ?_
    · rintro i x σ H3 H4 hi ⟨y4, y5, acc, rfl, sm, ho, hd⟩ ⟨t, x1, x2, rfl, nt, rfl, e1, e2⟩
      cases e1
      obtain ⟨z, hz, rfl⟩ := at_map e2
      have hi' : i < cs.length := (List.getElem?_eq_some_iff.mp hz).1
      obtain ⟨l, hl⟩ : ∃ l, ls[i]? = some l := ⟨ls[i], List.getElem?_eq_getElem (by omega)⟩
      obtain ⟨r, hr'⟩ : ∃ r, rs[i]? = some r := ⟨rs[i], List.getElem?_eq_getElem (by omega)⟩
      have hk := linksN_at hl hr' hz
      have to : o ≠ t := ne_of_none ho nt
      have sm3 : Same H (upd H3 t (.tup [.int (i : Nat), .int z])) := (sm.trans (wo_same _ _)).trans (new_same nt)
      have ho4 : (upd H3 t (.tup [V.int (i : Nat), V.int z])) o = some (.lst acc) := by
        rw [upd_ne to]
        exact ho
      have sm4 : Same (wo H3 o) (wo (upd H3 t (.tup [V.int (i : Nat), V.int z])) o) := wo_new nt to.symm
      have acl : acc.length ≤ 12 := by
        rw [hd.len, List.length_map, List.length_take]
        omega
      refine ⟨t, [.int (i : Nat), .int z], rfl, .inl (.inl upd_same), rfl, _, [_], rfl, _, [], rfl, rfl, ?_⟩
      refine ⟨.int z, rfl, rfl, _, rfl, ite2 (fun e => ?_) (fun e => ?_)⟩
      · have ez : z = 0 := V.int.inj (of_decide_eq_true e)
        refine ⟨.ref o, rfl, .inl ⟨rfl, _, SqL.of ho4⟩, .ref a, rfl, .int (i : Nat), rfl, a, _, _, _, rfl, rfl, SqL.of (sm3 _ _ ha), atI_nat (map_at hl), (by show 2 ≤ sizeLine; decide), fun p np => ?_⟩
        have po : o ≠ p := ne_of_none ho4 np
        refine ⟨o, acc, .ref p, rfl, rfl, ?_, small_line (by omega), some (.int (i : Nat)), some (.int z), acc ++ [.ref p], rfl, ?_, upd_same, ?_⟩
        · rw [upd_ne po]
          exact ho4
        · rw [wo_upd]
          exact (sm.trans sm4).trans (wo_new np po.symm)
        · rw [wo_upd, take_one hk, List.map_append]
          refine (DtAll.same (sm4.trans (wo_new np po.symm)) _ _ hd).snoc (Dt.of_link ?_)
          rw [K57.linkOf, if_pos ez]
          exact wo_at upd_same po.symm
      · have ez : ¬ z = 0 := fun q => e (decide_eq_true (congrArg V.int q))
        refine ⟨.ref o, rfl, .inl ⟨rfl, _, SqL.of ho4⟩, .ref b, rfl, .int (i : Nat), rfl, b, _, _, _, rfl, rfl, SqL.of (sm3 _ _ hb), atI_nat (map_at hr'), (by show 2 ≤ sizeLine; decide), fun p np => ?_⟩
        have po : o ≠ p := ne_of_none ho4 np
        refine ⟨o, acc, .ref p, rfl, rfl, ?_, small_line (by omega), some (.int (i : Nat)), some (.int z), acc ++ [.ref p], rfl, ?_, upd_same, ?_⟩
        · rw [upd_ne po]
          exact ho4
        · rw [wo_upd]
          exact (sm.trans sm4).trans (wo_new np po.symm)
        · rw [wo_upd, take_one hk, List.map_append]
          refine (DtAll.same (sm4.trans (wo_new np po.symm)) _ _ hd).snoc (Dt.of_link ?_)
          rw [K57.linkOf, if_neg ez]
          exact wo_at upd_same po.symm
    · rintro σ H3 ⟨y4, y5, acc, rfl, sm, ho, hd⟩
      refine ⟨.ref o, rfl, q H3 o (sm.trans (wo_same _ _)) no (.lst ho ?_)⟩
      rw [cl, List.take_of_length_le (by rw [linksN_len n1 n2]; exact Nat.le_refl _)] at hd
      exact DtAll.same (wo_same _ _) _ _ hd
end
end K57W

namespace K57W
open PySem PySem.Spec PyProof.Rows L2 K57S K57D
section
variable {P : Program} {w : World} {K : PySem.W.Frag} {mg : Str → Option Value} {base : Heap}
/-! ### caught -/
def keyL (l : K57.Link) : Ky := [some l.1, l.2]
theorem keyL_inj {a b : K57.Link} (h : keyL a = keyL b) : a = b := by
  obtain ⟨a1, a2⟩ := a
  obtain ⟨b1, b2⟩ := b
  simp only [keyL, List.cons.injEq, Option.some.injEq, and_true] at h
  exact Prod.ext h.1 h.2
theorem keyL_mem {ls : List K57.Link} {l : K57.Link} : keyL l ∈ ls.map keyL ↔ l ∈ ls := by
  constructor
  · intro h
    obtain ⟨x, h1, h2⟩ := List.mem_map.mp h
    rw [← keyL_inj h2]
    exact h1
  · exact fun h => List.mem_map.mpr ⟨l, h, rfl⟩
theorem caught_step (ls : List K57.Link) (i : Nat) : (List.range (i + 1)).filter (K57.bad ls) = (List.range i).filter (K57.bad ls) ++ if K57.bad ls i = true then [i] else [] := by
  rw [List.range_succ, List.filter_append]
  congr 1
  by_cases h : K57.bad ls i = true
  · rw [List.filter_cons_of_pos h, if_pos h, List.filter_nil]
  · rw [List.filter_cons_of_neg h, if_neg h, List.filter_nil]
theorem bad_at {ls : List K57.Link} {i : Nat} {l : K57.Link} (h : ls[i]? = some l) : K57.bad ls i = (l.2.isNone || decide (l ∈ ls.take i)) := by
  unfold K57.bad
  rw [h]
def nD (k : Nat) : PyData := .int (k : Nat)
def nV (k : Nat) : V := .int (k : Nat)
def caughtD (ls : List K57.Link) : PyData := .list ((K57.caughtN ls).map nD)
theorem of_nD {H : Hp} : ∀ (ks : List Nat), DtAll H (ks.map nV) (ks.map nD)
  | [] => .nil
  | k :: ks => .cons (.int _) (of_nD ks)
theorem scCaught : FnScope ["left", "right", "coins", "found", "seen", "row", "link"] ["left", "right", "coins"] (defScope sCaught) := ⟨rfl, rfl, rfl, by decide +kernel, rfl, by decide +kernel, by decide +kernel⟩
def spCaught : Sp := fun vs H Q _ => ∃ (a b c : V) (ls rs : List (Option Int)) (cs : List Int), vs = [a, b, c] ∧ Dt H a (.list (ls.map optD)) ∧ Dt H b (.list (rs.map optD)) ∧ Dt H c (.list (cs.map .int)) ∧
  cs.length ≤ ls.length ∧ cs.length ≤ rs.length ∧ cs.length ≤ 12 ∧ ∀ H' p, Same H H' → H p = none → Dt H' (.ref p) (caughtD (K57.linksN (ls.zip rs) cs)) → Q (.ref p) H'
/-- what the set has behind i turns -/
structure Seen (H : Hp) (ls : List K57.Link) (i : Nat) (L : Ents) : Prop where
  keys : ∀ k, k ∈ L.map (·.2) ↔ k ∈ (ls.take i).map keyL
  tups : ∀ p ∈ L, H p.1 = some (.tup (p.2.map optV))
  few : L.length ≤ i
/-- tuples stand -/
def TupSame (H H' : Hp) : Prop := ∀ b t, H b = some (.tup t) → H' b = some (.tup t)
theorem tupSame_of {H H' : Hp} (s : Same H H') : TupSame H H' := fun b t e => s b _ e
theorem tupSame_upd {H : Hp} {o : Addr} {x y : HO} (h : H o = some x) (d : ∀ t, HO.tup t ≠ x) : TupSame H (upd H o y) := fun b t e => by
  rw [upd_ne (ne_of e h (d t))]
  exact e
theorem links_keep {H H' : Hp} (s : TupSame H H') : ∀ {ls : List K57.Link} {xs : List V}, DtAll H xs (ls.map linkD) → DtAll H' xs (ls.map linkD)
  | [], _, h => by cases h; exact .nil
  | l :: ls, _, h => by
    cases h with
    | cons h1 h2 =>
      obtain ⟨b, rfl, hb⟩ := h1.link
      exact .cons (Dt.of_link (s _ _ hb)) (links_keep s h2)
theorem Seen.keep {H H' : Hp} {ls : List K57.Link} {i : Nat} {L : Ents} (S : Seen H ls i L) (s : TupSame H H') : Seen H' ls i L := ⟨S.keys, fun p hp => s _ _ (S.tups p hp), S.few⟩
theorem Seen.more {H : Hp} {ls : List K57.Link} {i : Nat} {L L' : Ents} {l : K57.Link} {b : Addr} (S : Seen H ls i L) (h : ls[i]? = some l) (hb : H b = some (.tup [.int l.1, optV l.2]))
    (how : keyL l ∈ L.map (·.2) ∧ L' = L ∨ keyL l ∉ L.map (·.2) ∧ L'.Perm ((b, keyL l) :: L)) : Seen H ls (i + 1) L' := by
  rcases how with ⟨hin, rfl⟩ | ⟨_, pm⟩
  · refine ⟨fun k => ?_, S.tups, Nat.le_succ_of_le S.few⟩
    rw [take_one h, List.map_append, List.mem_append, S.keys k, List.map_singleton, List.mem_singleton]
    refine ⟨.inl, fun z => z.elim id fun e => ?_⟩
    rw [e]
    exact (S.keys _).mp hin
  · refine ⟨fun k => ?_, fun p hp => ?_, ?_⟩
    · rw [take_one h, List.map_append, List.mem_append, ← S.keys k, List.map_singleton, List.mem_singleton, (pm.map (·.2)).mem_iff, List.map_cons, List.mem_cons]
      exact Or.comm
    · rcases List.mem_cons.mp (pm.mem_iff.mp hp) with rfl | hp
      · exact hb
      · exact S.tups p hp
    · rw [pm.length_eq, List.length_cons]
      have := S.few
      omega
theorem optV_none (o : Option Int) : decide (optV o = V.non) = o.isNone := by
  cases o <;> simp [optV]
theorem ok_caught {f fO : Addr} {fd fdO : FuncData} (F : Fun K "caught" "caught" sCaught f fd) (T : Glob mg) (FO : Fun K "opened_claims" "opened_claims" sOpened fO fdO) (bO : Binds K fdO ["left", "right", "coins"] []) (gO : mg "opened_claims" = some (.ref fO)) :
    FnOk P w K mg base CX0 2 f fd ["left", "right", "coins"] spCaught := by
  have GO : FnOk P w K mg base CX0 1 fO fdO ["left", "right", "coins"] spOpened := ok_opened FO T
  refine F.ok scCaught (fun vs H Q E h => ?_) (fun cdv A outer s H vs Q E hr h => ?_)
  · obtain ⟨_, _, _, _, _, _, rfl, _⟩ := h
    rfl
  · obtain ⟨a, b, c, ls, rs, cs, rfl, ha, hb, hc, n1, n2, n3, q⟩ := h
    have hu := fun (X : Cx) (hX : X.A = A.deeper (envOfC "caught" (defScope sCaught) s.heap.objs.size f cdv)) => (by rw [hX]; have := hr.un; omega : X.A.units + 65 < cLine)
    refine ⟨_, pss_cons (ps_set (i := 3) scCaught.nd rfl (.inl rfl) (pe_lst pa_nil))
      (pss_cons (ps_set (i := 4) scCaught.nd rfl (.inl rfl) (pe_callTy0 cr_setNew (by rfl) T.set (by decide +kernel)))
      (pss_cons (ps_for PassesOwn.never rfl (pi_enum (by rfl) T.enumerate (pa_cons (pe_call GO hr (by rfl) gO FO.kp bO .nil pass0 (pa_cons (pv 0) (pa_cons (pv 1) (pa_cons (pv 2) pa_nil)))) pa_nil))
          (pg_tup rfl (pgs_cons (pg_name (i := 5) scCaught.nd rfl (.inl rfl)) (pgs_cons (pg_name (i := 6) scCaught.nd rfl (.inl rfl)) pgs_nil)))
        (C8.pss_cut (ps_if (PW.pt (pw_or (pt_cmpR op_isN (pe_ix ix_tup (pv 6) pe_int (fun _ _ => rfl)) pe_non (nomark _)) (pw_or1 (pt_cmpR (op_setIn (hu _ rfl)) (pv 6) (pv 4) (by rfl)))))
            (pss_one (ps_expr (pe_bm PySem.F.plainAttrs_list PySem.F.slot_list_append PySem.F.type_list_append mt_append (pv 3) (pa_cons (pv 5) pa_nil)))) pss_nil)
          (pss_one (ps_expr (pe_setAdd (hu _ rfl) (pv 4) (pa_cons (pv 6) pa_nil))))))
      (pss_one (ps_ret (pv 3))))), ?_⟩
    generalize hlk : K57.linksN (ls.zip rs) cs = lk at q
    have lkn : lk.length = cs.length := by rw [← hlk]; exact linksN_len n1 n2
    refine ⟨Nat.zero_le _, fun o no => ?_⟩
    refine ⟨rfl, fun e ne => ?_⟩
    have oe : o ≠ e := ne_of_none upd_same ne
    have sm0 : Same H (upd (upd H o (.lst [])) e (SetO P w e [])) := (new_same no).trans (new_same ne)
    refine ⟨a, rfl, b, rfl, c, rfl, a, b, c, ls, rs, cs, rfl, Dt.same sm0 _ _ ha, Dt.same sm0 _ _ hb, Dt.same sm0 _ _ hc, n1, n2, n3, fun H1 l sm1 nl hv => ?_⟩
    rw [hlk] at hv
    obtain ⟨_, xs, el, hl, hx⟩ := hv.lst_inv
    cases el
    have lo : l ≠ o := fun z => by rw [z, upd_ne oe, upd_same] at nl; cases nl
    have ne0 : H e = none := (new_same no).free ne
    have xl : xs.length = lk.length := by rw [hx.len, List.length_map]
    have ho1 : H1 o = some (.lst []) := sm1 _ _ (by rw [upd_ne oe]; exact upd_same)
    have he1 : H1 e = some (SetO P w e []) := sm1 _ _ upd_same
    refine ⟨l, xs, rfl, SqL.of hl, ?_⟩
    refine for_it walk_enum (fun i σ H3 => ∃ y5 y6 L, σ = [some a, some b, some c, some (.ref o), some (.ref e), y5, y6] ∧ Same H H3 ∧ H3 l = some (.lst xs) ∧ DtAll H3 xs (lk.map linkD) ∧ H3 o = some (.lst (((List.range i).filter (K57.bad lk)).map nV)) ∧
        H3 e = some (SetO P w e L) ∧ Seen H3 lk i L)
      ⟨none, none, [], rfl, sm0.trans sm1, hl, hx, ho1, he1, ⟨fun k => (by simp), fun p hp => (by cases hp), Nat.le_refl _⟩⟩ (fun i σ H3 _ ⟨_, _, _, _, _, h, _⟩ => SqL.of h) ?_ ?_
    · rintro i x σ H3 H4 hi ⟨y5, y6, L, rfl, sm, hl3, hx3, ho3, he3, S⟩ ⟨t, x1, x2, rfl, nt, rfl, e1, e2⟩
      cases e1
      obtain ⟨d, e3, e4⟩ := hx3.get2 e2
      obtain ⟨kl, hk, rfl⟩ := at_map e3
      obtain ⟨bq, rfl, hbq⟩ := e4.link
      have hik : i < lk.length := (List.getElem?_eq_some_iff.mp hk).1
      have sm4 : Same H3 (upd H3 t (.tup [.int (i : Nat), .ref bq])) := new_same nt
      generalize hH4 : upd H3 t (.tup [.int (i : Nat), .ref bq]) = H4 at sm4
      have ht4 : H4 t = some (.tup [.int (i : Nat), .ref bq]) := by rw [← hH4]; exact upd_same
      have ho4 := sm4 _ _ ho3
      have he4 := sm4 _ _ he3
      have hb4 := sm4 _ _ hbq
      have S4 := S.keep (tupSame_of sm4)
      refine ⟨t, [.int (i : Nat), .ref bq], rfl, .inl (.inl ht4), rfl, _, [_], rfl, _, [], rfl, rfl, ?_⟩
      refine ⟨fun σ' H' => σ' = [some a, some b, some c, some (.ref o), some (.ref e), some (.int (i : Nat)), some (.ref bq)] ∧ Same H H' ∧ H' l = some (.lst xs) ∧ DtAll H' xs (lk.map linkD) ∧ H' o = some (.lst (((List.range (i + 1)).filter (K57.bad lk)).map nV)) ∧
        H' e = some (SetO P w e L) ∧ Seen H' lk i L ∧ H' bq = some (.tup [.int kl.1, optV kl.2]), ?_, ?_⟩
      · -- the test
        have yes : K57.bad lk i = true → (upd H4 o (.lst (((List.range i).filter (K57.bad lk)).map nV ++ [.int (i : Nat)]))) o = some (.lst (((List.range (i + 1)).filter (K57.bad lk)).map nV)) := fun hb => by
          rw [upd_same, caught_step, if_pos hb, List.map_append]
          rfl
        have go : K57.bad lk i = true → (fun σ' H' => σ' = [some a, some b, some c, some (.ref o), some (.ref e), some (.int (i : Nat)), some (.ref bq)] ∧ Same H H' ∧ H' l = some (.lst xs) ∧ DtAll H' xs (lk.map linkD) ∧ H' o = some (.lst (((List.range (i + 1)).filter (K57.bad lk)).map nV)) ∧
            H' e = some (SetO P w e L) ∧ Seen H' lk i L ∧ H' bq = some (.tup [.int kl.1, optV kl.2])) ([some a, some b, some c, some (.ref o), some (.ref e), some (.int (i : Nat)), some (.ref bq)] : L2.St) (upd H4 o (.lst (((List.range i).filter (K57.bad lk)).map nV ++ [.int (i : Nat)]))) := fun hb => by
          have ts : TupSame H4 (upd H4 o (.lst (((List.range i).filter (K57.bad lk)).map nV ++ [.int (i : Nat)]))) := tupSame_upd ho4 (fun t q => by cases q)
          refine ⟨rfl, put_same (sm.trans sm4) no, ?_, links_keep ts (DtAll.same sm4 _ _ hx3), yes hb, ?_, S4.keep ts, ts _ _ hb4⟩
          · rw [upd_ne lo]
            exact sm4 _ _ hl3
          · rw [upd_ne oe.symm]
            exact he4
        have add : ∀ hb : K57.bad lk i = true, (fun (xs2 : List V) (H2 : Hp) => rAppend (.ref o) xs2 H2 fun _ H5 => (fun σ' H' => σ' = [some a, some b, some c, some (.ref o), some (.ref e), some (.int (i : Nat)), some (.ref bq)] ∧ Same H H' ∧ H' l = some (.lst xs) ∧ DtAll H' xs (lk.map linkD) ∧ H' o = some (.lst (((List.range (i + 1)).filter (K57.bad lk)).map nV)) ∧
            H' e = some (SetO P w e L) ∧ Seen H' lk i L ∧ H' bq = some (.tup [.int kl.1, optV kl.2])) ([some a, some b, some c, some (.ref o), some (.ref e), some (.int (i : Nat)), some (.ref bq)] : L2.St) H5) [.int (i : Nat)] H4 := fun hb => by
          refine ⟨o, _, _, rfl, rfl, ho4, small_line ?_, go hb⟩
          have := List.length_filter_le (K57.bad lk) (List.range i)
          rw [List.length_range] at this
          rw [List.length_map]
          omega
        refine ⟨.ref bq, rfl, bq, _, _, _, rfl, rfl, SqT.of hb4, atI_nat (j := 1) rfl, rfl, _, rfl, ite2 (fun z => ?_) (fun z => ?_)⟩
        · have hb : K57.bad lk i = true := by
            rw [bad_at hk, ← optV_none, z, Bool.true_or]
          exact iteT ⟨.ref o, rfl, .inl ⟨rfl, _, SqL.of ho4⟩, .int (i : Nat), rfl, add hb⟩
        · have z2 : decide (keyL kl ∈ L.map (·.2)) = decide (kl ∈ lk.take i) := decide_eq_decide.mpr ((S4.keys _).trans keyL_mem)
          refine ⟨.ref bq, rfl, .ref e, rfl, bq, e, keyL kl, L, rfl, rfl, SqT.of hb4, he4, fun p hp => SqT.of (S4.tups p hp), _, rfl, ?_⟩
          rw [z2]
          have zz : K57.bad lk i = decide (kl ∈ lk.take i) := by
            rw [bad_at hk, ← optV_none]
            cases y : decide (optV kl.2 = V.non) with
            | true => exact absurd y z
            | false => rw [Bool.false_or]
          refine ite2 (fun y => ?_) (fun y => ?_)
          · exact ⟨.ref o, rfl, .inl ⟨rfl, _, SqL.of ho4⟩, .int (i : Nat), rfl, add (zz.trans y)⟩
          · refine ⟨rfl, sm.trans sm4, sm4 _ _ hl3, DtAll.same sm4 _ _ hx3, ?_, he4, S4, hb4⟩
            rw [ho4, caught_step, if_neg (by rw [zz]; exact y), List.append_nil]
      · rintro σ' H5 ⟨rfl, sm5, hl5, hx5, ho5, he5, S5, hb5⟩
        refine ⟨.ref e, rfl, e, L, rfl, he5, .ref bq, rfl, bq, keyL kl, L, rfl, he5, SqT.of hb5, fun p hp => SqT.of (S5.tups p hp), ?_, fun L' how => ?_⟩
        · have := S5.few
          omega
        · have ts : TupSame H5 (upd H5 e (SetO P w e L')) := tupSame_upd he5 (fun t q => by cases q)
          refine ⟨_, _, L', rfl, put_same sm5 ne0, ?_, links_keep ts hx5, ?_, upd_same, (S5.more hk hb5 how).keep ts⟩
          · rw [upd_ne (ne_of hl5 he5 (fun q => by cases q))]
            exact hl5
          · rw [upd_ne oe]
            exact ho5
    · rintro σ H3 ⟨y5, y6, L, rfl, sm, hl3, hx3, ho3, he3, S⟩
      refine ⟨.ref o, rfl, q H3 o sm no (.lst ho3 ?_)⟩
      rw [xl]
      exact of_nD _
end
end K57W

namespace K57W
open PySem PySem.Spec PyProof.Rows L2 K57S K57D
section
variable {P : Program} {w : World} {K : PySem.W.Frag} {mg : Str → Option Value} {base : Heap}
/-! ### coins_of_number -/
theorem coinsN_len : ∀ (n x : Nat), (K57.coinsN n x).length = n
  | 0, _ => rfl
  | n + 1, x => by rw [K57.coinsN, List.length_cons, coinsN_len n]
theorem coinsN_at : ∀ (n x i : Nat), i < n → (K57.coinsN n x)[i]? = some ((x / 2 ^ i % 2 : Nat) : Int)
  | 0, _, _, h => absurd h (Nat.not_lt_zero _)
  | n + 1, x, 0, _ => by
    rw [Nat.pow_zero, Nat.div_one]
    rfl
  | n + 1, x, i + 1, h => by
    have ih := coinsN_at n (x / 2) i (Nat.lt_of_succ_lt_succ h)
    rw [Nat.div_div_eq_div_mul, show 2 * 2 ^ i = 2 ^ (i + 1) by rw [Nat.pow_succ, Nat.mul_comm]] at ih
    exact ih
theorem scCoins : FnScope ["rows", "number", "coins", "left", "row"] ["rows", "number"] (defScope sCoins) := ⟨rfl, rfl, rfl, by decide +kernel, rfl, by decide +kernel, by decide +kernel⟩
def spCoins : Sp := fun vs H Q _ => ∃ n x : Nat, vs = [.int (n : Nat), .int (x : Nat)] ∧ n ≤ 12 ∧ ∀ H' p, Same H H' → H p = none → Dt H' (.ref p) (.list ((K57.coinsN n x).map .int)) → Q (.ref p) H'
theorem ok_coins {f : Addr} {fd : FuncData} (F : Fun K "coins_of_number" "coins_of_number" sCoins f fd) (T : Glob mg) : FnOk P w K mg base CX0 1 f fd ["rows", "number"] spCoins := by
  refine F.ok scCoins (fun vs H Q E h => ?_) (fun cdv A outer s H vs Q E hr h => ?_)
  · obtain ⟨_, _, rfl, _⟩ := h
    rfl
  · obtain ⟨n, x, rfl, hn, q⟩ := h
    refine ⟨_, pss_cons (ps_set (i := 2) scCoins.nd rfl (.inl rfl) (pe_lst pa_nil))
      (pss_cons (ps_set (i := 3) scCoins.nd rfl (.inl rfl) (pv 1))
      (pss_cons (ps_for PassesOwn.never rfl (pi_range1 (by rfl) T.range (pa_cons (pv 0) pa_nil)) (pg_name (i := 4) scCoins.nd rfl (.inl rfl))
        (pss_cons (ps_expr (pe_bm PySem.F.plainAttrs_list PySem.F.slot_list_append PySem.F.type_list_append mt_append (pv 2)
            (pa_cons (pe_op op_mod (pe_callTy call_int1 (by rfl) T.int (by decide +kernel) (pa_cons (pv 3) pa_nil)) pe_int) pa_nil)))
          (pss_one (ps_set (i := 3) scCoins.nd rfl (.inl rfl) (pe_op op_fdiv (pv 3) pe_int)))))
      (pss_one (ps_ret (pv 2))))), ?_⟩
    refine ⟨Nat.zero_le _, fun o no => ?_⟩
    refine ⟨.int (x : Nat), rfl, .int (n : Nat), rfl, (n : Nat), rfl, by omega, by omega, ?_⟩
    refine for_range (lo := 0) (n := n) (fun i σ H3 => ∃ y4, σ = [some (.int (n : Nat)), some (.int (x : Nat)), some (.ref o), some (.int ((x / 2 ^ i : Nat) : Int)), y4] ∧ Same H H3 ∧ H3 o = some (.lst (((K57.coinsN n x).take i).map V.int))) ⟨none, ?_, new_same no, upd_same⟩ ?_ ?_
    · rw [Nat.pow_zero, Nat.div_one]
      rfl
    · rintro i σ H3 hi ⟨y4, rfl, sm, ho⟩
      have hat := coinsN_at n x i hi
      refine ⟨.ref o, rfl, .inl ⟨rfl, _, SqL.of ho⟩, .int ((x / 2 ^ i : Nat) : Int), rfl, .inl ⟨_, rfl, _, _, rfl, rfl, (show (0 : Int) < 2 by decide), ?_⟩⟩
      refine ⟨o, _, _, rfl, rfl, ho, small_line ?_, ?_⟩
      · rw [List.length_map, List.length_take, coinsN_len]
        omega
      · refine ⟨.int ((x / 2 ^ i : Nat) : Int), rfl, _, _, rfl, rfl, ⟨by decide, by decide⟩, some (.int (0 + (i : Nat))), ?_, put_same sm no, ?_⟩
        · have e : ((x / 2 ^ i : Nat) : Int) / 2 = ((x / 2 ^ (i + 1) : Nat) : Int) := by
            rw [Nat.pow_succ, ← Nat.div_div_eq_div_mul]
            omega
          exact congrArg (fun z => ([some (.int (n : Nat)), some (.int (x : Nat)), some (.ref o), some (.int z), some (.int (0 + (i : Nat)))] : List (Option V))) e
        · rw [upd_same, take_one hat, List.map_append]
          have e : ((x / 2 ^ i : Nat) : Int) % 2 = ((x / 2 ^ i % 2 : Nat) : Int) := by omega
          exact congrArg (fun z => some (HO.lst (((K57.coinsN n x).take i).map V.int ++ [V.int z]))) e
    · rintro σ H3 ⟨y4, rfl, sm, ho⟩
      refine ⟨.ref o, rfl, q H3 o sm no (.lst ho ?_)⟩
      rw [List.take_of_length_le (by rw [coinsN_len]; exact Nat.le_refl _)]
      exact DtAll.of_ints _
/-! ### passing_plainly -/
def freeAt (ls rs : List (Option Int)) (x : Nat) : Nat := K57.bn (K57.freeN (K57.linksN (ls.zip rs) (K57.coinsN ls.length x)))
def plainN (ls rs : List (Option Int)) : Nat := K57.sumTo (2 ^ ls.length) (freeAt ls rs)
theorem scPlain : FnScope ["left", "right", "many", "rows", "row", "count", "number"] ["left", "right"] (defScope sPlain) := ⟨rfl, rfl, rfl, by decide +kernel, rfl, by decide +kernel, by decide +kernel⟩
def spPlain : Sp := fun vs H Q _ => ∃ (a b : V) (ls rs : List (Option Int)), vs = [a, b] ∧ Dt H a (.list (ls.map optD)) ∧ Dt H b (.list (rs.map optD)) ∧ rs.length = ls.length ∧ ls.length ≤ 12 ∧ ∀ H', Same H H' → Q (.int (plainN ls rs : Nat)) H'
theorem pow_small {n : Nat} (h : n ≤ 12) : 2 ^ n ≤ 4096 := Nat.pow_le_pow_right (by decide) h
theorem rng_nat {n : Nat} (h : n ≤ 4096) : -(2 ^ 62) ≤ (n : Int) ∧ (n : Int) < 2 ^ 62 := by omega
theorem ok_plain {f fO fC fN : Addr} {fd fdO fdC fdN : FuncData} (F : Fun K "passing_plainly" "passing_plainly" sPlain f fd) (T : Glob mg) (FO : Fun K "opened_claims" "opened_claims" sOpened fO fdO) (bO : Binds K fdO ["left", "right", "coins"] []) (gO : mg "opened_claims" = some (.ref fO))
    (FC : Fun K "caught" "caught" sCaught fC fdC) (bC : Binds K fdC ["left", "right", "coins"] []) (gC : mg "caught" = some (.ref fC))
    (FN : Fun K "coins_of_number" "coins_of_number" sCoins fN fdN) (bN : Binds K fdN ["rows", "number"] []) (gN : mg "coins_of_number" = some (.ref fN)) : FnOk P w K mg base CX0 3 f fd ["left", "right"] spPlain := by
  have GC : FnOk P w K mg base CX0 2 fC fdC ["left", "right", "coins"] spCaught := ok_caught FC T FO bO gO
  have GN : FnOk P w K mg base CX0 1 fN fdN ["rows", "number"] spCoins := ok_coins FN T
  refine F.ok scPlain (fun vs H Q E h => ?_) (fun cdv A outer s H vs Q E hr h => ?_)
  · obtain ⟨_, _, _, _, rfl, _⟩ := h
    rfl
  · obtain ⟨a, b, ls, rs, rfl, ha, hb, n1, n2, q⟩ := h
    obtain ⟨a, xa, rfl, ha0, za⟩ := id ha.lst_inv
    have xl : xa.length = ls.length := by rw [za.len, List.length_map]
    refine ⟨_, pss_cons (ps_set (i := 2) scPlain.nd rfl (.inl rfl) (pe_callB call_len_seq (by rfl) T.len PySem.boot_len (pa_cons (pv 0) pa_nil)))
      (pss_cons (ps_set (i := 3) scPlain.nd rfl (.inl rfl) pe_int)
      (pss_cons (ps_for PassesOwn.never rfl (pi_range1 (by rfl) T.range (pa_cons (pv 2) pa_nil)) (pg_name (i := 4) scPlain.nd rfl (.inl rfl))
        (pss_one (ps_set (i := 3) scPlain.nd rfl (.inl rfl) (pe_op op_mul (pv 3) pe_int))))
      (pss_cons (ps_set (i := 5) scPlain.nd rfl (.inl rfl) pe_int)
      (pss_cons (ps_for PassesOwn.never rfl (pi_range1 (by rfl) T.range (pa_cons (pv 3) pa_nil)) (pg_name (i := 6) scPlain.nd rfl (.inl rfl))
        (pss_one (ps_if (pt_not (pt_truth (pe_call GC hr (by rfl) gC FC.kp bC .nil pass0 (pa_cons (pv 0) (pa_cons (pv 1) (pa_cons (pe_call GN (hr.mono (by decide)) (by rfl) gN FN.kp bN .nil pass0 (pa_cons (pv 2) (pa_cons (pv 6) pa_nil))) pa_nil)))) (by intro _; rfl)))
          (pss_one (ps_aug (i := 5) scPlain.nd rfl (.inl rfl) pe_int ip_add)) pss_nil)))
      (pss_one (ps_ret (pv 5))))))), ?_⟩
    refine ⟨.ref a, rfl, a, xa, rfl, .inl (SqL.of ha0), ?_⟩
    rw [xl]
    refine ⟨.int (ls.length : Nat), rfl, (ls.length : Nat), rfl, by omega, by omega, ?_⟩
    refine for_range (lo := 0) (n := ls.length) (fun i σ H3 => ∃ y4, σ = [some (.ref a), some b, some (.int (ls.length : Nat)), some (.int ((2 ^ i : Nat) : Int)), y4, none, none] ∧ H3 = H) ⟨none, rfl, rfl⟩ ?_ ?_
    · rintro i σ H3 hi ⟨y4, rfl, rfl⟩
      refine ⟨.int ((2 ^ i : Nat) : Int), rfl, _, _, rfl, rfl, .inr ⟨by decide, by decide⟩, some (.int (0 + (i : Nat))), ?_, rfl⟩
      have e : ((2 ^ i : Nat) : Int) * 2 = ((2 ^ (i + 1) : Nat) : Int) := by
        rw [Nat.pow_succ]
        omega
      exact congrArg (fun z => ([some (.ref a), some b, some (.int (ls.length : Nat)), some (.int z), some (.int (0 + (i : Nat))), none, none] : List (Option V))) e
    · rintro σ H3 ⟨y4, rfl, rfl⟩
      have p2 := rng_nat (pow_small n2)
      refine ⟨.int ((2 ^ ls.length : Nat) : Int), rfl, ((2 ^ ls.length : Nat) : Int), rfl, p2.1, p2.2, ?_⟩
      refine for_range (lo := 0) (n := 2 ^ ls.length) (fun i σ H4 => ∃ y6, σ = [some (.ref a), some b, some (.int (ls.length : Nat)), some (.int ((2 ^ ls.length : Nat) : Int)), y4, some (.int (K57.sumTo i (freeAt ls rs) : Nat)), y6] ∧ Same H3 H4) ⟨none, rfl, Same.refl _⟩ ?_ ?_
      · rintro i σ H4 hi ⟨y6, rfl, sm⟩
        have z0 : (0 : Int) + (i : Nat) = (i : Nat) := by omega
        refine ⟨.ref a, rfl, b, rfl, .int (ls.length : Nat), rfl, .int (0 + (i : Nat)), rfl, ls.length, i, by rw [z0]; rfl, n2, fun H5 c sm5 nc hc => ?_⟩
        refine ⟨.ref a, b, .ref c, ls, rs, K57.coinsN ls.length i, rfl, Dt.same (sm.trans sm5) _ _ ha, Dt.same (sm.trans sm5) _ _ hb, hc, by rw [coinsN_len]; exact Nat.le_refl _, by rw [coinsN_len]; omega, by rw [coinsN_len]; omega, fun H6 d sm6 nd hd => ?_⟩
        obtain ⟨_, xd, ed, hd0, zd⟩ := hd.lst_inv
        cases ed
        refine ⟨!xd.isEmpty, .inl ⟨xd, SqL.of hd0, rfl⟩, ?_⟩
        have ex : xd.isEmpty = K57.freeN (K57.linksN (ls.zip rs) (K57.coinsN ls.length i)) := by
          have zl := zd.len
          rw [List.length_map] at zl
          unfold K57.freeN
          cases xd with
          | nil =>
            cases hcn : K57.caughtN (K57.linksN (ls.zip rs) (K57.coinsN ls.length i)) with
            | nil => rfl
            | cons y r => rw [hcn] at zl; cases zl
          | cons y r =>
            cases hcn : K57.caughtN (K57.linksN (ls.zip rs) (K57.coinsN ls.length i)) with
            | nil => rw [hcn] at zl; cases zl
            | cons y r => rfl
        show (if (!(!xd.isEmpty)) = true then _ else _)
        rw [Bool.not_not, ex]
        have sm36 := (sm.trans sm5).trans sm6
        have es : K57.sumTo (i + 1) (freeAt ls rs) = K57.sumTo i (freeAt ls rs) + freeAt ls rs i := rfl
        refine ite2 (fun y => ?_) (fun y => ?_)
        · refine ⟨_, rfl, _, _, rfl, rfl, some (.int (0 + (i : Nat))), ?_, sm36⟩
          rw [es, freeAt, y]
          rfl
        · refine ⟨some (.int (0 + (i : Nat))), ?_, sm36⟩
          have y0 : K57.freeN (K57.linksN (ls.zip rs) (K57.coinsN ls.length i)) = false := by
            cases yy : K57.freeN (K57.linksN (ls.zip rs) (K57.coinsN ls.length i)) with
            | true => exact absurd yy y
            | false => rfl
          rw [es, freeAt, y0]
          rfl
      · rintro σ H4 ⟨y6, rfl, sm⟩
        exact ⟨_, rfl, q H4 sm⟩
end
end K57W

namespace K57W
open PySem PySem.Spec PyProof.Rows L2 K57S K57D
section
variable {P : Program} {w : World} {K : PySem.W.Frag} {mg : Str → Option Value} {base : Heap}
/-! ### links_of -/
theorem end_inv {H : Hp} {v : V} {u : K57.End} (h : Dt H v (endD u)) : ∃ b, v = .ref b ∧ H b = some (.tup [.int u.1, .int u.2]) := by
  obtain ⟨a, xs, rfl, ha, hs⟩ := h.tup_inv
  cases hs with
  | cons h1 h2 =>
    cases h2 with
    | cons h3 h4 =>
      cases h4
      cases h1
      cases h3
      exact ⟨a, rfl, ha⟩
theorem ends_keep {H H' : Hp} (s : TupSame H H') : ∀ {ls : List K57.End} {xs : List V}, DtAll H xs (ls.map endD) → DtAll H' xs (ls.map endD)
  | [], _, h => by cases h; exact .nil
  | l :: ls, _, h => by
    cases h with
    | cons h1 h2 =>
      obtain ⟨b, rfl, hb⟩ := end_inv h1
      exact .cons (Dt.of_end (s _ _ hb)) (ends_keep s h2)
theorem tupSame_wo {H : Hp} {o : Addr} {x : HO} (h : H o = some x) (d : ∀ t, HO.tup t ≠ x) : TupSame H (wo H o) := fun b t e => wo_at e (ne_of e h (d t))
def rowsE (ls rs : List (Option Int)) : List (List K57.End) := (ls.zip rs).map K57.endsOf
theorem rowsE_at {ls rs : List (Option Int)} {i : Nat} {l r : Option Int} (h1 : ls[i]? = some l) (h2 : rs[i]? = some r) : (rowsE ls rs)[i]? = some (K57.endsOf (l, r)) := by
  have e : (ls.zip rs)[i]? = some (l, r) := by
    unfold List.zip
    simp only [List.getElem?_zipWith, h1, h2]
  exact map_at e
theorem rowsE_len {ls rs : List (Option Int)} (h : rs.length = ls.length) : (rowsE ls rs).length = ls.length := by
  unfold rowsE
  rw [List.length_map, List.length_zip]
  omega
theorem scLinks : FnScope ["left", "right", "rows", "row", "ends"] ["left", "right"] (defScope sLinks) := ⟨rfl, rfl, rfl, by decide +kernel, rfl, by decide +kernel, by decide +kernel⟩
def spLinks : Sp := fun vs H Q _ => ∃ (a b : V) (ls rs : List (Option Int)), vs = [a, b] ∧ Dt H a (.list (ls.map optD)) ∧ Dt H b (.list (rs.map optD)) ∧ rs.length = ls.length ∧ ls.length ≤ 12 ∧
  ∀ H' p, Same H H' → H p = none → Dt H' (.ref p) (.list ((rowsE ls rs).map endsD)) → Q (.ref p) H'
theorem optV_some {o : Option Int} (h : ¬ (!decide (optV o = V.non)) = true) : o = none := by
  cases o with
  | none => rfl
  | some i => exact absurd rfl h
theorem optV_ex {o : Option Int} (h : (!decide (optV o = V.non)) = true) : ∃ i, o = some i := by
  cases o with
  | none => exact absurd h (by simp [optV])
  | some i => exact ⟨i, rfl⟩
theorem ok_links {f : Addr} {fd : FuncData} (F : Fun K "links_of" "links_of" sLinks f fd) (T : Glob mg) : FnOk P w K mg base CX0 1 f fd ["left", "right"] spLinks := by
  obtain ⟨tL, mL⟩ := T.left
  obtain ⟨tR, mR⟩ := T.right
  refine F.ok scLinks (fun vs H Q E h => ?_) (fun cdv A outer s H vs Q E hr h => ?_)
  · obtain ⟨_, _, _, _, rfl, _⟩ := h
    rfl
  · obtain ⟨a, b, ls, rs, rfl, ha, hb, n1, n2, q⟩ := h
    obtain ⟨a, xa, rfl, ha, za⟩ := ha.lst_inv
    obtain ⟨b, xb, rfl, hb, zb⟩ := hb.lst_inv
    have ea := za.opts
    have eb := zb.opts
    subst ea eb
    refine ⟨_, pss_cons (ps_set (i := 2) scLinks.nd rfl (.inl rfl) (pe_lst pa_nil))
      (pss_cons (ps_for PassesOwn.never rfl (pi_range1 (by rfl) T.range (pa_cons (pe_callB call_len_seq (by rfl) T.len PySem.boot_len (pa_cons (pv 0) pa_nil)) pa_nil)) (pg_name (i := 3) scLinks.nd rfl (.inl rfl))
        (pss_cons (ps_set (i := 4) scLinks.nd rfl (.inl rfl) (pe_lst pa_nil))
        (C8.pss_cut (ps_if (pt_cmpR op_notN (pe_ix ix_list (pv 0) (pv 3) (fun _ _ => rfl)) pe_non (nomark _))
            (pss_one (ps_expr (pe_bm PySem.F.plainAttrs_list PySem.F.slot_list_append PySem.F.type_list_append mt_append (pv 4)
              (pa_cons (pe_tup (pa_cons (pe_glob (v := .int 0) rfl mL ⟨_, rfl⟩) (pa_cons (pe_ix ix_list (pv 0) (pv 3) (fun _ _ => rfl)) pa_nil))) pa_nil)))) pss_nil)
        (C8.pss_cut (ps_if (pt_cmpR op_notN (pe_ix ix_list (pv 1) (pv 3) (fun _ _ => rfl)) pe_non (nomark _))
            (pss_one (ps_expr (pe_bm PySem.F.plainAttrs_list PySem.F.slot_list_append PySem.F.type_list_append mt_append (pv 4)
              (pa_cons (pe_tup (pa_cons (pe_glob (v := .int 1) rfl mR ⟨_, rfl⟩) (pa_cons (pe_ix ix_list (pv 1) (pv 3) (fun _ _ => rfl)) pa_nil))) pa_nil)))) pss_nil)
        (pss_one (ps_expr (pe_bm PySem.F.plainAttrs_list PySem.F.slot_list_append PySem.F.type_list_append mt_append (pv 2) (pa_cons (pv 4) pa_nil))))))))
      (pss_one (ps_ret (pv 2)))), ?_⟩
    refine ⟨Nat.zero_le _, fun o no => ?_⟩
    refine ⟨.ref a, rfl, a, _, rfl, .inl (SqL.of (new_same no _ _ ha)), ?_⟩
    have el : (ls.map optV).length = ls.length := List.length_map _
    rw [el]
    refine ⟨(ls.length : Nat), rfl, by omega, by omega, ?_⟩
    refine for_range (lo := 0) (n := ls.length) (fun i σ H3 => ∃ y3 y4 acc, σ = [some (.ref a), some (.ref b), some (.ref o), y3, y4] ∧ Same H (wo H3 o) ∧ H3 o = some (.lst acc) ∧ DtAll (wo H3 o) acc (((rowsE ls rs).take i).map endsD))
      ⟨none, none, [], rfl, wo_of (new_same no) no, upd_same, .nil⟩ ?_ ?_
    · rintro i σ H3 hi ⟨y3, y4, acc, rfl, sm, ho, hd⟩
      obtain ⟨l, hl⟩ : ∃ l, ls[i]? = some l := ⟨ls[i], List.getElem?_eq_getElem hi⟩
      obtain ⟨r, hr'⟩ : ∃ r, rs[i]? = some r := ⟨rs[i], List.getElem?_eq_getElem (by omega)⟩
      have hk := rowsE_at hl hr'
      have zi : (0 : Int) + (i : Nat) = (i : Nat) := by omega
      have acl : acc.length ≤ 12 := by
        rw [hd.len, List.length_map, List.length_take]
        omega
      have ko : wo H3 o o = none := by unfold wo; rw [if_pos rfl]
      refine ⟨Nat.zero_le _, fun e ne => ?_⟩
      have oe : o ≠ e := ne_of_none ho ne
      have ke : wo H3 o e = none := by unfold wo; rw [if_neg oe.symm]; exact ne
      have ha4 : ∀ {H5 : Hp}, Same (wo H3 o) H5 → H5 a = some (.lst (ls.map optV)) := fun s => s _ _ (sm _ _ ha)
      have hb4 : ∀ {H5 : Hp}, Same (wo H3 o) H5 → H5 b = some (.lst (rs.map optV)) := fun s => s _ _ (sm _ _ hb)
      have s4 : Same (wo H3 o) (upd H3 e (.lst [])) := put_same (wo_same _ _) ke
      -- the end on the left
      refine ⟨fun σ' H5 => σ' = [some (.ref a), some (.ref b), some (.ref o), some (.int (0 + (i : Nat))), some (.ref e)] ∧ Same (wo H3 o) H5 ∧ H5 o = some (.lst acc) ∧ ∃ xs, H5 e = some (.lst xs) ∧ DtAll H5 xs ((K57.endsL l).map endD), ?_, ?_⟩
      · refine ⟨.ref a, rfl, _, rfl, a, _, _, _, rfl, rfl, SqL.of (ha4 s4), at_of zi (map_at hl), rfl, _, rfl, ite2 (fun z => ?_) (fun z => ?_)⟩
        · obtain ⟨j, rfl⟩ := optV_ex z
          refine ⟨.ref e, rfl, .inl ⟨rfl, _, SqL.of upd_same⟩, .ref a, rfl, _, rfl, a, _, _, _, rfl, rfl, SqL.of (ha4 s4), at_of zi (map_at hl), (by show 2 ≤ sizeLine; decide), fun p np => ?_⟩
          have pe : e ≠ p := ne_of_none upd_same np
          have po : o ≠ p := ne_of_none (by rw [upd_ne oe]; exact ho) np
          refine ⟨e, [], .ref p, rfl, rfl, by rw [upd_ne pe]; exact upd_same, small_line (by show 0 ≤ 300; decide), ?_⟩
          refine ⟨rfl, put_same (s4.trans (new_same np)) ke, ?_, _, upd_same, .cons (Dt.of_end ?_) .nil⟩
          · rw [upd_ne oe, upd_ne po, upd_ne oe]
            exact ho
          · rw [upd_ne pe.symm]
            exact upd_same
        · have z0 := optV_some z
          subst z0
          exact ⟨rfl, s4, by rw [upd_ne oe]; exact ho, [], upd_same, .nil⟩
      · rintro σ' H5 ⟨rfl, s5, ho5, xs, he5, hx5⟩
        have xl : xs.length ≤ 1 := by
          rw [hx5.len, List.length_map]
          cases l <;> simp [K57.endsL]
        -- the end on the right
        refine ⟨fun σ' H6 => σ' = [some (.ref a), some (.ref b), some (.ref o), some (.int (0 + (i : Nat))), some (.ref e)] ∧ Same (wo H3 o) H6 ∧ H6 o = some (.lst acc) ∧ ∃ xs, H6 e = some (.lst xs) ∧ DtAll H6 xs ((K57.endsOf (l, r)).map endD), ?_, ?_⟩
        · refine ⟨.ref b, rfl, _, rfl, b, _, _, _, rfl, rfl, SqL.of (hb4 s5), at_of zi (map_at hr'), rfl, _, rfl, ite2 (fun z => ?_) (fun z => ?_)⟩
          · obtain ⟨j, rfl⟩ := optV_ex z
            refine ⟨.ref e, rfl, .inl ⟨rfl, _, SqL.of he5⟩, .ref b, rfl, _, rfl, b, _, _, _, rfl, rfl, SqL.of (hb4 s5), at_of zi (map_at hr'), (by show 2 ≤ sizeLine; decide), fun p np => ?_⟩
            have pe : e ≠ p := ne_of_none he5 np
            have po : o ≠ p := ne_of_none ho5 np
            refine ⟨e, xs, .ref p, rfl, rfl, by rw [upd_ne pe]; exact he5, small_line (by omega), ?_⟩
            have he6 : (upd H5 p (.tup [.int 1, optV (some j)])) e = some (.lst xs) := by rw [upd_ne pe]; exact he5
            have ts : TupSame H5 (upd (upd H5 p (.tup [.int 1, optV (some j)])) e (.lst (xs ++ [.ref p]))) := fun c t q => tupSame_upd he6 (fun t q => by cases q) _ _ (tupSame_of (new_same np) _ _ q)
            refine ⟨rfl, put_same (s5.trans (new_same np)) ke, ?_, _, upd_same, ?_⟩
            · rw [upd_ne oe, upd_ne po]
              exact ho5
            · show DtAll _ _ ((K57.endsL l ++ [(1, j)]).map endD)
              rw [List.map_append]
              refine (ends_keep ts hx5).snoc (Dt.of_end ?_)
              rw [upd_ne pe.symm]
              exact upd_same
          · have z0 := optV_some z
            subst z0
            refine ⟨rfl, s5, ho5, xs, he5, ?_⟩
            show DtAll _ _ ((K57.endsL l ++ []).map endD)
            rw [List.append_nil]
            exact hx5
        · rintro σ' H6 ⟨rfl, s6, ho6, ys, he6, hy6⟩
          refine ⟨.ref o, rfl, .inl ⟨rfl, _, SqL.of ho6⟩, .ref e, rfl, o, acc, .ref e, rfl, rfl, ho6, small_line (by omega), _, _, acc ++ [.ref e], rfl, ?_, upd_same, ?_⟩
          · rw [wo_upd]
            exact sm.trans (wo_of s6 ko)
          · rw [wo_upd, take_one hk, List.map_append]
            refine (DtAll.same (wo_of s6 ko) _ _ hd).snoc (.lst (wo_at he6 oe.symm) ?_)
            exact ends_keep (tupSame_wo ho6 (fun t q => by cases q)) hy6
    · rintro σ H3 ⟨y3, y4, acc, rfl, sm, ho, hd⟩
      refine ⟨.ref o, rfl, q H3 o (sm.trans (wo_same _ _)) no (.lst ho ?_)⟩
      rw [List.take_of_length_le (by rw [rowsE_len n1]; exact Nat.le_refl _)] at hd
      exact DtAll.same (wo_same _ _) _ _ hd
end
end K57W

namespace K57W
open PySem PySem.Spec PyProof.Rows L2 K57S K57D
section
variable {P : Program} {w : World} {K : PySem.W.Frag} {mg : Str → Option Value} {base : Heap}
/-! ### joined_parts -/
theorem filt_one {α : Type} {l : List α} {i : Nat} {x : α} (f : α → Bool) (h : l[i]? = some x) : (l.take (i + 1)).filter f = (l.take i).filter f ++ if f x = true then [x] else [] := by
  rw [take_one h, List.filter_append]
  congr 1
  by_cases hf : f x = true
  · rw [List.filter_cons_of_pos hf, if_pos hf, List.filter_nil]
  · rw [List.filter_cons_of_neg hf, if_neg hf, List.filter_nil]
theorem flat_sub {α : Type} {l m : List (List α)} (h : l.Sublist m) : l.flatten.length ≤ m.flatten.length := by
  induction h with
  | slnil => exact Nat.le_refl _
  | cons x _ ih =>
    rw [List.flatten_cons, List.length_append]
    omega
  | cons_cons x _ ih =>
    rw [List.flatten_cons, List.flatten_cons, List.length_append, List.length_append]
    omega
theorem any_end (es : List K57.End) (u : K57.End) : ((es.map endD).any fun z => PyData.eqv z (endD u)) = decide (u ∈ es) := by
  rw [any_in eqv_end]
  exact decide_eq_decide.mpr Iff.rfl
theorem any_link (ls : List K57.Link) (u : K57.Link) : ((ls.map linkD).any fun z => PyData.eqv z (linkD u)) = decide (u ∈ ls) := by
  rw [any_in eqv_link]
  exact decide_eq_decide.mpr Iff.rfl
theorem mem_flat_len {Ps : List (List K57.End)} : ∀ {i : Nat} {p : List K57.End} (f : List K57.End → Bool), Ps[i]? = some p → ((Ps.take i).filter f).flatten.length + p.length ≤ Ps.flatten.length := by
  intro i p f h
  have e : Ps.take i ++ [p] = Ps.take (i + 1) := (take_one h).symm
  have h1 : ((Ps.take i).filter f).flatten.length ≤ (Ps.take i).flatten.length := flat_sub List.filter_sublist
  have h2 : (Ps.take (i + 1)).flatten.length ≤ Ps.flatten.length := flat_sub (List.take_sublist (i + 1) Ps)
  rw [← e, List.flatten_append, List.length_append] at h2
  simp only [List.flatten_cons, List.flatten_nil, List.append_nil] at h2
  omega
theorem addNew_len : ∀ (es w : List K57.End), (K57.addNew w es).length ≤ w.length + es.length
  | [], w => Nat.le_refl _
  | e :: es, w => by
    show (K57.addNew (if e ∈ w then w else w ++ [e]) es).length ≤ _
    have ih := addNew_len es (if e ∈ w then w else w ++ [e])
    rw [List.length_cons]
    by_cases h : e ∈ w
    · rw [if_pos h] at ih ⊢
      omega
    · rw [if_neg h] at ih ⊢
      rw [List.length_append, List.length_singleton] at ih
      omega
theorem addNew_snoc (w es : List K57.End) (e : K57.End) : K57.addNew w (es ++ [e]) = if e ∈ K57.addNew w es then K57.addNew w es else K57.addNew w es ++ [e] := by
  unfold K57.addNew
  rw [List.foldl_append]
  rfl
theorem any_one {es : List K57.End} {j : Nat} {e : K57.End} (p : List K57.End) (h : es[j]? = some e) : K57.touch (es.take (j + 1)) p = (K57.touch (es.take j) p || decide (e ∈ p)) := by
  unfold K57.touch
  rw [take_one h, List.any_append, List.any_cons, List.any_nil, Bool.or_false]
theorem scJoined : FnScope ["parts", "ends", "others", "whole", "part", "touched", "end"] ["parts", "ends"] (defScope sJoined) := ⟨rfl, rfl, rfl, by decide +kernel, rfl, by decide +kernel, by decide +kernel⟩
def spJoined : Sp := fun vs H Q _ => ∃ (a b : V) (Ps : List (List K57.End)) (es : List K57.End), vs = [a, b] ∧ Dt H a (.list (Ps.map endsD)) ∧ Dt H b (endsD es) ∧ Ps.length ≤ 60 ∧ Ps.flatten.length ≤ 60 ∧ es.length ≤ 2 ∧
  ∀ H' p, Same H H' → H p = none → Dt H' (.ref p) (.list ((K57.joined Ps es).map endsD)) → Q (.ref p) H'
theorem ok_joined {f : Addr} {fd : FuncData} (F : Fun K "joined_parts" "joined_parts" sJoined f fd) (T : Glob mg) : FnOk P w K mg base CX0 1 f fd ["parts", "ends"] spJoined := by
  refine F.ok scJoined (fun vs H Q E h => ?_) (fun cdv A outer s H vs Q E hr h => ?_)
  · obtain ⟨_, _, _, _, rfl, _⟩ := h
    rfl
  · obtain ⟨a, b, Ps, es, rfl, ha, hb, n1, n2, n3, q⟩ := h
    obtain ⟨a, xa, rfl, ha, za⟩ := ha.lst_inv
    obtain ⟨b, xb, rfl, hb, zb⟩ := hb.lst_inv
    have xal : xa.length = Ps.length := by rw [za.len, List.length_map]
    have xbl : xb.length = es.length := by rw [zb.len, List.length_map]
    have hu := fun (X : Cx) (hX : X.A = A.deeper (envOfC "joined_parts" (defScope sJoined) s.heap.objs.size f cdv)) => (by rw [hX]; have := hr.un; omega : X.A.units + 65 < cLine)
    refine ⟨_, pss_cons (ps_set (i := 2) scJoined.nd rfl (.inl rfl) (pe_lst pa_nil))
      (pss_cons (ps_set (i := 3) scJoined.nd rfl (.inl rfl) (pe_lst pa_nil))
      (pss_cons (ps_for PassesOwn.never rfl (pi_list (pv 0)) (pg_name (i := 4) scJoined.nd rfl (.inl rfl))
        (pss_cons (ps_set (i := 5) scJoined.nd rfl (.inl rfl) pe_bl)
        (pss_cons (ps_for PassesOwn.never rfl (pi_list (pv 1)) (pg_name (i := 6) scJoined.nd rfl (.inl rfl))
          (pss_one (ps_if (pt_cmpR (op_inD (hu _ rfl)) (pv 6) (pv 4) (by rfl)) (pss_one (ps_set (i := 5) scJoined.nd rfl (.inl rfl) pe_bl)) pss_nil)))
        (pss_one (ps_if (pt_val (pv 5)) (pss_one (ps_set (i := 3) scJoined.nd rfl (.inl rfl) (pe_op op_cat (pv 3) (pv 4))))
          (pss_one (ps_expr (pe_bm PySem.F.plainAttrs_list PySem.F.slot_list_append PySem.F.type_list_append mt_append (pv 2) (pa_cons (pv 4) pa_nil)))))))))
      (pss_cons (ps_for PassesOwn.never rfl (pi_list (pv 1)) (pg_name (i := 6) scJoined.nd rfl (.inl rfl))
        (pss_one (ps_if (pt_cmpR (op_notInD (hu _ rfl)) (pv 6) (pv 3) (by rfl))
          (pss_one (ps_expr (pe_bm PySem.F.plainAttrs_list PySem.F.slot_list_append PySem.F.type_list_append mt_append (pv 3) (pa_cons (pv 6) pa_nil)))) pss_nil)))
      (pss_one (ps_ret (pe_op op_cat (pv 2) (pe_lst (pa_cons (pv 3) pa_nil)))))))), ?_⟩
    refine ⟨Nat.zero_le _, fun o no => ?_⟩
    refine ⟨Nat.zero_le _, fun e ne => ?_⟩
    have oe : o ≠ e := ne_of_none upd_same ne
    have ne0 : H e = none := (new_same no).free ne
    have s0 : Same H (upd (upd H o (.lst [])) e (.lst [])) := (new_same no).trans (new_same ne)
    refine ⟨.ref a, rfl, a, rfl, ⟨_, SqL.of (s0 _ _ ha)⟩, ?_⟩
    refine for_list (K := K) (a := a) (xs := xa) (fun i σ H3 => ∃ y4 y5 y6 wA accO accW, σ = [some (.ref a), some (.ref b), some (.ref o), some (.ref wA), y4, y5, y6] ∧ Same H H3 ∧ H3 o = some (.lst accO) ∧ H3 wA = some (.lst accW) ∧ wA ≠ o ∧ H wA = none ∧
        DtAll H accO (((Ps.take i).filter fun p => !K57.touch es p).map endsD) ∧ DtAll H accW (((Ps.take i).filter fun p => K57.touch es p).flatten.map endD))
      ⟨none, none, none, e, [], [], rfl, s0, by rw [upd_ne oe]; exact upd_same, upd_same, oe.symm, ne0, .nil, .nil⟩ (fun i σ H3 _ ⟨_, _, _, _, _, _, _, sm, _⟩ => SqL.of (sm _ _ ha)) ?_ ?_
    · rintro i x σ H3 hx ⟨y4, y5, y6, wA, accO, accW, rfl, sm, hO, hW, wo_, nw, dO, dW⟩
      obtain ⟨d, hd1, hd2⟩ := za.get2 hx
      obtain ⟨p, hp, rfl⟩ := at_map hd1
      obtain ⟨pa, xp, rfl, hpa, zp⟩ := hd2.lst_inv
      have xpl : xp.length = p.length := by rw [zp.len, List.length_map]
      -- touched
      refine ⟨.ref b, rfl, b, rfl, ⟨_, SqL.of (sm _ _ hb)⟩, ?_⟩
      refine for_list (K := K) (a := b) (xs := xb) (fun j σ H4 => ∃ z6, σ = [some (.ref a), some (.ref b), some (.ref o), some (.ref wA), some (.ref pa), some (.bl (K57.touch (es.take j) p)), z6] ∧ H4 = H3)
        ⟨y6, rfl, rfl⟩ (fun j σ H4 _ ⟨_, _, e4⟩ => by rw [e4]; exact SqL.of (sm _ _ hb)) ?_ ?_
      · rintro j y σ H4 hy ⟨z6, rfl, rfl⟩
        obtain ⟨d, he1, he2⟩ := zb.get2 hy
        obtain ⟨u, hu1, rfl⟩ := at_map he1
        refine ⟨y, rfl, .ref pa, rfl, endD u, p.map endD, Dt.dp _ _ (Dt.same sm _ _ he2), Dt.dp _ _ (Dt.same sm _ _ hd2), shaped_end u, shaped_ends p, _, rfl, ?_⟩
        rw [any_end, any_one p hu1]
        refine ite2 (fun z => ?_) (fun z => ?_)
        · refine ⟨some y, ?_, rfl⟩
          rw [z, Bool.or_true]
          rfl
        · refine ⟨some y, ?_, rfl⟩
          have z0 : decide (u ∈ p) = false := by
            cases zz : decide (u ∈ p) with
            | true => exact absurd zz z
            | false => rfl
          rw [z0, Bool.or_false]
          rfl
      · rintro σ H4 ⟨z6, rfl, rfl⟩
        rw [xbl, List.take_of_length_le (Nat.le_refl _)]
        refine ⟨_, rfl, K57.touch es p, rfl, ite2 (fun z => ?_) (fun z => ?_)⟩
        · have cut1 := mem_flat_len (fun p => K57.touch es p) hp
          have wl : accW.length = ((Ps.take i).filter fun p => K57.touch es p).flatten.length := by rw [dW.len, List.length_map]
          refine ⟨.ref wA, rfl, .ref pa, rfl, wA, pa, accW, xp, rfl, rfl, hW, sm _ _ hpa, Nat.le_of_lt (small_line (by omega)), fun g ng => ?_⟩
          refine ⟨_, _, _, g, accO, accW ++ xp, rfl, sm.trans (new_same ng), new_same ng _ _ hO, upd_same, (ne_of_none hO ng).symm, sm.free ng, ?_, ?_⟩
          · rw [filt_one _ hp, if_neg (by rw [z]; decide), List.append_nil]
            exact dO
          · rw [filt_one _ hp, if_pos z, List.flatten_append, List.map_append]
            refine dW.app ?_
            simp only [List.flatten_cons, List.flatten_nil, List.append_nil]
            exact zp
        · have z0 : K57.touch es p = false := by
            cases zz : K57.touch es p with
            | true => exact absurd zz z
            | false => rfl
          have ol : accO.length ≤ Ps.length := by
            rw [dO.len, List.length_map]
            exact Nat.le_trans (List.length_filter_le _ _) (by rw [List.length_take]; omega)
          refine ⟨.ref o, rfl, .inl ⟨rfl, _, SqL.of hO⟩, .ref pa, rfl, o, accO, .ref pa, rfl, rfl, hO, small_line (by omega), ?_⟩
          refine ⟨_, _, _, wA, accO ++ [.ref pa], accW, rfl, put_same sm no, upd_same, by rw [upd_ne wo_]; exact hW, wo_, nw, ?_, ?_⟩
          · rw [filt_one _ hp, if_pos (by rw [z0]; rfl), List.map_append]
            exact dO.snoc hd2
          · rw [filt_one _ hp, if_neg (by rw [z0]; decide), List.append_nil]
            exact dW
    · rintro σ H3 ⟨y4, y5, y6, wA, accO, accW, rfl, sm, hO, hW, wo_, nw, dO, dW⟩
      rw [xal, List.take_of_length_le (Nat.le_refl _)] at dO dW
      have fl : (Ps.filter fun p => K57.touch es p).flatten.length ≤ 60 := Nat.le_trans (flat_sub List.filter_sublist) n2
      refine ⟨.ref b, rfl, b, rfl, ⟨_, SqL.of (sm _ _ hb)⟩, ?_⟩
      refine for_list (K := K) (a := b) (xs := xb) (fun j σ H4 => ∃ z6 accW, σ = [some (.ref a), some (.ref b), some (.ref o), some (.ref wA), y4, y5, z6] ∧ Same H H4 ∧ H4 o = some (.lst accO) ∧ H4 wA = some (.lst accW) ∧ DtAll H accW ((K57.addNew (Ps.filter fun p => K57.touch es p).flatten (es.take j)).map endD))
        ⟨y6, accW, rfl, sm, hO, hW, dW⟩ (fun j σ H4 _ ⟨_, _, _, sm4, _⟩ => SqL.of (sm4 _ _ hb)) ?_ ?_
      · rintro j y σ H4 hy ⟨z6, accW, rfl, sm4, hO4, hW4, dW4⟩
        obtain ⟨d, he1, he2⟩ := zb.get2 hy
        obtain ⟨u, hu1, rfl⟩ := at_map he1
        have dw : Dt H4 (.ref wA) (endsD (K57.addNew (Ps.filter fun p => K57.touch es p).flatten (es.take j))) := .lst hW4 (DtAll.same sm4 _ _ dW4)
        refine ⟨y, rfl, .ref wA, rfl, endD u, _, Dt.dp _ _ (Dt.same sm4 _ _ he2), Dt.dp _ _ dw, shaped_end u, shaped_ends _, _, rfl, ?_⟩
        rw [any_end]
        have wl := dW4.len
        rw [List.length_map] at wl
        have wl2 := addNew_len (es.take j) (Ps.filter fun p => K57.touch es p).flatten
        have wl3 : (es.take j).length ≤ 2 := by rw [List.length_take]; omega
        refine ite2 (fun z => ?_) (fun z => ?_)
        · have z0 : ¬ u ∈ K57.addNew (Ps.filter fun p => K57.touch es p).flatten (es.take j) := by simpa using z
          refine ⟨.ref wA, rfl, .inl ⟨rfl, _, SqL.of hW4⟩, y, rfl, wA, accW, y, rfl, rfl, hW4, small_line (by omega), ?_⟩
          refine ⟨some y, accW ++ [y], rfl, put_same sm4 nw, by rw [upd_ne wo_.symm]; exact hO4, upd_same, ?_⟩
          rw [take_one hu1, addNew_snoc, if_neg z0, List.map_append]
          exact dW4.snoc he2
        · have z0 : u ∈ K57.addNew (Ps.filter fun p => K57.touch es p).flatten (es.take j) := by simpa using z
          refine ⟨some y, accW, rfl, sm4, hO4, hW4, ?_⟩
          rw [take_one hu1, addNew_snoc, if_pos z0]
          exact dW4
      · rintro σ H4 ⟨z6, accW, rfl, sm4, hO4, hW4, dW4⟩
        rw [xbl, List.take_of_length_le (Nat.le_refl _)] at dW4
        refine ⟨.ref o, rfl, .ref wA, rfl, (by show 1 ≤ sizeLine; decide), fun g ng => ?_⟩
        have og : o ≠ g := ne_of_none hO4 ng
        have ol : accO.length ≤ Ps.length := by
          rw [dO.len, List.length_map]
          exact List.length_filter_le _ _
        refine ⟨o, g, accO, [.ref wA], rfl, rfl, by rw [upd_ne og]; exact hO4, upd_same, Nat.le_of_lt (small_line (by show accO.length + 1 ≤ 300; omega)), fun h nh => ?_⟩
        have s5 : Same H4 (upd (upd H4 g (.lst [.ref wA])) h (.lst (accO ++ [.ref wA]))) := (new_same ng).trans (new_same nh)
        refine q _ h (sm4.trans s5) (sm4.free ((new_same ng).free nh)) (.lst upd_same ?_)
        unfold K57.joined
        rw [List.map_append]
        exact (DtAll.same (sm4.trans s5) _ _ dO).snoc (.lst (s5 _ _ hW4) (DtAll.same (sm4.trans s5) _ _ dW4))
end
end K57W

namespace K57W
open PySem PySem.Spec PyProof.Rows L2 K57S K57D
section
variable {P : Program} {w : World} {K : PySem.W.Frag} {mg : Str → Option Value} {base : Heap}
/-! ### parts_of -/
theorem filt_flat (f : List K57.End → Bool) : ∀ Ps : List (List K57.End), (Ps.filter f).flatten.length + (Ps.filter fun p => !f p).flatten.length = Ps.flatten.length
  | [] => rfl
  | p :: Ps => by
    have ih := filt_flat f Ps
    by_cases h : f p = true
    · rw [List.filter_cons_of_pos h, List.filter_cons_of_neg (by simp [h]), List.flatten_cons, List.flatten_cons, List.length_append, List.length_append]
      omega
    · rw [List.filter_cons_of_neg h, List.filter_cons_of_pos (by simp [h]), List.flatten_cons, List.flatten_cons, List.length_append, List.length_append]
      omega
theorem joined_len (Ps : List (List K57.End)) (es : List K57.End) : (K57.joined Ps es).length ≤ Ps.length + 1 ∧ (K57.joined Ps es).flatten.length ≤ Ps.flatten.length + es.length := by
  unfold K57.joined
  refine ⟨?_, ?_⟩
  · rw [List.length_append, List.length_singleton]
    exact Nat.succ_le_succ (List.length_filter_le _ _)
  · rw [List.flatten_append, List.length_append]
    simp only [List.flatten_cons, List.flatten_nil, List.append_nil]
    have h1 := filt_flat (fun p => K57.touch es p) Ps
    have h2 := addNew_len es (Ps.filter fun p => K57.touch es p).flatten
    omega
theorem parts_len : ∀ (rows Ps : List (List K57.End)), (∀ es ∈ rows, es.length ≤ 2) → (rows.foldl K57.partsStep Ps).length ≤ Ps.length + rows.length ∧ (rows.foldl K57.partsStep Ps).flatten.length ≤ Ps.flatten.length + 2 * rows.length
  | [], Ps, _ => ⟨Nat.le_refl _, Nat.le_refl _⟩
  | es :: rows, Ps, h => by
    obtain ⟨i1, i2⟩ := parts_len rows (K57.partsStep Ps es) fun x hx => h x (List.mem_cons_of_mem _ hx)
    have h0 := h es List.mem_cons_self
    obtain ⟨j1, j2⟩ := joined_len Ps es
    have s1 : (K57.partsStep Ps es).length ≤ Ps.length + 1 ∧ (K57.partsStep Ps es).flatten.length ≤ Ps.flatten.length + 2 := by
      unfold K57.partsStep
      split <;> omega
    rw [List.foldl_cons, List.length_cons]
    omega
theorem scParts : FnScope ["links", "parts", "ends"] ["links"] (defScope sParts) := ⟨rfl, rfl, rfl, by decide +kernel, rfl, by decide +kernel, by decide +kernel⟩
def spParts : Sp := fun vs H Q _ => ∃ (a : V) (rows : List (List K57.End)), vs = [a] ∧ Dt H a (.list (rows.map endsD)) ∧ rows.length ≤ 12 ∧ (∀ es ∈ rows, es.length ≤ 2) ∧ ∀ H' v, Same H H' → Dt H' v (.list ((K57.partsOf rows).map endsD)) → Q v H'
theorem ok_parts {f fJ : Addr} {fd fdJ : FuncData} (F : Fun K "parts_of" "parts_of" sParts f fd) (T : Glob mg) (FJ : Fun K "joined_parts" "joined_parts" sJoined fJ fdJ) (bJ : Binds K fdJ ["parts", "ends"] []) (gJ : mg "joined_parts" = some (.ref fJ)) : FnOk P w K mg base CX0 2 f fd ["links"] spParts := by
  have GJ : FnOk P w K mg base CX0 1 fJ fdJ ["parts", "ends"] spJoined := ok_joined FJ T
  refine F.ok scParts (fun vs H Q E h => ?_) (fun cdv A outer s H vs Q E hr h => ?_)
  · obtain ⟨_, _, rfl, _⟩ := h
    rfl
  · obtain ⟨a, rows, rfl, ha, n1, n2, q⟩ := h
    obtain ⟨a, xa, rfl, ha, za⟩ := ha.lst_inv
    have xal : xa.length = rows.length := by rw [za.len, List.length_map]
    refine ⟨_, pss_cons (ps_set (i := 1) scParts.nd rfl (.inl rfl) (pe_lst pa_nil))
      (pss_cons (ps_for PassesOwn.never rfl (pi_list (pv 0)) (pg_name (i := 2) scParts.nd rfl (.inl rfl))
        (pss_one (ps_if (pt_truth (pv 2) (by intro _; rfl)) (pss_one (ps_set (i := 1) scParts.nd rfl (.inl rfl) (pe_call GJ hr (by rfl) gJ FJ.kp bJ .nil pass0 (pa_cons (pv 1) (pa_cons (pv 2) pa_nil))))) pss_nil)))
      (pss_one (ps_ret (pv 1)))), ?_⟩
    refine ⟨Nat.zero_le _, fun o no => ?_⟩
    refine ⟨.ref a, rfl, a, rfl, ⟨_, SqL.of (new_same no _ _ ha)⟩, ?_⟩
    refine for_list (K := K) (a := a) (xs := xa) (fun i σ H3 => ∃ v y2, σ = [some (.ref a), some v, y2] ∧ Same H H3 ∧ Dt H3 v (.list (((rows.take i).foldl K57.partsStep []).map endsD)))
      ⟨.ref o, none, rfl, new_same no, .lst upd_same .nil⟩ (fun i σ H3 _ ⟨_, _, _, sm, _⟩ => SqL.of (sm _ _ ha)) ?_ ?_
    · rintro i x σ H3 hx ⟨v, y2, rfl, sm, hv⟩
      obtain ⟨d, hd1, hd2⟩ := za.get2 hx
      obtain ⟨es, hp, rfl⟩ := at_map hd1
      have hes := Dt.same sm _ _ hd2
      obtain ⟨e, xe, rfl, he, ze⟩ := id hes.lst_inv
      have xel : xe.length = es.length := by rw [ze.len, List.length_map]
      have es2 : es.length ≤ 2 := n2 es (List.mem_of_getElem? hp)
      have pl := parts_len (rows.take i) [] fun x hx => n2 x (List.mem_of_mem_take hx)
      have tl : (rows.take i).length ≤ 12 := by rw [List.length_take]; omega
      have fo : (rows.take (i + 1)).foldl K57.partsStep [] = K57.partsStep ((rows.take i).foldl K57.partsStep []) es := by
        rw [take_one hp, List.foldl_append]
        rfl
      have ee : xe.isEmpty = es.isEmpty := by
        cases xe <;> cases es <;> first | rfl | (simp at xel)
      refine ⟨.ref e, rfl, !xe.isEmpty, .inl ⟨xe, SqL.of he, rfl⟩, ite2 (fun z => ?_) (fun z => ?_)⟩
      · have z0 : es.isEmpty = false := by
          rw [← ee]
          simpa using z
        simp only [List.length_nil, List.flatten_nil] at pl
        refine ⟨v, rfl, .ref e, rfl, v, .ref e, _, es, rfl, hv, hes, by omega, by omega, es2, fun H4 p s4 _ hp4 => ?_⟩
        refine ⟨.ref p, some (.ref e), rfl, sm.trans s4, ?_⟩
        rw [fo, K57.partsStep, if_neg (by rw [z0]; decide)]
        exact hp4
      · have z0 : es.isEmpty = true := by
          rw [← ee]
          simpa using z
        refine ⟨v, some (.ref e), rfl, sm, ?_⟩
        rw [fo, K57.partsStep, if_pos z0]
        exact hv
    · rintro σ H3 ⟨v, y2, rfl, sm, hv⟩
      refine ⟨v, rfl, q H3 v sm ?_⟩
      rw [xal, List.take_of_length_le (Nat.le_refl _)] at hv
      exact hv
/-! ### passing_in -/
theorem scPassIn : FnScope ["part", "links", "whole", "half", "ends"] ["part", "links"] (defScope sPassIn) := ⟨rfl, rfl, rfl, by decide +kernel, rfl, by decide +kernel, by decide +kernel⟩
def spPassIn : Sp := fun vs H Q _ => ∃ (a b : V) (p : List K57.End) (rows : List (List K57.End)), vs = [a, b] ∧ Dt H a (endsD p) ∧ Dt H b (.list (rows.map endsD)) ∧ (∀ es ∈ rows, es.length ≤ 2) ∧ Q (.int (K57.worth p.length (K57.wh p rows) (K57.hf p rows) 0 : Nat)) H
theorem vi (a b : Int) : decide (V.int a = V.int b) = decide (a = b) := decide_eq_decide.mpr ⟨fun h => V.int.inj h, fun h => congrArg V.int h⟩
theorem ok_passIn {f : Addr} {fd : FuncData} (F : Fun K "passing_in" "passing_in" sPassIn f fd) (T : Glob mg) : FnOk P w K mg base CX0 1 f fd ["part", "links"] spPassIn := by
  refine F.ok scPassIn (fun vs H Q E h => ?_) (fun cdv A outer s H vs Q E hr h => ?_)
  · obtain ⟨_, _, _, _, rfl, _⟩ := h
    rfl
  · obtain ⟨a, b, p, rows, rfl, ha, hb, n1, q⟩ := h
    obtain ⟨a, xa, rfl, ha1, za⟩ := id ha.lst_inv
    obtain ⟨b, xb, rfl, hb1, zb⟩ := id hb.lst_inv
    have xal : xa.length = p.length := by rw [za.len, List.length_map]
    have xbl : xb.length = rows.length := by rw [zb.len, List.length_map]
    have hu := fun (X : Cx) (hX : X.A = A.deeper (envOfC "passing_in" (defScope sPassIn) s.heap.objs.size f cdv)) => (by rw [hX]; have := hr.un; omega : X.A.units + 65 < cLine)
    refine ⟨_, pss_cons (ps_set (i := 2) scPassIn.nd rfl (.inl rfl) pe_int)
      (pss_cons (ps_set (i := 3) scPassIn.nd rfl (.inl rfl) pe_int)
      (pss_cons (ps_for PassesOwn.never rfl (pi_list (pv 1)) (pg_name (i := 4) scPassIn.nd rfl (.inl rfl))
        (pss_one (ps_if (PW.pt (pw_and (pt_truth (pv 4) (by intro _; rfl)) (pw_and1 (pt_cmpR (op_inD (hu _ rfl)) (pe_ix ix_list (pv 4) pe_int (fun _ _ => rfl)) (pv 0) (by rfl)))))
          (pss_cons (ps_aug (i := 2) scPassIn.nd rfl (.inl rfl) (pe_op op_fdiv (pe_callB call_len_seq (by rfl) T.len PySem.boot_len (pa_cons (pv 4) pa_nil)) pe_int) ip_add)
            (pss_one (ps_aug (i := 3) scPassIn.nd rfl (.inl rfl) (pe_op op_sub pe_int (pe_callB call_len_seq (by rfl) T.len PySem.boot_len (pa_cons (pv 4) pa_nil))) ip_add))) pss_nil)))
      (C8.pss_cut (ps_if (PW.pt (pw_and (pt_cmpR op_eq (pv 3) pe_int (nomark _)) (pw_and1 (pt_cmpR op_eq (pv 2) (pe_op op_sub (pe_callB call_len_seq (by rfl) T.len PySem.boot_len (pa_cons (pv 0) pa_nil)) pe_int) (nomark _)))))
          (pss_one (ps_ret (pe_callB call_len_seq (by rfl) T.len PySem.boot_len (pa_cons (pv 0) pa_nil)))) pss_nil)
      (C8.pss_cut (ps_if (PW.pt (pw_and (pt_cmpR op_eq (pv 3) pe_int (nomark _)) (pw_and1 (pt_cmpR op_eq (pv 2) (pe_callB call_len_seq (by rfl) T.len PySem.boot_len (pa_cons (pv 0) pa_nil)) (nomark _)))))
          (pss_one (ps_ret pe_int)) pss_nil)
      (C8.pss_cut (ps_if (PW.pt (pw_and (pt_cmpR op_eq (pv 3) pe_int (nomark _)) (pw_and1 (pt_cmpR op_eq (pv 2) (pe_op op_sub (pe_callB call_len_seq (by rfl) T.len PySem.boot_len (pa_cons (pv 0) pa_nil)) pe_int) (nomark _)))))
          (pss_one (ps_ret pe_int)) pss_nil)
      (pss_one (ps_ret pe_int))))))), ?_⟩
    refine ⟨.ref b, rfl, b, rfl, ⟨_, SqL.of hb1⟩, ?_⟩
    refine for_list (K := K) (a := b) (xs := xb) (fun i σ H3 => ∃ y4, σ = [some (.ref a), some (.ref b), some (.int (K57.wh p (rows.take i) : Nat)), some (.int (K57.hf p (rows.take i) : Nat)), y4] ∧ H3 = H)
      ⟨none, rfl, rfl⟩ (fun i σ H3 _ ⟨_, _, e⟩ => by rw [e]; exact SqL.of hb1) ?_ ?_
    · rintro i x σ H3 hx ⟨y4, rfl, rfl⟩
      obtain ⟨d, hd1, hd2⟩ := zb.get2 hx
      obtain ⟨es, hp, rfl⟩ := at_map hd1
      obtain ⟨e, xe, rfl, he, ze⟩ := id hd2.lst_inv
      have xel : xe.length = es.length := by rw [ze.len, List.length_map]
      have es2 : es.length ≤ 2 := n1 es (List.mem_of_getElem? hp)
      have hw := K57.wh_snoc p (rows.take i) es
      have hh := K57.hf_snoc p (rows.take i) es
      rw [← take_one hp] at hw hh
      cases es with
      | nil =>
        have xe0 : xe = [] := List.eq_nil_of_length_eq_zero xel
        subst xe0
        refine ⟨.ref e, rfl, false, .inl ⟨[], SqL.of he, rfl⟩, iteF (iteF ⟨some (.ref e), ?_, rfl⟩)⟩
        rw [hw, hh]
        rfl
      | cons u es =>
        cases xe with
        | nil => cases xel
        | cons x0 xe =>
          have hx0 : Dt H3 x0 (endD u) := by
            cases ze with
            | cons h1 _ => exact h1
          refine ⟨.ref e, rfl, true, .inl ⟨x0 :: xe, SqL.of he, rfl⟩, iteT ?_⟩
          refine ⟨.ref e, rfl, e, _, _, x0, rfl, rfl, SqL.of he, atI_nat (j := 0) rfl, .ref a, rfl, endD u, p.map endD, Dt.dp _ _ hx0, Dt.dp _ _ ha, shaped_end u, shaped_ends p, _, rfl, ?_⟩
          rw [any_end]
          refine ite2 (fun z => ?_) (fun z => ?_)
          · have hd : K57.heads (u :: es) p = true := z
            rw [if_pos hd] at hw hh
            refine ⟨_, rfl, .ref e, rfl, e, _, rfl, .inl (SqL.of he), _, _, rfl, rfl, ⟨by decide, by decide⟩, _, _, rfl, rfl, ?_⟩
            refine ⟨_, rfl, .ref e, rfl, e, _, rfl, .inl (SqL.of he), _, _, rfl, rfl, _, _, rfl, rfl, some (.ref e), ?_, rfl⟩
            have e1 : ((K57.wh p (rows.take i) : Nat) : Int) + ((x0 :: xe).length : Nat) / 2 = ((K57.wh p (rows.take (i + 1)) : Nat) : Int) := by
              rw [hw, xel]
              omega
            have e2 : ((K57.hf p (rows.take i) : Nat) : Int) + (2 - ((x0 :: xe).length : Nat)) = ((K57.hf p (rows.take (i + 1)) : Nat) : Int) := by
              rw [hh, xel]
              omega
            rw [← e1, ← e2]
            rfl
          · have hd : ¬ K57.heads (u :: es) p = true := z
            rw [if_neg hd] at hw hh
            refine ⟨some (.ref e), ?_, rfl⟩
            rw [hw, hh]
            rfl
    · rintro σ H3 ⟨y4, rfl, rfl⟩
      rw [xbl, List.take_of_length_le (Nat.le_refl _)]
      rw [K57.worth_0] at q
      generalize K57.wh p rows = cw at q ⊢
      generalize K57.hf p rows = ch at q ⊢
      have lenq : ∀ {Qq : VK}, Qq (.int (p.length : Nat)) H3 → Qq (.int (xa.length : Nat)) H3 := fun h => by rw [xal]; exact h
      -- half == 0 and whole == len(part) - 1
      refine ⟨fun σ' H' => σ' = [some (.ref a), some (.ref b), some (.int (cw : Nat)), some (.int (ch : Nat)), y4] ∧ H' = H3 ∧ ¬ (ch = 0 ∧ cw + 1 = p.length), ?_, ?_⟩
      · refine ⟨_, rfl, rfl, _, rfl, ite2 (fun z => ?_) (fun z => iteF ⟨rfl, rfl, fun c => ?_⟩)⟩
        · refine ⟨_, rfl, .ref a, rfl, a, xa, rfl, .inl (SqL.of ha1), _, _, rfl, rfl, rfl, _, rfl, ite2 (fun y => ?_) (fun y => ⟨rfl, rfl, fun c => ?_⟩)⟩
          · rw [vi] at z y
            have z1 := of_decide_eq_true z
            have y1 := of_decide_eq_true y
            rw [xal] at y1
            refine ⟨.ref a, rfl, a, xa, rfl, .inl (SqL.of ha1), ?_⟩
            rw [if_pos (by omega)] at q
            rw [xal]
            exact q
          · rw [vi, xal] at y
            refine y (decide_eq_true ?_)
            omega
        · rw [vi] at z
          exact z (decide_eq_true (by omega))
      · rintro σ' H' ⟨rfl, rfl, c1⟩
        rw [if_neg c1] at q
        refine ⟨fun σ' H'' => σ' = [some (.ref a), some (.ref b), some (.int (cw : Nat)), some (.int (ch : Nat)), y4] ∧ H'' = H' ∧ ¬ (ch = 0 ∧ cw = p.length), ?_, ?_⟩
        · refine ⟨_, rfl, rfl, _, rfl, ite2 (fun z => ?_) (fun z => iteF ⟨rfl, rfl, fun c => ?_⟩)⟩
          · refine ⟨_, rfl, .ref a, rfl, a, xa, rfl, .inl (SqL.of ha1), rfl, _, rfl, ite2 (fun y => ?_) (fun y => ⟨rfl, rfl, fun c => ?_⟩)⟩
            · rw [vi] at z y
              have z1 := of_decide_eq_true z
              have y1 := of_decide_eq_true y
              rw [xal] at y1
              rw [if_pos (by omega)] at q
              exact q
            · rw [vi, xal] at y
              refine y (decide_eq_true ?_)
              omega
          · rw [vi] at z
            exact z (decide_eq_true (by omega))
        · rintro σ' H'' ⟨rfl, rfl, c2⟩
          rw [if_neg c2] at q
          refine ⟨fun σ' H''' => σ' = [some (.ref a), some (.ref b), some (.int (cw : Nat)), some (.int (ch : Nat)), y4] ∧ H''' = H'' ∧ ¬ (ch = 1 ∧ cw + 1 = p.length), ?_, ?_⟩
          · refine ⟨_, rfl, rfl, _, rfl, ite2 (fun z => ?_) (fun z => iteF ⟨rfl, rfl, fun c => ?_⟩)⟩
            · refine ⟨_, rfl, .ref a, rfl, a, xa, rfl, .inl (SqL.of ha1), _, _, rfl, rfl, rfl, _, rfl, ite2 (fun y => ?_) (fun y => ⟨rfl, rfl, fun c => ?_⟩)⟩
              · rw [vi] at z y
                have z1 := of_decide_eq_true z
                have y1 := of_decide_eq_true y
                rw [xal] at y1
                rw [if_pos (by omega)] at q
                exact q
              · rw [vi, xal] at y
                refine y (decide_eq_true ?_)
                omega
            · rw [vi] at z
              exact z (decide_eq_true (by omega))
          · rintro σ' H''' ⟨rfl, rfl, c3⟩
            rw [if_neg c3] at q
            exact q
end
end K57W

namespace K57W
open PySem PySem.Spec PyProof.Rows L2 K57S K57D
section
variable {P : Program} {w : World} {K : PySem.W.Frag} {mg : Str → Option Value} {base : Heap}
/-! ### passing -/
theorem worth_le (e w h : Nat) : K57.worth e w h 0 ≤ e + 2 := by
  rw [K57.worth_0]
  repeat' split
  all_goals omega
theorem prodN_snoc (l : List Nat) (x : Nat) : K57.prodN (l ++ [x]) = K57.prodN l * x := by
  rw [K57.prodN_append]
  show _ * (x * 1) = _
  rw [Nat.mul_one]
theorem endsOf_len (r : K57.Row) : (K57.endsOf r).length ≤ 2 := by
  obtain ⟨l, r⟩ := r
  cases l <;> cases r <;> simp [K57.endsOf, K57.endsL, K57.endsR]
theorem rowsE_two (ls rs : List (Option Int)) : ∀ es ∈ rowsE ls rs, es.length ≤ 2 := fun es h => by
  obtain ⟨r, _, rfl⟩ := List.mem_map.mp h
  exact endsOf_len r
theorem len_flat {Ps : List (List K57.End)} {p : List K57.End} (h : p ∈ Ps) : p.length ≤ Ps.flatten.length := by
  induction Ps with
  | nil => cases h
  | cons x Ps ih =>
    rw [List.flatten_cons, List.length_append]
    rcases List.mem_cons.mp h with rfl | h
    · omega
    · have := ih h
      omega
theorem scPassing : FnScope ["left", "right", "links", "count", "ends", "part"] ["left", "right"] (defScope sPassing) := ⟨rfl, rfl, rfl, by decide +kernel, rfl, by decide +kernel, by decide +kernel⟩
def spPassing : Sp := fun vs H Q _ => ∃ (a b : V) (ls rs : List (Option Int)), vs = [a, b] ∧ Dt H a (.list (ls.map optD)) ∧ Dt H b (.list (rs.map optD)) ∧ rs.length = ls.length ∧ ls.length ≤ 12 ∧ ∀ H', Same H H' → Q (.int (K57.passN (rowsE ls rs) : Nat)) H'
theorem ok_passing {f fL fP fJ fI : Addr} {fd fdL fdP fdJ fdI : FuncData} (F : Fun K "passing" "passing" sPassing f fd) (T : Glob mg)
    (FL : Fun K "links_of" "links_of" sLinks fL fdL) (bL : Binds K fdL ["left", "right"] []) (gL : mg "links_of" = some (.ref fL))
    (FJ : Fun K "joined_parts" "joined_parts" sJoined fJ fdJ) (bJ : Binds K fdJ ["parts", "ends"] []) (gJ : mg "joined_parts" = some (.ref fJ))
    (FP : Fun K "parts_of" "parts_of" sParts fP fdP) (bP : Binds K fdP ["links"] []) (gP : mg "parts_of" = some (.ref fP))
    (FI : Fun K "passing_in" "passing_in" sPassIn fI fdI) (bI : Binds K fdI ["part", "links"] []) (gI : mg "passing_in" = some (.ref fI)) : FnOk P w K mg base CX0 3 f fd ["left", "right"] spPassing := by
  have GL : FnOk P w K mg base CX0 1 fL fdL ["left", "right"] spLinks := ok_links FL T
  have GP : FnOk P w K mg base CX0 2 fP fdP ["links"] spParts := ok_parts FP T FJ bJ gJ
  have GI : FnOk P w K mg base CX0 1 fI fdI ["part", "links"] spPassIn := ok_passIn FI T
  refine F.ok scPassing (fun vs H Q E h => ?_) (fun cdv A outer s H vs Q E hr h => ?_)
  · obtain ⟨_, _, _, _, rfl, _⟩ := h
    rfl
  · obtain ⟨a, b, ls, rs, rfl, ha, hb, n1, n2, q⟩ := h
    refine ⟨_, pss_cons (ps_set (i := 2) scPassing.nd rfl (.inl rfl) (pe_call GL (hr.mono (by decide)) (by rfl) gL FL.kp bL .nil pass0 (pa_cons (pv 0) (pa_cons (pv 1) pa_nil))))
      (pss_cons (ps_set (i := 3) scPassing.nd rfl (.inl rfl) pe_int)
      (pss_cons (ps_for PassesOwn.never rfl (pi_list (pv 2)) (pg_name (i := 4) scPassing.nd rfl (.inl rfl))
        (pss_one (ps_if (pt_not (pt_truth (pv 4) (by intro _; rfl))) (pss_one (ps_set (i := 3) scPassing.nd rfl (.inl rfl) pe_int)) pss_nil)))
      (pss_cons (ps_for PassesOwn.never rfl (pi_list (pe_call GP hr (by rfl) gP FP.kp bP .nil pass0 (pa_cons (pv 2) pa_nil))) (pg_name (i := 5) scPassing.nd rfl (.inl rfl))
        (pss_one (ps_set (i := 3) scPassing.nd rfl (.inl rfl) (pe_op op_mul (pv 3) (pe_call GI (hr.mono (by decide)) (by rfl) gI FI.kp bI .nil pass0 (pa_cons (pv 5) (pa_cons (pv 2) pa_nil)))))))
      (pss_one (ps_ret (pv 3)))))), ?_⟩
    refine ⟨a, rfl, b, rfl, a, b, ls, rs, rfl, ha, hb, n1, n2, fun H1 l sm1 nl hl => ?_⟩
    have rl := rowsE_len n1
    have r2 := rowsE_two ls rs
    generalize hrw : rowsE ls rs = rows at hl q rl r2
    obtain ⟨_, xl, el, hl1, zl⟩ := id hl.lst_inv
    cases el
    have xll : xl.length = rows.length := by rw [zl.len, List.length_map]
    refine ⟨.ref l, rfl, l, rfl, ⟨_, SqL.of hl1⟩, ?_⟩
    refine for_list (K := K) (a := l) (xs := xl) (fun i σ H3 => ∃ y4, σ = [some a, some b, some (.ref l), some (.int ((if (rows.take i).any (·.isEmpty) = true then 0 else 1 : Nat) : Int)), y4, none] ∧ H3 = H1)
      ⟨none, rfl, rfl⟩ (fun i σ H3 _ ⟨_, _, e⟩ => by rw [e]; exact SqL.of hl1) ?_ ?_
    · rintro i x σ H3 hx ⟨y4, rfl, rfl⟩
      obtain ⟨d, hd1, hd2⟩ := zl.get2 hx
      obtain ⟨es, hp, rfl⟩ := at_map hd1
      obtain ⟨e, xe, rfl, he, ze⟩ := hd2.lst_inv
      have xel : xe.length = es.length := by rw [ze.len, List.length_map]
      have ee : xe.isEmpty = es.isEmpty := by
        cases xe <;> cases es <;> first | rfl | (simp at xel)
      have an : (rows.take (i + 1)).any (·.isEmpty) = ((rows.take i).any (·.isEmpty) || es.isEmpty) := by
        rw [take_one hp, List.any_append, List.any_cons, List.any_nil, Bool.or_false]
      refine ⟨.ref e, rfl, !xe.isEmpty, .inl ⟨xe, SqL.of he, rfl⟩, ?_⟩
      show (if (!(!xe.isEmpty)) = true then _ else _)
      rw [Bool.not_not, ee]
      refine ite2 (fun z => ?_) (fun z => ?_)
      · refine ⟨some (.ref e), ?_, rfl⟩
        rw [an, z, Bool.or_true]
        rfl
      · refine ⟨some (.ref e), ?_, rfl⟩
        have z0 : es.isEmpty = false := by
          cases zz : es.isEmpty with
          | true => exact absurd zz z
          | false => rfl
        rw [an, z0, Bool.or_false]
        rfl
    · rintro σ H3 ⟨y4, rfl, rfl⟩
      rw [xll, List.take_of_length_le (Nat.le_refl _)]
      refine ⟨.ref l, rfl, .ref l, rows, rfl, hl, by omega, r2, fun H4 v s4 hv => ?_⟩
      obtain ⟨c, xc, rfl, hc, zc⟩ := hv.lst_inv
      have xcl : xc.length = (K57.partsOf rows).length := by rw [zc.len, List.length_map]
      have pl := (parts_len rows [] r2).2
      refine ⟨c, rfl, ⟨_, SqL.of hc⟩, ?_⟩
      refine for_list (K := K) (a := c) (xs := xc) (fun i σ H5 => ∃ y5, σ = [some a, some b, some (.ref l), some (.int ((if rows.any (·.isEmpty) = true then 0 else 1 : Nat) * K57.prodN (((K57.partsOf rows).take i).map fun p => K57.worth p.length (K57.wh p rows) (K57.hf p rows) 0) : Nat)), y4, y5] ∧ H5 = H4)
        ⟨none, ?_, rfl⟩ (fun i σ H5 _ ⟨_, _, e⟩ => by rw [e]; exact SqL.of hc) ?_ ?_
      · show _ = [some a, some b, some (.ref l), some (.int ((_ * 1 : Nat) : Int)), y4, none]
        rw [Nat.mul_one]
      · rintro i x σ H5 hx ⟨y5, rfl, rfl⟩
        obtain ⟨d, hd1, hd2⟩ := zc.get2 hx
        obtain ⟨p, hp, rfl⟩ := at_map hd1
        have pn : p.length ≤ 24 := by
          have h1 := len_flat (List.mem_of_getElem? hp)
          simp only [List.flatten_nil, List.length_nil] at pl
          unfold K57.partsOf at h1
          omega
        have wl := worth_le p.length (K57.wh p rows) (K57.hf p rows)
        refine ⟨_, rfl, x, rfl, .ref l, rfl, x, .ref l, p, rows, rfl, hd2, Dt.same s4 _ _ hl, r2, ?_⟩
        refine ⟨_, _, rfl, rfl, .inr ⟨by omega, by omega⟩, some x, ?_, rfl⟩
        rw [take_one hp, List.map_append, List.map_singleton, prodN_snoc, ← Nat.mul_assoc]
        rfl
      · rintro σ H5 ⟨y5, rfl, rfl⟩
        rw [xcl, List.take_of_length_le (Nat.le_refl _)]
        exact ⟨_, rfl, q _ (sm1.trans s4)⟩
end
end K57W

namespace K57W
open PySem PySem.Spec PyProof.Rows L2 K57S K57D
section
variable {P : Program} {w : World} {K : PySem.W.Frag} {mg : Str → Option Value} {base : Heap}
/-! ### the law's own helpers -/
theorem scCell : FnScope ["_law_script", "_law_k"] ["_law_script", "_law_k"] (defScope sCell) := ⟨rfl, rfl, rfl, by decide +kernel, rfl, by decide +kernel, by decide +kernel⟩
def spCell (K : PySem.W.Frag) : Sp := fun vs H Q _ => ∃ (a : Addr) (ns : List Int) (k : Nat), vs = [.ref a, .int (k : Nat)] ∧ SqL K H a (ns.map V.int) ∧ ∀ z : Int, Q (.int z) H
theorem ok_cell {f : Addr} {fd : FuncData} (F : Fun K "_law_cell" "_law_cell" sCell f fd) (T : Glob mg) : FnOk P w K mg base CX0 1 f fd ["_law_script", "_law_k"] (spCell K) := by
  refine F.ok scCell (fun vs H Q E h => ?_) (fun cdv A outer s H vs Q E hr h => ?_)
  · obtain ⟨_, _, _, rfl, _⟩ := h
    rfl
  · obtain ⟨a, ns, k, rfl, hS, q⟩ := h
    refine ⟨_, pss_cons (ps_if (pt_cmpR op_lt (pv 1) (pe_callB call_len_seq (by rfl) T.len PySem.boot_len (pa_cons (pv 0) pa_nil)) (nomark _)) (pss_one (ps_ret (pe_ix ix_list (pv 0) (pv 1) (fun _ _ => rfl)))) pss_nil)
      (pss_one (ps_ret pe_int)), ?_⟩
    refine ⟨_, rfl, .ref a, rfl, a, _, rfl, .inl hS, _, _, rfl, rfl, _, rfl, ite2 (fun z => ?_) (fun z => q 0)⟩
    have hk : k < ns.length := by
      have h1 := of_decide_eq_true z
      rw [List.length_map] at h1
      omega
    exact ⟨.ref a, rfl, .int (k : Nat), rfl, a, _, _, _, rfl, rfl, hS, atI_nat (map_at (List.getElem?_eq_getElem hk)), q _⟩
theorem scRow : FnScope ["_law_cell_here", "_law_k", "_law_many", "_law_row_here", "_law_turn", "_law_seed"] ["_law_cell_here", "_law_k", "_law_many"] (defScope sRow) := ⟨rfl, rfl, rfl, by decide +kernel, rfl, by decide +kernel, by decide +kernel⟩
def spRow : Sp := fun vs H Q _ => ∃ (c k : Int) (n : Nat), vs = [.int c, .int k, .int (n : Nat)] ∧ n ≤ 12 ∧ ∀ H' p (xs : List Int), Same H H' → H p = none → H' p = some (.lst (xs.map V.int)) → xs.length ≤ n → Q (.ref p) H'
theorem ok_row {f : Addr} {fd : FuncData} (F : Fun K "_law_row" "_law_row" sRow f fd) (T : Glob mg) : FnOk P w K mg base CX0 1 f fd ["_law_cell_here", "_law_k", "_law_many"] spRow := by
  refine F.ok scRow (fun vs H Q E h => ?_) (fun cdv A outer s H vs Q E hr h => ?_)
  · obtain ⟨_, _, _, rfl, _⟩ := h
    rfl
  · obtain ⟨c, k, n, rfl, hn, q⟩ := h
    refine ⟨_, pss_cons (ps_set (i := 3) scRow.nd rfl (.inl rfl) (pe_lst pa_nil))
      (C8.pss_cut (ps_if (pt_cmpR op_lt (pv 0) pe_int (nomark _)) (pss_one (ps_set (i := 0) scRow.nd rfl (.inl rfl) (pe_op op_sub pe_int (pe_op op_mul pe_int (pv 0))))) pss_nil)
      (pss_cons (ps_if (pt_cmpR op_ge (pv 0) (pe_op op_pow pe_int pe_int) (nomark _))
          (pss_cons (ps_for PassesOwn.never rfl (pi_range1 (by rfl) T.range (pa_cons pe_int pa_nil)) (pg_name (i := 4) scRow.nd rfl (.inl rfl))
            (pss_one (ps_if (PW.pt (pw_and (pt_cmpR op_gt (pv 0) pe_int (nomark _)) (pw_and1 (pt_cmpR op_lt (pe_callB call_len_seq (by rfl) T.len PySem.boot_len (pa_cons (pv 3) pa_nil)) (pv 2) (nomark _)))))
              (pss_cons (ps_expr (pe_bm PySem.F.plainAttrs_list PySem.F.slot_list_append PySem.F.type_list_append mt_append (pv 3)
                  (pa_cons (pe_op op_mod (pe_callTy call_int1 (by rfl) T.int (by decide +kernel) (pa_cons (pv 0) pa_nil)) pe_int) pa_nil)))
                (pss_one (ps_set (i := 0) scRow.nd rfl (.inl rfl) (pe_op op_fdiv (pv 0) pe_int)))) pss_nil)))
            (pss_one (ps_ret (pv 3)))) pss_nil)
      (pss_cons (ps_set (i := 5) scRow.nd rfl (.inl rfl) (pe_op op_mod (pe_callTy call_int1 (by rfl) T.int (by decide +kernel) (pa_cons (pe_op op_add (pe_op op_add (pe_op op_mul (pv 0) pe_int) (pe_op op_mul (pv 1) pe_int)) pe_int) pa_nil)) pe_int))
      (pss_cons (ps_for PassesOwn.never rfl (pi_range1 (by rfl) T.range (pa_cons (pv 2) pa_nil)) (pg_name (i := 4) scRow.nd rfl (.inl rfl))
        (pss_cons (ps_set (i := 5) scRow.nd rfl (.inl rfl) (pe_op op_mod (pe_callTy call_int1 (by rfl) T.int (by decide +kernel) (pa_cons (pe_op op_add (pe_op op_add (pe_op op_mul (pv 5) pe_int) (pe_op op_mul pe_int (pv 4))) pe_int) pa_nil)) pe_int))
        (pss_one (ps_expr (pe_bm PySem.F.plainAttrs_list PySem.F.slot_list_append PySem.F.type_list_append mt_append (pv 3)
            (pa_cons (pe_op op_mod (pe_callTy call_int1 (by rfl) T.int (by decide +kernel) (pa_cons (pe_op op_fdiv (pv 5) pe_int) pa_nil)) pe_int) pa_nil))))))
      (pss_one (ps_ret (pv 3))))))), ?_⟩
    refine ⟨Nat.zero_le _, fun o no => ?_⟩
    have s0 : Same H (upd H o (.lst [])) := new_same no
    generalize hH0 : upd H o (.lst []) = H0 at s0
    have ho : H0 o = some (.lst []) := by rw [← hH0]; exact upd_same
    refine ⟨fun σ' H' => ∃ c2 : Int, σ' = [some (.int c2), some (.int k), some (.int (n : Nat)), some (.ref o), none, none] ∧ H' = H0, ?_, ?_⟩
    · refine ⟨_, rfl, _, _, rfl, rfl, _, rfl, ite2 (fun z => ?_) (fun z => ⟨c, rfl, rfl⟩)⟩
      exact ⟨_, rfl, _, _, rfl, rfl, .inl ⟨by decide, by decide⟩, _, _, rfl, rfl, _, rfl, rfl⟩
    · rintro σ' H' ⟨c2, rfl, rfl⟩
      refine ⟨_, rfl, _, _, rfl, rfl, ⟨by decide, by decide, by decide⟩, _, _, rfl, rfl, _, rfl, ite2 (fun z => ?_) (fun z => ?_)⟩
      · refine ⟨60, rfl, by decide, by decide, ?_⟩
        refine for_range (lo := 0) (n := 60) (fun i σ H3 => ∃ (c3 : Int) (y4 : Option V) (xs : List Int), σ = [some (.int c3), some (.int k), some (.int (n : Nat)), some (.ref o), y4, none] ∧ Same H H3 ∧ H3 o = some (.lst (xs.map V.int)) ∧ xs.length ≤ n)
          ⟨c2, none, [], rfl, s0, ho, Nat.zero_le _⟩ ?_ ?_
        · rintro i σ H3 hi ⟨c3, y4, xs, rfl, sm, ho3, xl⟩
          refine ⟨_, rfl, _, _, rfl, rfl, _, rfl, ite2 (fun z => ?_) (fun z => iteF ⟨c3, some (.int (0 + (i : Nat))), xs, rfl, sm, ho3, xl⟩)⟩
          refine ⟨.ref o, rfl, o, _, rfl, .inl (SqL.of ho3), _, rfl, _, _, rfl, rfl, _, rfl, ite2 (fun y => ?_) (fun y => ⟨c3, some (.int (0 + (i : Nat))), xs, rfl, sm, ho3, xl⟩)⟩
          have y1 := of_decide_eq_true y
          rw [List.length_map] at y1
          refine ⟨.ref o, rfl, .inl ⟨rfl, _, SqL.of ho3⟩, .int c3, rfl, .inl ⟨_, rfl, _, _, rfl, rfl, (show (0 : Int) < 1000 by decide), ?_⟩⟩
          refine ⟨o, _, _, rfl, rfl, ho3, small_line (by rw [List.length_map]; omega), ?_⟩
          refine ⟨_, rfl, _, _, rfl, rfl, ⟨by decide, by decide⟩, _, some (.int (0 + (i : Nat))), xs ++ [c3 % 1000], rfl, put_same sm no, ?_, ?_⟩
          · rw [upd_same, List.map_append]
            rfl
          · rw [List.length_append, List.length_singleton]
            omega
        · rintro σ H3 ⟨c3, y4, xs, rfl, sm, ho3, xl⟩
          exact ⟨.ref o, rfl, q H3 o xs sm no ho3 xl⟩
      · refine ⟨_, rfl, _, _, rfl, rfl, .inr ⟨by decide, by decide⟩, _, rfl, _, _, rfl, rfl, .inr ⟨by decide, by decide⟩, _, _, rfl, rfl, _, _, rfl, rfl, .inl ⟨_, rfl, _, _, rfl, rfl, (show (0 : Int) < 2147483647 by decide), ?_⟩⟩
        refine ⟨_, rfl, (n : Nat), rfl, by omega, by omega, ?_⟩
        refine for_range (lo := 0) (n := n) (fun i σ H3 => ∃ (c5 : Int) (y4 : Option V) (xs : List Int), σ = [some (.int c2), some (.int k), some (.int (n : Nat)), some (.ref o), y4, some (.int c5)] ∧ Same H H3 ∧ H3 o = some (.lst (xs.map V.int)) ∧ xs.length = i)
          ⟨_, none, [], rfl, s0, ho, rfl⟩ ?_ ?_
        · rintro i σ H3 hi ⟨c5, y4, xs, rfl, sm, ho3, xl⟩
          refine ⟨_, rfl, _, _, rfl, rfl, .inr ⟨by decide, by decide⟩, _, rfl, _, _, rfl, rfl, .inl ⟨by decide, by decide⟩, _, _, rfl, rfl, _, _, rfl, rfl, .inl ⟨_, rfl, _, _, rfl, rfl, (show (0 : Int) < 2147483647 by decide), ?_⟩⟩
          refine ⟨.ref o, rfl, .inl ⟨rfl, _, SqL.of ho3⟩, _, rfl, _, _, rfl, rfl, ⟨by decide, by decide⟩, .inl ⟨_, rfl, _, _, rfl, rfl, (show (0 : Int) < 1000 by decide), ?_⟩⟩
          refine ⟨o, _, _, rfl, rfl, ho3, small_line (by rw [List.length_map]; omega), ?_⟩
          refine ⟨_, some (.int (0 + (i : Nat))), xs ++ [(c5 * 16807 + 7 * (0 + ((i : Nat) : Int)) + 1) % 2147483647 / 997 % 1000], rfl, put_same sm no, ?_, ?_⟩
          · rw [upd_same, List.map_append]
            rfl
          · rw [List.length_append, List.length_singleton, xl]
        · rintro σ H3 ⟨c5, y4, xs, rfl, sm, ho3, xl⟩
          exact ⟨.ref o, rfl, q H3 o xs sm no ho3 (by omega)⟩
theorem scBox : FnScope ["_law_script", "_law_first", "_law_last", "_law_row_here", "_law_k"] ["_law_script", "_law_first", "_law_last"] (defScope sBox) := ⟨rfl, rfl, rfl, by decide +kernel, rfl, by decide +kernel, by decide +kernel⟩
/-- a box at b: its list at l, the next place t -/
structure BoxAt (H : Hp) (b l : Addr) (xs : List Int) (t : Nat) : Prop where
  box : H b = some (.lst [.ref l, .int (t : Nat)])
  row : H l = some (.lst (xs.map V.int))
  few : xs.length ≤ 48
def spBox (K : PySem.W.Frag) : Sp := fun vs H Q _ => ∃ (a : Addr) (ns : List Int), vs = [.ref a, .int 0, .int 4] ∧ SqL K H a (ns.map V.int) ∧ ∀ H' b l xs, Same H H' → H b = none → H l = none → BoxAt H' b l xs 0 → Q (.ref b) H'
theorem ok_box {f fC fR : Addr} {fd fdC fdR : FuncData} (F : Fun K "_law_box" "_law_box" sBox f fd) (T : Glob mg) (FC : Fun K "_law_cell" "_law_cell" sCell fC fdC) (bC : Binds K fdC ["_law_script", "_law_k"] []) (gC : mg "_law_cell" = some (.ref fC))
    (FR : Fun K "_law_row" "_law_row" sRow fR fdR) (bR : Binds K fdR ["_law_cell_here", "_law_k", "_law_many"] []) (gR : mg "_law_row" = some (.ref fR)) : FnOk P w K mg base CX0 2 f fd ["_law_script", "_law_first", "_law_last"] (spBox K) := by
  have GC : FnOk P w K mg base CX0 1 fC fdC ["_law_script", "_law_k"] (spCell K) := ok_cell FC T
  have GR : FnOk P w K mg base CX0 1 fR fdR ["_law_cell_here", "_law_k", "_law_many"] spRow := ok_row FR T
  refine F.ok scBox (fun vs H Q E h => ?_) (fun cdv A outer s H vs Q E hr h => ?_)
  · obtain ⟨_, _, rfl, _⟩ := h
    rfl
  · obtain ⟨a, ns, rfl, hS, q⟩ := h
    refine ⟨_, pss_cons (ps_set (i := 3) scBox.nd rfl (.inl rfl) (pe_lst pa_nil))
      (pss_cons (ps_for PassesOwn.never rfl (pi_range2 (by rfl) T.range (pa_cons (pv 1) (pa_cons (pv 2) pa_nil))) (pg_name (i := 4) scBox.nd rfl (.inl rfl))
        (pss_one (ps_set (i := 3) scBox.nd rfl (.inl rfl) (pe_op op_cat (pv 3) (pe_call GR hr (by rfl) gR FR.kp bR .nil pass0
          (pa_cons (pe_call GC hr (by rfl) gC FC.kp bC .nil pass0 (pa_cons (pv 0) (pa_cons (pv 4) pa_nil))) (pa_cons (pv 4) (pa_cons pe_int pa_nil))))))))
      (pss_one (ps_ret (pe_lst (pa_cons (pv 3) (pa_cons pe_int pa_nil)))))), ?_⟩
    refine ⟨Nat.zero_le _, fun o no => ?_⟩
    refine ⟨.int 0, rfl, .int 4, rfl, 0, 4, rfl, by decide, ?_⟩
    refine for_range (lo := 0) (n := 4) (fun i σ H3 => ∃ (y4 : Option V) (l : Addr) (xs : List Int), σ = [some (.ref a), some (.int 0), some (.int 4), some (.ref l), y4] ∧ Same H H3 ∧ H l = none ∧ H3 l = some (.lst (xs.map V.int)) ∧ xs.length ≤ 12 * i)
      ⟨none, o, [], rfl, new_same no, no, upd_same, Nat.le_refl _⟩ ?_ ?_
    · rintro i σ H3 hi ⟨y4, l, xs, rfl, sm, nl, hl, xl⟩
      have z0 : (0 : Int) + (i : Nat) = (i : Nat) := by omega
      refine ⟨.ref l, rfl, .ref a, rfl, .int (0 + (i : Nat)), rfl, a, ns, i, by rw [z0]; rfl, sm.seq hS, fun z => ?_⟩
      refine ⟨.int (0 + (i : Nat)), rfl, z, 0 + (i : Nat), 12, rfl, Nat.le_refl _, fun H4 p ys s4 np hp yl => ?_⟩
      refine ⟨l, p, xs.map V.int, ys.map V.int, rfl, rfl, s4 _ _ hl, hp, Nat.le_of_lt (small_line (by rw [List.length_map, List.length_map]; omega)), fun g ng => ?_⟩
      refine ⟨some (.int (0 + (i : Nat))), g, xs ++ ys, rfl, (sm.trans s4).trans (new_same ng), sm.free (s4.free ng), ?_, ?_⟩
      · rw [upd_same, List.map_append]
      · rw [List.length_append]
        omega
    · rintro σ H3 ⟨y4, l, xs, rfl, sm, nl, hl, xl⟩
      refine ⟨.ref l, rfl, (by show 2 ≤ sizeLine; decide), fun g ng => ?_⟩
      exact q _ g l xs (sm.trans (new_same ng)) (sm.free ng) nl ⟨upd_same, new_same ng _ _ hl, by omega⟩
theorem scDraw : FnScope ["_law_box_here", "_law_many", "_law_at"] ["_law_box_here", "_law_many"] (defScope sDraw) := ⟨rfl, rfl, rfl, by decide +kernel, rfl, by decide +kernel, by decide +kernel⟩
def spDraw : Sp := fun vs H Q _ => ∃ (b l : Addr) (xs : List Int) (t : Nat) (m : Int), vs = [.ref b, .int m] ∧ BoxAt H b l xs t ∧ 0 < m ∧ ∀ z : Int, 0 ≤ z → z < m → Q (.int z) (upd H b (.lst [.ref l, .int ((t + 1 : Nat) : Int)]))
theorem ok_draw {f : Addr} {fd : FuncData} (F : Fun K "_law_draw" "_law_draw" sDraw f fd) (T : Glob mg) : FnOk P w K mg base CX0 1 f fd ["_law_box_here", "_law_many"] spDraw := by
  refine F.ok scDraw (fun vs H Q E h => ?_) (fun cdv A outer s H vs Q E hr h => ?_)
  · obtain ⟨_, _, _, _, _, rfl, _⟩ := h
    rfl
  · obtain ⟨b, l, xs, t, m, rfl, B, hm, q⟩ := h
    have hb := B.box
    have hl := B.row
    have bl : l ≠ b := fun z => by
      rw [z, hb] at hl
      have e := HO.lst.inj (Option.some.inj hl)
      cases xs with
      | nil => cases e
      | cons x xs => cases e
    refine ⟨_, pss_cons (ps_set (i := 2) scDraw.nd rfl (.inl rfl) (pe_ix ix_list (pv 0) pe_int (fun _ _ => rfl)))
      (pss_cons (ps_asg (pe_op op_add (pv 2) pe_int) (pg_sub (pv 0) pe_int set_list))
      (pss_cons (ps_if (pt_cmpR op_lt (pv 2) (pe_callB call_len_seq (by rfl) T.len PySem.boot_len (pa_cons (pe_ix ix_list (pv 0) pe_int (fun _ _ => rfl)) pa_nil)) (nomark _))
          (pss_one (ps_ret (pe_op op_mod (pe_callTy call_int1 (by rfl) T.int (by decide +kernel) (pa_cons (pe_ix ix_list (pe_ix ix_list (pv 0) pe_int (fun _ _ => rfl)) (pv 2) (fun _ _ => rfl)) pa_nil)) (pv 1)))) pss_nil)
      (pss_one (ps_ret (pe_op op_mod (pe_callTy call_int1 (by rfl) T.int (by decide +kernel) (pa_cons (pe_op op_add (pe_op op_mul (pv 2) pe_int) pe_int) pa_nil)) (pv 1)))))), ?_⟩
    refine ⟨.ref b, rfl, b, _, _, .int (t : Nat), rfl, rfl, SqL.of hb, atI_nat (j := 1) rfl, ?_⟩
    refine ⟨_, rfl, _, _, rfl, rfl, .ref b, rfl, b, _, 1, 1, rfl, rfl, hb, rfl, ?_⟩
    have hb2 : (upd H b (.lst [.ref l, .int ((t + 1 : Nat) : Int)])) b = some (.lst [.ref l, .int ((t + 1 : Nat) : Int)]) := upd_same
    have hl2 : (upd H b (.lst [.ref l, .int ((t + 1 : Nat) : Int)])) l = some (.lst (xs.map V.int)) := by
      rw [upd_ne bl]
      exact hl
    refine ⟨_, rfl, .ref b, rfl, b, _, _, .ref l, rfl, rfl, SqL.of hb2, atI_nat (j := 0) rfl, l, _, rfl, .inl (SqL.of hl2), _, _, rfl, rfl, _, rfl, ite2 (fun z => ?_) (fun z => ?_)⟩
    · have hk : t < xs.length := by
        have h1 := of_decide_eq_true z
        rw [List.length_map] at h1
        omega
      refine ⟨.ref b, rfl, b, _, _, .ref l, rfl, rfl, SqL.of hb2, atI_nat (j := 0) rfl, .int (t : Nat), rfl, l, _, _, _, rfl, rfl, SqL.of hl2, atI_nat (map_at (List.getElem?_eq_getElem hk)), .inl ⟨_, rfl, .int m, rfl, _, _, rfl, rfl, hm, ?_⟩⟩
      exact q _ (Int.emod_nonneg _ (by omega)) (Int.emod_lt_of_pos _ hm)
    · refine ⟨_, rfl, _, _, rfl, rfl, .inr ⟨by decide, by decide⟩, _, _, rfl, rfl, .inl ⟨_, rfl, .int m, rfl, _, _, rfl, rfl, hm, ?_⟩⟩
      exact q _ (Int.emod_nonneg _ (by omega)) (Int.emod_lt_of_pos _ hm)
theorem scSame : FnScope ["_law_one", "_law_other"] ["_law_one", "_law_other"] (defScope sSame) := ⟨rfl, rfl, rfl, by decide +kernel, rfl, by decide +kernel, by decide +kernel⟩
def spSame : Sp := fun vs H Q _ => ∃ i : Int, vs = [.int i, .int i] ∧ i.natAbs.log2 < 1920 ∧ Q (.bl true) H
theorem ok_same {f : Addr} {fd : FuncData} (F : Fun K "_law_same" "_law_same" sSame f fd) (T : Glob mg) : FnOk P w K mg base CX0 1 f fd ["_law_one", "_law_other"] spSame := by
  refine F.ok scSame (fun vs H Q E h => ?_) (fun cdv A outer s H vs Q E hr h => ?_)
  · obtain ⟨_, rfl, _⟩ := h
    rfl
  · obtain ⟨i, rfl, hi, q⟩ := h
    refine ⟨_, pss_one (ps_ret (pe_cmpR op_eq (pe_callB SkE.call_repr_int (by rfl) T.repr (by decide +kernel) (pa_cons (pv 0) pa_nil)) (pe_callB SkE.call_repr_int (by rfl) T.repr (by decide +kernel) (pa_cons (pv 1) pa_nil)) (nomark _))), ?_⟩
    refine ⟨_, rfl, i, rfl, hi, _, rfl, i, rfl, hi, rfl, ?_⟩
    rw [decide_eq_true rfl]
    exact q
theorem scClaim : FnScope ["_law_box_here", "_law_many"] ["_law_box_here", "_law_many"] (defScope sClaim) := ⟨rfl, rfl, rfl, by decide +kernel, rfl, by decide +kernel, by decide +kernel⟩
def spClaim : Sp := fun vs H Q _ => ∃ (b l : Addr) (xs : List Int) (t : Nat) (m : Int), vs = [.ref b, .int m] ∧ BoxAt H b l xs t ∧ 0 < m ∧ ∀ (o : Option Int) (t' : Nat), Q (optV o) (upd H b (.lst [.ref l, .int (t' : Nat)]))
theorem BoxAt.next {H : Hp} {b l : Addr} {xs : List Int} {t : Nat} (B : BoxAt H b l xs t) (t' : Nat) : BoxAt (upd H b (.lst [.ref l, .int (t' : Nat)])) b l xs t' := by
  have hb := B.box
  have hl := B.row
  have bl : l ≠ b := fun z => by
    rw [z, hb] at hl
    have e := HO.lst.inj (Option.some.inj hl)
    cases xs with
    | nil => cases e
    | cons x xs => cases e
  refine ⟨upd_same, ?_, B.few⟩
  rw [upd_ne bl]
  exact hl
theorem ok_claim {f fD : Addr} {fd fdD : FuncData} (F : Fun K "_law_claim" "_law_claim" sClaim f fd) (T : Glob mg) (FD : Fun K "_law_draw" "_law_draw" sDraw fD fdD) (bD : Binds K fdD ["_law_box_here", "_law_many"] []) (gD : mg "_law_draw" = some (.ref fD)) : FnOk P w K mg base CX0 2 f fd ["_law_box_here", "_law_many"] spClaim := by
  have GD : FnOk P w K mg base CX0 1 fD fdD ["_law_box_here", "_law_many"] spDraw := ok_draw FD T
  refine F.ok scClaim (fun vs H Q E h => ?_) (fun cdv A outer s H vs Q E hr h => ?_)
  · obtain ⟨_, _, _, _, _, rfl, _⟩ := h
    rfl
  · obtain ⟨b, l, xs, t, m, rfl, B, hm, q⟩ := h
    refine ⟨_, pss_cons (ps_if (pt_cmpR op_eq (pe_call GD hr (by rfl) gD FD.kp bD .nil pass0 (pa_cons (pv 0) (pa_cons pe_int pa_nil))) pe_int (nomark _)) (pss_one (ps_ret pe_non)) pss_nil)
      (pss_one (ps_ret (pe_op op_mod (pe_callTy call_int1 (by rfl) T.int (by decide +kernel) (pa_cons (pe_call GD hr (by rfl) gD FD.kp bD .nil pass0 (pa_cons (pv 0) (pa_cons pe_int pa_nil))) pa_nil)) (pv 1)))), ?_⟩
    refine ⟨.ref b, rfl, b, l, xs, t, 6, rfl, B, by decide, fun z z1 z2 => ⟨rfl, _, rfl, ite2 (fun y => ?_) (fun y => ?_)⟩⟩
    · exact q none (t + 1)
    · refine ⟨.ref b, rfl, b, l, xs, t + 1, 900, rfl, B.next (t + 1), by decide, fun x x1 x2 => .inl ⟨_, rfl, .int m, rfl, _, _, rfl, rfl, hm, ?_⟩⟩
      rw [upd_upd]
      exact q (some (x % m)) (t + 1 + 1)
end
end K57W

namespace K57W
open PySem PySem.Spec PyProof.Rows L2 K57S K57D
section
variable {P : Program} {w : World} {K : PySem.W.Frag} {mg : Str → Option Value} {base : Heap}
/-! ### the law's own test of a row of coins -/
theorem cut_take (xs : List V) (i : Nat) : cutV xs none (some (i : Int)) = xs.take i := by
  unfold cutV
  rw [HT.sIx_none, HT.sIx_nat, List.drop_zero, Nat.sub_zero]
  rcases Nat.le_total i xs.length with h | h
  · rw [Nat.min_eq_left h]
  · rw [Nat.min_eq_right h, List.take_of_length_le (Nat.le_refl _), List.take_of_length_le h]
theorem shaped_nums (ks : List Nat) : SeqAt.shaped (.list (ks.map nD)) = true := shaped_list fun d hd => by
  obtain ⟨k, _, rfl⟩ := List.mem_map.mp hd
  simp [nD, PyData.canLay0, PyData.depth]
theorem eqv_nil (ds : List PyData) : PyData.eqv (.list ds) (.list []) = ds.isEmpty := by
  cases ds <;> simp [PyData.eqv, PyData.eqvAll]
theorem scFree : FnScope ["_law_left", "_law_right", "_law_coins", "_law_links", "_law_k"] ["_law_left", "_law_right", "_law_coins"] (defScope sFree) := ⟨rfl, rfl, rfl, by decide +kernel, rfl, by decide +kernel, by decide +kernel⟩
def spFree : Sp := fun vs H Q _ => ∃ (a b c : V) (ls rs : List (Option Int)) (cs : List Int), vs = [a, b, c] ∧ Dt H a (.list (ls.map optD)) ∧ Dt H b (.list (rs.map optD)) ∧ Dt H c (.list (cs.map .int)) ∧
  cs.length ≤ ls.length ∧ cs.length ≤ rs.length ∧ cs.length ≤ 12 ∧ (∀ z ∈ cs, z = 0 ∨ z = 1) ∧ ∀ H', Same H H' → Q (.bl (K57.freeN (K57.linksN (ls.zip rs) cs))) H'
theorem ixlK (X : Cx) (e : X.K = K) : IxR X (rIxL K) := by subst e; exact ix_list
theorem ixtK (X : Cx) (e : X.K = K) : IxR X (rIxT K) := by subst e; exact ix_tup
theorem slK (X : Cx) (e : X.K = K) : SlR X (rSlL K) := by subst e; exact sl_list
theorem inK (X : Cx) (e : X.K = K) (hu : X.A.units + 65 < cLine) : OpR X (compareOp .In) (rInD K) := by subst e; exact op_inD hu
theorem go_yes {σ : L2.St} {H : Hp} {A B : Hp → Prop} (h : A H) : tYes σ H (fun b H3 => if b = true then A H3 else B H3) := iteT (A := A H) (B := B H) h
theorem ok_free {f : Addr} {fd : FuncData} (F : Fun K "_law_free" "_law_free" sFree f fd) (T : Glob mg) : FnOk P w K mg base CX0 1 f fd ["_law_left", "_law_right", "_law_coins"] spFree := by
  refine F.ok scFree (fun vs H Q E h => ?_) (fun cdv A outer s H vs Q E hr h => ?_)
  · obtain ⟨_, _, _, _, _, _, rfl, _⟩ := h
    rfl
  · obtain ⟨a, b, c, ls, rs, cs, rfl, ha, hb, hc, n1, n2, n3, bits, q⟩ := h
    obtain ⟨a, xa, rfl, ha, za⟩ := ha.lst_inv
    obtain ⟨b, xb, rfl, hb, zb⟩ := hb.lst_inv
    obtain ⟨c, xc, rfl, hc, zc⟩ := hc.lst_inv
    have ea := za.opts
    have eb := zb.opts
    have ec := zc.ints
    subst ea eb ec
    have hu := fun (X : Cx) (hX : X.A = A.deeper (envOfC "_law_free" (defScope sFree) s.heap.objs.size f cdv)) => (by rw [hX]; have := hr.un; omega : X.A.units + 65 < cLine)
    refine ⟨_, pss_cons (ps_set (i := 3) scFree.nd rfl (.inr rfl) (pe_lc (own := [("_law_k", 4)]) (g := gName 4) (tt := tYes) rfl scFree.nd
        (pi_range1 (by rfl) T.range (pa_cons (pe_callB call_len_seq (by rfl) T.len PySem.boot_len (pa_cons (pv 2) pa_nil)) pa_nil))
        (blkOk_by (own := [("_law_k", 4)]) (N := ["_law_left", "_law_right", "_law_coins", "_law_links", "_law_k"]) (sc := defScope sFree) (by decide +kernel))
        (fun _ _ _ _ _ => pg_name (i := 4) scFree.nd rfl (Or.inl rfl)) (fun _ _ _ _ _ => pts_nil)
        (fun _ _ _ _ _ => pe_tup (pa_cons (pe_ix (ixlK _ rfl) (pv 2) (pv 4) (fun _ _ => rfl))
          (pa_cons (pe_ix (ixlK _ rfl) (pe_ix (ixlK _ rfl) (pe_lst (pa_cons (pv 0) (pa_cons (pv 1) pa_nil))) (pe_ix (ixlK _ rfl) (pv 2) (pv 4) (fun _ _ => rfl)) (fun _ _ => rfl)) (pv 4) (fun _ _ => rfl)) pa_nil)))))
      (pss_one (ps_ret (pe_cmpR (op_eqD (by have := hr.un; show (A.deeper _).units + 64 < cLine; omega))
        (pe_lc (own := [("_law_k", 4)]) (g := gName 4) rfl scFree.nd
          (pi_range1 (by rfl) T.range (pa_cons (pe_callB call_len_seq (by rfl) T.len PySem.boot_len (pa_cons (pv 2) pa_nil)) pa_nil))
          (blkOk_by (own := [("_law_k", 4)]) (N := ["_law_left", "_law_right", "_law_coins", "_law_links", "_law_k"]) (sc := defScope sFree) (by decide +kernel))
          (fun _ _ _ _ _ => pg_name (i := 4) scFree.nd rfl (Or.inl rfl))
          (fun _ _ _ _ _ => pts_one (PW.pt (pw_or (pt_cmpR op_isN (pe_ix (ixtK _ rfl) (pe_ix (ixlK _ rfl) (pv 3) (pv 4) (fun _ _ => rfl)) pe_int (fun _ _ => rfl)) pe_non (nomark _))
            (pw_or1 (pt_cmpR (inK _ rfl (hu _ rfl)) (pe_ix (ixlK _ rfl) (pv 3) (pv 4) (fun _ _ => rfl)) (pe_slice (slK _ rfl) (pv 3) po_none (po_some (pv 4))) (by rfl))))))
          (fun _ _ _ _ _ => pv 4))
        (pe_lst pa_nil) (nomark _)))), ?_⟩
    generalize hlk : K57.linksN (ls.zip rs) cs = lk at q
    have lkn : lk.length = cs.length := by rw [← hlk]; exact linksN_len n1 n2
    have cl : (cs.map V.int).length = cs.length := List.length_map _
    -- the links
    refine ⟨.ref c, rfl, c, _, rfl, .inl (SqL.of hc), ?_⟩
    rw [cl]
    refine ⟨(cs.length : Nat), rfl, by omega, by omega, fun D nD0 => ?_⟩
    refine lc_range (lo := 0) (n := cs.length) (fun i H3 => Same H (wo H3 D) ∧ ∃ acc, H3 D = some (.lst acc) ∧ DtAll (wo H3 D) acc ((lk.take i).map linkD))
      ⟨wo_of (new_same nD0) nD0, [], upd_same, .nil⟩ ?_ ?_
    · rintro i H3 hi ⟨sm, acc, hD, hd⟩
      have zi : (0 : Int) + (i : Nat) = (i : Nat) := by omega
      obtain ⟨l, hl⟩ : ∃ l, ls[i]? = some l := ⟨ls[i], List.getElem?_eq_getElem (by omega)⟩
      obtain ⟨r, hr'⟩ : ∃ r, rs[i]? = some r := ⟨rs[i], List.getElem?_eq_getElem (by omega)⟩
      obtain ⟨z, hz⟩ : ∃ z, cs[i]? = some z := ⟨cs[i], List.getElem?_eq_getElem hi⟩
      have hk := linksN_at hl hr' hz
      rw [hlk] at hk
      have s3 : Same H H3 := sm.trans (wo_same _ _)
      have acl : acc.length ≤ 12 := by
        rw [hd.len, List.length_map, List.length_take]
        omega
      refine ⟨rfl, ?_⟩
      refine go_yes ?_
      refine ⟨.ref c, rfl, .int (0 + (i : Nat)), rfl, c, _, _, _, rfl, rfl, SqL.of (s3 _ _ hc), at_of zi (map_at hz), ?_⟩
      refine ⟨.ref a, rfl, .ref b, rfl, (by show 2 ≤ sizeLine; decide), fun g ng => ?_⟩
      have Dg : D ≠ g := ne_of_none hD ng
      have s4 : Same H (upd H3 g (.lst [.ref a, .ref b])) := s3.trans (new_same ng)
      have hD4 : (upd H3 g (.lst [.ref a, .ref b])) D = some (.lst acc) := by
        rw [upd_ne Dg]
        exact hD
      have w4 : Same (wo H3 D) (wo (upd H3 g (.lst [.ref a, .ref b])) D) := wo_new ng Dg.symm
      have hg4 : (upd H3 g (.lst [V.ref a, V.ref b])) g = some (.lst [.ref a, .ref b]) := upd_same
      generalize upd H3 g (.lst [V.ref a, V.ref b]) = H4 at s4 hD4 w4 hg4
      have bit := bits z (List.mem_of_getElem? hz)
      have fin : ∀ o : Option Int, K57.linkOf (l, r) z = (z, o) → ∀ t, H4 t = none → ∃ acc2, (upd H4 t (.tup [.int z, optV o])) D = some (.lst acc2) ∧ acc2.length < sizeLine ∧
          (Same H (wo (upd (upd H4 t (.tup [.int z, optV o])) D (.lst (acc2 ++ [.ref t]))) D) ∧ ∃ acc3, (upd (upd H4 t (.tup [.int z, optV o])) D (.lst (acc2 ++ [.ref t]))) D = some (.lst acc3) ∧
            DtAll (wo (upd (upd H4 t (.tup [.int z, optV o])) D (.lst (acc2 ++ [.ref t]))) D) acc3 ((lk.take (i + 1)).map linkD)) := fun o ho t nt => by
        have Dt_ : D ≠ t := ne_of_none hD4 nt
        have w5 : Same (wo H4 D) (wo (upd H4 t (.tup [.int z, optV o])) D) := wo_new nt Dt_.symm
        refine ⟨acc, by rw [upd_ne Dt_]; exact hD4, small_line (by omega), ?_, acc ++ [.ref t], upd_same, ?_⟩
        · rw [wo_upd]
          exact (sm.trans w4).trans w5
        · rw [wo_upd, take_one hk, List.map_append, ho]
          refine (DtAll.same (w4.trans w5) _ _ hd).snoc (Dt.of_link ?_)
          exact wo_at upd_same Dt_.symm
      refine ⟨.ref c, rfl, .int (0 + (i : Nat)), rfl, c, _, _, _, rfl, rfl, SqL.of (s4 _ _ hc), at_of zi (map_at hz), ?_⟩
      rcases bit with e | e
      · subst e
        refine ⟨g, _, _, .ref a, rfl, rfl, SqL.of hg4, atI_nat (j := 0) rfl, .int (0 + (i : Nat)), rfl, a, _, _, _, rfl, rfl, SqL.of (s4 _ _ ha), at_of zi (map_at hl), (by show 2 ≤ sizeLine; decide), fun t nt => ?_⟩
        exact fin l rfl t nt
      · subst e
        refine ⟨g, _, _, .ref b, rfl, rfl, SqL.of hg4, atI_nat (j := 1) rfl, .int (0 + (i : Nat)), rfl, b, _, _, _, rfl, rfl, SqL.of (s4 _ _ hb), at_of zi (map_at hr'), (by show 2 ≤ sizeLine; decide), fun t nt => ?_⟩
        exact fin r rfl t nt
    · rintro H3 ⟨sm, xl, hD, hd⟩
      rw [List.take_of_length_le (Nat.le_of_eq lkn)] at hd
      have s3 : Same H H3 := sm.trans (wo_same _ _)
      have hx := DtAll.same (wo_same _ _) _ _ hd
      have xll : xl.length = lk.length := by rw [hx.len, List.length_map]
      -- the rows that are caught
      refine ⟨.ref c, rfl, c, _, rfl, .inl (SqL.of (s3 _ _ hc)), ?_⟩
      rw [cl]
      refine ⟨(cs.length : Nat), rfl, by omega, by omega, fun D2 nD2 => ?_⟩
      refine lc_range (lo := 0) (n := cs.length) (fun i H4 => Same H3 H4 ∧ H4 D2 = some (.lst (((List.range i).filter (K57.bad lk)).map nV))) ⟨new_same nD2, upd_same⟩ ?_ ?_
      · rintro i H4 hi ⟨s4, hD2⟩
        have zi : (0 : Int) + (i : Nat) = (i : Nat) := by omega
        obtain ⟨l, hl⟩ : ∃ l, lk[i]? = some l := ⟨lk[i], List.getElem?_eq_getElem (by omega)⟩
        obtain ⟨x, hxi, hxd⟩ := hx.get (map_at (f := linkD) hl)
        obtain ⟨bq, rfl, hbq⟩ := hxd.link
        have few : (((List.range i).filter (K57.bad lk)).map nV).length < sizeLine := by
          have := List.length_filter_le (K57.bad lk) (List.range i)
          rw [List.length_range] at this
          rw [List.length_map]
          exact small_line (by omega)
        have yes : K57.bad lk i = true → ∀ H5, Same H4 H5 → ∃ acc, H5 D2 = some (.lst acc) ∧ acc.length < sizeLine ∧ Same H3 (upd H5 D2 (.lst (acc ++ [.int (0 + (i : Nat))]))) ∧
            (upd H5 D2 (.lst (acc ++ [.int (0 + (i : Nat))]))) D2 = some (.lst (((List.range (i + 1)).filter (K57.bad lk)).map nV)) := fun hb H5 s5 => by
          refine ⟨_, s5 _ _ hD2, few, put_same (s4.trans s5) nD2, ?_⟩
          rw [upd_same, caught_step, if_pos hb, List.map_append, zi]
          rfl
        refine ⟨rfl, .ref D, rfl, .int (0 + (i : Nat)), rfl, D, _, _, .ref bq, rfl, rfl, SqL.of (s4 _ _ hD), at_of zi hxi, bq, _, _, _, rfl, rfl, SqT.of (s4 _ _ hbq), atI_nat (j := 1) rfl, rfl, _, rfl, ite2 (fun z => ?_) (fun z => ?_)⟩
        · have hb : K57.bad lk i = true := by
            rw [bad_at hl, ← optV_none, z, Bool.true_or]
          exact iteT ⟨.int (0 + (i : Nat)), rfl, yes hb _ (Same.refl _)⟩
        · refine ⟨.ref D, rfl, .int (0 + (i : Nat)), rfl, D, _, _, .ref bq, rfl, rfl, SqL.of (s4 _ _ hD), at_of zi hxi, .ref D, rfl, .int (0 + (i : Nat)), rfl, 0 + (i : Nat), rfl, D, xl, rfl, SqL.of (s4 _ _ hD), fun g ng => ?_⟩
          have ec : cutV xl none (some (0 + ((i : Nat) : Int))) = xl.take i := by rw [zi, cut_take]
          rw [ec]
          have s5 := new_same (o := .lst (xl.take i)) ng
          have hg : Dt (upd H4 g (.lst (xl.take i))) (.ref g) (.list ((lk.take i).map linkD)) := by
            refine .lst upd_same ?_
            rw [List.map_take]
            exact (DtAll.same (s4.trans s5) _ _ hx).take i
          refine ⟨linkD l, _, Dt.dp _ _ (Dt.same (s4.trans s5) _ _ hxd), Dt.dp _ _ hg, shaped_link l, shaped_links _, _, rfl, ?_⟩
          rw [any_link]
          have zz : K57.bad lk i = decide (l ∈ lk.take i) := by
            rw [bad_at hl, ← optV_none]
            cases y : decide (optV l.2 = V.non) with
            | true => exact absurd y z
            | false => rw [Bool.false_or]
          refine ite2 (fun y => ?_) (fun y => ?_)
          · refine ⟨.int (0 + (i : Nat)), rfl, yes (zz.trans y) _ s5⟩
          · refine ⟨s4.trans s5, ?_⟩
            rw [s5 _ _ hD2, caught_step, if_neg (by rw [zz]; exact y), List.append_nil]
      · rintro H4 ⟨s4, hD2⟩
        refine ⟨Nat.zero_le _, fun g ng => ?_⟩
        have s5 := new_same (o := .lst []) ng
        refine ⟨caughtD lk, .list [], Dt.dp _ _ (.lst (s5 _ _ hD2) ?_), Dt.dp _ _ (.lst upd_same .nil), shaped_nums _, shaped_nums [], ?_⟩
        · rw [← lkn]
          exact of_nD _
        · have e : PyData.eqv (caughtD lk) (.list []) = K57.freeN lk := by
            rw [caughtD, eqv_nil, K57.freeN]
            cases K57.caughtN lk <;> rfl
          rw [e]
          exact q _ ((s3.trans s4).trans s5)
end
end K57W

namespace K57W
open PySem PySem.Spec PyProof.Rows L2 K57S K57D
/-- a def of the text as the top has left it -/
def Has (K : PySem.W.Frag) (mg : Str → Option Value) (x : Str) (st : Stmt) (ps : List Str) : Prop := ∃ (f : Addr) (fd : FuncData), Fun K x x st f fd ∧ Binds K fd ps [] ∧ mg x = some (.ref f)
structure Defs (K : PySem.W.Frag) (mg : Str → Option Value) : Prop where
  glob : Glob mg
  opened : Has K mg "opened_claims" sOpened ["left", "right", "coins"]
  caught : Has K mg "caught" sCaught ["left", "right", "coins"]
  coins : Has K mg "coins_of_number" sCoins ["rows", "number"]
  plain : Has K mg "passing_plainly" sPlain ["left", "right"]
  links : Has K mg "links_of" sLinks ["left", "right"]
  joined : Has K mg "joined_parts" sJoined ["parts", "ends"]
  parts : Has K mg "parts_of" sParts ["links"]
  passIn : Has K mg "passing_in" sPassIn ["part", "links"]
  passing : Has K mg "passing" sPassing ["left", "right"]
  cell : Has K mg "_law_cell" sCell ["_law_script", "_law_k"]
  row : Has K mg "_law_row" sRow ["_law_cell_here", "_law_k", "_law_many"]
  box : Has K mg "_law_box" sBox ["_law_script", "_law_first", "_law_last"]
  draw : Has K mg "_law_draw" sDraw ["_law_box_here", "_law_many"]
  same : Has K mg "_law_same" sSame ["_law_one", "_law_other"]
  claim : Has K mg "_law_claim" sClaim ["_law_box_here", "_law_many"]
  free : Has K mg "_law_free" sFree ["_law_left", "_law_right", "_law_coins"]
section
variable {P : Program} {w : World} {K : PySem.W.Frag} {mg : Str → Option Value} {base : Heap}
/-! ### the law -/
theorem of_opts {H : Hp} : ∀ os : List (Option Int), DtAll H (os.map optV) (os.map optD)
  | [] => .nil
  | o :: os => .cons (Dt.of_opt o) (of_opts os)
def worthsL : List Int := [1, 2, 4, 8, 16, 32, 64, 128]
theorem worths_at : ∀ k, k < 8 → worthsL[k]? = some ((2 ^ k : Nat) : Int) := by decide
theorem sumTo_le {g : Nat → Nat} (h : ∀ x, g x ≤ 1) : ∀ n, K57.sumTo n g ≤ n
  | 0 => Nat.le_refl _
  | n + 1 => by
    have h1 := sumTo_le h n
    have h2 := h n
    show K57.sumTo n g + g n ≤ n + 1
    omega
theorem free_le (ls rs : List (Option Int)) (x : Nat) : freeAt ls rs x ≤ 1 := by
  unfold freeAt K57.bn
  split <;> omega
theorem plain_eq {ls rs : List (Option Int)} (h : rs.length = ls.length) : plainN ls rs = K57.passN (rowsE ls rs) := by
  have e := K57.law_plain (ls.zip rs)
  have l : (ls.zip rs).length = ls.length := by rw [List.length_zip]; omega
  rw [l] at e
  exact e
theorem plain_log {ls rs : List (Option Int)} (h : ls.length < 8) : ((plainN ls rs : Nat) : Int).natAbs.log2 < 1920 := by
  have h1 : plainN ls rs ≤ 2 ^ ls.length := sumTo_le (free_le ls rs) _
  have h2 : 2 ^ ls.length ≤ 2 ^ 7 := Nat.pow_le_pow_right (by decide) (by omega)
  have h3 : (plainN ls rs).log2 ≤ plainN ls rs := Nat.log2_le_self _
  rw [Int.natAbs_natCast]
  have h4 : (2 : Nat) ^ 7 = 128 := rfl
  omega
theorem bits_coins (n x : Nat) : ∀ z ∈ K57.coinsN n x, z = 0 ∨ z = 1 := fun z hz => by
  obtain ⟨i, hi⟩ := List.getElem?_of_mem hz
  have hin : i < n := by
    have := (List.getElem?_eq_some_iff.mp hi).1
    rw [coinsN_len] at this
    exact this
  rw [coinsN_at n x i hin] at hi
  have e := Option.some.inj hi
  omega
theorem bl_ne {H : Hp} {b l : Addr} {xs : List Int} {t : Nat} (B : BoxAt H b l xs t) : l ≠ b := fun z => by
  have hl := B.row
  rw [z, B.box] at hl
  have e := HO.lst.inj (Option.some.inj hl)
  cases xs with
  | nil => cases e
  | cons x xs => cases e
theorem scLaw : FnScope ["_law_script", "_law_box_here", "_law_many", "_law_left", "_law_right", "_law_worths", "_law_count", "_law_number", "_law_k"] ["_law_script"] (defScope sLaw) := ⟨rfl, rfl, rfl, by decide +kernel, rfl, by decide +kernel, by decide +kernel⟩
def spLaw (K : PySem.W.Frag) : Sp := fun vs H Q _ => ∃ (a : Addr) (ns : List Int), vs = [.ref a] ∧ SqL K H a (ns.map V.int) ∧ ns.length ≤ 63 ∧ ∀ H', Q (.bl true) H'
abbrev nmLaw : List Str := ["_law_script", "_law_box_here", "_law_many", "_law_left", "_law_right", "_law_worths", "_law_count", "_law_number", "_law_k"]
theorem ok_law {f : Addr} {fd : FuncData} (F : Fun K "law" "law" sLaw f fd) (D : Defs K mg) : FnOk P w K mg base CX0 4 f fd ["_law_script"] (spLaw K) := by
  have T := D.glob
  obtain ⟨fO, fdO, FO, bO, gO⟩ := D.opened
  obtain ⟨fC, fdC, FC, bC, gC⟩ := D.caught
  obtain ⟨fN, fdN, FN, bN, gN⟩ := D.coins
  obtain ⟨fP, fdP, FP, bP, gP⟩ := D.plain
  obtain ⟨fL, fdL, FL, bL, gL⟩ := D.links
  obtain ⟨fJ, fdJ, FJ, bJ, gJ⟩ := D.joined
  obtain ⟨fA, fdA, FA, bA, gA⟩ := D.parts
  obtain ⟨fI, fdI, FI, bI, gI⟩ := D.passIn
  obtain ⟨fG, fdG, FG, bG, gG⟩ := D.passing
  obtain ⟨fE, fdE, FE, bE, gE⟩ := D.cell
  obtain ⟨fR, fdR, FR, bR, gR⟩ := D.row
  obtain ⟨fB, fdB, FB, bB, gB⟩ := D.box
  obtain ⟨fD, fdD, FD, bD, gD⟩ := D.draw
  obtain ⟨fS, fdS, FS, bS, gS⟩ := D.same
  obtain ⟨fM, fdM, FM, bM, gM⟩ := D.claim
  obtain ⟨fF, fdF, FF, bF, gF⟩ := D.free
  have GP : FnOk P w K mg base CX0 3 fP fdP ["left", "right"] spPlain := ok_plain FP T FO bO gO FC bC gC FN bN gN
  have GG : FnOk P w K mg base CX0 3 fG fdG ["left", "right"] spPassing := ok_passing FG T FL bL gL FJ bJ gJ FA bA gA FI bI gI
  have GB : FnOk P w K mg base CX0 2 fB fdB ["_law_script", "_law_first", "_law_last"] (spBox K) := ok_box FB T FE bE gE FR bR gR
  have GD : FnOk P w K mg base CX0 1 fD fdD ["_law_box_here", "_law_many"] spDraw := ok_draw FD T
  have GM : FnOk P w K mg base CX0 2 fM fdM ["_law_box_here", "_law_many"] spClaim := ok_claim FM T FD bD gD
  have GF : FnOk P w K mg base CX0 1 fF fdF ["_law_left", "_law_right", "_law_coins"] spFree := ok_free FF T
  have GS : FnOk P w K mg base CX0 1 fS fdS ["_law_one", "_law_other"] spSame := ok_same FS T
  refine F.ok scLaw (fun vs H Q E h => ?_) (fun cdv A outer s H vs Q E hr h => ?_)
  · obtain ⟨_, _, rfl, _⟩ := h
    rfl
  · obtain ⟨a, ns, rfl, hS, hlen, q⟩ := h
    have hr2 : Room 2 _ := hr.mono (by decide)
    have hr1 : Room 1 _ := hr.mono (by decide)
    refine ⟨_, pss_cons (ps_set (i := 1) scLaw.nd rfl (.inr rfl) (pe_call GB hr2 (by rfl) gB FB.kp bB .nil pass0 (pa_cons (pv 0) (pa_cons pe_int (pa_cons pe_int pa_nil)))))
      (pss_cons (ps_set (i := 2) scLaw.nd rfl (.inr rfl) (pe_call GD hr1 (by rfl) gD FD.kp bD .nil pass0 (pa_cons (pv 1) (pa_cons pe_int pa_nil))))
      (pss_cons (ps_setLc (i := 3) (own := [("_law_k", 8)]) (g := gName 8) (tt := tYes) rfl scLaw.nd rfl rfl (sw_true rfl rfl rfl (by decide +kernel)) (pi_range1 (by rfl) T.range (pa_cons (pv 2) pa_nil))
          (blkOk_by (own := [("_law_k", 8)]) (N := nmLaw) (sc := defScope sLaw) (by decide +kernel)) (fun _ _ _ _ _ => pg_name (i := 8) scLaw.nd rfl (Or.inl rfl)) (fun _ _ _ _ _ => pts_nil)
          (fun _ _ _ _ _ => pe_call GM hr2 (by rfl) gM FM.kp bM .nil pass0 (pa_cons (pv 1) (pa_cons (pv 2) pa_nil))))
      (pss_cons (ps_setLc (i := 4) (own := [("_law_k", 8)]) (g := gName 8) (tt := tYes) rfl scLaw.nd rfl rfl (sw_true rfl rfl rfl (by decide +kernel)) (pi_range1 (by rfl) T.range (pa_cons (pv 2) pa_nil))
          (blkOk_by (own := [("_law_k", 8)]) (N := nmLaw) (sc := defScope sLaw) (by decide +kernel)) (fun _ _ _ _ _ => pg_name (i := 8) scLaw.nd rfl (Or.inl rfl)) (fun _ _ _ _ _ => pts_nil)
          (fun _ _ _ _ _ => pe_call GM hr2 (by rfl) gM FM.kp bM .nil pass0 (pa_cons (pv 1) (pa_cons (pv 2) pa_nil))))
      (pss_cons (ps_set (i := 5) scLaw.nd rfl (.inr rfl) (pe_lst (pa_cons pe_int (pa_cons pe_int (pa_cons pe_int (pa_cons pe_int (pa_cons pe_int (pa_cons pe_int (pa_cons pe_int (pa_cons pe_int pa_nil))))))))))
      (pss_cons (ps_set (i := 6) scLaw.nd rfl (.inl rfl) pe_int)
      (pss_cons (ps_for PassesOwn.never rfl (pi_range1 (by rfl) T.range (pa_cons (pe_ix ix_list (pv 5) (pv 2) (fun _ _ => rfl)) pa_nil)) (pg_name (i := 7) scLaw.nd rfl (Or.inr rfl))
        (pss_one (ps_if (pt_val (pe_call GF hr1 (by rfl) gF FF.kp bF .nil pass0 (pa_cons (pv 3) (pa_cons (pv 4) (pa_cons
            (pe_lc (own := [("_law_k", 8)]) (g := gName 8) (tt := tYes) rfl scLaw.nd (pi_range1 (by rfl) T.range (pa_cons (pv 2) pa_nil))
              (blkOk_by (own := [("_law_k", 8)]) (N := nmLaw) (sc := defScope sLaw) (by decide +kernel)) (fun _ _ _ _ _ => pg_name (i := 8) scLaw.nd rfl (Or.inl rfl)) (fun _ _ _ _ _ => pts_nil)
              (fun _ _ _ _ _ => pe_op op_mod (pe_callTy call_int1 (by rfl) T.int (by decide +kernel) (pa_cons (pe_op op_fdiv (pv 7) (pe_ix (ixlK _ rfl) (pv 5) (pv 8) (fun _ _ => rfl))) pa_nil)) pe_int)) pa_nil)))))
          (pss_one (ps_set (i := 6) scLaw.nd rfl (.inl rfl) (pe_op op_add (pv 6) pe_int))) pss_nil)))
      (pss_one (ps_ret (pe_and (pe_call GS hr1 (by rfl) gS FS.kp bS .nil pass0 (pa_cons (pe_call GP hr (by rfl) gP FP.kp bP .nil pass0 (pa_cons (pv 3) (pa_cons (pv 4) pa_nil))) (pa_cons (pv 6) pa_nil)))
        (pe_one (pe_call GS hr1 (by rfl) gS FS.kp bS .nil pass0 (pa_cons (pe_call GG hr (by rfl) gG FG.kp bG .nil pass0 (pa_cons (pv 3) (pa_cons (pv 4) pa_nil))) (pa_cons (pv 6) pa_nil))))))))))))), ?_⟩
    -- box = _law_box(script, 0, 4)
    refine ⟨.ref a, rfl, a, ns, rfl, hS, fun H1 b l xs sm1 nb nl B1 => ?_⟩
    -- many = _law_draw(box, 8)
    refine ⟨.ref b, rfl, b, l, xs, 0, 8, rfl, B1, by decide, fun z z0 z8 => ?_⟩
    obtain ⟨n, rfl⟩ : ∃ n : Nat, z = (n : Int) := ⟨z.toNat, by omega⟩
    have n8 : n < 8 := by omega
    have B2 := B1.next (0 + 1)
    generalize upd H1 b (.lst [.ref l, .int ((0 + 1 : Nat) : Int)]) = H2 at B2
    -- left
    refine ⟨.int (n : Nat), rfl, (n : Nat), rfl, by omega, by omega, fun dl ndl => ?_⟩
    have bdl : b ≠ dl := ne_of_none B2.box ndl
    have ldl : l ≠ dl := ne_of_none B2.row ndl
    refine lc_range (lo := 0) (n := n) (fun i H3 => ∃ (t : Nat) (ls : List (Option Int)), BoxAt H3 b l xs t ∧ H3 dl = some (.lst (ls.map optV)) ∧ ls.length = i) ⟨0 + 1, [], ⟨?_, ?_, B2.few⟩, upd_same, rfl⟩ ?_ ?_
    · rw [upd_ne bdl]
      exact B2.box
    · rw [upd_ne ldl]
      exact B2.row
    · rintro i H3 hi ⟨t, ls, B, hd, hl⟩
      refine ⟨rfl, go_yes ?_⟩
      refine ⟨.ref b, rfl, .int (n : Nat), rfl, b, l, xs, t, (n : Nat), rfl, B, by omega, fun o t' => ?_⟩
      have B' := B.next t'
      refine ⟨ls.map optV, by rw [upd_ne bdl.symm]; exact hd, small_line (by rw [List.length_map]; omega), t', ls ++ [o], ⟨?_, ?_, B.few⟩, ?_, ?_⟩
      · rw [upd_ne bdl]
        exact B'.box
      · rw [upd_ne ldl]
        exact B'.row
      · rw [upd_same, List.map_append]
        rfl
      · rw [List.length_append, List.length_singleton, hl]
    rintro H3 ⟨t3, ls, B3, hdl, lsn⟩
    -- right
    refine ⟨.int (n : Nat), rfl, (n : Nat), rfl, by omega, by omega, fun dr ndr => ?_⟩
    have bdr : b ≠ dr := ne_of_none B3.box ndr
    have ldr : l ≠ dr := ne_of_none B3.row ndr
    have ddr : dl ≠ dr := ne_of_none hdl ndr
    refine lc_range (lo := 0) (n := n) (fun i H4 => ∃ (t : Nat) (rs : List (Option Int)), BoxAt H4 b l xs t ∧ H4 dl = some (.lst (ls.map optV)) ∧ H4 dr = some (.lst (rs.map optV)) ∧ rs.length = i) ⟨t3, [], ⟨?_, ?_, B3.few⟩, ?_, upd_same, rfl⟩ ?_ ?_
    · rw [upd_ne bdr]
      exact B3.box
    · rw [upd_ne ldr]
      exact B3.row
    · rw [upd_ne ddr]
      exact hdl
    · rintro i H4 hi ⟨t, rs, B, hd, hr, hl⟩
      refine ⟨rfl, go_yes ?_⟩
      refine ⟨.ref b, rfl, .int (n : Nat), rfl, b, l, xs, t, (n : Nat), rfl, B, by omega, fun o t' => ?_⟩
      have B' := B.next t'
      refine ⟨rs.map optV, by rw [upd_ne bdr.symm]; exact hr, small_line (by rw [List.length_map]; omega), t', rs ++ [o], ⟨?_, ?_, B.few⟩, ?_, ?_, ?_⟩
      · rw [upd_ne bdr]
        exact B'.box
      · rw [upd_ne ldr]
        exact B'.row
      · rw [upd_ne ddr, upd_ne bdl.symm]
        exact hd
      · rw [upd_same, List.map_append]
        rfl
      · rw [List.length_append, List.length_singleton, hl]
    rintro H4 ⟨t4, rs, B4, hdl4, hdr4, rsn⟩
    have rl : rs.length = ls.length := rsn.trans lsn.symm
    have dL : Dt H4 (.ref dl) (.list (ls.map optD)) := .lst hdl4 (of_opts ls)
    have dR : Dt H4 (.ref dr) (.list (rs.map optD)) := .lst hdr4 (of_opts rs)
    -- worths
    refine ⟨(by show 8 ≤ sizeLine; decide), fun wA nw => ?_⟩
    have hw : (upd H4 wA (.lst [V.int 1, V.int 2, V.int 4, V.int 8, V.int 16, V.int 32, V.int 64, V.int 128])) wA = some (.lst (worthsL.map V.int)) := upd_same
    have sw : Same H4 (upd H4 wA (.lst [V.int 1, V.int 2, V.int 4, V.int 8, V.int 16, V.int 32, V.int 64, V.int 128])) := new_same nw
    generalize upd H4 wA (.lst [V.int 1, V.int 2, V.int 4, V.int 8, V.int 16, V.int 32, V.int 64, V.int 128]) = H5 at hw sw
    have p2 := rng_nat (pow_small (show n ≤ 12 by omega))
    -- the loop
    refine ⟨.ref wA, rfl, .int (n : Nat), rfl, wA, _, _, _, rfl, rfl, SqL.of hw, atI_nat (map_at (worths_at n n8)), ((2 ^ n : Nat) : Int), rfl, p2.1, p2.2, ?_⟩
    refine for_range (lo := 0) (n := 2 ^ n) (fun i σ H6 => ∃ y7, σ = [some (.ref a), some (.ref b), some (.int (n : Nat)), some (.ref dl), some (.ref dr), some (.ref wA), some (.int (K57.sumTo i (freeAt ls rs) : Nat)), y7, none] ∧ Same H5 H6) ⟨none, rfl, Same.refl _⟩ ?_ ?_
    · rintro i σ H6 hi ⟨y7, rfl, sm⟩
      have zi : (0 : Int) + (i : Nat) = (i : Nat) := by omega
      refine ⟨.ref dl, rfl, .ref dr, rfl, .int (n : Nat), rfl, (n : Nat), rfl, by omega, by omega, fun C nC => ?_⟩
      refine lc_range (lo := 0) (n := n) (fun k H7 => Same H6 H7 ∧ H7 C = some (.lst (((K57.coinsN n i).take k).map V.int))) ⟨new_same nC, upd_same⟩ ?_ ?_
      · rintro k H7 hk ⟨sm7, hC⟩
        have zk : (0 : Int) + (k : Nat) = (k : Nat) := by omega
        have ck := coinsN_at n i k hk
        have pp : 0 < 2 ^ k := Nat.pow_pos (by decide)
        have pq : 2 ^ k ≤ 4096 := pow_small (by omega)
        refine ⟨rfl, go_yes ?_⟩
        refine ⟨.int (0 + (i : Nat)), rfl, .ref wA, rfl, .int (0 + (k : Nat)), rfl, wA, _, _, _, rfl, rfl, SqL.of (sm7 _ _ (sm _ _ hw)), at_of zk (map_at (worths_at k (by omega))), _, _, rfl, rfl, ⟨by omega, by omega⟩, .inl ⟨_, rfl, _, _, rfl, rfl, (show (0 : Int) < 2 by decide), ?_⟩⟩
        refine ⟨_, hC, small_line (by rw [List.length_map, List.length_take, coinsN_len]; omega), put_same sm7 nC, ?_⟩
        rw [upd_same, take_one ck, List.map_append]
        have e : (0 + ((i : Nat) : Int)) / ((2 ^ k : Nat) : Int) % 2 = ((i / 2 ^ k % 2 : Nat) : Int) := by
          rw [zi]
          omega
        exact congrArg (fun x => some (HO.lst (((K57.coinsN n i).take k).map V.int ++ [V.int x]))) e
      · rintro H7 ⟨sm7, hC⟩
        rw [List.take_of_length_le (by rw [coinsN_len]; exact Nat.le_refl _)] at hC
        have s7 := (sw.trans sm).trans sm7
        refine ⟨.ref dl, .ref dr, .ref C, ls, rs, K57.coinsN n i, rfl, Dt.same s7 _ _ dL, Dt.same s7 _ _ dR, .lst hC (DtAll.of_ints _), by rw [coinsN_len]; omega, by rw [coinsN_len]; omega, by rw [coinsN_len]; omega, bits_coins n i, fun H8 sm8 => ?_⟩
        have s8 := (sm.trans sm7).trans sm8
        have es : K57.sumTo (i + 1) (freeAt ls rs) = K57.sumTo i (freeAt ls rs) + freeAt ls rs i := rfl
        have fa : freeAt ls rs i = K57.bn (K57.freeN (K57.linksN (ls.zip rs) (K57.coinsN n i))) := by
          unfold freeAt
          rw [lsn]
        refine ⟨_, rfl, ite2 (fun y => ?_) (fun y => ?_)⟩
        · refine ⟨_, rfl, _, _, rfl, rfl, some (.int (0 + (i : Nat))), ?_, s8⟩
          rw [es, fa, y]
          rfl
        · refine ⟨some (.int (0 + (i : Nat))), ?_, s8⟩
          have y0 : K57.freeN (K57.linksN (ls.zip rs) (K57.coinsN n i)) = false := by
            cases yy : K57.freeN (K57.linksN (ls.zip rs) (K57.coinsN n i)) with
            | true => exact absurd yy y
            | false => rfl
          rw [es, fa, y0]
          rfl
    · rintro σ H6 ⟨y7, rfl, sm⟩
      have s6 := sw.trans sm
      have pe : K57.sumTo (2 ^ n) (freeAt ls rs) = plainN ls rs := by
        unfold plainN
        rw [lsn]
      rw [pe]
      have lg := plain_log (rs := rs) (show ls.length < 8 by omega)
      refine ⟨.ref dl, rfl, .ref dr, rfl, .ref dl, .ref dr, ls, rs, rfl, Dt.same s6 _ _ dL, Dt.same s6 _ _ dR, rl, by omega, fun H7 sm7 => ?_⟩
      refine ⟨_, rfl, _, rfl, lg, true, rfl, ?_⟩
      have s7 := s6.trans sm7
      refine iteT ⟨.ref dl, rfl, .ref dr, rfl, .ref dl, .ref dr, ls, rs, rfl, Dt.same s7 _ _ dL, Dt.same s7 _ _ dR, rl, by omega, fun H8 sm8 => ?_⟩
      rw [← plain_eq rl]
      exact ⟨_, rfl, _, rfl, lg, q _⟩
end
end K57W

namespace K57W
open PySem PySem.Spec PyProof.Rows L2 K57S K57D
/-! ### what the top has left, and the end -/
theorem has_mk {K : PySem.W.Frag} {h : Heap} {mg : Str → Option Value} (X : K.In h) (G : h.Ns mainGlobals mg) {x : Str} {st : Stmt} {ps : List Str} {f : Addr} {od an : Option Addr} {sl : Array (Option Value)} {oc kV dc pm cd ct : Value}
    (a : PySem.W.nsIn K mainGlobals x = some (some (.ref f))) (lk : K.lookup f = some ⟨oc, od, .func (PySem.W.fnOf x x (defArgs st) (defBody st) (defScope st) .none kV dc pm an cd ct), sl⟩) (c : PySem.W.codeIn K cd x = true) (k : PySem.W.keepIn K (.ref f) = true)
    (b : ∀ (kV doc pm : Value) (an : Option Addr) (cdv ct : Value) (us : List Value), us.length = ps.length → bindArgs (PySem.W.fnOf x x (defArgs st) (defBody st) (defScope st) .none kV doc pm an cdv ct) ⟨us, []⟩ = pure (ps.zip us)) : Has K mg x st ps :=
  let F := fun_mk (st := st) lk c k
  ⟨f, _, F, F.binds b, PySem.W.mg_of X G a⟩
theorem all_mk {l : PySem.W.OpenLaw} {w : World} {K : PySem.W.Frag} {h : Heap} {mg : Str → Option Value} {fa f1 f2 f3 f4 f5 f6 f7 f8 f9 f10 f11 f12 f13 f14 f15 f16 f17 : Addr} (X : K.In h) (G : h.Ns mainGlobals mg) (hfa : mg "law" = some (.ref fa)) {tL tR : Tok}
    {od1 an1 od2 an2 od3 an3 od4 an4 od5 an5 od6 an6 od7 an7 od8 an8 od9 an9 od10 an10 od11 an11 od12 an12 od13 an13 od14 an14 od15 an15 od16 an16 od17 an17 : Option Addr} {sl1 sl2 sl3 sl4 sl5 sl6 sl7 sl8 sl9 sl10 sl11 sl12 sl13 sl14 sl15 sl16 sl17 : Array (Option Value)} {oc1 kV1 dc1 pm1 cd1 ct1 oc2 kV2 dc2 pm2 cd2 ct2 oc3 kV3 dc3 pm3 cd3 ct3 oc4 kV4 dc4 pm4 cd4 ct4 oc5 kV5 dc5 pm5 cd5 ct5 oc6 kV6 dc6 pm6 cd6 ct6 oc7 kV7 dc7 pm7 cd7 ct7 oc8 kV8 dc8 pm8 cd8 ct8 oc9 kV9 dc9 pm9 cd9 ct9 oc10 kV10 dc10 pm10 cd10 ct10 oc11 kV11 dc11 pm11 cd11 ct11 oc12 kV12 dc12 pm12 cd12 ct12 oc13 kV13 dc13 pm13 cd13 ct13 oc14 kV14 dc14 pm14 cd14 ct14 oc15 kV15 dc15 pm15 cd15 ct15 oc16 kV16 dc16 pm16 cd16 ct16 oc17 kV17 dc17 pm17 cd17 ct17 : Value}
    (a1 : PySem.W.nsIn K mainGlobals "opened_claims" = some (some (.ref f1))) (l1 : K.lookup f1 = some ⟨oc1, od1, .func (PySem.W.fnOf "opened_claims" "opened_claims" (defArgs sOpened) (defBody sOpened) (defScope sOpened) .none kV1 dc1 pm1 an1 cd1 ct1), sl1⟩) (c1 : PySem.W.codeIn K cd1 "opened_claims" = true) (k1 : PySem.W.keepIn K (.ref f1) = true)
    (a2 : PySem.W.nsIn K mainGlobals "caught" = some (some (.ref f2))) (l2 : K.lookup f2 = some ⟨oc2, od2, .func (PySem.W.fnOf "caught" "caught" (defArgs sCaught) (defBody sCaught) (defScope sCaught) .none kV2 dc2 pm2 an2 cd2 ct2), sl2⟩) (c2 : PySem.W.codeIn K cd2 "caught" = true) (k2 : PySem.W.keepIn K (.ref f2) = true)
    (a3 : PySem.W.nsIn K mainGlobals "coins_of_number" = some (some (.ref f3))) (l3 : K.lookup f3 = some ⟨oc3, od3, .func (PySem.W.fnOf "coins_of_number" "coins_of_number" (defArgs sCoins) (defBody sCoins) (defScope sCoins) .none kV3 dc3 pm3 an3 cd3 ct3), sl3⟩) (c3 : PySem.W.codeIn K cd3 "coins_of_number" = true) (k3 : PySem.W.keepIn K (.ref f3) = true)
    (a4 : PySem.W.nsIn K mainGlobals "passing_plainly" = some (some (.ref f4))) (l4 : K.lookup f4 = some ⟨oc4, od4, .func (PySem.W.fnOf "passing_plainly" "passing_plainly" (defArgs sPlain) (defBody sPlain) (defScope sPlain) .none kV4 dc4 pm4 an4 cd4 ct4), sl4⟩) (c4 : PySem.W.codeIn K cd4 "passing_plainly" = true) (k4 : PySem.W.keepIn K (.ref f4) = true)
    (a5 : PySem.W.nsIn K mainGlobals "links_of" = some (some (.ref f5))) (l5 : K.lookup f5 = some ⟨oc5, od5, .func (PySem.W.fnOf "links_of" "links_of" (defArgs sLinks) (defBody sLinks) (defScope sLinks) .none kV5 dc5 pm5 an5 cd5 ct5), sl5⟩) (c5 : PySem.W.codeIn K cd5 "links_of" = true) (k5 : PySem.W.keepIn K (.ref f5) = true)
    (a6 : PySem.W.nsIn K mainGlobals "joined_parts" = some (some (.ref f6))) (l6 : K.lookup f6 = some ⟨oc6, od6, .func (PySem.W.fnOf "joined_parts" "joined_parts" (defArgs sJoined) (defBody sJoined) (defScope sJoined) .none kV6 dc6 pm6 an6 cd6 ct6), sl6⟩) (c6 : PySem.W.codeIn K cd6 "joined_parts" = true) (k6 : PySem.W.keepIn K (.ref f6) = true)
    (a7 : PySem.W.nsIn K mainGlobals "parts_of" = some (some (.ref f7))) (l7 : K.lookup f7 = some ⟨oc7, od7, .func (PySem.W.fnOf "parts_of" "parts_of" (defArgs sParts) (defBody sParts) (defScope sParts) .none kV7 dc7 pm7 an7 cd7 ct7), sl7⟩) (c7 : PySem.W.codeIn K cd7 "parts_of" = true) (k7 : PySem.W.keepIn K (.ref f7) = true)
    (a8 : PySem.W.nsIn K mainGlobals "passing_in" = some (some (.ref f8))) (l8 : K.lookup f8 = some ⟨oc8, od8, .func (PySem.W.fnOf "passing_in" "passing_in" (defArgs sPassIn) (defBody sPassIn) (defScope sPassIn) .none kV8 dc8 pm8 an8 cd8 ct8), sl8⟩) (c8 : PySem.W.codeIn K cd8 "passing_in" = true) (k8 : PySem.W.keepIn K (.ref f8) = true)
    (a9 : PySem.W.nsIn K mainGlobals "passing" = some (some (.ref f9))) (l9 : K.lookup f9 = some ⟨oc9, od9, .func (PySem.W.fnOf "passing" "passing" (defArgs sPassing) (defBody sPassing) (defScope sPassing) .none kV9 dc9 pm9 an9 cd9 ct9), sl9⟩) (c9 : PySem.W.codeIn K cd9 "passing" = true) (k9 : PySem.W.keepIn K (.ref f9) = true)
    (a10 : PySem.W.nsIn K mainGlobals "_law_cell" = some (some (.ref f10))) (l10 : K.lookup f10 = some ⟨oc10, od10, .func (PySem.W.fnOf "_law_cell" "_law_cell" (defArgs sCell) (defBody sCell) (defScope sCell) .none kV10 dc10 pm10 an10 cd10 ct10), sl10⟩) (c10 : PySem.W.codeIn K cd10 "_law_cell" = true) (k10 : PySem.W.keepIn K (.ref f10) = true)
    (a11 : PySem.W.nsIn K mainGlobals "_law_row" = some (some (.ref f11))) (l11 : K.lookup f11 = some ⟨oc11, od11, .func (PySem.W.fnOf "_law_row" "_law_row" (defArgs sRow) (defBody sRow) (defScope sRow) .none kV11 dc11 pm11 an11 cd11 ct11), sl11⟩) (c11 : PySem.W.codeIn K cd11 "_law_row" = true) (k11 : PySem.W.keepIn K (.ref f11) = true)
    (a12 : PySem.W.nsIn K mainGlobals "_law_box" = some (some (.ref f12))) (l12 : K.lookup f12 = some ⟨oc12, od12, .func (PySem.W.fnOf "_law_box" "_law_box" (defArgs sBox) (defBody sBox) (defScope sBox) .none kV12 dc12 pm12 an12 cd12 ct12), sl12⟩) (c12 : PySem.W.codeIn K cd12 "_law_box" = true) (k12 : PySem.W.keepIn K (.ref f12) = true)
    (a13 : PySem.W.nsIn K mainGlobals "_law_draw" = some (some (.ref f13))) (l13 : K.lookup f13 = some ⟨oc13, od13, .func (PySem.W.fnOf "_law_draw" "_law_draw" (defArgs sDraw) (defBody sDraw) (defScope sDraw) .none kV13 dc13 pm13 an13 cd13 ct13), sl13⟩) (c13 : PySem.W.codeIn K cd13 "_law_draw" = true) (k13 : PySem.W.keepIn K (.ref f13) = true)
    (a14 : PySem.W.nsIn K mainGlobals "_law_same" = some (some (.ref f14))) (l14 : K.lookup f14 = some ⟨oc14, od14, .func (PySem.W.fnOf "_law_same" "_law_same" (defArgs sSame) (defBody sSame) (defScope sSame) .none kV14 dc14 pm14 an14 cd14 ct14), sl14⟩) (c14 : PySem.W.codeIn K cd14 "_law_same" = true) (k14 : PySem.W.keepIn K (.ref f14) = true)
    (a15 : PySem.W.nsIn K mainGlobals "_law_claim" = some (some (.ref f15))) (l15 : K.lookup f15 = some ⟨oc15, od15, .func (PySem.W.fnOf "_law_claim" "_law_claim" (defArgs sClaim) (defBody sClaim) (defScope sClaim) .none kV15 dc15 pm15 an15 cd15 ct15), sl15⟩) (c15 : PySem.W.codeIn K cd15 "_law_claim" = true) (k15 : PySem.W.keepIn K (.ref f15) = true)
    (a16 : PySem.W.nsIn K mainGlobals "_law_free" = some (some (.ref f16))) (l16 : K.lookup f16 = some ⟨oc16, od16, .func (PySem.W.fnOf "_law_free" "_law_free" (defArgs sFree) (defBody sFree) (defScope sFree) .none kV16 dc16 pm16 an16 cd16 ct16), sl16⟩) (c16 : PySem.W.codeIn K cd16 "_law_free" = true) (k16 : PySem.W.keepIn K (.ref f16) = true)
    (a17 : PySem.W.nsIn K mainGlobals "law" = some (some (.ref f17))) (l17 : K.lookup f17 = some ⟨oc17, od17, .func (PySem.W.fnOf "law" "law" (defArgs sLaw) (defBody sLaw) (defScope sLaw) .none kV17 dc17 pm17 an17 cd17 ct17), sl17⟩) (c17 : PySem.W.codeIn K cd17 "law" = true) (k17 : PySem.W.keepIn K (.ref f17) = true)
    (gL : PySem.W.nsIn K mainGlobals "LEFT" = some (some (.int 0 tL))) (gR : PySem.W.nsIn K mainGlobals "RIGHT" = some (some (.int 1 tR)))
    (zenumerate : PySem.W.nsIn K mainGlobals "enumerate" = some none) (zlen : PySem.W.nsIn K mainGlobals "len" = some none) (zrange : PySem.W.nsIn K mainGlobals "range" = some none) (zset : PySem.W.nsIn K mainGlobals "set" = some none) (zint : PySem.W.nsIn K mainGlobals "int" = some none) (zrepr : PySem.W.nsIn K mainGlobals "repr" = some none) :
    ∃ fd : FuncData, (∀ (s : Shared) (v : Value), BindsTo s fd ⟨[v], []⟩ [("_law_script", v)]) ∧ ∀ base : Heap, K.In base → base.Ns mainGlobals mg → FnOk l.prog w K mg base CX0 4 fa fd ["_law_script"] (spLaw K) := by
  have e := hfa.symm.trans (PySem.W.mg_of X G a17)
  cases e
  have D : Defs K mg := {
    glob := { left := ⟨tL, PySem.W.mg_of X G gL⟩, right := ⟨tR, PySem.W.mg_of X G gR⟩, enumerate := PySem.W.mg_none_of X G zenumerate, len := PySem.W.mg_none_of X G zlen, range := PySem.W.mg_none_of X G zrange, set := PySem.W.mg_none_of X G zset, int := PySem.W.mg_none_of X G zint, repr := PySem.W.mg_none_of X G zrepr }
    opened := has_mk X G a1 l1 c1 k1 fun _ _ _ _ _ _ us hl => match us, hl with | [_, _, _], _ => rfl
    caught := has_mk X G a2 l2 c2 k2 fun _ _ _ _ _ _ us hl => match us, hl with | [_, _, _], _ => rfl
    coins := has_mk X G a3 l3 c3 k3 fun _ _ _ _ _ _ us hl => match us, hl with | [_, _], _ => rfl
    plain := has_mk X G a4 l4 c4 k4 fun _ _ _ _ _ _ us hl => match us, hl with | [_, _], _ => rfl
    links := has_mk X G a5 l5 c5 k5 fun _ _ _ _ _ _ us hl => match us, hl with | [_, _], _ => rfl
    joined := has_mk X G a6 l6 c6 k6 fun _ _ _ _ _ _ us hl => match us, hl with | [_, _], _ => rfl
    parts := has_mk X G a7 l7 c7 k7 fun _ _ _ _ _ _ us hl => match us, hl with | [_], _ => rfl
    passIn := has_mk X G a8 l8 c8 k8 fun _ _ _ _ _ _ us hl => match us, hl with | [_, _], _ => rfl
    passing := has_mk X G a9 l9 c9 k9 fun _ _ _ _ _ _ us hl => match us, hl with | [_, _], _ => rfl
    cell := has_mk X G a10 l10 c10 k10 fun _ _ _ _ _ _ us hl => match us, hl with | [_, _], _ => rfl
    row := has_mk X G a11 l11 c11 k11 fun _ _ _ _ _ _ us hl => match us, hl with | [_, _, _], _ => rfl
    box := has_mk X G a12 l12 c12 k12 fun _ _ _ _ _ _ us hl => match us, hl with | [_, _, _], _ => rfl
    draw := has_mk X G a13 l13 c13 k13 fun _ _ _ _ _ _ us hl => match us, hl with | [_, _], _ => rfl
    same := has_mk X G a14 l14 c14 k14 fun _ _ _ _ _ _ us hl => match us, hl with | [_, _], _ => rfl
    claim := has_mk X G a15 l15 c15 k15 fun _ _ _ _ _ _ us hl => match us, hl with | [_, _], _ => rfl
    free := has_mk X G a16 l16 c16 k16 fun _ _ _ _ _ _ us hl => match us, hl with | [_, _, _], _ => rfl
  }
  exact ⟨PySem.W.fnOf "law" "law" (defArgs sLaw) (defBody sLaw) (defScope sLaw) .none kV17 dc17 pm17 an17 cd17 ct17, fun s v => .of_eq rfl, fun base _ _ => ok_law (fun_mk (st := sLaw) l17 c17 k17) D⟩
end K57W
open PySem PySem.W PyProof.Rows
set_option maxHeartbeats 0 in
theorem PySem.Challenge.cw_veilcount_k57_whole_audits_that_pass_holds : PySem.Challenge.rw_veilcount_k57_whole_audits_that_pass.Holds := by
  w_on; o_law; k_head; (case hw => w_witness2)
  k_fill
  refine L2.walk_of (l := PySem.Challenge.rw_veilcount_k57_whole_audits_that_pass) (n := 63) (k := 4) (x := "_law_script") (CX := fun _ => L2.CX0) (sp := fun w => K57W.spLaw _) rfl (by decide) rfl ⟨rfl, by decide, by decide⟩ (fun w h Y => PySem.W.kIn_of Y) ?F (fun _ _ a ns hl _ hS => ⟨a, ns, rfl, hS, hl, fun _ => rfl⟩) (fun _ _ _ _ _ h => h)
  case F =>
    intro w mg fa h KX G hmg
    refine' K57W.all_mk KX G hmg ?a1 ?l1 ?c1 ?k1 ?a2 ?l2 ?c2 ?k2 ?a3 ?l3 ?c3 ?k3 ?a4 ?l4 ?c4 ?k4 ?a5 ?l5 ?c5 ?k5 ?a6 ?l6 ?c6 ?k6 ?a7 ?l7 ?c7 ?k7 ?a8 ?l8 ?c8 ?k8 ?a9 ?l9 ?c9 ?k9 ?a10 ?l10 ?c10 ?k10 ?a11 ?l11 ?c11 ?k11 ?a12 ?l12 ?c12 ?k12 ?a13 ?l13 ?c13 ?k13 ?a14 ?l14 ?c14 ?k14 ?a15 ?l15 ?c15 ?k15 ?a16 ?l16 ?c16 ?k16 ?a17 ?l17 ?c17 ?k17 ?gL ?gR ?zenumerate ?zlen ?zrange ?zset ?zint ?zrepr
    (case a1 => k_is)
    (case l1 => k_is)
    (case c1 => k_is)
    (case k1 => k_is)
    (case a2 => k_is)
    (case l2 => k_is)
    (case c2 => k_is)
    (case k2 => k_is)
    (case a3 => k_is)
    (case l3 => k_is)
    (case c3 => k_is)
    (case k3 => k_is)
    (case a4 => k_is)
    (case l4 => k_is)
    (case c4 => k_is)
    (case k4 => k_is)
    (case a5 => k_is)
    (case l5 => k_is)
    (case c5 => k_is)
    (case k5 => k_is)
    (case a6 => k_is)
    (case l6 => k_is)
    (case c6 => k_is)
    (case k6 => k_is)
    (case a7 => k_is)
    (case l7 => k_is)
    (case c7 => k_is)
    (case k7 => k_is)
    (case a8 => k_is)
    (case l8 => k_is)
    (case c8 => k_is)
    (case k8 => k_is)
    (case a9 => k_is)
    (case l9 => k_is)
    (case c9 => k_is)
    (case k9 => k_is)
    (case a10 => k_is)
    (case l10 => k_is)
    (case c10 => k_is)
    (case k10 => k_is)
    (case a11 => k_is)
    (case l11 => k_is)
    (case c11 => k_is)
    (case k11 => k_is)
    (case a12 => k_is)
    (case l12 => k_is)
    (case c12 => k_is)
    (case k12 => k_is)
    (case a13 => k_is)
    (case l13 => k_is)
    (case c13 => k_is)
    (case k13 => k_is)
    (case a14 => k_is)
    (case l14 => k_is)
    (case c14 => k_is)
    (case k14 => k_is)
    (case a15 => k_is)
    (case l15 => k_is)
    (case c15 => k_is)
    (case k15 => k_is)
    (case a16 => k_is)
    (case l16 => k_is)
    (case c16 => k_is)
    (case k16 => k_is)
    (case a17 => k_is)
    (case l17 => k_is)
    (case c17 => k_is)
    (case k17 => k_is)
    (case gL => k_is)
    (case gR => k_is)
    (case zenumerate => k_is)
    (case zlen => k_is)
    (case zrange => k_is)
    (case zset => k_is)
    (case zint => k_is)
    (case zrepr => k_is)

import PyProof.Rows.All
import Wide.All
import OpenK.AllK
import Wide.FinOn
import KE.KStateDown
import PyProof.EqAt
import PyProof.EqKinds
import PyProof.TupleCall
import KE.KFromBytes
import KE.GoesEnum
import HandS.ForMost
import HandS.Exc
import HandS.ExcInit
import HandS.Defaults
import HandS.Walk
import HandS.Conv
import HandS.Rev
import HandS.RevRange
import HandS.SetKeys
import HandS.IsInst
import HandS.Flow
import HandS.More
import HandS.Remove
import HandS.SetFor
import HandS.WordsExc
import HandS.TryOnly
import HandS.Head0
import HandS.Head1
import HandS.Head2
import HandS.HeadEnd
import HandS.HeadHook1
import HandS.HeadHook2
import PySem.Challenge.RW_boughask_k84_whole_gardens
/-! depth lists: uppers, ends -/
namespace Bg
/-- the uppers, place by place; w: the last way -/
def upGo : Nat → List Nat → List Nat → List (Option Nat)
  | _, _, [] => []
  | i, w, d :: ds => (w.take (d - 1)).getLast? :: upGo (i + 1) (w.take (d - 1) ++ [i]) ds
def upps (ds : List Nat) : List (Option Nat) := upGo 0 [] ds
def upp (ds : List Nat) (c : Nat) : Option Nat := ((upps ds)[c]?).join
/-- the end of a place -/
def endAt (ds : List Nat) (p : Nat) : Nat := p + ((ds.drop (p + 1)).takeWhile fun e => decide (ds.getD p 0 < e)).length
/-- a depth list that can stand -/
structure Valid (ds : List Nat) : Prop where
  first : ds[0]? = some 1
  next : ∀ i a b, ds[i]? = some a → ds[i + 1]? = some b → 2 ≤ b ∧ b ≤ a + 1

theorem upGo_length : ∀ (ds : List Nat) (i : Nat) (w : List Nat), (upGo i w ds).length = ds.length
  | [], _, _ => rfl
  | d :: ds, i, w => by
    show (upGo _ _ ds).length + 1 = ds.length + 1
    rw [upGo_length ds]
theorem upps_length (ds : List Nat) : (upps ds).length = ds.length := upGo_length ds 0 []

/-- the way at place i: w[k] is the last place of depth k + 1 that is still open -/
structure WayAt (ds : List Nat) (i : Nat) (w : List Nat) : Prop where
  len : (i = 0 ∧ w.length = 0) ∨ ∃ j a, i = j + 1 ∧ ds[j]? = some a ∧ w.length = a
  at_ : ∀ k p, w[k]? = some p → p < i ∧ ds[p]? = some (k + 1) ∧ ∀ j b, p < j → j < i → ds[j]? = some b → k + 1 < b
theorem Valid.pos {ds : List Nat} (V : Valid ds) {i d : Nat} (h : ds[i]? = some d) : 1 ≤ d := by
  cases i with
  | zero => rw [V.first] at h; injection h; omega
  | succ i =>
    have hl := (List.getElem?_eq_some_iff.mp h).1
    have := V.next i ds[i] d (List.getElem?_eq_getElem (by omega)) h
    omega
theorem WayAt.zero (ds : List Nat) : WayAt ds 0 [] := ⟨.inl ⟨rfl, rfl⟩, fun k p h => by simp at h⟩
theorem WayAt.enough {ds : List Nat} (V : Valid ds) {i d : Nat} {w : List Nat} (W : WayAt ds i w) (h : ds[i]? = some d) : d - 1 ≤ w.length := by
  rcases W.len with ⟨rfl, hw⟩ | ⟨j, a, rfl, ha, hw⟩
  · rw [V.first] at h; injection h; omega
  · have := V.next j a d ha h; omega
theorem WayAt.step {ds : List Nat} (V : Valid ds) {i d : Nat} {w : List Nat} (W : WayAt ds i w) (h : ds[i]? = some d) : WayAt ds (i + 1) (w.take (d - 1) ++ [i]) := by
  have h1 := W.enough V h
  have hp := V.pos h
  have hl : (w.take (d - 1)).length = d - 1 := by rw [List.length_take]; omega
  refine ⟨.inr ⟨i, d, rfl, h, by rw [List.length_append, hl, List.length_singleton]; omega⟩, fun k p e => ?_⟩
  by_cases hk : k < d - 1
  · rw [List.getElem?_append_left (by omega), List.getElem?_take, if_pos hk] at e
    obtain ⟨q1, q2, q3⟩ := W.at_ k p e
    refine ⟨by omega, q2, fun j b hj hji hb => ?_⟩
    by_cases hji' : j = i
    · subst hji'; rw [h] at hb; injection hb; omega
    · exact q3 j b hj (by omega) hb
  · rw [List.getElem?_append_right (by omega), hl] at e
    have hk2 : k - (d - 1) = 0 := by
      have := (List.getElem?_eq_some_iff.mp e).1
      simp at this; omega
    rw [hk2] at e
    have e' : i = p := by simpa using e
    subst e'
    exact ⟨by omega, by rw [h]; congr 1; omega, fun j b hj hji hb => by omega⟩
theorem last_take {α : Type} (w : List α) (n : Nat) (h : n ≤ w.length) : (w.take n).getLast? = if n = 0 then none else w[n - 1]? := by
  rw [List.getLast?_eq_getElem?, List.length_take, Nat.min_eq_left h]
  by_cases h0 : n = 0
  · subst h0; simp
  · rw [if_neg h0, List.getElem?_take, if_pos (by omega)]
/-- what upGo tells -/
theorem upGo_at {ds : List Nat} (V : Valid ds) : ∀ (n i : Nat) (w : List Nat), ds.length - i = n → WayAt ds i w → ∀ (c d : Nat) (o : Option Nat), i ≤ c → ds[c]? = some d → (upGo i w (ds.drop i))[c - i]? = some o →
    (d = 1 → o = none) ∧ (d ≠ 1 → ∃ p, o = some p ∧ p < c ∧ ds[p]? = some (d - 1) ∧ ∀ j b, p < j → j < c → ds[j]? = some b → d ≤ b)
  | 0, i, w, hn, W, c, d, o, hc, hd, ho => by
    have := (List.getElem?_eq_some_iff.mp hd).1
    omega
  | n + 1, i, w, hn, W, c, d, o, hc, hd, ho => by
    have hi : i < ds.length := by omega
    have ei : ds[i]? = some ds[i] := List.getElem?_eq_getElem hi
    rw [List.drop_eq_getElem_cons hi] at ho
    by_cases hci : c = i
    · subst hci
      rw [Nat.sub_self] at ho
      have ho' : (w.take (ds[c] - 1)).getLast? = o := by simpa [upGo] using ho
      have edd : ds[c] = d := by rw [ei] at hd; exact Option.some.inj hd
      rw [edd] at ho'
      have h1 := W.enough V hd
      have hp := V.pos hd
      rw [last_take w _ h1] at ho'
      refine ⟨fun h => ?_, fun h => ?_⟩
      · rw [if_pos (by omega)] at ho'; exact ho'.symm
      · rw [if_neg (by omega)] at ho'
        have hl : d - 1 - 1 < w.length := by omega
        rw [List.getElem?_eq_getElem hl] at ho'
        obtain ⟨q1, q2, q3⟩ := W.at_ (d - 1 - 1) w[d - 1 - 1] (List.getElem?_eq_getElem hl)
        refine ⟨w[d - 1 - 1], ho'.symm, q1, by rw [q2]; congr 1; omega, fun j b hj hjc hb => ?_⟩
        have := q3 j b hj hjc hb
        omega
    · have hci' : c - i = (c - (i + 1)) + 1 := by omega
      rw [hci'] at ho
      have ho' : (upGo (i + 1) (w.take (ds[i] - 1) ++ [i]) (ds.drop (i + 1)))[c - (i + 1)]? = some o := by simpa [upGo] using ho
      exact upGo_at V n (i + 1) _ (by omega) (W.step V ei) c d o (by omega) hd ho'
theorem upp_at {ds : List Nat} (V : Valid ds) {c d : Nat} (hd : ds[c]? = some d) :
    (d = 1 → upp ds c = none) ∧ (d ≠ 1 → ∃ p, upp ds c = some p ∧ p < c ∧ ds[p]? = some (d - 1) ∧ ∀ j b, p < j → j < c → ds[j]? = some b → d ≤ b) := by
  have hc := (List.getElem?_eq_some_iff.mp hd).1
  have hl : c < (upps ds).length := by rw [upps_length]; exact hc
  have e := List.getElem?_eq_getElem hl
  have := upGo_at V ds.length 0 [] rfl (.zero ds) c d _ (Nat.zero_le c) hd (by rw [List.drop_zero, Nat.sub_zero]; exact e)
  have e2 : upp ds c = (upps ds)[c] := by unfold upp; rw [e]; rfl
  rw [e2]
  exact this
theorem upp_none {ds : List Nat} {c : Nat} (h : ds.length ≤ c) : upp ds c = none := by
  unfold upp
  rw [List.getElem?_eq_none_iff.mpr (by rw [upps_length]; exact h)]; rfl
/-- D1 -/
theorem upp_lt {ds : List Nat} (V : Valid ds) {c p : Nat} (h : upp ds c = some p) : p < c ∧ c < ds.length := by
  by_cases hc : c < ds.length
  · have hd : ds[c]? = some ds[c] := List.getElem?_eq_getElem hc
    obtain ⟨h1, h2⟩ := upp_at V hd
    by_cases e : ds[c] = 1
    · rw [h1 e] at h; cases h
    · obtain ⟨q, e1, e2, _⟩ := h2 e
      rw [e1] at h; cases h; exact ⟨e2, hc⟩
  · rw [upp_none (by omega)] at h; cases h
theorem upp_zero {ds : List Nat} (V : Valid ds) : upp ds 0 = none := (upp_at V V.first).1 rfl
theorem upp_pos {ds : List Nat} (V : Valid ds) {c : Nat} (h : 0 < c) (hc : c < ds.length) : ∃ p, upp ds c = some p := by
  have hd : ds[c]? = some ds[c] := List.getElem?_eq_getElem hc
  obtain ⟨h1, h2⟩ := upp_at V hd
  obtain ⟨q, e1, _⟩ := h2 (by
    obtain ⟨c', rfl⟩ : ∃ c', c = c' + 1 := ⟨c - 1, by omega⟩
    have := V.next c' _ _ (List.getElem?_eq_getElem (by omega)) hd
    omega)
  exact ⟨q, e1⟩

/-- above, any number of steps -/
inductive Anc {ν : Type} (ov : ν → Option ν) : ν → ν → Prop
  | one {a c : ν} : ov c = some a → Anc ov a c
  | more {a b c : ν} : ov c = some b → Anc ov a b → Anc ov a c
theorem Anc.trans {ν : Type} {ov : ν → Option ν} {a b c : ν} (h : Anc ov a b) (h2 : Anc ov b c) : Anc ov a c := by
  induction h2 with
  | one e => exact .more e h
  | more e _ ih => exact .more e ih
theorem Anc.inv {ν : Type} {ov : ν → Option ν} {a c : ν} (h : Anc ov a c) : ∃ b, ov c = some b ∧ (a = b ∨ Anc ov a b) := by
  cases h with
  | one e => exact ⟨_, e, .inl rfl⟩
  | more e h => exact ⟨_, e, .inr h⟩
theorem Anc.top {ν : Type} {ov : ν → Option ν} {a c : ν} (h : Anc ov a c) : ∃ b, ov b = some a ∧ (b = c ∨ Anc ov b c) := by
  induction h with
  | one e => exact ⟨_, e, .inl rfl⟩
  | more e _ ih =>
    obtain ⟨b, e1, e2 | e2⟩ := ih
    · subst e2; exact ⟨_, e1, .inr (.one e)⟩
    · exact ⟨b, e1, .inr (.more e e2)⟩
theorem anc_lt {ds : List Nat} (V : Valid ds) {a c : Nat} (h : Anc (upp ds) a c) : a < c ∧ c < ds.length := by
  induction h with
  | one e => exact upp_lt V e
  | more e _ ih => have := upp_lt V e; omega
/-- what is beneath is what is deeper, all the way -/
theorem anc_iff {ds : List Nat} (V : Valid ds) {a : Nat} {d : Nat} (ha : ds[a]? = some d) : ∀ (n c : Nat), c ≤ n → c < ds.length → (Anc (upp ds) a c ↔ a < c ∧ ∀ j b, a < j → j ≤ c → ds[j]? = some b → d < b)
  | 0, c, h, hc => by
    have : c = 0 := by omega
    subst this
    refine ⟨fun h => by have := anc_lt V h; omega, fun h => by omega⟩
  | n + 1, c, h, hc => by
    have hd : ds[c]? = some ds[c] := List.getElem?_eq_getElem hc
    obtain ⟨h1, h2⟩ := upp_at V hd
    constructor
    · intro q
      obtain ⟨b, e, q⟩ := q.inv
      have hb := upp_lt V e
      have hne : ds[c] ≠ 1 := fun z => by rw [h1 z] at e; cases e
      obtain ⟨p, e1, e2, e3, e4⟩ := h2 hne
      have hpb : p = b := by rw [e1] at e; exact Option.some.inj e
      subst hpb
      have hpos := V.pos hd
      rcases q with rfl | q
      · rw [e3] at ha; cases ha
        refine ⟨e2, fun j x hj hjc hx => ?_⟩
        by_cases hjc' : j = c
        · subst hjc'; rw [hd] at hx; cases hx; omega
        · have := e4 j x hj (by omega) hx; omega
      · obtain ⟨l1, l2⟩ := (anc_iff V ha n p (by omega) (by omega)).mp q
        refine ⟨by omega, fun j x hj hjc hx => ?_⟩
        by_cases hjp : j ≤ p
        · exact l2 j x hj hjp hx
        · have hdp := l2 p _ l1 (Nat.le_refl _) e3
          by_cases hjc' : j = c
          · subst hjc'; rw [hd] at hx; cases hx; omega
          · have := e4 j x (by omega) (by omega) hx; omega
    · rintro ⟨hac, hall⟩
      have hdc := hall c _ hac (Nat.le_refl _) hd
      have hpos := V.pos ha
      obtain ⟨p, e1, e2, e3, e4⟩ := h2 (by omega)
      by_cases hpa : p = a
      · subst hpa; exact .one e1
      · have hap : a < p := by
          by_cases hlt : p < a
          · have := e4 a d hlt hac ha; omega
          · omega
        exact .more e1 ((anc_iff V ha n p (by omega) (by omega)).mpr ⟨hap, fun j x hj hjp hx => hall j x hj (by omega) hx⟩)
theorem le_takeWhile {α : Type} (f : α → Bool) : ∀ (l : List α) (n : Nat), n ≤ (l.takeWhile f).length ↔ (n ≤ l.length ∧ ∀ j x, j < n → l[j]? = some x → f x = true)
  | [], n => by simp
  | a :: l, 0 => by simp
  | a :: l, n + 1 => by
    by_cases h : f a = true
    · rw [List.takeWhile_cons_of_pos h]
      simp only [List.length_cons, Nat.add_le_add_iff_right]
      rw [le_takeWhile f l n]
      constructor
      · rintro ⟨h1, h2⟩
        refine ⟨h1, fun j x hj hx => ?_⟩
        cases j with
        | zero => simp at hx; subst hx; exact h
        | succ j => exact h2 j x (by omega) (by simpa using hx)
      · rintro ⟨h1, h2⟩
        exact ⟨h1, fun j x hj hx => h2 (j + 1) x (by omega) (by simpa using hx)⟩
    · rw [List.takeWhile_cons_of_neg h]
      constructor
      · intro z; simp at z
      · rintro ⟨_, h2⟩
        exact absurd (h2 0 a (by omega) rfl) h
theorem endAt_lt {ds : List Nat} {p : Nat} (h : p < ds.length) : endAt ds p < ds.length := by
  unfold endAt
  have := (List.takeWhile_sublist (l := ds.drop (p + 1)) (fun e => decide (ds.getD p 0 < e))).length_le
  rw [List.length_drop] at this
  omega
theorem le_endAt (ds : List Nat) (p : Nat) : p ≤ endAt ds p := Nat.le_add_right _ _
/-- D2 -/
theorem anc_end {ds : List Nat} (V : Valid ds) {p c : Nat} (hp : p < ds.length) (hc : c < ds.length) : Anc (upp ds) p c ↔ p < c ∧ c ≤ endAt ds p := by
  have hd : ds[p]? = some ds[p] := List.getElem?_eq_getElem hp
  rw [anc_iff V hd c c (Nat.le_refl _) hc]
  have eg : ds.getD p 0 = ds[p] := by rw [List.getD_eq_getElem?_getD, hd]; rfl
  constructor
  · rintro ⟨h1, h2⟩
    refine ⟨h1, ?_⟩
    have : c - p ≤ ((ds.drop (p + 1)).takeWhile fun e => decide (ds.getD p 0 < e)).length := by
      rw [le_takeWhile]
      refine ⟨by rw [List.length_drop]; omega, fun j x hj hx => ?_⟩
      rw [List.getElem?_drop] at hx
      rw [eg]
      exact decide_eq_true (h2 _ x (by omega) (by omega) hx)
    unfold endAt; omega
  · rintro ⟨h1, h2⟩
    refine ⟨h1, fun j x hj hjc hx => ?_⟩
    have h3 : c - p ≤ ((ds.drop (p + 1)).takeWhile fun e => decide (ds.getD p 0 < e)).length := by unfold endAt at h2; omega
    rw [le_takeWhile] at h3
    have := h3.2 (j - (p + 1)) x (by omega) (by rw [List.getElem?_drop, show p + 1 + (j - (p + 1)) = j by omega]; exact hx)
    rw [eg] at this
    exact of_decide_eq_true this
end Bg

/-! forests -/
namespace Bg
inductive Fo (α : Type) where
  | nil
  | cons (a : α) (k r : Fo α)
namespace Fo
variable {α β : Type}
def size : Fo α → Nat
  | nil => 0
  | cons _ k r => 1 + k.size + r.size
def pre : Fo α → List α
  | nil => []
  | cons a k r => a :: (k.pre ++ r.pre)
def dep (d : Nat) : Fo α → List Nat
  | nil => []
  | cons _ k r => d :: (k.dep (d + 1) ++ r.dep d)
def rows (d : Nat) : Fo α → List (α × Nat)
  | nil => []
  | cons a k r => (a, d) :: (k.rows (d + 1) ++ r.rows d)
def tops : Fo α → List α
  | nil => []
  | cons a _ r => a :: r.tops
def app : Fo α → Fo α → Fo α
  | nil, g => g
  | cons a k r, g => cons a k (r.app g)
def map (h : α → β) : Fo α → Fo β
  | nil => nil
  | cons a k r => cons (h a) (k.map h) (r.map h)
def uppL (o : Option Nat) (n : Nat) : Fo α → List (Option Nat)
  | nil => []
  | cons _ k r => o :: (k.uppL (some n) (n + 1) ++ r.uppL o (n + 1 + k.size))
theorem pre_length : ∀ f : Fo α, f.pre.length = f.size
  | nil => rfl
  | cons a k r => by simp only [pre, size, List.length_cons, List.length_append, pre_length k, pre_length r]; omega
theorem dep_length : ∀ (f : Fo α) (d : Nat), (f.dep d).length = f.size
  | nil, _ => rfl
  | cons a k r, d => by simp only [dep, size, List.length_cons, List.length_append, dep_length k, dep_length r]; omega
theorem uppL_length : ∀ (f : Fo α) (o : Option Nat) (n : Nat), (f.uppL o n).length = f.size
  | nil, _, _ => rfl
  | cons a k r, o, n => by simp only [uppL, size, List.length_cons, List.length_append, uppL_length k, uppL_length r]; omega
theorem rows_fst : ∀ (f : Fo α) (d : Nat), (f.rows d).map (·.1) = f.pre
  | nil, _ => rfl
  | cons a k r, d => by simp only [rows, pre, List.map_cons, List.map_append, rows_fst k, rows_fst r]
theorem rows_snd : ∀ (f : Fo α) (d : Nat), (f.rows d).map (·.2) = f.dep d
  | nil, _ => rfl
  | cons a k r, d => by simp only [rows, dep, List.map_cons, List.map_append, rows_snd k, rows_snd r]
theorem rows_length (f : Fo α) (d : Nat) : (f.rows d).length = f.size := by
  rw [← pre_length, ← rows_fst f d, List.length_map]
theorem rows_map (h : α → β) : ∀ (f : Fo α) (d : Nat), (f.map h).rows d = (f.rows d).map fun x => (h x.1, x.2)
  | nil, _ => rfl
  | cons a k r, d => by simp only [rows, map, List.map_cons, List.map_append, rows_map h k, rows_map h r]
theorem map_size (h : α → β) : ∀ (f : Fo α), (f.map h).size = f.size
  | nil => rfl
  | cons a k r => by simp only [size, map, map_size h k, map_size h r]
theorem map_dep (h : α → β) : ∀ (f : Fo α) (d : Nat), (f.map h).dep d = f.dep d
  | nil, _ => rfl
  | cons a k r, d => by simp only [dep, map, map_dep h k, map_dep h r]
theorem map_uppL (h : α → β) : ∀ (f : Fo α) (o : Option Nat) (n : Nat), (f.map h).uppL o n = f.uppL o n
  | nil, _, _ => rfl
  | cons a k r, o, n => by simp only [uppL, map, map_uppL h k, map_uppL h r, map_size]
theorem app_pre : ∀ (f g : Fo α), (f.app g).pre = f.pre ++ g.pre
  | nil, g => rfl
  | cons a k r, g => by simp only [app, pre, app_pre r g, List.cons_append, List.append_assoc]
theorem app_tops : ∀ (f g : Fo α), (f.app g).tops = f.tops ++ g.tops
  | nil, g => rfl
  | cons a k r, g => by simp only [app, tops, app_tops r g, List.cons_append]
theorem app_size (f g : Fo α) : (f.app g).size = f.size + g.size := by
  rw [← pre_length, app_pre, List.length_append, pre_length, pre_length]
theorem tops_sub : ∀ (f : Fo α) (a : α), a ∈ f.tops → a ∈ f.pre
  | cons b k r, a, h => by
    simp only [tops, List.mem_cons] at h
    simp only [pre, List.mem_cons, List.mem_append]
    rcases h with h | h
    · exact .inl h
    · exact .inr (.inr (tops_sub r a h))
end Fo

/-- a chain of depths behind p -/
def ChF : Nat → List Nat → Prop
  | _, [] => True
  | p, d :: r => d ≤ p + 1 ∧ ChF d r
theorem ChF.dep {α : Type} : ∀ (f : Fo α) (d p : Nat) (rest : List Nat), d ≤ p + 1 → ChF p rest → (∀ q, d ≤ q → ChF q rest) → ChF p (f.dep d ++ rest)
  | .nil, d, p, rest, h, h1, h2 => h1
  | .cons a k r, d, p, rest, h, h1, h2 => by
    show d ≤ p + 1 ∧ ChF d ((k.dep (d + 1) ++ r.dep d) ++ rest)
    refine ⟨h, ?_⟩
    rw [List.append_assoc]
    have hr : ∀ q, d ≤ q → ChF q (r.dep d ++ rest) := fun q hq => ChF.dep r d q rest (by omega) (h2 q hq) h2
    exact ChF.dep k (d + 1) d _ (Nat.le_refl _) (hr d (Nat.le_refl _)) fun q hq => hr q (by omega)
theorem ChF.get : ∀ {ds : List Nat} {p : Nat}, ChF p ds → ∀ i a b, ds[i]? = some a → ds[i + 1]? = some b → b ≤ a + 1
  | [], _, _, i, a, b, h, _ => by simp at h
  | [d], _, _, i, a, b, _, h => by simp at h
  | d :: e :: r, p, h, 0, a, b, h1, h2 => by
    simp at h1 h2; subst h1; subst h2; exact h.2.1
  | d :: e :: r, p, h, i + 1, a, b, h1, h2 => ChF.get h.2 i a b (by simpa using h1) (by simpa using h2)
theorem Fo.dep_ge {α : Type} : ∀ (f : Fo α) (d x : Nat), x ∈ f.dep d → d ≤ x
  | .cons a k r, d, x, h => by
    simp only [Fo.dep, List.mem_cons, List.mem_append] at h
    rcases h with h | h | h
    · omega
    · have := Fo.dep_ge k (d + 1) x h; omega
    · exact Fo.dep_ge r d x h
theorem Fo.valid {α : Type} (a : α) (k : Fo α) : Valid ((Fo.cons a k .nil).dep 1) := by
  refine ⟨rfl, fun i x y h1 h2 => ⟨?_, ?_⟩⟩
  · have h2' : (k.dep 2 ++ [])[i]? = some y := by simpa [Fo.dep] using h2
    rw [List.append_nil] at h2'
    exact Fo.dep_ge k 2 y (List.mem_of_getElem? h2')
  · have c : ChF 0 ((Fo.cons a k .nil).dep 1 ++ []) := ChF.dep (Fo.cons a k .nil) 1 0 [] (Nat.le_refl _) True.intro fun _ _ => True.intro
    rw [List.append_nil] at c
    exact c.get i x y h1 h2

/-- uppers of a forest -/
theorem upGo_forest {α : Type} : ∀ (f : Fo α) (d n : Nat) (w rest : List Nat), 1 ≤ d → d - 1 ≤ w.length →
    ∃ w', w'.take (d - 1) = w.take (d - 1) ∧ d - 1 ≤ w'.length ∧ upGo n w (f.dep d ++ rest) = f.uppL (w.take (d - 1)).getLast? n ++ upGo (n + f.size) w' rest
  | .nil, d, n, w, rest, h1, h2 => ⟨w, rfl, h2, rfl⟩
  | .cons a k r, d, n, w, rest, h1, h2 => by
    have l1 : (w.take (d - 1) ++ [n]).length = d := by rw [List.length_append, List.length_take, List.length_singleton]; omega
    obtain ⟨w2, e2, le2, g2⟩ := upGo_forest k (d + 1) (n + 1) (w.take (d - 1) ++ [n]) (r.dep d ++ rest) (by omega) (by rw [l1]; omega)
    have t1 : (w.take (d - 1) ++ [n]).take (d + 1 - 1) = w.take (d - 1) ++ [n] := List.take_of_length_le (by rw [l1]; omega)
    rw [t1] at e2 g2
    have t2 : w2.take (d - 1) = w.take (d - 1) := by
      have : (w2.take (d + 1 - 1)).take (d - 1) = (w.take (d - 1) ++ [n]).take (d - 1) := by rw [e2]
      rw [List.take_take, Nat.min_eq_left (by omega)] at this
      rw [this, List.take_append_of_le_length (by rw [List.length_take]; omega), List.take_take, Nat.min_self]
    obtain ⟨w3, e3, le3, g3⟩ := upGo_forest r d (n + 1 + k.size) w2 rest h1 (by omega)
    refine ⟨w3, e3.trans t2, le3, ?_⟩
    show upGo n w (d :: ((k.dep (d + 1) ++ r.dep d) ++ rest)) = _
    rw [List.append_assoc]
    show (w.take (d - 1)).getLast? :: upGo (n + 1) (w.take (d - 1) ++ [n]) (k.dep (d + 1) ++ (r.dep d ++ rest)) = _
    rw [g2, g3, t2]
    have e4 : (w.take (d - 1) ++ [n]).getLast? = some n := by simp
    rw [e4]
    have e5 : n + 1 + k.size + r.size = n + (Fo.cons a k r).size := by simp only [Fo.size]; omega
    rw [e5]
    simp only [Fo.uppL, List.cons_append, List.append_assoc]
theorem upps_forest {α : Type} (f : Fo α) : upps (f.dep 1) = f.uppL none 0 := by
  obtain ⟨w', _, _, e⟩ := upGo_forest f 1 0 [] [] (Nat.le_refl _) (Nat.zero_le _)
  rw [List.append_nil] at e
  unfold upps
  rw [e]
  simp [upGo]

/-- each list of rows whose depths can stand is a forest's -/
theorem parse_ex {α : Type} : ∀ (n : Nat) (rows : List (α × Nat)) (d : Nat), rows.length ≤ n → (∀ x, rows[0]? = some x → x.2 ≤ d) → (∀ i a b, rows[i]? = some a → rows[i + 1]? = some b → b.2 ≤ a.2 + 1) →
    ∃ (f : Fo α) (rest : List (α × Nat)), rows = f.rows d ++ rest ∧ ∀ x, rest[0]? = some x → x.2 < d
  | n, [], d, _, _, _ => ⟨.nil, [], rfl, fun x h => by simp at h⟩
  | 0, x :: rows, d, h, _, _ => by simp at h
  | n + 1, (a, e) :: rows, d, h, h0, hc => by
    have he : e ≤ d := h0 (a, e) rfl
    by_cases hlt : e < d
    · exact ⟨.nil, (a, e) :: rows, rfl, fun x hx => by simp at hx; subst hx; exact hlt⟩
    · have ed : e = d := by omega
      subst ed
      have hl : rows.length ≤ n := by simp at h; exact h
      obtain ⟨k, r1, e1, b1⟩ := parse_ex n rows (e + 1) hl (fun x hx => hc 0 (a, e) x rfl (by simpa using hx)) fun i x y hx hy => hc (i + 1) x y (by simpa using hx) (by simpa using hy)
      have hl1 : r1.length ≤ n := by
        have := congrArg List.length e1
        rw [List.length_append] at this; omega
      obtain ⟨r, r2, e2, b2⟩ := parse_ex n r1 e hl1 (fun x hx => by have := b1 x hx; omega) fun i x y hx hy => by
        refine hc (i + 1 + (k.rows (e + 1)).length) x y ?_ ?_
        · rw [show i + 1 + (k.rows (e + 1)).length = (i + (k.rows (e + 1)).length) + 1 by omega, List.getElem?_cons_succ, e1, List.getElem?_append_right (by omega), Nat.add_sub_cancel]; exact hx
        · rw [List.getElem?_cons_succ, e1, List.getElem?_append_right (by omega), show i + 1 + (k.rows (e + 1)).length - (k.rows (e + 1)).length = i + 1 by omega]; exact hy
      refine ⟨.cons a k r, r2, ?_, b2⟩
      show (a, e) :: rows = ((a, e) :: (k.rows (e + 1) ++ r.rows e)) ++ r2
      rw [e1, e2]; simp
theorem parse {α : Type} {rows : List (α × Nat)} (V : Valid (rows.map (·.2))) : ∃ (a : α) (k : Fo α), rows = (Fo.cons a k .nil).rows 1 := by
  obtain ⟨f, rest, e, b⟩ := parse_ex rows.length rows 1 (Nat.le_refl _) (fun x hx => by
    have := V.first
    rw [List.getElem?_map, hx] at this
    have t : some x.2 = some 1 := this
    injection t with t; omega) fun i x y hx hy => (V.next i x.2 y.2 (by rw [List.getElem?_map, hx]; rfl) (by rw [List.getElem?_map, hy]; rfl)).2
  have hrest : rest = [] := by
    cases rest with
    | nil => rfl
    | cons x rest =>
      have h1 : x.2 < 1 := b x rfl
      have h2 : (rows.map (·.2))[(f.rows 1).length]? = some x.2 := by rw [e]; simp
      have := V.pos h2; omega
  subst hrest
  rw [List.append_nil] at e
  cases f with
  | nil =>
    have := V.first
    rw [e] at this; simp [Fo.rows] at this
  | cons a k r =>
    cases r with
    | nil => exact ⟨a, k, e⟩
    | cons a2 k2 r2 =>
      exfalso
      have h2 : (rows.map (·.2))[(k.rows 2).length + 1]? = some 1 := by rw [e]; simp [Fo.rows]
      have h1 : ∃ z, (rows.map (·.2))[(k.rows 2).length]? = some z := by
        have hl := (List.getElem?_eq_some_iff.mp h2).1
        exact ⟨_, List.getElem?_eq_getElem (show (k.rows 2).length < _ by omega)⟩
      obtain ⟨z, h1⟩ := h1
      have := (V.next _ z 1 h1 h2).1
      omega

/-! ### gardens: parts have marks -/

end Bg

/-! gardens: forests whose parts have marks -/
namespace Bg
variable {L : Type}
abbrev GF (L : Type) := Fo (Int × L)
/-- a part -/
structure Nd (L : Type) where
  m : Int
  l : L
  o : Option Int
  ks : List Int
abbrev marks (f : GF L) : List Int := f.pre.map (·.1)
abbrev topm (f : GF L) : List Int := f.tops.map (·.1)
def nodes (o : Option Int) : GF L → List (Nd L)
  | .nil => []
  | .cons a k r => ⟨a.1, a.2, o, topm k⟩ :: (nodes (some a.1) k ++ nodes o r)
theorem nodes_m : ∀ (f : GF L) (o : Option Int), (nodes o f).map (·.m) = marks f
  | .nil, _ => rfl
  | .cons a k r, o => by simp only [nodes, marks, Fo.pre, List.map_cons, List.map_append, nodes_m k, nodes_m r]
theorem nodes_l : ∀ (f : GF L) (o : Option Int), (nodes o f).map (·.l) = f.pre.map (·.2)
  | .nil, _ => rfl
  | .cons a k r, o => by simp only [nodes, Fo.pre, List.map_cons, List.map_append, nodes_l k, nodes_l r]
theorem nodes_length (f : GF L) (o : Option Int) : (nodes o f).length = f.size := by
  have := congrArg List.length (nodes_m f o)
  rw [List.length_map, List.length_map, Fo.pre_length] at this
  exact this
theorem node_mark {f : GF L} {o : Option Int} {x : Nd L} (h : x ∈ nodes o f) : x.m ∈ marks f := by
  rw [← nodes_m f o]; exact List.mem_map.mpr ⟨x, h, rfl⟩
theorem mark_node {f : GF L} (o : Option Int) {m : Int} (h : m ∈ marks f) : ∃ x ∈ nodes o f, x.m = m := by
  rw [← nodes_m f o] at h
  obtain ⟨x, hx, e⟩ := List.mem_map.mp h
  exact ⟨x, hx, e⟩
theorem nodup_inj {α β : Type} {g : α → β} : ∀ {l : List α}, (l.map g).Nodup → ∀ {x y : α}, x ∈ l → y ∈ l → g x = g y → x = y
  | [], _, x, y, h, _, _ => by cases h
  | a :: l, nd, x, y, hx, hy, e => by
    rw [List.map_cons, List.nodup_cons] at nd
    rcases List.mem_cons.mp hx with hx1 | hx1
    · rcases List.mem_cons.mp hy with hy1 | hy1
      · rw [hx1, hy1]
      · exact absurd (List.mem_map.mpr ⟨y, hy1, by rw [← e, hx1]⟩) nd.1
    · rcases List.mem_cons.mp hy with hy1 | hy1
      · exact absurd (List.mem_map.mpr ⟨x, hx1, by rw [e, hy1]⟩) nd.1
      · exact nodup_inj nd.2 hx1 hy1 e
theorem node_eq {f : GF L} (nd : (marks f).Nodup) {o : Option Int} {x y : Nd L} (hx : x ∈ nodes o f) (hy : y ∈ nodes o f) (e : x.m = y.m) : x = y :=
  nodup_inj (g := Nd.m) (by rw [nodes_m]; exact nd) hx hy e
theorem top_node : ∀ {f : GF L} {o : Option Int} {c : Int}, c ∈ topm f → ∃ y ∈ nodes o f, y.m = c ∧ y.o = o
  | .cons a k r, o, c, h => by
    simp only [topm, Fo.tops, List.map_cons, List.mem_cons] at h
    rcases h with h | h
    · exact ⟨_, List.mem_cons_self, h.symm, rfl⟩
    · obtain ⟨y, h1, h2⟩ := top_node (f := r) (o := o) h
      exact ⟨y, List.mem_cons_of_mem _ (List.mem_append_right _ h1), h2⟩
/-- a lower is a part, whose upper this one is -/
theorem kid_node : ∀ {f : GF L} {o : Option Int} {x : Nd L} {c : Int}, x ∈ nodes o f → c ∈ x.ks → ∃ y ∈ nodes o f, y.m = c ∧ y.o = some x.m
  | .cons a k r, o, x, c, h, hc => by
    simp only [nodes, List.mem_cons, List.mem_append] at h
    rcases h with rfl | h | h
    · obtain ⟨y, h1, h2⟩ := top_node (f := k) (o := some a.1) hc
      exact ⟨y, List.mem_cons_of_mem _ (List.mem_append_left _ h1), h2⟩
    · obtain ⟨y, h1, h2⟩ := kid_node h hc
      exact ⟨y, List.mem_cons_of_mem _ (List.mem_append_left _ h1), h2⟩
    · obtain ⟨y, h1, h2⟩ := kid_node h hc
      exact ⟨y, List.mem_cons_of_mem _ (List.mem_append_right _ h1), h2⟩
theorem over_node : ∀ {f : GF L} {o : Option Int} {y : Nd L} {u : Int}, y ∈ nodes o f → y.o = some u → (o = some u ∧ y.m ∈ topm f) ∨ ∃ x ∈ nodes o f, x.m = u ∧ y.m ∈ x.ks
  | .cons a k r, o, y, u, h, e => by
    simp only [nodes, List.mem_cons, List.mem_append] at h
    rcases h with rfl | h | h
    · exact .inl ⟨e, by simp [topm, Fo.tops]⟩
    · rcases over_node h e with ⟨h1, h2⟩ | ⟨x, h1, h2⟩
      · exact .inr ⟨_, List.mem_cons_self, Option.some.inj h1, h2⟩
      · exact .inr ⟨x, List.mem_cons_of_mem _ (List.mem_append_left _ h1), h2⟩
    · rcases over_node h e with ⟨h1, h2⟩ | ⟨x, h1, h2⟩
      · exact .inl ⟨h1, by simp only [topm, Fo.tops, List.map_cons, List.mem_cons]; exact .inr h2⟩
      · exact .inr ⟨x, List.mem_cons_of_mem _ (List.mem_append_right _ h1), h2⟩
theorem over_top {f : GF L} {y : Nd L} {u : Int} (h : y ∈ nodes none f) (e : y.o = some u) : ∃ x ∈ nodes none f, x.m = u ∧ y.m ∈ x.ks := by
  rcases over_node h e with ⟨h1, _⟩ | h1
  · cases h1
  · exact h1
theorem over_in : ∀ {f : GF L} {o : Option Int} {x : Nd L}, x ∈ nodes o f → x.o = o ∨ ∃ u ∈ marks f, x.o = some u
  | .cons a k r, o, x, h => by
    simp only [nodes, List.mem_cons, List.mem_append] at h
    rcases h with rfl | h | h
    · exact .inl rfl
    · rcases over_in h with h1 | ⟨u, h1, h2⟩
      · exact .inr ⟨a.1, by simp [marks, Fo.pre], h1⟩
      · exact .inr ⟨u, by simp only [marks, Fo.pre, List.map_cons, List.map_append, List.mem_cons, List.mem_append]; exact .inr (.inl h1), h2⟩
    · rcases over_in h with h1 | ⟨u, h1, h2⟩
      · exact .inl h1
      · exact .inr ⟨u, by simp only [marks, Fo.pre, List.map_cons, List.map_append, List.mem_cons, List.mem_append]; exact .inr (.inr h1), h2⟩
theorem nodup_cons3 {a : Int × L} {k r : GF L} (nd : (marks (Fo.cons a k r)).Nodup) : a.1 ∉ marks k ∧ a.1 ∉ marks r ∧ (marks k).Nodup ∧ (marks r).Nodup ∧ ∀ x ∈ marks k, x ∉ marks r := by
  simp only [marks, Fo.pre, List.map_cons, List.map_append, List.nodup_cons, List.mem_append, not_or, List.nodup_append] at nd
  exact ⟨nd.1.1, nd.1.2, nd.2.1, nd.2.2.1, fun x h1 h2 => nd.2.2.2 x h1 x h2 rfl⟩
/-- a later part is no earlier one's upper -/
theorem order : ∀ {f : GF L} {o : Option Int}, (marks f).Nodup → (∀ u, o = some u → u ∉ marks f) → (nodes o f).Pairwise fun x y => x.o ≠ some y.m
  | .nil, o, _, _ => List.Pairwise.nil
  | .cons a k r, o, nd, ho => by
    obtain ⟨n1, n2, n3, n4, n5⟩ := nodup_cons3 nd
    have mk : ∀ x, x ∈ marks (Fo.cons a k r) ↔ x = a.1 ∨ x ∈ marks k ∨ x ∈ marks r := fun x => by simp only [marks, Fo.pre, List.map_cons, List.map_append, List.mem_cons, List.mem_append]
    have ihk := order (f := k) (o := some a.1) n3 (fun u e => by cases e; exact n1)
    have ihr := order (f := r) (o := o) n4 (fun u e h => ho u e ((mk u).mpr (.inr (.inr h))))
    refine List.Pairwise.cons ?_ (List.pairwise_append.mpr ⟨ihk, ihr, ?_⟩)
    · intro y hy e
      refine ho y.m e ((mk _).mpr ?_)
      rcases List.mem_append.mp hy with h | h
      · exact .inr (.inl (node_mark h))
      · exact .inr (.inr (node_mark h))
    · intro x hx y hy e
      rcases over_in hx with h1 | ⟨u, h1, h2⟩
      · rw [h1] at e
        have : a.1 = y.m := Option.some.inj e
        exact n2 (this ▸ node_mark hy)
      · rw [h2] at e
        have : u = y.m := Option.some.inj e
        exact n5 u h1 (this ▸ node_mark hy)
theorem irrefl : ∀ {f : GF L} {o : Option Int}, (marks f).Nodup → (∀ u, o = some u → u ∉ marks f) → ∀ x ∈ nodes o f, x.o ≠ some x.m
  | .cons a k r, o, nd, ho, x, hx, e => by
    obtain ⟨n1, n2, n3, n4, n5⟩ := nodup_cons3 nd
    have mk : ∀ x, x ∈ marks (Fo.cons a k r) ↔ x = a.1 ∨ x ∈ marks k ∨ x ∈ marks r := fun x => by simp only [marks, Fo.pre, List.map_cons, List.map_append, List.mem_cons, List.mem_append]
    simp only [nodes, List.mem_cons, List.mem_append] at hx
    rcases hx with rfl | hx | hx
    · exact ho _ e ((mk _).mpr (.inl rfl))
    · exact irrefl (f := k) (o := some a.1) n3 (fun u e => by cases e; exact n1) x hx e
    · exact irrefl (f := r) (o := o) n4 (fun u e h => ho u e ((mk u).mpr (.inr (.inr h)))) x hx e
/-- lowers stand behind -/
theorem kid_behind {f : GF L} (nd : (marks f).Nodup) {A B : List (Nd L)} {x : Nd L} (e : nodes none f = A ++ x :: B) {c : Int} (hc : c ∈ x.ks) : c ∈ B.map (·.m) := by
  have hx : x ∈ nodes none f := by rw [e]; simp
  obtain ⟨y, hy, h1, h2⟩ := kid_node hx hc
  have ir := irrefl nd (fun u z => by cases z) y hy
  have po := order nd (o := none) (fun u z => by cases z)
  rw [e] at hy po
  rw [List.pairwise_append] at po
  rcases List.mem_append.mp hy with h | h
  · exact absurd h2 (po.2.2 y h x (by simp))
  · rcases List.mem_cons.mp h with rfl | h
    · exact absurd h2 ir
    · exact List.mem_map.mpr ⟨y, h, h1⟩
/-- an upper stands ahead -/
theorem over_ahead {f : GF L} (nd : (marks f).Nodup) {A B : List (Nd L)} {x : Nd L} (e : nodes none f = A ++ x :: B) {u : Int} (hu : x.o = some u) : u ∈ A.map (·.m) := by
  have hx : x ∈ nodes none f := by rw [e]; simp
  obtain ⟨y, hy, h1, h2⟩ := over_top hx hu
  have ir := irrefl nd (fun u z => by cases z) x hx
  have po := order nd (o := none) (fun u z => by cases z)
  rw [e] at hy po
  rw [List.pairwise_append] at po
  rcases List.mem_append.mp hy with h | h
  · exact List.mem_map.mpr ⟨y, h, h1⟩
  · rcases List.mem_cons.mp h with rfl | h
    · exact absurd (by rw [hu, h1]) ir
    · have := (List.pairwise_cons.mp po.2.1).1 y h
      exact absurd (by rw [hu, h1]) this

/-- the way up from a part -/
inductive Way (N : List (Nd L)) : Int → List Int → Prop
  | root {x : Nd L} : x ∈ N → x.o = none → Way N x.m [x.m]
  | up {x : Nd L} {u : Int} {w : List Int} : x ∈ N → x.o = some u → Way N u w → Way N x.m (x.m :: w)
theorem way_ex {N : List (Nd L)} : ∀ (f : GF L) (o : Option Int) (d : Nat), (∀ u, o = some u → ∃ w, Way N u w ∧ w.length + 1 = d) → (o = none → d = 1) → (∀ x ∈ nodes o f, x ∈ N) →
    ∀ (i : Nat) (x : Nd L) (e : Nat), (nodes o f)[i]? = some x → (f.dep d)[i]? = some e → ∃ w, Way N x.m w ∧ w.length = e
  | .nil, _, _, _, _, _, i, x, e, h, _ => by simp [nodes] at h
  | .cons a k r, o, d, ho, hn, hN, i, x, e, hx, he => by
    have hx0 : (⟨a.1, a.2, o, topm k⟩ : Nd L) ∈ N := hN _ List.mem_cons_self
    have here : ∃ w, Way N a.1 w ∧ w.length = d := by
      cases o with
      | none => exact ⟨[a.1], .root (x := ⟨a.1, a.2, none, topm k⟩) hx0 rfl, (hn rfl).symm⟩
      | some u =>
        obtain ⟨w, h1, h2⟩ := ho u rfl
        exact ⟨a.1 :: w, .up (x := ⟨a.1, a.2, some u, topm k⟩) hx0 rfl h1, h2⟩
    cases i with
    | zero =>
      simp [nodes] at hx
      simp [Fo.dep] at he
      subst hx; subst he
      exact here
    | succ i =>
      have hx' : (nodes (some a.1) k ++ nodes o r)[i]? = some x := by simpa [nodes] using hx
      have he' : (k.dep (d + 1) ++ r.dep d)[i]? = some e := by simpa [Fo.dep] using he
      by_cases hi : i < k.size
      · rw [List.getElem?_append_left (by rw [nodes_length]; exact hi)] at hx'
        rw [List.getElem?_append_left (by rw [Fo.dep_length]; exact hi)] at he'
        exact way_ex k (some a.1) (d + 1) (fun u z => by cases z; obtain ⟨w, h1, h2⟩ := here; exact ⟨w, h1, by omega⟩) (fun z => by cases z) (fun y hy => hN y (List.mem_cons_of_mem _ (List.mem_append_left _ hy))) i x e hx' he'
      · rw [List.getElem?_append_right (by rw [nodes_length]; omega), nodes_length] at hx'
        rw [List.getElem?_append_right (by rw [Fo.dep_length]; omega), Fo.dep_length] at he'
        exact way_ex r o d ho hn (fun y hy => hN y (List.mem_cons_of_mem _ (List.mem_append_right _ hy))) _ x e hx' he'
theorem Way.head {N : List (Nd L)} {m : Int} {w : List Int} (h : Way N m w) : ∃ w', w = m :: w' := by
  cases h with
  | root h1 h2 => exact ⟨[], rfl⟩
  | up h1 h2 h3 => exact ⟨_, rfl⟩
theorem Way.uniq {N : List (Nd L)} (inj : ∀ x ∈ N, ∀ y ∈ N, x.m = y.m → x = y) {m : Int} {w : List Int} (h : Way N m w) : ∀ {w'}, Way N m w' → w = w' := by
  have key : ∀ {m m' : Int} {w w' : List Int}, Way N m w → Way N m' w' → m = m' → w = w' := by
    intro m m' w w' h
    induction h generalizing m' w' with
    | root h1 h2 =>
      intro h' e
      cases h' with
      | root q1 q2 => rw [e]
      | up q1 q2 q3 =>
        have := inj _ h1 _ q1 e
        subst this; rw [h2] at q2; cases q2
    | up h1 h2 h3 ih =>
      intro h' e
      cases h' with
      | root q1 q2 =>
        have := inj _ h1 _ q1 e
        subst this; rw [q2] at h2; cases h2
      | up q1 q2 q3 =>
        have := inj _ h1 _ q1 e
        subst this
        rw [h2] at q2
        rw [ih q3 (Option.some.inj q2)]
  intro w' h'
  exact key h h' rfl
theorem Way.tail {N : List (Nd L)} {m : Int} {w : List Int} (h : Way N m w) : ∀ {i : Nat} {c : Int}, w[i]? = some c → Way N c (w.drop i) := by
  induction h with
  | root h1 h2 =>
    intro i c e
    cases i with
    | zero => simp at e; subst e; exact .root h1 h2
    | succ i => simp at e
  | up h1 h2 h3 ih =>
    intro i c e
    cases i with
    | zero => simp at e; subst e; exact .up h1 h2 h3
    | succ i => simpa using ih (by simpa using e)
theorem Way.nodup {N : List (Nd L)} (inj : ∀ x ∈ N, ∀ y ∈ N, x.m = y.m → x = y) {m : Int} {w : List Int} (h : Way N m w) : w.Nodup := by
  induction h with
  | root h1 h2 => simp
  | @up x u w h1 h2 h3 ih =>
    refine List.nodup_cons.mpr ⟨fun hm => ?_, ih⟩
    obtain ⟨i, hi⟩ := List.mem_iff_getElem?.mp hm
    have t := h3.tail hi
    have := (Way.up h1 h2 h3).uniq inj t
    have hl := congrArg List.length this
    rw [List.length_cons, List.length_drop] at hl
    omega
/-- behind a part on the way stands its upper -/
theorem Way.next {N : List (Nd L)} (inj : ∀ x ∈ N, ∀ y ∈ N, x.m = y.m → x = y) {m : Int} {w : List Int} (h : Way N m w) {i : Nat} {y : Nd L} {u : Int} (hy : y ∈ N) (hi : w[i]? = some y.m) (hu : y.o = some u) : w[i + 1]? = some u := by
  have t := h.tail hi
  have key : ∀ {c : Int} {v : List Int}, Way N c v → c = y.m → ∃ v', v = c :: u :: v' := by
    intro c v hv hc
    cases hv with
    | root q1 q2 =>
      have := inj _ q1 _ hy hc
      subst this; rw [hu] at q2; cases q2
    | up q1 q2 q3 =>
      have := inj _ q1 _ hy hc
      subst this
      rw [hu] at q2
      cases q2
      obtain ⟨v', e⟩ := q3.head
      exact ⟨v', by rw [e]⟩
  obtain ⟨v', e⟩ := key t rfl
  have e2 : (w.drop i)[1]? = some u := by rw [e]; rfl
  rw [List.getElem?_drop] at e2
  exact e2
theorem Way.mem {N : List (Nd L)} {m : Int} {w : List Int} (h : Way N m w) : ∀ c ∈ w, ∃ x ∈ N, x.m = c := by
  induction h with
  | root h1 h2 => intro c hc; simp at hc; subst hc; exact ⟨_, h1, rfl⟩
  | up h1 h2 h3 ih =>
    intro c hc
    rcases List.mem_cons.mp hc with rfl | hc
    · exact ⟨_, h1, rfl⟩
    · exact ih c hc
end Bg

/-! deeds upon forests; numbering -/
namespace Bg
variable {L : Type}
/-! ### one part changed -/
def alt (u : Int) (g : Int × L → GF L → (Int × L) × GF L) : GF L → GF L
  | .nil => .nil
  | .cons a k r => if a.1 = u then .cons (g a k).1 (g a k).2 r else .cons a (alt u g k) (alt u g r)
theorem alt_id {u : Int} {g : Int × L → GF L → (Int × L) × GF L} : ∀ {f : GF L}, u ∉ marks f → alt u g f = f
  | .nil, _ => rfl
  | .cons a k r, h => by
    simp only [marks, Fo.pre, List.map_cons, List.map_append, List.mem_cons, List.mem_append, not_or] at h
    show (if a.1 = u then _ else _) = _
    rw [if_neg (fun e => h.1 e.symm), alt_id h.2.1, alt_id h.2.2]
theorem alt_tops {u : Int} {g : Int × L → GF L → (Int × L) × GF L} (hg : ∀ a k, (g a k).1.1 = a.1) : ∀ f : GF L, topm (alt u g f) = topm f
  | .nil => rfl
  | .cons a k r => by
    show topm (if a.1 = u then _ else _) = _
    by_cases h : a.1 = u
    · rw [if_pos h]; simp only [topm, Fo.tops, List.map_cons, hg]
    · rw [if_neg h]
      have := alt_tops (u := u) hg r
      simp only [topm, Fo.tops, List.map_cons] at this ⊢
      rw [this]
/-- where a part stands: all that is said of it, and of the forest in which it is changed -/
theorem split {u : Int} {g : Int × L → GF L → (Int × L) × GF L} (hg : ∀ a k, (g a k).1.1 = a.1) : ∀ (f : GF L) (o : Option Int) (d : Nat), (marks f).Nodup → u ∈ marks f →
    ∃ (A B : List (Nd L)) (RA RB : List ((Int × L) × Nat)) (l : L) (ou : Option Int) (k : GF L) (e : Nat),
      nodes o f = A ++ ⟨u, l, ou, topm k⟩ :: (nodes (some u) k ++ B) ∧ f.rows d = RA ++ ((u, l), e) :: (k.rows (e + 1) ++ RB) ∧ A.length = RA.length ∧ d ≤ e ∧ (∀ x, RB[0]? = some x → x.2 ≤ e) ∧
      nodes o (alt u g f) = A ++ ⟨u, (g (u, l) k).1.2, ou, topm (g (u, l) k).2⟩ :: (nodes (some u) (g (u, l) k).2 ++ B) ∧ (alt u g f).rows d = RA ++ ((u, (g (u, l) k).1.2), e) :: ((g (u, l) k).2.rows (e + 1) ++ RB)
  | .nil, o, d, _, h => by simp [marks, Fo.pre] at h
  | .cons a k r, o, d, nd, h => by
    obtain ⟨n1, n2, n3, n4, n5⟩ := nodup_cons3 nd
    by_cases ha : a.1 = u
    · subst ha
      refine ⟨[], nodes o r, [], r.rows d, a.2, o, k, d, rfl, rfl, rfl, Nat.le_refl _, fun x hx => ?_, ?_, ?_⟩
      · cases r with
        | nil => simp [Fo.rows] at hx
        | cons b k2 r2 => simp [Fo.rows] at hx; subst hx; exact Nat.le_refl _
      · show nodes o (if a.1 = a.1 then _ else _) = _
        rw [if_pos rfl]
        have := hg a k
        show (⟨(g a k).1.1, _, o, _⟩ : Nd L) :: (nodes (some (g a k).1.1) _ ++ _) = _
        rw [this]; rfl
      · show Fo.rows d (if a.1 = a.1 then _ else _) = _
        rw [if_pos rfl]
        have e : (g a k).1 = (a.1, (g a k).1.2) := Prod.ext (hg a k) rfl
        exact congrArg (fun z => (z, d) :: (Fo.rows (d + 1) (g a k).2 ++ Fo.rows d r)) e
    · have ealt : alt u g (.cons a k r) = .cons a (alt u g k) (alt u g r) := if_neg ha
      rw [ealt]
      have h' : u ∈ marks k ∨ u ∈ marks r := by
        simp only [marks, Fo.pre, List.map_cons, List.map_append, List.mem_cons, List.mem_append] at h
        rcases h with h | h | h
        · exact absurd h.symm ha
        · exact .inl h
        · exact .inr h
      rcases h' with h' | h'
      · obtain ⟨A, B, RA, RB, l, ou, k', e, e1, e2, e3, e4, e5, e6, e7⟩ := split hg k (some a.1) (d + 1) n3 h'
        rw [alt_id (f := r) (n5 u h')]
        refine ⟨⟨a.1, a.2, o, topm k⟩ :: A, B ++ nodes o r, (a, d) :: RA, RB ++ r.rows d, l, ou, k', e, ?_, ?_, by simp [e3], by omega, ?_, ?_, ?_⟩
        · simp only [nodes, e1, List.cons_append, List.append_assoc]
        · simp only [Fo.rows, e2, List.cons_append, List.append_assoc]
        · intro x hx
          cases RB with
          | nil =>
            cases r with
            | nil => simp [Fo.rows] at hx
            | cons b k2 r2 => simp [Fo.rows] at hx; subst hx; show d ≤ e; omega
          | cons y ys => exact e5 x (by simpa using hx)
        · simp only [nodes, e6, List.cons_append, List.append_assoc, alt_tops hg]
        · simp only [Fo.rows, e7, List.cons_append, List.append_assoc]
      · obtain ⟨A, B, RA, RB, l, ou, k', e, e1, e2, e3, e4, e5, e6, e7⟩ := split hg r o d n4 h'
        rw [alt_id (f := k) (fun q => n5 u q h')]
        refine ⟨⟨a.1, a.2, o, topm k⟩ :: (nodes (some a.1) k ++ A), B, (a, d) :: (k.rows (d + 1) ++ RA), RB, l, ou, k', e, ?_, ?_, ?_, e4, e5, ?_, ?_⟩
        · simp only [nodes, e1, List.cons_append, List.append_assoc]
        · simp only [Fo.rows, e2, List.cons_append, List.append_assoc]
        · simp only [List.length_cons, List.length_append, e3, nodes_length, Fo.rows_length]
        · simp only [nodes, e6, List.cons_append, List.append_assoc]
        · simp only [Fo.rows, e7, List.cons_append, List.append_assoc]
/-! ### the three deeds -/
def insT (at_ : Nat) (x : Int × L) : GF L → GF L
  | .nil => .cons x .nil .nil
  | .cons a k r => match at_ with
    | 0 => .cons x .nil (.cons a k r)
    | n + 1 => .cons a k (insT n x r)
def delT (m : Int) : GF L → GF L
  | .nil => .nil
  | .cons a k r => if a.1 = m then r else .cons a k (delT m r)
def putF' (u : Int) (at_ : Nat) (x : Int × L) (f : GF L) : GF L := alt u (fun a k => (a, insT at_ x k)) f
def cutF (u m : Int) (f : GF L) : GF L := alt u (fun a k => (a, delT m k)) f
def renF (m : Int) (l : L) (f : GF L) : GF L := alt m (fun a k => ((a.1, l), k)) f
theorem insT_split (x : Int × L) (o : Option Int) (d : Nat) : ∀ (k : GF L) (at_ : Nat), at_ ≤ k.tops.length → ∃ (X Y : List (Nd L)) (RX RY : List ((Int × L) × Nat)),
    nodes o k = X ++ Y ∧ nodes o (insT at_ x k) = X ++ ⟨x.1, x.2, o, []⟩ :: Y ∧ k.rows d = RX ++ RY ∧ (insT at_ x k).rows d = RX ++ (x, d) :: RY ∧ X.length = RX.length ∧ topm (insT at_ x k) = (topm k).take at_ ++ x.1 :: (topm k).drop at_
  | .nil, n, h => by
    have : n = 0 := by simpa [Fo.tops] using h
    subst this
    exact ⟨[], [], [], [], rfl, rfl, rfl, rfl, rfl, rfl⟩
  | .cons a k r, 0, h => ⟨[], nodes o (.cons a k r), [], Fo.rows d (.cons a k r), rfl, rfl, rfl, rfl, rfl, rfl⟩
  | .cons a k r, n + 1, h => by
    obtain ⟨X, Y, RX, RY, e1, e2, e3, e4, e5, e6⟩ := insT_split x o d r n (by simpa [Fo.tops] using h)
    refine ⟨⟨a.1, a.2, o, topm k⟩ :: (nodes (some a.1) k ++ X), Y, (a, d) :: (k.rows (d + 1) ++ RX), RY, ?_, ?_, ?_, ?_, ?_, ?_⟩
    · simp only [nodes, e1, List.cons_append, List.append_assoc]
    · show nodes o (.cons a k (insT n x r)) = _
      simp only [nodes, e2, List.cons_append, List.append_assoc]
    · simp only [Fo.rows, e3, List.cons_append, List.append_assoc]
    · show Fo.rows d (.cons a k (insT n x r)) = _
      simp only [Fo.rows, e4, List.cons_append, List.append_assoc]
    · simp only [List.length_cons, List.length_append, e5, nodes_length, Fo.rows_length]
    · show a.1 :: topm (insT n x r) = _
      rw [e6]; rfl
theorem delT_split (m : Int) (o : Option Int) (d : Nat) : ∀ (k : GF L), m ∈ topm k → ∃ (X Y : List (Nd L)) (RX RY : List ((Int × L) × Nat)) (l : L) (km : GF L),
    nodes o k = X ++ ⟨m, l, o, topm km⟩ :: (nodes (some m) km ++ Y) ∧ nodes o (delT m k) = X ++ Y ∧ k.rows d = RX ++ ((m, l), d) :: (km.rows (d + 1) ++ RY) ∧ (delT m k).rows d = RX ++ RY ∧ X.length = RX.length ∧
    topm (delT m k) = (topm k).erase m ∧ ∀ x, RY[0]? = some x → x.2 ≤ d
  | .nil, h => by simp [topm, Fo.tops] at h
  | .cons a k r, h => by
    by_cases ha : a.1 = m
    · subst ha
      have ed : delT a.1 (Fo.cons a k r) = r := if_pos rfl
      rw [ed]
      refine ⟨[], nodes o r, [], r.rows d, a.2, k, rfl, rfl, rfl, rfl, rfl, ?_, fun x hx => ?_⟩
      · show topm r = (a.1 :: topm r).erase a.1
        rw [List.erase_cons_head]
      · cases r with
        | nil => simp [Fo.rows] at hx
        | cons b k2 r2 => simp [Fo.rows] at hx; subst hx; exact Nat.le_refl _
    · have ed : delT m (Fo.cons a k r) = .cons a k (delT m r) := if_neg ha
      rw [ed]
      obtain ⟨X, Y, RX, RY, l, km, e1, e2, e3, e4, e5, e6, e7⟩ := delT_split m o d r (by
        simp only [topm, Fo.tops, List.map_cons, List.mem_cons] at h
        rcases h with h | h
        · exact absurd h.symm ha
        · exact h)
      refine ⟨⟨a.1, a.2, o, topm k⟩ :: (nodes (some a.1) k ++ X), Y, (a, d) :: (k.rows (d + 1) ++ RX), RY, l, km, ?_, ?_, ?_, ?_, ?_, ?_, e7⟩
      · simp only [nodes, e1, List.cons_append, List.append_assoc]
      · simp only [nodes, e2, List.cons_append, List.append_assoc]
      · simp only [Fo.rows, e3, List.cons_append, List.append_assoc]
      · simp only [Fo.rows, e4, List.cons_append, List.append_assoc]
      · simp only [List.length_cons, List.length_append, e5, nodes_length, Fo.rows_length]
      · show a.1 :: topm (delT m r) = (a.1 :: topm r).erase m
        rw [e6, List.erase_cons_tail]
        exact fun z => ha (beq_iff_eq.mp z)

/-! ### uppers by places and by marks -/
theorem over_uppL (M : List Int) : ∀ (f : GF L) (o' : Option Nat) (n : Nat) (A B : List Int), M = A ++ (marks f ++ B) → A.length = n → (nodes (o'.bind (M[·]?)) f).map (·.o) = (f.uppL o' n).map fun u => u.bind (M[·]?)
  | .nil, _, _, _, _, _, _ => rfl
  | .cons a k r, o', n, A, B, e, hn => by
    have ha : M[n]? = some a.1 := by rw [e, ← hn]; simp [marks, Fo.pre]
    have i1 := over_uppL M k (some n) (n + 1) (A ++ [a.1]) (marks r ++ B) (by rw [e]; simp [marks, Fo.pre]) (by simp [hn])
    have i2 := over_uppL M r o' (n + 1 + k.size) (A ++ a.1 :: marks k) B (by rw [e]; simp [marks, Fo.pre]) (by simp [hn, marks, Fo.pre_length]; omega)
    have e3 : (some n).bind (M[·]?) = some a.1 := ha
    rw [e3] at i1
    simp only [nodes, Fo.uppL, List.map_cons, List.map_append, i1, i2]
/-- the upper of the p-th part is the part that the p-th upper tells -/
theorem over_at {f : GF L} {p : Nat} {x : Nd L} (h : (nodes none f)[p]? = some x) : x.o = (upp (f.dep 1) p).bind ((marks f)[·]?) := by
  have e := over_uppL (marks f) f none 0 [] [] (by simp) rfl
  have e1 : ((nodes none f).map (·.o))[p]? = some x.o := by rw [List.getElem?_map, h]; rfl
  have e2 : (none : Option Nat).bind ((marks f)[·]?) = none := rfl
  rw [e2] at e
  rw [e, List.getElem?_map, ← upps_forest] at e1
  unfold upp
  cases hu : (upps (f.dep 1))[p]? with
  | none => rw [hu] at e1; cases e1
  | some u => rw [hu] at e1; exact (Option.some.inj e1).symm

/-! ### numbering: the garden of a document -/
def num (n : Nat) : Fo L → GF L
  | .nil => .nil
  | .cons a k r => .cons ((n : Int), a) (num (n + 1) k) (num (n + 1 + k.size) r)
theorem num_map : ∀ (f : Fo L) (n : Nat), (num n f).map (·.2) = f
  | .nil, _ => rfl
  | .cons a k r, n => by simp only [num, Fo.map, num_map k, num_map r]
theorem num_size (f : Fo L) (n : Nat) : (num n f).size = f.size := by rw [← Fo.map_size (·.2), num_map]
theorem num_dep (f : Fo L) (n d : Nat) : (num n f).dep d = f.dep d := by rw [← Fo.map_dep (·.2), num_map]
theorem num_marks : ∀ (f : Fo L) (n : Nat), marks (num n f) = (List.range' n f.size).map fun (i : Nat) => (i : Int)
  | .nil, _ => rfl
  | .cons a k r, n => by
    have e : Fo.size (Fo.cons a k r) = (k.size + r.size) + 1 := by simp only [Fo.size]; omega
    rw [e, List.range'_succ, ← List.range'_append (step := 1)]
    simp only [num, marks, Fo.pre, List.map_cons, List.map_append]
    have h1 := num_marks k (n + 1)
    have h2 := num_marks r (n + 1 + k.size)
    simp only [marks] at h1 h2
    rw [h1, h2, Nat.one_mul]
theorem num_nodup (f : Fo L) (n : Nat) : (marks (num n f)).Nodup := by
  rw [num_marks]
  refine List.Pairwise.map _ (fun a b h => ?_) (List.nodup_range' (step := 1) (n := f.size) (s := n))
  omega
/-- the places at which an upper stands -/
def selL (p : Nat) : Nat → List (Option Nat) → List Nat
  | _, [] => []
  | n, u :: r => if u = some p then n :: selL p (n + 1) r else selL p (n + 1) r
theorem selL_append (p : Nat) : ∀ (a b : List (Option Nat)) (n : Nat), selL p n (a ++ b) = selL p n a ++ selL p (n + a.length) b
  | [], b, n => rfl
  | u :: a, b, n => by
    have ih := selL_append p a b (n + 1)
    have e : n + 1 + a.length = n + (u :: a).length := by rw [List.length_cons]; omega
    rw [e] at ih
    show (if u = some p then n :: selL p (n + 1) (a ++ b) else selL p (n + 1) (a ++ b)) = (if u = some p then n :: selL p (n + 1) a else selL p (n + 1) a) ++ _
    by_cases h : u = some p
    · rw [if_pos h, if_pos h, ih]; rfl
    · rw [if_neg h, if_neg h, ih]
theorem sel_out {p : Nat} : ∀ (f : Fo L) (o : Option Nat) (n : Nat), (p < n ∨ n + f.size ≤ p) → (selL p n (f.uppL o n)).map (fun (i : Nat) => (i : Int)) = if o = some p then topm (num n f) else []
  | .nil, o, n, _ => by
    by_cases h : o = some p
    · rw [if_pos h]; rfl
    · rw [if_neg h]; rfl
  | .cons a k r, o, n, h => by
    have hs : Fo.size (Fo.cons a k r) = 1 + k.size + r.size := rfl
    have i1 := sel_out (p := p) k (some n) (n + 1) (by omega)
    rw [if_neg (fun z => by have := Option.some.inj z; omega)] at i1
    have i2 := sel_out (p := p) r o (n + 1 + k.size) (by omega)
    have e0 : selL p (n + 1) (k.uppL (some n) (n + 1)) = [] := List.map_eq_nil_iff.mp i1
    have e1 : selL p (n + 1) (k.uppL (some n) (n + 1) ++ r.uppL o (n + 1 + k.size)) = selL p (n + 1 + k.size) (r.uppL o (n + 1 + k.size)) := by
      rw [selL_append, e0, Fo.uppL_length, List.nil_append]
    show (if o = some p then n :: selL p (n + 1) _ else selL p (n + 1) _).map _ = _
    rw [e1]
    by_cases ho : o = some p
    · rw [if_pos ho, if_pos ho, List.map_cons, i2, if_pos ho]; rfl
    · rw [if_neg ho, if_neg ho, i2, if_neg ho]
theorem sel_in {p : Nat} : ∀ (f : Fo L) (o : Option Nat) (oI : Option Int) (n : Nat), (∀ u, o = some u → u < n) → n ≤ p → ∀ x ∈ nodes oI (num n f), x.m = (p : Int) → x.ks = (selL p n (f.uppL o n)).map fun (i : Nat) => (i : Int)
  | .cons a k r, o, oI, n, ho, hp, x, hx, hm => by
    have hop : o ≠ some p := fun z => by have := ho p z; omega
    have mem : ∀ (g : Fo L) (q : Nat) (oo : Option Int), x ∈ nodes oo (num q g) → q ≤ p ∧ p < q + g.size := fun g q oo h => by
      have := node_mark h
      rw [num_marks, hm] at this
      obtain ⟨i, hi, e⟩ := List.mem_map.mp this
      have := List.mem_range'_1.mp hi
      omega
    have e1 : ∀ L1, (selL p n (o :: L1)) = selL p (n + 1) L1 := fun L1 => if_neg hop
    show x.ks = (selL p n (o :: _)).map _
    rw [e1, selL_append, Fo.uppL_length, List.map_append]
    simp only [num, nodes, List.mem_cons, List.mem_append] at hx
    rcases hx with rfl | hx | hx
    · have hnp : n = p := by
        have hm' : ((n : Nat) : Int) = (p : Int) := hm
        omega
      subst hnp
      rw [sel_out k (some n) (n + 1) (by omega), sel_out r o (n + 1 + k.size) (by omega), if_pos rfl, if_neg hop, List.append_nil]
    · have := mem k (n + 1) _ hx
      rw [← sel_in k (some n) _ (n + 1) (fun u z => by cases z; omega) this.1 x hx hm, sel_out r o (n + 1 + k.size) (by omega), if_neg hop, List.append_nil]
    · have := mem r (n + 1 + k.size) _ hx
      have hne : (some n : Option Nat) ≠ some p := fun z => by have := Option.some.inj z; omega
      rw [sel_out k (some n) (n + 1) (by omega), if_neg hne, List.nil_append]
      exact sel_in r o _ (n + 1 + k.size) (fun u z => by have := ho u z; omega) this.1 x hx hm
/-- the p-th part of a document's garden -/
theorem num_node {f : Fo L} {p : Nat} {x : Nd L} (h : (nodes none (num 0 f))[p]? = some x) :
    x.m = (p : Int) ∧ (f.pre)[p]? = some x.l ∧ x.o = (upp (f.dep 1) p).map (fun (i : Nat) => (i : Int)) ∧ x.ks = (selL p 0 (upps (f.dep 1))).map fun (i : Nat) => (i : Int) := by
  have hp : p < f.size := by
    have := (List.getElem?_eq_some_iff.mp h).1
    rw [nodes_length, num_size] at this; exact this
  have e1 : (marks (num 0 f))[p]? = some x.m := by rw [← nodes_m _ none, List.getElem?_map, h]; rfl
  have mk : ∀ i, i < f.size → (marks (num 0 f))[i]? = some (i : Int) := fun i hi => by
    rw [num_marks, List.getElem?_map, List.getElem?_range' (by exact hi)]; simp
  rw [mk p hp] at e1
  have hm : x.m = (p : Int) := (Option.some.inj e1).symm
  have e2 : ((nodes none (num 0 f)).map (·.l))[p]? = some x.l := by rw [List.getElem?_map, h]; rfl
  rw [nodes_l] at e2
  have e3 : (num 0 f).pre.map (·.2) = f.pre := by
    rw [← Fo.rows_fst _ 0, ← Fo.rows_fst f 0, List.map_map]
    have := Fo.rows_map (·.2) (num 0 f) 0
    rw [num_map] at this
    rw [this, List.map_map]; rfl
  rw [e3] at e2
  refine ⟨hm, e2, ?_, ?_⟩
  · rw [over_at h, num_dep]
    cases hu : upp (f.dep 1) p with
    | none => rfl
    | some u =>
      have hul : u < f.size := by
        unfold upp at hu
        cases hq : (upps (f.dep 1))[p]? with
        | none => rw [hq] at hu; cases hu
        | some v =>
          rw [hq] at hu
          have hv : v = some u := hu
          subst hv
          rw [upps_forest] at hq
          have key : ∀ (g : Fo L) (o : Option Nat) (n : Nat), (∀ u, o = some u → u < n) → ∀ u, some u ∈ g.uppL o n → u < n + g.size := by
            intro g
            induction g with
            | nil => intro o n _ u h; simp [Fo.uppL] at h
            | cons a k r ih1 ih2 =>
              intro o n ho u h
              have hs : Fo.size (Fo.cons a k r) = 1 + k.size + r.size := rfl
              simp only [Fo.uppL, List.mem_cons, List.mem_append] at h
              rcases h with h | h | h
              · have := ho u h.symm; omega
              · have := ih1 (some n) (n + 1) (fun v z => by cases z; omega) u h; omega
              · have := ih2 o (n + 1 + k.size) (fun v z => by have := ho v z; omega) u h; omega
          have := key f none 0 (fun u z => by cases z) u (List.mem_of_getElem? hq)
          omega
      show (marks (num 0 f))[u]? = some (u : Int)
      exact mk u hul
  · rw [upps_forest]
    exact sel_in f none none 0 (fun u z => by cases z) (Nat.zero_le _) x (List.mem_of_getElem? h) hm
end Bg

/-! masks; where steps hold and are full -/
namespace Bg
variable {L : Type}
/-- the number whose bits below n are told -/
def bitsOf : Nat → (Nat → Bool) → Nat
  | 0, _ => 0
  | n + 1, f => if f n = true then bitsOf n f ||| 2 ^ n else bitsOf n f
theorem bitsOf_test : ∀ (n : Nat) (f : Nat → Bool) (t : Nat), (bitsOf n f).testBit t = (decide (t < n) && f t)
  | 0, f, t => by simp [bitsOf]
  | n + 1, f, t => by
    have ih := bitsOf_test n f t
    show (if f n = true then bitsOf n f ||| 2 ^ n else bitsOf n f).testBit t = _
    by_cases h : f n = true
    · rw [if_pos h, Nat.testBit_or, ih, Nat.testBit_two_pow]
      by_cases e : n = t
      · subst e; simp [h]
      · rw [decide_eq_false e, Bool.or_false]
        congr 1
        exact decide_eq_decide.mpr (by omega)
    · rw [if_neg h, ih]
      by_cases e : n = t
      · subst e; simp [h]
      · congr 1
        exact decide_eq_decide.mpr (by omega)
theorem bitsOf_congr {n : Nat} {f g : Nat → Bool} (h : ∀ t, t < n → f t = g t) : bitsOf n f = bitsOf n g := by
  apply Nat.eq_of_testBit_eq
  intro t
  rw [bitsOf_test, bitsOf_test]
  by_cases e : t < n
  · rw [h t e]
  · rw [decide_eq_false e, Bool.false_and, Bool.false_and]
theorem bitsOf_fold (p c : Nat → Bool) : ∀ n, ((List.range n).filter p).foldl (fun a s => if c s = true then a ||| 2 ^ s else a) 0 = bitsOf n fun s => p s && c s
  | 0 => rfl
  | n + 1 => by
    rw [List.range_succ, List.filter_append, List.foldl_append, bitsOf_fold p c n]
    show _ = if (p n && c n) = true then _ else _
    by_cases h : p n = true
    · rw [List.filter_cons_of_pos h]
      show (if c n = true then _ else _) = _
      rw [h, Bool.true_and]
    · rw [List.filter_cons_of_neg h]
      have : p n = false := by simpa using h
      rw [this]; rfl
theorem sub_mask {a b : Nat} : a &&& b = a ↔ ∀ t, a.testBit t = true → b.testBit t = true := by
  constructor
  · intro h t ht
    rw [← h, Nat.testBit_and] at ht
    exact (Bool.and_eq_true_iff.mp ht).2
  · intro h
    apply Nat.eq_of_testBit_eq
    intro t
    rw [Nat.testBit_and]
    cases e : a.testBit t with
    | false => rfl
    | true => rw [h t e]; rfl
theorem ors_test (g : Int → Nat) (s : Nat) : ∀ (ks : List Int) (a : Nat), (ks.foldl (fun a c => a ||| g c) a).testBit s = true ↔ a.testBit s = true ∨ ∃ c ∈ ks, (g c).testBit s = true
  | [], a => by simp
  | k :: ks, a => by
    rw [List.foldl_cons, ors_test g s ks, Nat.testBit_or, Bool.or_eq_true, or_assoc]
    constructor
    · rintro (h | h | ⟨c, h1, h2⟩)
      · exact .inl h
      · exact .inr ⟨k, List.mem_cons_self, h⟩
      · exact .inr ⟨c, List.mem_cons_of_mem _ h1, h2⟩
    · rintro (h | ⟨c, h1, h2⟩)
      · exact .inl h
      · rcases List.mem_cons.mp h1 with rfl | h1
        · exact .inr (.inl h2)
        · exact .inr (.inr ⟨c, h1, h2⟩)

/-! ### questions -/
structure Qs (L : Type) where
  rows : List (Bool × L × Nat)
  goal : Nat
  ok : Valid (rows.map (·.2.2))
  lt : goal < rows.length
namespace Qs
variable (q : Qs L)
abbrev k : Nat := q.rows.length
abbrev ds : List Nat := q.rows.map (·.2.2)
def lab (s : Nat) : Option L := (q.rows[s]?).map (·.2.1)
def way (s : Nat) : Bool := ((q.rows[s]?).map (·.1)).getD false
def up (s : Nat) : Option Nat := upp q.ds s
theorem up_lt {q : Qs L} {t s : Nat} (h : q.up t = some s) : s < t ∧ t < q.k := by
  have := upp_lt q.ok h
  rw [List.length_map] at this
  exact this
end Qs
section
variable {ν : Type} (q : Qs L) (lb : ν → Option L) (ov : ν → Option ν)
def Holds (s : Nat) (n : ν) : Prop :=
  (∃ l, lb n = some l ∧ q.lab s = some l) ∧ ∀ t, (h : q.up t = some s) → (q.way t = true → ∃ c, ov c = some n ∧ Holds t c) ∧ (q.way t = false → ∃ c, Anc ov n c ∧ Holds t c)
termination_by q.k - s
decreasing_by all_goals (have := Qs.up_lt h; omega)
def Full (s : Nat) (n : ν) : Prop :=
  Holds q lb ov s n ∧ (q.up s = none → ov n = none ∨ q.way s = false) ∧ ∀ u, (h : q.up s = some u) → (q.way s = true → ∃ a, ov n = some a ∧ Full u a) ∧ (q.way s = false → ∃ a, Anc ov a n ∧ Full u a)
termination_by s
decreasing_by all_goals (have := Qs.up_lt h; omega)
end
section
variable {ν : Type} {q : Qs L} {lb : ν → Option L} {ov : ν → Option ν}
theorem holds_iff {s : Nat} {n : ν} : Holds q lb ov s n ↔ (∃ l, lb n = some l ∧ q.lab s = some l) ∧ ∀ t, q.up t = some s → (q.way t = true → ∃ c, ov c = some n ∧ Holds q lb ov t c) ∧ (q.way t = false → ∃ c, Anc ov n c ∧ Holds q lb ov t c) := by
  rw [Holds]
theorem full_iff {s : Nat} {n : ν} : Full q lb ov s n ↔ Holds q lb ov s n ∧ (q.up s = none → ov n = none ∨ q.way s = false) ∧ ∀ u, q.up s = some u → (q.way s = true → ∃ a, ov n = some a ∧ Full q lb ov u a) ∧ (q.way s = false → ∃ a, Anc ov a n ∧ Full q lb ov u a) := by
  rw [Full]
theorem Holds.lt {s : Nat} {n : ν} (h : Holds q lb ov s n) : s < q.k := by
  obtain ⟨⟨l, _, h1⟩, _⟩ := holds_iff.mp h
  unfold Qs.lab at h1
  cases e : q.rows[s]? with
  | none => rw [e] at h1; cases h1
  | some r => exact (List.getElem?_eq_some_iff.mp e).1
theorem Holds.dom {s : Nat} {n : ν} (h : Holds q lb ov s n) : lb n ≠ none := by
  obtain ⟨⟨l, h1, _⟩, _⟩ := holds_iff.mp h
  rw [h1]; simp
end
/-! ### two trees that are one -/
structure Alike {ν μ : Type} (lb : ν → Option L) (ov : ν → Option ν) (lb' : μ → Option L) (ov' : μ → Option μ) (φ : ν → μ) (dom : ν → Prop) : Prop where
  lab : ∀ n, dom n → lb' (φ n) = lb n
  over : ∀ n, dom n → ov' (φ n) = (ov n).map φ
  din : ∀ c n, ov c = some n → dom c ∧ dom n
  back : ∀ c' n', ov' c' = some n' → ∃ c, dom c ∧ φ c = c'
  inj : ∀ a b, dom a → dom b → φ a = φ b → a = b
section
variable {ν μ : Type} {q : Qs L} {lb : ν → Option L} {ov : ν → Option ν} {lb' : μ → Option L} {ov' : μ → Option μ} {φ : ν → μ} {dom : ν → Prop}
theorem Alike.kid (A : Alike lb ov lb' ov' φ dom) {c' : μ} {n : ν} (hn : dom n) (h : ov' c' = some (φ n)) : ∃ c, dom c ∧ φ c = c' ∧ ov c = some n := by
  obtain ⟨c, hc, rfl⟩ := A.back c' _ h
  rw [A.over c hc] at h
  cases e : ov c with
  | none => rw [e] at h; cases h
  | some x =>
    rw [e] at h
    have : x = n := A.inj x n (A.din c x e).2 hn (Option.some.inj h)
    exact ⟨c, hc, rfl, by rw [this] at e; exact e⟩
theorem Alike.anc (A : Alike lb ov lb' ov' φ dom) {a c : ν} (h : Anc ov a c) : Anc ov' (φ a) (φ c) ∧ dom a ∧ dom c := by
  induction h with
  | one e =>
    obtain ⟨d1, d2⟩ := A.din _ _ e
    exact ⟨.one (by rw [A.over _ d1, e]; rfl), d2, d1⟩
  | more e _ ih =>
    obtain ⟨d1, d2⟩ := A.din _ _ e
    exact ⟨.more (by rw [A.over _ d1, e]; rfl) ih.1, ih.2.1, d1⟩
theorem Alike.anc' (A : Alike lb ov lb' ov' φ dom) {a' c' : μ} (h : Anc ov' a' c') : ∃ a c, dom a ∧ dom c ∧ φ a = a' ∧ φ c = c' ∧ Anc ov a c := by
  have one : ∀ {a' c' : μ}, ov' c' = some a' → ∃ a c, dom a ∧ dom c ∧ φ a = a' ∧ φ c = c' ∧ ov c = some a := fun {a' c'} e => by
    obtain ⟨c, hc, rfl⟩ := A.back _ _ e
    rw [A.over c hc] at e
    cases h : ov c with
    | none => rw [h] at e; cases e
    | some x => rw [h] at e; exact ⟨x, c, (A.din c x h).2, hc, Option.some.inj e, rfl, h⟩
  induction h with
  | one e =>
    obtain ⟨a, c, h1, h2, h3, h4, h5⟩ := one e
    exact ⟨a, c, h1, h2, h3, h4, .one h5⟩
  | more e _ ih =>
    obtain ⟨b, c, h1, h2, h3, h4, h5⟩ := one e
    obtain ⟨a, b2, i1, i2, i3, i4, i5⟩ := ih
    have : b2 = b := A.inj _ _ i2 h1 (i4.trans h3.symm)
    subst this
    exact ⟨a, c, i1, h2, i3, h4, .more h5 i5⟩
theorem Alike.holds (A : Alike lb ov lb' ov' φ dom) : ∀ (j s : Nat), q.k - s ≤ j → ∀ n, dom n → (Holds q lb ov s n ↔ Holds q lb' ov' s (φ n))
  | j, s, hj, n, hn => by
    by_cases hs : s < q.k
    · rw [holds_iff, holds_iff, A.lab n hn]
      refine and_congr_right fun _ => forall_congr' fun t => forall_congr' fun ht => ?_
      have hlt := Qs.up_lt ht
      obtain ⟨j', rfl⟩ : ∃ j', j = j' + 1 := ⟨j - 1, by omega⟩
      have ih := fun c hc => Alike.holds A j' t (by omega) c hc
      refine and_congr (forall_congr' fun _ => ?_) (forall_congr' fun _ => ?_)
      · constructor
        · rintro ⟨c, h1, h2⟩
          have dc := (A.din _ _ h1).1
          exact ⟨φ c, by rw [A.over c dc, h1]; rfl, (ih c dc).mp h2⟩
        · rintro ⟨c', h1, h2⟩
          obtain ⟨c, hc, rfl, e⟩ := A.kid hn h1
          exact ⟨c, e, (ih c hc).mpr h2⟩
      · constructor
        · rintro ⟨c, h1, h2⟩
          obtain ⟨h3, _, dc⟩ := A.anc h1
          exact ⟨φ c, h3, (ih c dc).mp h2⟩
        · rintro ⟨c', h1, h2⟩
          obtain ⟨a, c, ha, hc, e1, rfl, h3⟩ := A.anc' h1
          have : a = n := A.inj _ _ ha hn e1
          subst this
          exact ⟨c, h3, (ih c hc).mpr h2⟩
    · exact ⟨fun h => absurd h.lt hs, fun h => absurd h.lt hs⟩
theorem Alike.full (A : Alike lb ov lb' ov' φ dom) : ∀ (j s : Nat), s ≤ j → ∀ n, dom n → (Full q lb ov s n ↔ Full q lb' ov' s (φ n))
  | j, s, hj, n, hn => by
    rw [full_iff, full_iff, A.holds (q.k - s) s (Nat.le_refl _) n hn, A.over n hn]
    refine and_congr_right fun _ => and_congr ?_ (forall_congr' fun u => forall_congr' fun hu => ?_)
    · refine forall_congr' fun _ => ?_
      cases ov n <;> simp
    have hlt := Qs.up_lt hu
    obtain ⟨j', rfl⟩ : ∃ j', j = j' + 1 := ⟨j - 1, by omega⟩
    have ih := fun c hc => Alike.full A j' u (by omega) c hc
    refine and_congr (forall_congr' fun _ => ?_) (forall_congr' fun _ => ?_)
    · constructor
      · rintro ⟨a, h1, h2⟩
        have da := (A.din _ _ h1).2
        exact ⟨φ a, by rw [h1]; rfl, (ih a da).mp h2⟩
      · rintro ⟨a', h1, h2⟩
        cases e : ov n with
        | none => rw [e] at h1; cases h1
        | some a =>
          rw [e] at h1
          have ea : φ a = a' := Option.some.inj h1
          subst ea
          exact ⟨a, rfl, (ih a (A.din _ _ e).2).mpr h2⟩
    · constructor
      · rintro ⟨a, h1, h2⟩
        obtain ⟨h3, da, _⟩ := A.anc h1
        exact ⟨φ a, h3, (ih a da).mp h2⟩
      · rintro ⟨a', h1, h2⟩
        obtain ⟨a, c, ha, hc, rfl, e1, h3⟩ := A.anc' h1
        have : c = n := A.inj _ _ hc hn e1
        subst this
        exact ⟨a, h3, (ih a ha).mpr h2⟩
end

/-! ### what a keeping reckons -/
section
variable [DecidableEq L] (q : Qs L)
def nearQ (s : Nat) : Nat := bitsOf q.k fun t => decide (q.up t = some s) && q.way t
def farQ (s : Nat) : Nat := bitsOf q.k fun t => decide (q.up t = some s) && !q.way t
def upM (l : L) (near far : Nat) : Nat := bitsOf q.k fun s => decide (q.lab s = some l) && (decide (nearQ q s &&& near = nearQ q s) && decide (farQ q s &&& far = farQ q s))
def standsQ (s : Nat) (first : Bool) (p : Nat × Nat) : Bool := match q.up s with
  | none => first || !q.way s
  | some u => if q.way s = true then p.1.testBit u else p.2.testBit u
def dnM (l : L) (d : Nat) (first : Bool) (p : Nat × Nat) : Nat := bitsOf q.k fun s => decide (q.lab s = some l) && (d.testBit s && standsQ q s first p)
end
structure Tb where
  D : Int → Nat
  B : Int → Nat
  P : Int → Nat × Nat
def nearOf (T : Tb) (ks : List Int) : Nat := ks.foldl (fun a c => a ||| T.D c) 0
def farOf (T : Tb) (ks : List Int) : Nat := ks.foldl (fun a c => a ||| (T.D c ||| T.B c)) 0
def pOf (T : Tb) : Option Int → Nat × Nat
  | none => (0, 0)
  | some u => T.P u
section
variable [DecidableEq L]
def upD (q : Qs L) (T : Tb) (x : Nd L) : Nat := upM q x.l (nearOf T x.ks) (farOf T x.ks)
def dnP (q : Qs L) (T : Tb) (x : Nd L) : Nat × Nat := (dnM q x.l (T.D x.m) x.o.isNone (pOf T x.o), dnM q x.l (T.D x.m) x.o.isNone (pOf T x.o) ||| (pOf T x.o).2)
structure LU (q : Qs L) (T : Tb) (x : Nd L) : Prop where
  d : T.D x.m = upD q T x
  b : T.B x.m = farOf T x.ks
def LD (q : Qs L) (T : Tb) (x : Nd L) : Prop := T.P x.m = dnP q T x
end

/-! ### the garden's tree -/
def nodeOf (f : GF L) (c : Int) : Option (Nd L) := (nodes none f).find? fun x => decide (x.m = c)
def ovF (f : GF L) (c : Int) : Option Int := (nodeOf f c).bind (·.o)
def lbF (f : GF L) (c : Int) : Option L := (nodeOf f c).map (·.l)
theorem nodeOf_eq {f : GF L} (nd : (marks f).Nodup) {x : Nd L} (h : x ∈ nodes none f) : nodeOf f x.m = some x := by
  unfold nodeOf
  cases e : (nodes none f).find? fun y => decide (y.m = x.m) with
  | none =>
    have := List.find?_eq_none.mp e x h
    simp at this
  | some y =>
    have h1 := List.find?_some e
    have h2 := List.mem_of_find?_eq_some e
    rw [node_eq nd h2 h (of_decide_eq_true h1)]
theorem of_nodeOf {f : GF L} {c : Int} {x : Nd L} (h : nodeOf f c = some x) : x ∈ nodes none f ∧ x.m = c :=
  have h' : (nodes none f).find? (fun x => decide (x.m = c)) = some x := h
  have h2 : (fun x : Nd L => decide (x.m = c)) x = true := List.find?_some (p := fun x : Nd L => decide (x.m = c)) h'
  ⟨List.mem_of_find?_eq_some h', of_decide_eq_true h2⟩
theorem ovF_eq {f : GF L} (nd : (marks f).Nodup) {x : Nd L} (h : x ∈ nodes none f) : ovF f x.m = x.o := by unfold ovF; rw [nodeOf_eq nd h]; rfl
theorem lbF_eq {f : GF L} (nd : (marks f).Nodup) {x : Nd L} (h : x ∈ nodes none f) : lbF f x.m = some x.l := by unfold lbF; rw [nodeOf_eq nd h]; rfl
theorem of_ovF {f : GF L} {c u : Int} (h : ovF f c = some u) : ∃ x ∈ nodes none f, x.m = c ∧ x.o = some u := by
  unfold ovF at h
  cases e : nodeOf f c with
  | none => rw [e] at h; cases h
  | some x => rw [e] at h; exact ⟨x, (of_nodeOf e).1, (of_nodeOf e).2, h⟩
theorem kid_iff {f : GF L} (nd : (marks f).Nodup) {x : Nd L} (h : x ∈ nodes none f) (c : Int) : c ∈ x.ks ↔ ovF f c = some x.m := by
  constructor
  · intro hc
    obtain ⟨y, hy, rfl, e⟩ := kid_node h hc
    rw [ovF_eq nd hy, e]
  · intro hc
    obtain ⟨y, hy, rfl, e⟩ := of_ovF hc
    obtain ⟨z, hz, e2, e3⟩ := over_top hy e
    rw [node_eq nd hz h e2] at e3
    exact e3
section
variable [DecidableEq L] {q : Qs L} {f : GF L} {T : Tb}
/-- beneath: by places from the end -/
theorem b_right (nd : (marks f).Nodup) (h : ∀ x ∈ nodes none f, LU q T x) (s : Nat) : ∀ x ∈ nodes none f, (T.B x.m).testBit s = true ↔ ∃ c, Anc (ovF f) x.m c ∧ (T.D c).testBit s = true := by
  have key : ∀ (B A : List (Nd L)), nodes none f = A ++ B → ∀ x ∈ B, ((T.B x.m).testBit s = true ↔ ∃ c, Anc (ovF f) x.m c ∧ (T.D c).testBit s = true) := by
    intro B
    induction B with
    | nil => intro A _ x hx; cases hx
    | cons y B ih =>
      intro A e x hx
      have ihB := ih (A ++ [y]) (by rw [e]; simp)
      rcases List.mem_cons.mp hx with rfl | hx
      · have hxN : x ∈ nodes none f := by rw [e]; simp
        rw [(h x hxN).b]
        have kids := kid_iff nd hxN
        unfold farOf
        rw [ors_test (fun c => T.D c ||| T.B c) s x.ks 0]
        simp only [Nat.zero_testBit, Bool.false_eq_true, false_or, Nat.testBit_or, Bool.or_eq_true]
        constructor
        · rintro ⟨c, hc, h1 | h1⟩
          · exact ⟨c, .one ((kids c).mp hc), h1⟩
          · obtain ⟨z, hz, rfl⟩ := List.mem_map.mp (kid_behind nd e hc)
            obtain ⟨b, h2, h3⟩ := (ihB z hz).mp h1
            exact ⟨b, (Anc.one ((kids _).mp hc)).trans h2, h3⟩
        · rintro ⟨c, h1, h2⟩
          obtain ⟨b, e1, h3⟩ := h1.top
          have hb := (kids b).mpr e1
          refine ⟨b, hb, ?_⟩
          rcases h3 with rfl | h3
          · exact .inl h2
          · obtain ⟨z, hz, rfl⟩ := List.mem_map.mp (kid_behind nd e hb)
            exact .inr ((ihB z hz).mpr ⟨c, h3, h2⟩)
      · exact ihB x hx
  exact fun x hx => key (nodes none f) [] rfl x hx
theorem d_right (nd : (marks f).Nodup) (h : ∀ x ∈ nodes none f, LU q T x) : ∀ (j s : Nat), q.k - s ≤ j → ∀ x ∈ nodes none f, (T.D x.m).testBit s = true ↔ Holds q (lbF f) (ovF f) s x.m
  | j, s, hj, x, hx => by
    rw [(h x hx).d, holds_iff, lbF_eq nd hx]
    unfold upD upM
    rw [bitsOf_test]
    by_cases hs : s < q.k
    · obtain ⟨j', rfl⟩ : ∃ j', j = j' + 1 := ⟨j - 1, by omega⟩
      have kids := kid_iff nd hx
      have bR := fun t => b_right nd h t x hx
      rw [(h x hx).b] at bR
      have ih : ∀ t, q.up t = some s → ∀ c, (∃ y ∈ nodes none f, y.m = c) → ((T.D c).testBit t = true ↔ Holds q (lbF f) (ovF f) t c) := fun t ht c ⟨y, hy, e⟩ => by
        have := Qs.up_lt ht
        rw [← e]
        exact d_right nd h j' t (by omega) y hy
      simp only [decide_eq_true hs, Bool.true_and, Bool.and_eq_true, decide_eq_true_eq, sub_mask]
      have hN : (∀ t, (nearQ q s).testBit t = true → (nearOf T x.ks).testBit t = true) ↔ ∀ t, q.up t = some s → q.way t = true → ∃ c, ovF f c = some x.m ∧ Holds q (lbF f) (ovF f) t c := by
        refine forall_congr' fun t => ?_
        unfold nearQ nearOf
        rw [bitsOf_test, ors_test]
        simp only [Nat.zero_testBit, Bool.false_eq_true, false_or, Bool.and_eq_true, decide_eq_true_eq]
        constructor
        · intro g ht hw
          obtain ⟨c, hc, h2⟩ := g ⟨(Qs.up_lt ht).2, ht, hw⟩
          obtain ⟨y, hy, e, _⟩ := kid_node hx hc
          exact ⟨c, (kids c).mp hc, (ih t ht c ⟨y, hy, e⟩).mp h2⟩
        · rintro g ⟨_, ht, hw⟩
          obtain ⟨c, hc, h2⟩ := g ht hw
          obtain ⟨y, hy, e, _⟩ := of_ovF hc
          exact ⟨c, (kids c).mpr hc, (ih t ht c ⟨y, hy, e⟩).mpr h2⟩
      have hF : (∀ t, (farQ q s).testBit t = true → (farOf T x.ks).testBit t = true) ↔ ∀ t, q.up t = some s → q.way t = false → ∃ c, Anc (ovF f) x.m c ∧ Holds q (lbF f) (ovF f) t c := by
        refine forall_congr' fun t => ?_
        rw [bR t]
        unfold farQ
        rw [bitsOf_test]
        simp only [Bool.and_eq_true, decide_eq_true_eq, Bool.not_eq_true']
        have dom : ∀ c, Anc (ovF f) x.m c → ∃ y ∈ nodes none f, y.m = c := fun c hc => by
          obtain ⟨b, e, _⟩ := hc.inv
          obtain ⟨y, hy, e, _⟩ := of_ovF e
          exact ⟨y, hy, e⟩
        constructor
        · intro g ht hw
          obtain ⟨c, hc, h2⟩ := g ⟨(Qs.up_lt ht).2, ht, hw⟩
          exact ⟨c, hc, (ih t ht c (dom c hc)).mp h2⟩
        · rintro g ⟨_, ht, hw⟩
          obtain ⟨c, hc, h2⟩ := g ht hw
          exact ⟨c, hc, (ih t ht c (dom c hc)).mpr h2⟩
      rw [hN, hF]
      constructor
      · rintro ⟨h1, h2, h3⟩
        exact ⟨⟨x.l, rfl, h1⟩, fun t ht => ⟨h2 t ht, h3 t ht⟩⟩
      · rintro ⟨⟨l, h1, h2⟩, h3⟩
        rw [← Option.some.inj h1] at h2
        exact ⟨h2, fun t ht => (h3 t ht).1, fun t ht => (h3 t ht).2⟩
    · rw [decide_eq_false hs, Bool.false_and]
      refine ⟨fun z => (by cases z), fun z => ?_⟩
      have : Holds q (lbF f) (ovF f) s x.m := holds_iff.mpr (by rw [lbF_eq nd hx]; exact z)
      exact absurd this.lt hs
/-- the second sets: by places from the start -/
theorem p_right (nd : (marks f).Nodup) (h : ∀ x ∈ nodes none f, LD q T x) (s : Nat) : ∀ x ∈ nodes none f, (T.P x.m).2.testBit s = true ↔ ((T.P x.m).1.testBit s = true ∨ ∃ a, Anc (ovF f) a x.m ∧ (T.P a).1.testBit s = true) := by
  have key : ∀ (n : Nat) (x : Nd L), (nodes none f)[n]? = some x → ((T.P x.m).2.testBit s = true ↔ ((T.P x.m).1.testBit s = true ∨ ∃ a, Anc (ovF f) a x.m ∧ (T.P a).1.testBit s = true)) := by
    intro n
    induction n using Nat.strongRecOn with
    | _ n ih =>
      intro x hx
      have hxN := List.mem_of_getElem? hx
      have e1 : T.P x.m = dnP q T x := h x hxN
      have e2 : (T.P x.m).2 = (T.P x.m).1 ||| (pOf T x.o).2 := by rw [e1]; rfl
      rw [e2, Nat.testBit_or, Bool.or_eq_true]
      refine or_congr_right ?_
      cases ho : x.o with
      | none =>
        show (0 : Nat).testBit s = true ↔ _
        refine ⟨fun z => absurd z (by simp), fun ⟨a, h1, _⟩ => ?_⟩
        obtain ⟨b, e, _⟩ := h1.inv
        rw [ovF_eq nd hxN, ho] at e; cases e
      | some u =>
        have hlen := (List.getElem?_eq_some_iff.mp hx).1
        have esp : nodes none f = (nodes none f).take n ++ x :: (nodes none f).drop (n + 1) := by
          have : (nodes none f)[n] = x := by
            have := List.getElem?_eq_getElem hlen
            rw [hx] at this; exact (Option.some.inj this).symm
          rw [← this, ← List.drop_eq_getElem_cons hlen, List.take_append_drop]
        obtain ⟨y, hy, rfl⟩ := List.mem_map.mp (over_ahead nd esp ho)
        obtain ⟨i, hi⟩ := List.mem_iff_getElem?.mp hy
        have hin : i < n := by
          have := (List.getElem?_eq_some_iff.mp hi).1
          rw [List.length_take] at this; omega
        rw [List.getElem?_take, if_pos hin] at hi
        show (T.P y.m).2.testBit s = true ↔ _
        rw [ih i hin y hi]
        have eo : ovF f x.m = some y.m := by rw [ovF_eq nd hxN, ho]
        constructor
        · rintro (h1 | ⟨a, h1, h2⟩)
          · exact ⟨y.m, .one eo, h1⟩
          · exact ⟨a, .more eo h1, h2⟩
        · rintro ⟨a, h1, h2⟩
          obtain ⟨b, e, h3⟩ := h1.inv
          rw [eo] at e
          have eb : y.m = b := Option.some.inj e
          subst eb
          rcases h3 with rfl | h3
          · exact .inl h2
          · exact .inr ⟨a, h3, h2⟩
  intro x hx
  obtain ⟨n, hn⟩ := List.mem_iff_getElem?.mp hx
  exact key n x hn
theorem f_right (nd : (marks f).Nodup) (hU : ∀ x ∈ nodes none f, LU q T x) (h : ∀ x ∈ nodes none f, LD q T x) : ∀ (j s : Nat), s ≤ j → ∀ x ∈ nodes none f, (T.P x.m).1.testBit s = true ↔ Full q (lbF f) (ovF f) s x.m
  | j, s, hj, x, hx => by
    have e1 : T.P x.m = dnP q T x := h x hx
    rw [full_iff, ← d_right nd hU (q.k - s) s (Nat.le_refl _) x hx, e1]
    show (dnM q x.l (T.D x.m) x.o.isNone (pOf T x.o)).testBit s = true ↔ _
    unfold dnM
    rw [bitsOf_test]
    simp only [Bool.and_eq_true, decide_eq_true_eq]
    have hD : (T.D x.m).testBit s = true → s < q.k ∧ q.lab s = some x.l := fun z => by
      have hh := (d_right nd hU (q.k - s) s (Nat.le_refl _) x hx).mp z
      refine ⟨hh.lt, ?_⟩
      obtain ⟨⟨l, h1, h2⟩, _⟩ := holds_iff.mp hh
      rw [lbF_eq nd hx] at h1
      rw [← Option.some.inj h1] at h2; exact h2
    have hS : standsQ q s x.o.isNone (pOf T x.o) = true ↔ ((q.up s = none → ovF f x.m = none ∨ q.way s = false) ∧ ∀ u, q.up s = some u → (q.way s = true → ∃ a, ovF f x.m = some a ∧ Full q (lbF f) (ovF f) u a) ∧ (q.way s = false → ∃ a, Anc (ovF f) a x.m ∧ Full q (lbF f) (ovF f) u a)) := by
      unfold standsQ
      cases hu : q.up s with
      | none =>
        rw [ovF_eq nd hx]
        simp only [Bool.or_eq_true, Option.isNone_iff_eq_none, Bool.not_eq_true', forall_const, reduceCtorEq, false_implies, and_true]
      | some u =>
        have hlt := Qs.up_lt hu
        obtain ⟨j', rfl⟩ : ∃ j', j = j' + 1 := ⟨j - 1, by omega⟩
        have ih := fun y hy => f_right nd hU h j' u (by omega) y hy
        have red : ((some u = none → ovF f x.m = none ∨ q.way s = false) ∧ ∀ v, some u = some v → (q.way s = true → ∃ a, ovF f x.m = some a ∧ Full q (lbF f) (ovF f) v a) ∧ (q.way s = false → ∃ a, Anc (ovF f) a x.m ∧ Full q (lbF f) (ovF f) v a)) ↔
            ((q.way s = true → ∃ a, ovF f x.m = some a ∧ Full q (lbF f) (ovF f) u a) ∧ (q.way s = false → ∃ a, Anc (ovF f) a x.m ∧ Full q (lbF f) (ovF f) u a)) :=
          ⟨fun z => z.2 u rfl, fun z => ⟨fun w => (by cases w), fun v w => (by cases w; exact z)⟩⟩
        rw [red]
        show (if q.way s = true then (pOf T x.o).1.testBit u else (pOf T x.o).2.testBit u) = true ↔ _
        cases hw : q.way s with
        | true =>
          rw [if_pos rfl]
          simp only [forall_const, reduceCtorEq, false_implies, and_true]
          rw [ovF_eq nd hx]
          cases ho : x.o with
          | none => simp [pOf]
          | some v =>
            obtain ⟨y, hy, rfl, _⟩ := over_top hx ho
            show (T.P y.m).1.testBit u = true ↔ _
            rw [ih y hy]
            exact ⟨fun z => ⟨y.m, rfl, z⟩, fun ⟨a, z1, z2⟩ => by rw [Option.some.inj z1]; exact z2⟩
        | false =>
          rw [if_neg (by decide)]
          simp only [forall_const, reduceCtorEq, false_implies, true_and]
          cases ho : x.o with
          | none =>
            refine ⟨fun z => absurd z (by simp [pOf]), fun ⟨a, h1, _⟩ => ?_⟩
            obtain ⟨b, e, _⟩ := h1.inv
            rw [ovF_eq nd hx, ho] at e; cases e
          | some v =>
            obtain ⟨y, hy, rfl, _⟩ := over_top hx ho
            show (T.P y.m).2.testBit u = true ↔ _
            rw [p_right nd h u y hy]
            have eo : ovF f x.m = some y.m := by rw [ovF_eq nd hx, ho]
            constructor
            · rintro (h1 | ⟨a, h1, h2⟩)
              · exact ⟨y.m, .one eo, (ih y hy).mp h1⟩
              · obtain ⟨b, e, _⟩ := h1.top
                have : ∃ z ∈ nodes none f, z.m = a := by
                  obtain ⟨w, hw, e1, e2⟩ := of_ovF e
                  obtain ⟨z, hz, e3, _⟩ := over_top hw e2
                  exact ⟨z, hz, e3⟩
                obtain ⟨z, hz, rfl⟩ := this
                exact ⟨z.m, .more eo h1, (ih z hz).mp h2⟩
            · rintro ⟨a, h1, h2⟩
              have hd : ∃ z ∈ nodes none f, z.m = a := by
                obtain ⟨b, e, _⟩ := h1.top
                obtain ⟨w, hw, e1, e2⟩ := of_ovF e
                obtain ⟨z, hz, e3, _⟩ := over_top hw e2
                exact ⟨z, hz, e3⟩
              obtain ⟨z, hz, rfl⟩ := hd
              obtain ⟨b, e, h3⟩ := h1.inv
              rw [eo] at e
              have eb : y.m = b := Option.some.inj e
              subst eb
              rcases h3 with h3 | h3
              · exact .inl (by rw [← h3]; exact (ih z hz).mpr h2)
              · exact .inr ⟨z.m, h3, (ih z hz).mpr h2⟩
    rw [hS]
    exact ⟨fun z => ⟨z.2.2.1, z.2.2.2⟩, fun z => ⟨(hD z.1).1, (hD z.1).2, z.1, z.2⟩⟩
end
end Bg

set_option Elab.async false
set_option linter.all false
set_option maxRecDepth 100000
set_option maxHeartbeats 4000000
/-! the text by places, what the head tells -/
namespace Bg
open PySem PySem.Spec PyProof.Rows L2
def top (i : Nat) : Stmt := PySem.Challenge.pw_boughask_k84_whole_gardens.main.body.getD i (.Pass ⟨0, 0, 0, 0⟩)
abbrev s_TooMany_init : Stmt := inClass (top 10) 0
abbrev s_TooDeep_init : Stmt := inClass (top 11) 0
abbrev s_is_whole : Stmt := top 16
abbrev s_is_within : Stmt := top 17
abbrev s_is_label : Stmt := top 18
abbrev s_ends_by : Stmt := top 22
abbrev s_uppers_by : Stmt := top 23
abbrev s_is_part_row : Stmt := top 24
abbrev s_Document_init : Stmt := inClass (top 25) 0
abbrev s_Document_need_part : Stmt := inClass (top 25) 1
abbrev s_Document_many : Stmt := inClass (top 25) 2
abbrev s_Document_label_of : Stmt := inClass (top 25) 3
abbrev s_Document_depth_of : Stmt := inClass (top 25) 4
abbrev s_Document_end_of : Stmt := inClass (top 25) 5
abbrev s_Document_upper_of : Stmt := inClass (top 25) 6
abbrev s_Document_lowers_of : Stmt := inClass (top 25) 7
abbrev s_Document_parts_of : Stmt := inClass (top 25) 9
abbrev s_Document_rows : Stmt := inClass (top 25) 10
abbrev s_Plant_init : Stmt := inClass (top 30) 0
abbrev s_Keeping_init : Stmt := inClass (top 31) 0
abbrev s_Keeping_look_up : Stmt := inClass (top 31) 1
abbrev s_Keeping_stands : Stmt := inClass (top 31) 2
abbrev s_Keeping_look_down : Stmt := inClass (top 31) 3
abbrev s_Keeping_mend : Stmt := inClass (top 31) 4
abbrev s_Keeping_forget : Stmt := inClass (top 31) 5
abbrev s_Garden_init : Stmt := inClass (top 32) 0
abbrev s_Garden_beneath_too : Stmt := inClass (top 32) 1
abbrev s_Garden_marks : Stmt := inClass (top 32) 2
abbrev s_Garden_way_up : Stmt := inClass (top 32) 3
abbrev s_Garden_document : Stmt := inClass (top 32) 4
abbrev s_Garden_need_part : Stmt := inClass (top 32) 5
abbrev s_Garden_put : Stmt := inClass (top 32) 6
abbrev s_Garden_take : Stmt := inClass (top 32) 7
abbrev s_Garden_name : Stmt := inClass (top 32) 8
abbrev s_Garden_mend_all : Stmt := inClass (top 32) 9
abbrev s_Garden_keep : Stmt := inClass (top 32) 10
abbrev s_Garden_keeping_at : Stmt := inClass (top 32) 11
abbrev s_Garden_answer : Stmt := inClass (top 32) 12
abbrev s_Garden_tables : Stmt := inClass (top 32) 13
abbrev s_Garden_looked : Stmt := inClass (top 32) 14
abbrev s_Straight_way : Stmt := inClass (top 35) 0
abbrev s_Anywhere_way : Stmt := inClass (top 36) 0
abbrev s_step_of : Stmt := top 37
abbrev s_is_step_row : Stmt := top 42
abbrev s_Question_init : Stmt := inClass (top 43) 0
abbrev s_Question_need_step : Stmt := inClass (top 43) 1
abbrev s_Question_many : Stmt := inClass (top 43) 2
abbrev s_Question_step_at : Stmt := inClass (top 43) 3
abbrev s_Question_upper_of : Stmt := inClass (top 43) 6
abbrev s_Question_lowers_of : Stmt := inClass (top 43) 7
abbrev s_Question_wanted : Stmt := inClass (top 43) 8
abbrev s_with_beneath : Stmt := top 45
abbrev s_with_above : Stmt := top 46
abbrev s_down_row : Stmt := top 47
abbrev s_full_row : Stmt := top 48
abbrev s_down_table : Stmt := top 49
abbrev s_full_table : Stmt := top 50
abbrev s_run_slow : Stmt := top 52
abbrev s__law_cell_at : Stmt := top 54
abbrev s__law_source : Stmt := top 55
abbrev s__law_take : Stmt := top 56
abbrev s__law_labels : Stmt := top 57
abbrev s__law_depth : Stmt := top 58
abbrev s__law_rows : Stmt := top 59
abbrev s__law_steps : Stmt := top 60
abbrev s__law_deed : Stmt := top 61
abbrev s__law_question : Stmt := top 62
abbrev s__law_kept : Stmt := top 63
abbrev s__law_right : Stmt := top 64
abbrev s__law_anew : Stmt := top 65
abbrev s__law_at_bound : Stmt := top 66
abbrev s_law : Stmt := top 67
abbrev s_Straight_init : Stmt := inClass (top 34) 0
abbrev s_Anywhere_init : Stmt := inClass (top 34) 0
abbrev at_TooMany_init : Str × Option Str := ("TooMany", some "__init__")
def d_TooMany_init : He.DefD := ⟨at_TooMany_init, "__init__", "TooMany.__init__", defArgs s_TooMany_init, defBody s_TooMany_init, defScope s_TooMany_init, [], []⟩
abbrev at_TooDeep_init : Str × Option Str := ("TooDeep", some "__init__")
def d_TooDeep_init : He.DefD := ⟨at_TooDeep_init, "__init__", "TooDeep.__init__", defArgs s_TooDeep_init, defBody s_TooDeep_init, defScope s_TooDeep_init, [], []⟩
abbrev at_is_whole : Str × Option Str := ("is_whole", none)
def d_is_whole : He.DefD := ⟨at_is_whole, "is_whole", "is_whole", defArgs s_is_whole, defBody s_is_whole, defScope s_is_whole, [], []⟩
abbrev at_is_within : Str × Option Str := ("is_within", none)
def d_is_within : He.DefD := ⟨at_is_within, "is_within", "is_within", defArgs s_is_within, defBody s_is_within, defScope s_is_within, [], []⟩
abbrev at_is_label : Str × Option Str := ("is_label", none)
def d_is_label : He.DefD := ⟨at_is_label, "is_label", "is_label", defArgs s_is_label, defBody s_is_label, defScope s_is_label, [], []⟩
abbrev at_ends_by : Str × Option Str := ("ends_by", none)
def d_ends_by : He.DefD := ⟨at_ends_by, "ends_by", "ends_by", defArgs s_ends_by, defBody s_ends_by, defScope s_ends_by, [], []⟩
abbrev at_uppers_by : Str × Option Str := ("uppers_by", none)
def d_uppers_by : He.DefD := ⟨at_uppers_by, "uppers_by", "uppers_by", defArgs s_uppers_by, defBody s_uppers_by, defScope s_uppers_by, [], []⟩
abbrev at_is_part_row : Str × Option Str := ("is_part_row", none)
def d_is_part_row : He.DefD := ⟨at_is_part_row, "is_part_row", "is_part_row", defArgs s_is_part_row, defBody s_is_part_row, defScope s_is_part_row, [], []⟩
abbrev at_Document_init : Str × Option Str := ("Document", some "__init__")
def d_Document_init : He.DefD := ⟨at_Document_init, "__init__", "Document.__init__", defArgs s_Document_init, defBody s_Document_init, defScope s_Document_init, [], []⟩
abbrev at_Document_need_part : Str × Option Str := ("Document", some "need_part")
def d_Document_need_part : He.DefD := ⟨at_Document_need_part, "need_part", "Document.need_part", defArgs s_Document_need_part, defBody s_Document_need_part, defScope s_Document_need_part, [], []⟩
abbrev at_Document_many : Str × Option Str := ("Document", some "many")
def d_Document_many : He.DefD := ⟨at_Document_many, "many", "Document.many", defArgs s_Document_many, defBody s_Document_many, defScope s_Document_many, [], []⟩
abbrev at_Document_label_of : Str × Option Str := ("Document", some "label_of")
def d_Document_label_of : He.DefD := ⟨at_Document_label_of, "label_of", "Document.label_of", defArgs s_Document_label_of, defBody s_Document_label_of, defScope s_Document_label_of, [], []⟩
abbrev at_Document_depth_of : Str × Option Str := ("Document", some "depth_of")
def d_Document_depth_of : He.DefD := ⟨at_Document_depth_of, "depth_of", "Document.depth_of", defArgs s_Document_depth_of, defBody s_Document_depth_of, defScope s_Document_depth_of, [], []⟩
abbrev at_Document_end_of : Str × Option Str := ("Document", some "end_of")
def d_Document_end_of : He.DefD := ⟨at_Document_end_of, "end_of", "Document.end_of", defArgs s_Document_end_of, defBody s_Document_end_of, defScope s_Document_end_of, [], []⟩
abbrev at_Document_upper_of : Str × Option Str := ("Document", some "upper_of")
def d_Document_upper_of : He.DefD := ⟨at_Document_upper_of, "upper_of", "Document.upper_of", defArgs s_Document_upper_of, defBody s_Document_upper_of, defScope s_Document_upper_of, [], []⟩
abbrev at_Document_lowers_of : Str × Option Str := ("Document", some "lowers_of")
def d_Document_lowers_of : He.DefD := ⟨at_Document_lowers_of, "lowers_of", "Document.lowers_of", defArgs s_Document_lowers_of, defBody s_Document_lowers_of, defScope s_Document_lowers_of, [], []⟩
abbrev at_Document_parts_of : Str × Option Str := ("Document", some "parts_of")
def d_Document_parts_of : He.DefD := ⟨at_Document_parts_of, "parts_of", "Document.parts_of", defArgs s_Document_parts_of, defBody s_Document_parts_of, defScope s_Document_parts_of, [], []⟩
abbrev at_Document_rows : Str × Option Str := ("Document", some "rows")
def d_Document_rows : He.DefD := ⟨at_Document_rows, "rows", "Document.rows", defArgs s_Document_rows, defBody s_Document_rows, defScope s_Document_rows, [], []⟩
abbrev at_Plant_init : Str × Option Str := ("Plant", some "__init__")
def d_Plant_init : He.DefD := ⟨at_Plant_init, "__init__", "Plant.__init__", defArgs s_Plant_init, defBody s_Plant_init, defScope s_Plant_init, [], []⟩
abbrev at_Keeping_init : Str × Option Str := ("Keeping", some "__init__")
def d_Keeping_init : He.DefD := ⟨at_Keeping_init, "__init__", "Keeping.__init__", defArgs s_Keeping_init, defBody s_Keeping_init, defScope s_Keeping_init, [], []⟩
abbrev at_Keeping_look_up : Str × Option Str := ("Keeping", some "look_up")
def d_Keeping_look_up : He.DefD := ⟨at_Keeping_look_up, "look_up", "Keeping.look_up", defArgs s_Keeping_look_up, defBody s_Keeping_look_up, defScope s_Keeping_look_up, [], []⟩
abbrev at_Keeping_stands : Str × Option Str := ("Keeping", some "stands")
def d_Keeping_stands : He.DefD := ⟨at_Keeping_stands, "stands", "Keeping.stands", defArgs s_Keeping_stands, defBody s_Keeping_stands, defScope s_Keeping_stands, [], []⟩
abbrev at_Keeping_look_down : Str × Option Str := ("Keeping", some "look_down")
def d_Keeping_look_down : He.DefD := ⟨at_Keeping_look_down, "look_down", "Keeping.look_down", defArgs s_Keeping_look_down, defBody s_Keeping_look_down, defScope s_Keeping_look_down, [], []⟩
abbrev at_Keeping_mend : Str × Option Str := ("Keeping", some "mend")
def d_Keeping_mend : He.DefD := ⟨at_Keeping_mend, "mend", "Keeping.mend", defArgs s_Keeping_mend, defBody s_Keeping_mend, defScope s_Keeping_mend, [], []⟩
abbrev at_Keeping_forget : Str × Option Str := ("Keeping", some "forget")
def d_Keeping_forget : He.DefD := ⟨at_Keeping_forget, "forget", "Keeping.forget", defArgs s_Keeping_forget, defBody s_Keeping_forget, defScope s_Keeping_forget, [], []⟩
abbrev at_Garden_init : Str × Option Str := ("Garden", some "__init__")
def d_Garden_init : He.DefD := ⟨at_Garden_init, "__init__", "Garden.__init__", defArgs s_Garden_init, defBody s_Garden_init, defScope s_Garden_init, [], []⟩
abbrev at_Garden_beneath_too : Str × Option Str := ("Garden", some "beneath_too")
def d_Garden_beneath_too : He.DefD := ⟨at_Garden_beneath_too, "beneath_too", "Garden.beneath_too", defArgs s_Garden_beneath_too, defBody s_Garden_beneath_too, defScope s_Garden_beneath_too, [], []⟩
abbrev at_Garden_marks : Str × Option Str := ("Garden", some "marks")
def d_Garden_marks : He.DefD := ⟨at_Garden_marks, "marks", "Garden.marks", defArgs s_Garden_marks, defBody s_Garden_marks, defScope s_Garden_marks, [], []⟩
abbrev at_Garden_way_up : Str × Option Str := ("Garden", some "way_up")
def d_Garden_way_up : He.DefD := ⟨at_Garden_way_up, "way_up", "Garden.way_up", defArgs s_Garden_way_up, defBody s_Garden_way_up, defScope s_Garden_way_up, [], []⟩
abbrev at_Garden_document : Str × Option Str := ("Garden", some "document")
def d_Garden_document : He.DefD := ⟨at_Garden_document, "document", "Garden.document", defArgs s_Garden_document, defBody s_Garden_document, defScope s_Garden_document, [], []⟩
abbrev at_Garden_need_part : Str × Option Str := ("Garden", some "need_part")
def d_Garden_need_part : He.DefD := ⟨at_Garden_need_part, "need_part", "Garden.need_part", defArgs s_Garden_need_part, defBody s_Garden_need_part, defScope s_Garden_need_part, [], []⟩
abbrev at_Garden_put : Str × Option Str := ("Garden", some "put")
def d_Garden_put : He.DefD := ⟨at_Garden_put, "put", "Garden.put", defArgs s_Garden_put, defBody s_Garden_put, defScope s_Garden_put, [], []⟩
abbrev at_Garden_take : Str × Option Str := ("Garden", some "take")
def d_Garden_take : He.DefD := ⟨at_Garden_take, "take", "Garden.take", defArgs s_Garden_take, defBody s_Garden_take, defScope s_Garden_take, [], []⟩
abbrev at_Garden_name : Str × Option Str := ("Garden", some "name")
def d_Garden_name : He.DefD := ⟨at_Garden_name, "name", "Garden.name", defArgs s_Garden_name, defBody s_Garden_name, defScope s_Garden_name, [], []⟩
abbrev at_Garden_mend_all : Str × Option Str := ("Garden", some "mend_all")
def d_Garden_mend_all : He.DefD := ⟨at_Garden_mend_all, "mend_all", "Garden.mend_all", defArgs s_Garden_mend_all, defBody s_Garden_mend_all, defScope s_Garden_mend_all, [], []⟩
abbrev at_Garden_keep : Str × Option Str := ("Garden", some "keep")
def d_Garden_keep : He.DefD := ⟨at_Garden_keep, "keep", "Garden.keep", defArgs s_Garden_keep, defBody s_Garden_keep, defScope s_Garden_keep, [], []⟩
abbrev at_Garden_keeping_at : Str × Option Str := ("Garden", some "keeping_at")
def d_Garden_keeping_at : He.DefD := ⟨at_Garden_keeping_at, "keeping_at", "Garden.keeping_at", defArgs s_Garden_keeping_at, defBody s_Garden_keeping_at, defScope s_Garden_keeping_at, [], []⟩
abbrev at_Garden_answer : Str × Option Str := ("Garden", some "answer")
def d_Garden_answer : He.DefD := ⟨at_Garden_answer, "answer", "Garden.answer", defArgs s_Garden_answer, defBody s_Garden_answer, defScope s_Garden_answer, [], []⟩
abbrev at_Garden_tables : Str × Option Str := ("Garden", some "tables")
def d_Garden_tables : He.DefD := ⟨at_Garden_tables, "tables", "Garden.tables", defArgs s_Garden_tables, defBody s_Garden_tables, defScope s_Garden_tables, [], []⟩
abbrev at_Garden_looked : Str × Option Str := ("Garden", some "looked")
def d_Garden_looked : He.DefD := ⟨at_Garden_looked, "looked", "Garden.looked", defArgs s_Garden_looked, defBody s_Garden_looked, defScope s_Garden_looked, [], []⟩
abbrev at_Straight_way : Str × Option Str := ("Straight", some "way")
def d_Straight_way : He.DefD := ⟨at_Straight_way, "way", "Straight.way", defArgs s_Straight_way, defBody s_Straight_way, defScope s_Straight_way, [], []⟩
abbrev at_Anywhere_way : Str × Option Str := ("Anywhere", some "way")
def d_Anywhere_way : He.DefD := ⟨at_Anywhere_way, "way", "Anywhere.way", defArgs s_Anywhere_way, defBody s_Anywhere_way, defScope s_Anywhere_way, [], []⟩
abbrev at_step_of : Str × Option Str := ("step_of", none)
def d_step_of : He.DefD := ⟨at_step_of, "step_of", "step_of", defArgs s_step_of, defBody s_step_of, defScope s_step_of, [], []⟩
abbrev at_is_step_row : Str × Option Str := ("is_step_row", none)
def d_is_step_row : He.DefD := ⟨at_is_step_row, "is_step_row", "is_step_row", defArgs s_is_step_row, defBody s_is_step_row, defScope s_is_step_row, [], []⟩
abbrev at_Question_init : Str × Option Str := ("Question", some "__init__")
def d_Question_init : He.DefD := ⟨at_Question_init, "__init__", "Question.__init__", defArgs s_Question_init, defBody s_Question_init, defScope s_Question_init, [], []⟩
abbrev at_Question_need_step : Str × Option Str := ("Question", some "need_step")
def d_Question_need_step : He.DefD := ⟨at_Question_need_step, "need_step", "Question.need_step", defArgs s_Question_need_step, defBody s_Question_need_step, defScope s_Question_need_step, [], []⟩
abbrev at_Question_many : Str × Option Str := ("Question", some "many")
def d_Question_many : He.DefD := ⟨at_Question_many, "many", "Question.many", defArgs s_Question_many, defBody s_Question_many, defScope s_Question_many, [], []⟩
abbrev at_Question_step_at : Str × Option Str := ("Question", some "step_at")
def d_Question_step_at : He.DefD := ⟨at_Question_step_at, "step_at", "Question.step_at", defArgs s_Question_step_at, defBody s_Question_step_at, defScope s_Question_step_at, [], []⟩
abbrev at_Question_upper_of : Str × Option Str := ("Question", some "upper_of")
def d_Question_upper_of : He.DefD := ⟨at_Question_upper_of, "upper_of", "Question.upper_of", defArgs s_Question_upper_of, defBody s_Question_upper_of, defScope s_Question_upper_of, [], []⟩
abbrev at_Question_lowers_of : Str × Option Str := ("Question", some "lowers_of")
def d_Question_lowers_of : He.DefD := ⟨at_Question_lowers_of, "lowers_of", "Question.lowers_of", defArgs s_Question_lowers_of, defBody s_Question_lowers_of, defScope s_Question_lowers_of, [], []⟩
abbrev at_Question_wanted : Str × Option Str := ("Question", some "wanted")
def d_Question_wanted : He.DefD := ⟨at_Question_wanted, "wanted", "Question.wanted", defArgs s_Question_wanted, defBody s_Question_wanted, defScope s_Question_wanted, [], []⟩
abbrev at_with_beneath : Str × Option Str := ("with_beneath", none)
def d_with_beneath : He.DefD := ⟨at_with_beneath, "with_beneath", "with_beneath", defArgs s_with_beneath, defBody s_with_beneath, defScope s_with_beneath, [], []⟩
abbrev at_with_above : Str × Option Str := ("with_above", none)
def d_with_above : He.DefD := ⟨at_with_above, "with_above", "with_above", defArgs s_with_above, defBody s_with_above, defScope s_with_above, [], []⟩
abbrev at_down_row : Str × Option Str := ("down_row", none)
def d_down_row : He.DefD := ⟨at_down_row, "down_row", "down_row", defArgs s_down_row, defBody s_down_row, defScope s_down_row, [], []⟩
abbrev at_full_row : Str × Option Str := ("full_row", none)
def d_full_row : He.DefD := ⟨at_full_row, "full_row", "full_row", defArgs s_full_row, defBody s_full_row, defScope s_full_row, [], []⟩
abbrev at_down_table : Str × Option Str := ("down_table", none)
def d_down_table : He.DefD := ⟨at_down_table, "down_table", "down_table", defArgs s_down_table, defBody s_down_table, defScope s_down_table, [], []⟩
abbrev at_full_table : Str × Option Str := ("full_table", none)
def d_full_table : He.DefD := ⟨at_full_table, "full_table", "full_table", defArgs s_full_table, defBody s_full_table, defScope s_full_table, [], []⟩
abbrev at_run_slow : Str × Option Str := ("run_slow", none)
def d_run_slow : He.DefD := ⟨at_run_slow, "run_slow", "run_slow", defArgs s_run_slow, defBody s_run_slow, defScope s_run_slow, [], []⟩
abbrev at__law_cell_at : Str × Option Str := ("_law_cell_at", none)
def d__law_cell_at : He.DefD := ⟨at__law_cell_at, "_law_cell_at", "_law_cell_at", defArgs s__law_cell_at, defBody s__law_cell_at, defScope s__law_cell_at, [], []⟩
abbrev at__law_source : Str × Option Str := ("_law_source", none)
def d__law_source : He.DefD := ⟨at__law_source, "_law_source", "_law_source", defArgs s__law_source, defBody s__law_source, defScope s__law_source, [], []⟩
abbrev at__law_take : Str × Option Str := ("_law_take", none)
def d__law_take : He.DefD := ⟨at__law_take, "_law_take", "_law_take", defArgs s__law_take, defBody s__law_take, defScope s__law_take, [], []⟩
abbrev at__law_labels : Str × Option Str := ("_law_labels", none)
def d__law_labels : He.DefD := ⟨at__law_labels, "_law_labels", "_law_labels", defArgs s__law_labels, defBody s__law_labels, defScope s__law_labels, [], []⟩
abbrev at__law_depth : Str × Option Str := ("_law_depth", none)
def d__law_depth : He.DefD := ⟨at__law_depth, "_law_depth", "_law_depth", defArgs s__law_depth, defBody s__law_depth, defScope s__law_depth, [], []⟩
abbrev at__law_rows : Str × Option Str := ("_law_rows", none)
def d__law_rows : He.DefD := ⟨at__law_rows, "_law_rows", "_law_rows", defArgs s__law_rows, defBody s__law_rows, defScope s__law_rows, [], []⟩
abbrev at__law_steps : Str × Option Str := ("_law_steps", none)
def d__law_steps : He.DefD := ⟨at__law_steps, "_law_steps", "_law_steps", defArgs s__law_steps, defBody s__law_steps, defScope s__law_steps, [], []⟩
abbrev at__law_deed : Str × Option Str := ("_law_deed", none)
def d__law_deed : He.DefD := ⟨at__law_deed, "_law_deed", "_law_deed", defArgs s__law_deed, defBody s__law_deed, defScope s__law_deed, [], []⟩
abbrev at__law_question : Str × Option Str := ("_law_question", none)
def d__law_question : He.DefD := ⟨at__law_question, "_law_question", "_law_question", defArgs s__law_question, defBody s__law_question, defScope s__law_question, [], []⟩
abbrev at__law_kept : Str × Option Str := ("_law_kept", none)
def d__law_kept : He.DefD := ⟨at__law_kept, "_law_kept", "_law_kept", defArgs s__law_kept, defBody s__law_kept, defScope s__law_kept, [], []⟩
abbrev at__law_right : Str × Option Str := ("_law_right", none)
def d__law_right : He.DefD := ⟨at__law_right, "_law_right", "_law_right", defArgs s__law_right, defBody s__law_right, defScope s__law_right, [], []⟩
abbrev at__law_anew : Str × Option Str := ("_law_anew", none)
def d__law_anew : He.DefD := ⟨at__law_anew, "_law_anew", "_law_anew", defArgs s__law_anew, defBody s__law_anew, defScope s__law_anew, [], []⟩
abbrev at__law_at_bound : Str × Option Str := ("_law_at_bound", none)
def d__law_at_bound : He.DefD := ⟨at__law_at_bound, "_law_at_bound", "_law_at_bound", defArgs s__law_at_bound, defBody s__law_at_bound, defScope s__law_at_bound, [], []⟩
abbrev at_law : Str × Option Str := ("law", none)
def d_law : He.DefD := ⟨at_law, "law", "law", defArgs s_law, defBody s_law, defScope s_law, [], []⟩
abbrev at_Straight_init : Str × Option Str := ("Straight", some "__init__")
def d_Straight_init : He.DefD := ⟨at_Straight_init, "__init__", "Step.__init__", defArgs s_Straight_init, defBody s_Straight_init, defScope s_Straight_init, [], []⟩
abbrev at_Anywhere_init : Str × Option Str := ("Anywhere", some "__init__")
def d_Anywhere_init : He.DefD := ⟨at_Anywhere_init, "__init__", "Step.__init__", defArgs s_Anywhere_init, defBody s_Anywhere_init, defScope s_Anywhere_init, [], []⟩
def fn0 : List He.DefD := [d_TooMany_init, d_TooDeep_init, d_is_whole, d_is_within, d_is_label, d_ends_by, d_uppers_by, d_is_part_row, d_Document_init, d_Document_need_part, d_Document_many, d_Document_label_of, d_Document_depth_of, d_Document_end_of, d_Document_upper_of, d_Document_lowers_of, d_Document_parts_of, d_Document_rows, d_Plant_init, d_Keeping_init, d_Keeping_look_up, d_Keeping_stands, d_Keeping_look_down, d_Keeping_mend, d_Keeping_forget, d_Garden_init, d_Garden_beneath_too, d_Garden_marks, d_Garden_way_up, d_Garden_document]
def fn1 : List He.DefD := [d_Garden_need_part, d_Garden_put, d_Garden_take, d_Garden_name, d_Garden_mend_all, d_Garden_keep, d_Garden_keeping_at, d_Garden_answer, d_Garden_tables, d_Garden_looked, d_Straight_way, d_Anywhere_way, d_step_of, d_is_step_row, d_Question_init, d_Question_need_step, d_Question_many, d_Question_step_at, d_Question_upper_of, d_Question_lowers_of, d_Question_wanted, d_with_beneath, d_with_above, d_down_row, d_full_row, d_down_table, d_full_table, d_run_slow, d__law_cell_at, d__law_source]
def fn2 : List He.DefD := [d__law_take, d__law_labels, d__law_depth, d__law_rows, d__law_steps, d__law_deed, d__law_question, d__law_kept, d__law_right, d__law_anew, d__law_at_bound, d_law, d_Straight_init, d_Anywhere_init]
def fn : List He.DefD := fn0 ++ (fn1 ++ (fn2))
def fa0 : List He.Fa := [.glo "is_whole", .glo "is_within", .glo "is_label", .glo "ends_by", .glo "uppers_by", .glo "is_part_row", .glo "step_of", .glo "is_step_row", .glo "with_beneath", .glo "with_above", .glo "down_row", .glo "full_row", .glo "down_table", .glo "full_table", .glo "run_slow", .glo "_law_cell_at", .glo "_law_source", .glo "_law_take", .glo "_law_labels", .glo "_law_depth", .glo "_law_rows", .glo "_law_steps", .glo "_law_deed", .glo "_law_question", .glo "_law_kept", .glo "_law_right", .glo "_law_anew", .glo "_law_at_bound", .glo "law", .glo "Document"]
def fa1 : List He.Fa := [.glo "Plant", .glo "Keeping", .glo "Garden", .glo "Straight", .glo "Anywhere", .glo "Question", .glo "BoughError", .glo "TooMany", .glo "TooDeep", .glo "WAYS", .free "len", .free "isinstance", .free "min", .free "max", .free "range", .free "enumerate", .free "reversed", .free "all", .free "int", .free "list", .free "tuple", .free "str", .free "bool", .int "MOST_LETTERS" 8, .int "MOST_PARTS_document" 240, .int "MOST_DEEP_document" 80, .int "MOST_PARTS_garden" 240, .int "MOST_DEEP_garden" 80, .int "MOST_KEPT" 12, .int "MOST_STEPS" 100]
def fa2 : List He.Fa := [.int "MOST_DEEP_question" 30, .str "LETTERS" "abcdefghijklmnopqrstuvwxyz", .cls "Document", .mkr "Document", .noat "Document" "parts", .noat "Document" "ends", .noat "Document" "uppers", .meth "Document" "need_part", .meth "Document" "many", .meth "Document" "label_of", .meth "Document" "depth_of", .meth "Document" "end_of", .meth "Document" "upper_of", .meth "Document" "lowers_of", .meth "Document" "parts_of", .meth "Document" "rows", .cls "Plant", .mkr "Plant", .noat "Plant" "label", .noat "Plant" "over", .noat "Plant" "under", .cls "Keeping", .mkr "Keeping", .noat "Keeping" "steps_by", .noat "Keeping" "near", .noat "Keeping" "far", .noat "Keeping" "uppers", .noat "Keeping" "ways", .noat "Keeping" "goal", .noat "Keeping" "down"]
def fa3 : List He.Fa := [.noat "Keeping" "beneath", .noat "Keeping" "passed", .noat "Keeping" "seen", .meth "Keeping" "look_up", .meth "Keeping" "stands", .meth "Keeping" "look_down", .meth "Keeping" "mend", .meth "Keeping" "forget", .cls "Garden", .mkr "Garden", .noat "Garden" "plants", .noat "Garden" "kept", .noat "Garden" "coming", .meth "Garden" "beneath_too", .meth "Garden" "marks", .meth "Garden" "way_up", .meth "Garden" "document", .meth "Garden" "need_part", .meth "Garden" "put", .meth "Garden" "take", .meth "Garden" "name", .meth "Garden" "mend_all", .meth "Garden" "keep", .meth "Garden" "keeping_at", .meth "Garden" "answer", .meth "Garden" "tables", .meth "Garden" "looked", .cls "Straight", .mkr "Straight", .noat "Straight" "label"]
def fa4 : List He.Fa := [.meth "Straight" "way", .cls "Anywhere", .mkr "Anywhere", .noat "Anywhere" "label", .meth "Anywhere" "way", .cls "Question", .mkr "Question", .noat "Question" "given_rows", .noat "Question" "goal", .noat "Question" "steps", .noat "Question" "ends", .noat "Question" "uppers", .meth "Question" "need_step", .meth "Question" "many", .meth "Question" "step_at", .meth "Question" "upper_of", .meth "Question" "lowers_of", .meth "Question" "wanted", .noat "TooMany" "found", .keep "TooMany", .exm "TooMany" "TooMany" true, .exm "TooMany" "TooDeep" false, .noat "TooDeep" "found", .keep "TooDeep", .exm "TooDeep" "TooMany" false, .exm "TooDeep" "TooDeep" true]
def fa : List He.Fa := fa0 ++ (fa1 ++ (fa2 ++ (fa3 ++ (fa4))))
/-! addresses -/
abbrev aDocument (K : PySem.W.Frag) : Addr := He.ga K "Document"
abbrev aPlant (K : PySem.W.Frag) : Addr := He.ga K "Plant"
abbrev aKeeping (K : PySem.W.Frag) : Addr := He.ga K "Keeping"
abbrev aGarden (K : PySem.W.Frag) : Addr := He.ga K "Garden"
abbrev aStraight (K : PySem.W.Frag) : Addr := He.ga K "Straight"
abbrev aAnywhere (K : PySem.W.Frag) : Addr := He.ga K "Anywhere"
abbrev aQuestion (K : PySem.W.Frag) : Addr := He.ga K "Question"
abbrev aBoughError (K : PySem.W.Frag) : Addr := He.ga K "BoughError"
abbrev aTooMany (K : PySem.W.Frag) : Addr := He.ga K "TooMany"
abbrev aTooDeep (K : PySem.W.Frag) : Addr := He.ga K "TooDeep"
abbrev aWAYS (K : PySem.W.Frag) : Addr := He.ga K "WAYS"
/-! ### what else is looked at: the errors' classes, the ways -/
def oexB (K : PySem.W.Frag) (C : Addr) : Bool := (match K.lookup C with
  | some ⟨.type "type", _, .cls cd, sl⟩ => (match cd.mro, sl.toList with
    | .ref C' :: bm, [_, _, _, _, some (.builtin n), _] => C' == C && n == "ValueError.__new__" && !cd.hasDel && PySem.HandSPX.refsVE bm && cd.hasDict
    | _, _ => false)
  | _ => false) && He.eqO (PySem.W.findIn K (.ref C) "__setattr__") (some (some (.builtin "object.__setattr__"))) && decide (PySem.W.subIn K (.ref C) (.type "BaseException") = some true) && decide (PySem.W.typeIn K (.ref C) = some (.type "type")) && PySem.W.keepIn K (.ref C)
theorem oexB_ok {K : PySem.W.Frag} {C : Addr} (q : oexB K C = true) : OexC K C := by
  unfold oexB at q
  simp only [Bool.and_eq_true] at q
  obtain ⟨⟨⟨⟨q, h1⟩, h2⟩, h3⟩, h4⟩ := q
  refine ⟨?_, He.eqO_ok h1, of_decide_eq_true h2, of_decide_eq_true h3, h4⟩
  split at q
  · rename_i dd cd sl ho
    split at q
    · rename_i C' bm k0 k1 k2 k3 n k5 hm hs
      simp only [Bool.and_eq_true, beq_iff_eq, Bool.not_eq_true'] at q
      obtain ⟨⟨⟨⟨rfl, rfl⟩, hdel⟩, ht⟩, hdc⟩ := q
      obtain ⟨nm, bs, mro, ns, qn, hd, sn, sub, ab, col, del⟩ := cd
      dsimp only at hm hdel hdc
      subst hm hdel hdc
      have hsl : sl = #[k0, k1, k2, k3, some (.builtin "ValueError.__new__"), k5] := by
        obtain ⟨l⟩ := sl
        simp only at hs
        rw [hs]
      subst hsl
      exact ⟨nm, qn, ns, bs, bm, sn, sub, ab, col, dd, k0, k1, k2, k3, k5, ho, ht⟩
    · cases q
  · cases q
/-- an own error's __init__ -/
def einB (K : PySem.W.Frag) (C : Addr) : Bool := He.eqO (PySem.W.findIn K (.ref C) "__init__") (some (some (.ref (He.ma K C "__init__")))) && decide (PySem.W.typeIn K (.ref (He.ma K C "__init__")) = some (.type "function"))
/-- the base class read -/
def binB (K : PySem.W.Frag) (C : Addr) : Bool := decide (PySem.W.specialIn K (.ref C) "__getattribute__" = some (some (.builtin "type.__getattribute__"))) && PySem.W.readsIn K C (.type "type") &&
  (match PySem.W.findCls K (.ref C) (.type "type") "__init__" with
  | some (.val (.builtin i)) => i == "ValueError.__init__"
  | _ => false)
theorem binB_ok {K : PySem.W.Frag} {C : Addr} (q : binB K C = true) : PySem.W.specialIn K (.ref C) "__getattribute__" = some (some (.builtin "type.__getattribute__")) ∧ PySem.W.readsIn K C (.type "type") = true ∧ PySem.W.findCls K (.ref C) (.type "type") "__init__" = some (.val (.builtin "ValueError.__init__")) := by
  unfold binB at q
  simp only [Bool.and_eq_true] at q
  obtain ⟨⟨h1, h2⟩, h3⟩ := q
  refine ⟨of_decide_eq_true h1, h2, ?_⟩
  split at h3
  · rename_i i hi
    rw [hi, beq_iff_eq.mp h3]
  · cases h3
def exB (K : PySem.W.Frag) : Bool := He.lstB K "WAYS" [.str "/", .str "//"] && oexB K (He.ga K "TooMany") && oexB K (He.ga K "TooDeep") && einB K (He.ga K "TooMany") && einB K (He.ga K "TooDeep") && binB K (He.ga K "BoughError")
/-- the addresses that the module's names reach in five steps -/
def ad0 : List Addr := [3, 6, 4, 21, 31, 51, 70, 89, 108, 127, 146, 165, 184, 203, 222, 231, 238, 243, 250, 257, 264, 345, 366, 420, 531, 573, 601, 627, 636, 637, 644, 727, 738, 745, 750, 755, 760, 767, 774, 781]
def ad1 : List Addr := [788, 795, 800, 807, 814, 819, 826, 833, 840, 845, 850, 855, 860, 0, 20, 30, 50, 69, 88, 107, 126, 145, 164, 183, 202, 221, 230, 237, 242, 249, 256, 263, 344, 365, 419, 530, 572, 600, 626, 635]
def ad2 : List Addr := [643, 726, 737, 744, 749, 754, 759, 766, 773, 780, 787, 794, 799, 806, 813, 818, 825, 832, 839, 844, 849, 854, 859, 15, 16, 17, 18, 19, 29, 32, 48, 49, 67, 68, 86, 87, 105, 106, 124, 125]
def ad3 : List Addr := [143, 144, 162, 163, 181, 182, 200, 201, 219, 220, 225, 226, 227, 228, 229, 232, 233, 234, 235, 236, 239, 240, 241, 244, 245, 246, 247, 248, 251, 252, 253, 254, 255, 258, 259, 260, 261, 262, 276, 283]
def ad4 : List Addr := [290, 297, 304, 311, 318, 323, 330, 335, 342, 343, 346, 347, 363, 364, 367, 368, 384, 391, 398, 405, 410, 417, 418, 421, 422, 438, 445, 452, 459, 464, 471, 478, 485, 492, 499, 506, 513, 518, 523, 528]
def ad5 : List Addr := [529, 532, 533, 549, 556, 563, 570, 571, 574, 575, 591, 598, 599, 617, 624, 625, 630, 631, 632, 633, 634, 638, 639, 640, 641, 642, 656, 663, 670, 677, 684, 691, 698, 703, 710, 717, 724, 725, 728, 729]
def ad6 : List Addr := [732, 733, 734, 735, 736, 739, 740, 741, 742, 743, 746, 747, 748, 751, 752, 753, 756, 757, 758, 761, 762, 763, 764, 765, 768, 769, 770, 771, 772, 775, 776, 777, 778, 779, 782, 783, 784, 785, 786, 789]
def ad7 : List Addr := [790, 791, 792, 793, 796, 797, 798, 801, 802, 803, 804, 805, 808, 809, 810, 811, 812, 815, 816, 817, 820, 821, 822, 823, 824, 827, 828, 829, 830, 831, 834, 835, 836, 837, 838, 841, 842, 843, 846, 847]
def ad8 : List Addr := [848, 851, 852, 853, 856, 857, 858, 47, 66, 85, 104, 123, 142, 161, 180, 199, 218, 275, 282, 289, 296, 303, 310, 317, 322, 329, 334, 341, 362, 383, 390, 397, 404, 409, 416, 437, 444, 451, 458, 463]
def ad9 : List Addr := [470, 477, 484, 491, 498, 505, 512, 517, 522, 527, 548, 555, 562, 569, 590, 597, 616, 623, 655, 662, 669, 676, 683, 690, 697, 702, 709, 716, 723, 42, 43, 44, 45, 46, 61, 62, 63, 64, 65, 80]
def ad10 : List Addr := [81, 82, 83, 84, 99, 100, 101, 102, 103, 118, 119, 120, 121, 122, 137, 138, 139, 140, 141, 156, 157, 158, 159, 160, 175, 176, 177, 178, 179, 194, 195, 196, 197, 198, 213, 214, 215, 216, 217, 272]
def ad11 : List Addr := [273, 274, 277, 278, 279, 280, 281, 284, 285, 286, 287, 288, 291, 292, 293, 294, 295, 298, 299, 300, 301, 302, 305, 306, 307, 308, 309, 312, 313, 314, 315, 316, 319, 320, 321, 324, 325, 326, 327, 328]
def ad12 : List Addr := [331, 332, 333, 336, 337, 338, 339, 340, 357, 358, 359, 360, 361, 378, 379, 380, 381, 382, 385, 386, 387, 388, 389, 392, 393, 394, 395, 396, 399, 400, 401, 402, 403, 406, 407, 408, 411, 412, 413, 414]
def ad13 : List Addr := [415, 432, 433, 434, 435, 436, 439, 440, 441, 442, 443, 446, 447, 448, 449, 450, 453, 454, 455, 456, 457, 460, 461, 462, 465, 466, 467, 468, 469, 472, 473, 474, 475, 476, 479, 480, 481, 482, 483, 486]
def ad14 : List Addr := [487, 488, 489, 490, 493, 494, 495, 496, 497, 500, 501, 502, 503, 504, 507, 508, 509, 510, 511, 514, 515, 516, 519, 520, 521, 524, 525, 526, 543, 544, 545, 546, 547, 550, 551, 552, 553, 554, 557, 558]
def ad15 : List Addr := [559, 560, 561, 564, 565, 566, 567, 568, 585, 586, 587, 588, 589, 592, 593, 594, 595, 596, 611, 612, 613, 614, 615, 618, 619, 620, 621, 622, 652, 653, 654, 657, 658, 659, 660, 661, 664, 665, 666, 667]
def ad16 : List Addr := [668, 671, 672, 673, 674, 675, 678, 679, 680, 681, 682, 685, 686, 687, 688, 689, 692, 693, 694, 695, 696, 699, 700, 701, 704, 705, 706, 707, 708, 711, 712, 713, 714, 715, 718, 719, 720, 721, 722]
def ads : List Addr := ad0 ++ (ad1 ++ (ad2 ++ (ad3 ++ (ad4 ++ (ad5 ++ (ad6 ++ (ad7 ++ (ad8 ++ (ad9 ++ (ad10 ++ (ad11 ++ (ad12 ++ (ad13 ++ (ad14 ++ (ad15 ++ (ad16))))))))))))))))
/-- what stands at such addresses, and the statics -/
def frK (g : Addr → Option Obj) (as : List Addr) : PySem.W.Frag := He.frG g (cStatics :: as)
/-- the head's Hook: facts, defs, one Bool more -/
def obB (as : List Addr) (fa : List He.Fa) (fn : List He.DefD) (ex : PySem.W.Frag → Bool) (g : Addr → Option Obj) : He.AlD × Bool := (He.obsD fa fn (frK g as), ex (frK g as))
def hookB (as : List Addr) (fa : List He.Fa) (fn : List He.DefD) (ex : PySem.W.Frag → Bool) : PySem.W.Hook where
  α := He.AlD × Bool
  obs := fun s => obB as fa fn ex s.heap.get?
  val := fun _ => (He.valD fn, true)
  says := fun _ h => ∃ K : PySem.W.Frag, K.In h ∧ He.SaysD fa fn K ∧ ex K = true
  of := fun _ _ e => ⟨_, He.frG_in, congrArg (fun z : He.AlD × Bool => z.1) e, congrArg (fun z : He.AlD × Bool => z.2) e⟩
  keeps := fun _ _ _ ⟨K, hK, c⟩ k => ⟨K, PySem.W.Frag.In.keeps hK k, c⟩
theorem obB_eq {as : List Addr} {fa : List He.Fa} {fn : List He.DefD} {ex : PySem.W.Frag → Bool} {g : Addr → Option Obj} {s : Shared} (h : ∀ a, g a = s.heap.get? a) : obB as fa fn ex g = (hookB as fa fn ex).obs s := by
  have e : g = s.heap.get? := funext h
  rw [e] <;> rfl

/-- what the head tells of the written part -/
structure Tx (K : PySem.W.Frag) (mg : Str → Option Value) : Prop where
  c : He.SaysD fa fn K
  ex : exB K = true
  h : ∃ h : Heap, K.In h ∧ h.Ns mainGlobals mg
namespace Tx
variable {K : PySem.W.Frag} {mg : Str → Option Value}
theorem g_is_whole (T : Tx K mg) : mg "is_whole" = some (.ref (He.ga K "is_whole")) := by obtain ⟨h, X, G⟩ := T.h; exact He.glo_ok X G (T.c.fact 0 (f := .glo "is_whole") rfl)
theorem g_is_within (T : Tx K mg) : mg "is_within" = some (.ref (He.ga K "is_within")) := by obtain ⟨h, X, G⟩ := T.h; exact He.glo_ok X G (T.c.fact 1 (f := .glo "is_within") rfl)
theorem g_is_label (T : Tx K mg) : mg "is_label" = some (.ref (He.ga K "is_label")) := by obtain ⟨h, X, G⟩ := T.h; exact He.glo_ok X G (T.c.fact 2 (f := .glo "is_label") rfl)
theorem g_ends_by (T : Tx K mg) : mg "ends_by" = some (.ref (He.ga K "ends_by")) := by obtain ⟨h, X, G⟩ := T.h; exact He.glo_ok X G (T.c.fact 3 (f := .glo "ends_by") rfl)
theorem g_uppers_by (T : Tx K mg) : mg "uppers_by" = some (.ref (He.ga K "uppers_by")) := by obtain ⟨h, X, G⟩ := T.h; exact He.glo_ok X G (T.c.fact 4 (f := .glo "uppers_by") rfl)
theorem g_is_part_row (T : Tx K mg) : mg "is_part_row" = some (.ref (He.ga K "is_part_row")) := by obtain ⟨h, X, G⟩ := T.h; exact He.glo_ok X G (T.c.fact 5 (f := .glo "is_part_row") rfl)
theorem g_step_of (T : Tx K mg) : mg "step_of" = some (.ref (He.ga K "step_of")) := by obtain ⟨h, X, G⟩ := T.h; exact He.glo_ok X G (T.c.fact 6 (f := .glo "step_of") rfl)
theorem g_is_step_row (T : Tx K mg) : mg "is_step_row" = some (.ref (He.ga K "is_step_row")) := by obtain ⟨h, X, G⟩ := T.h; exact He.glo_ok X G (T.c.fact 7 (f := .glo "is_step_row") rfl)
theorem g_with_beneath (T : Tx K mg) : mg "with_beneath" = some (.ref (He.ga K "with_beneath")) := by obtain ⟨h, X, G⟩ := T.h; exact He.glo_ok X G (T.c.fact 8 (f := .glo "with_beneath") rfl)
theorem g_with_above (T : Tx K mg) : mg "with_above" = some (.ref (He.ga K "with_above")) := by obtain ⟨h, X, G⟩ := T.h; exact He.glo_ok X G (T.c.fact 9 (f := .glo "with_above") rfl)
theorem g_down_row (T : Tx K mg) : mg "down_row" = some (.ref (He.ga K "down_row")) := by obtain ⟨h, X, G⟩ := T.h; exact He.glo_ok X G (T.c.fact 10 (f := .glo "down_row") rfl)
theorem g_full_row (T : Tx K mg) : mg "full_row" = some (.ref (He.ga K "full_row")) := by obtain ⟨h, X, G⟩ := T.h; exact He.glo_ok X G (T.c.fact 11 (f := .glo "full_row") rfl)
theorem g_down_table (T : Tx K mg) : mg "down_table" = some (.ref (He.ga K "down_table")) := by obtain ⟨h, X, G⟩ := T.h; exact He.glo_ok X G (T.c.fact 12 (f := .glo "down_table") rfl)
theorem g_full_table (T : Tx K mg) : mg "full_table" = some (.ref (He.ga K "full_table")) := by obtain ⟨h, X, G⟩ := T.h; exact He.glo_ok X G (T.c.fact 13 (f := .glo "full_table") rfl)
theorem g_run_slow (T : Tx K mg) : mg "run_slow" = some (.ref (He.ga K "run_slow")) := by obtain ⟨h, X, G⟩ := T.h; exact He.glo_ok X G (T.c.fact 14 (f := .glo "run_slow") rfl)
theorem g__law_cell_at (T : Tx K mg) : mg "_law_cell_at" = some (.ref (He.ga K "_law_cell_at")) := by obtain ⟨h, X, G⟩ := T.h; exact He.glo_ok X G (T.c.fact 15 (f := .glo "_law_cell_at") rfl)
theorem g__law_source (T : Tx K mg) : mg "_law_source" = some (.ref (He.ga K "_law_source")) := by obtain ⟨h, X, G⟩ := T.h; exact He.glo_ok X G (T.c.fact 16 (f := .glo "_law_source") rfl)
theorem g__law_take (T : Tx K mg) : mg "_law_take" = some (.ref (He.ga K "_law_take")) := by obtain ⟨h, X, G⟩ := T.h; exact He.glo_ok X G (T.c.fact 17 (f := .glo "_law_take") rfl)
theorem g__law_labels (T : Tx K mg) : mg "_law_labels" = some (.ref (He.ga K "_law_labels")) := by obtain ⟨h, X, G⟩ := T.h; exact He.glo_ok X G (T.c.fact 18 (f := .glo "_law_labels") rfl)
theorem g__law_depth (T : Tx K mg) : mg "_law_depth" = some (.ref (He.ga K "_law_depth")) := by obtain ⟨h, X, G⟩ := T.h; exact He.glo_ok X G (T.c.fact 19 (f := .glo "_law_depth") rfl)
theorem g__law_rows (T : Tx K mg) : mg "_law_rows" = some (.ref (He.ga K "_law_rows")) := by obtain ⟨h, X, G⟩ := T.h; exact He.glo_ok X G (T.c.fact 20 (f := .glo "_law_rows") rfl)
theorem g__law_steps (T : Tx K mg) : mg "_law_steps" = some (.ref (He.ga K "_law_steps")) := by obtain ⟨h, X, G⟩ := T.h; exact He.glo_ok X G (T.c.fact 21 (f := .glo "_law_steps") rfl)
theorem g__law_deed (T : Tx K mg) : mg "_law_deed" = some (.ref (He.ga K "_law_deed")) := by obtain ⟨h, X, G⟩ := T.h; exact He.glo_ok X G (T.c.fact 22 (f := .glo "_law_deed") rfl)
theorem g__law_question (T : Tx K mg) : mg "_law_question" = some (.ref (He.ga K "_law_question")) := by obtain ⟨h, X, G⟩ := T.h; exact He.glo_ok X G (T.c.fact 23 (f := .glo "_law_question") rfl)
theorem g__law_kept (T : Tx K mg) : mg "_law_kept" = some (.ref (He.ga K "_law_kept")) := by obtain ⟨h, X, G⟩ := T.h; exact He.glo_ok X G (T.c.fact 24 (f := .glo "_law_kept") rfl)
theorem g__law_right (T : Tx K mg) : mg "_law_right" = some (.ref (He.ga K "_law_right")) := by obtain ⟨h, X, G⟩ := T.h; exact He.glo_ok X G (T.c.fact 25 (f := .glo "_law_right") rfl)
theorem g__law_anew (T : Tx K mg) : mg "_law_anew" = some (.ref (He.ga K "_law_anew")) := by obtain ⟨h, X, G⟩ := T.h; exact He.glo_ok X G (T.c.fact 26 (f := .glo "_law_anew") rfl)
theorem g__law_at_bound (T : Tx K mg) : mg "_law_at_bound" = some (.ref (He.ga K "_law_at_bound")) := by obtain ⟨h, X, G⟩ := T.h; exact He.glo_ok X G (T.c.fact 27 (f := .glo "_law_at_bound") rfl)
theorem g_law (T : Tx K mg) : mg "law" = some (.ref (He.ga K "law")) := by obtain ⟨h, X, G⟩ := T.h; exact He.glo_ok X G (T.c.fact 28 (f := .glo "law") rfl)
theorem g_Document (T : Tx K mg) : mg "Document" = some (.ref (He.ga K "Document")) := by obtain ⟨h, X, G⟩ := T.h; exact He.glo_ok X G (T.c.fact 29 (f := .glo "Document") rfl)
theorem g_Plant (T : Tx K mg) : mg "Plant" = some (.ref (He.ga K "Plant")) := by obtain ⟨h, X, G⟩ := T.h; exact He.glo_ok X G (T.c.fact 30 (f := .glo "Plant") rfl)
theorem g_Keeping (T : Tx K mg) : mg "Keeping" = some (.ref (He.ga K "Keeping")) := by obtain ⟨h, X, G⟩ := T.h; exact He.glo_ok X G (T.c.fact 31 (f := .glo "Keeping") rfl)
theorem g_Garden (T : Tx K mg) : mg "Garden" = some (.ref (He.ga K "Garden")) := by obtain ⟨h, X, G⟩ := T.h; exact He.glo_ok X G (T.c.fact 32 (f := .glo "Garden") rfl)
theorem g_Straight (T : Tx K mg) : mg "Straight" = some (.ref (He.ga K "Straight")) := by obtain ⟨h, X, G⟩ := T.h; exact He.glo_ok X G (T.c.fact 33 (f := .glo "Straight") rfl)
theorem g_Anywhere (T : Tx K mg) : mg "Anywhere" = some (.ref (He.ga K "Anywhere")) := by obtain ⟨h, X, G⟩ := T.h; exact He.glo_ok X G (T.c.fact 34 (f := .glo "Anywhere") rfl)
theorem g_Question (T : Tx K mg) : mg "Question" = some (.ref (He.ga K "Question")) := by obtain ⟨h, X, G⟩ := T.h; exact He.glo_ok X G (T.c.fact 35 (f := .glo "Question") rfl)
theorem g_BoughError (T : Tx K mg) : mg "BoughError" = some (.ref (He.ga K "BoughError")) := by obtain ⟨h, X, G⟩ := T.h; exact He.glo_ok X G (T.c.fact 36 (f := .glo "BoughError") rfl)
theorem g_TooMany (T : Tx K mg) : mg "TooMany" = some (.ref (He.ga K "TooMany")) := by obtain ⟨h, X, G⟩ := T.h; exact He.glo_ok X G (T.c.fact 37 (f := .glo "TooMany") rfl)
theorem g_TooDeep (T : Tx K mg) : mg "TooDeep" = some (.ref (He.ga K "TooDeep")) := by obtain ⟨h, X, G⟩ := T.h; exact He.glo_ok X G (T.c.fact 38 (f := .glo "TooDeep") rfl)
theorem g_WAYS (T : Tx K mg) : mg "WAYS" = some (.ref (He.ga K "WAYS")) := by obtain ⟨h, X, G⟩ := T.h; exact He.glo_ok X G (T.c.fact 39 (f := .glo "WAYS") rfl)
theorem f_len (T : Tx K mg) : mg "len" = none := by obtain ⟨h, X, G⟩ := T.h; exact He.free_ok X G (T.c.fact 40 (f := .free "len") rfl)
theorem f_isinstance (T : Tx K mg) : mg "isinstance" = none := by obtain ⟨h, X, G⟩ := T.h; exact He.free_ok X G (T.c.fact 41 (f := .free "isinstance") rfl)
theorem f_min (T : Tx K mg) : mg "min" = none := by obtain ⟨h, X, G⟩ := T.h; exact He.free_ok X G (T.c.fact 42 (f := .free "min") rfl)
theorem f_max (T : Tx K mg) : mg "max" = none := by obtain ⟨h, X, G⟩ := T.h; exact He.free_ok X G (T.c.fact 43 (f := .free "max") rfl)
theorem f_range (T : Tx K mg) : mg "range" = none := by obtain ⟨h, X, G⟩ := T.h; exact He.free_ok X G (T.c.fact 44 (f := .free "range") rfl)
theorem f_enumerate (T : Tx K mg) : mg "enumerate" = none := by obtain ⟨h, X, G⟩ := T.h; exact He.free_ok X G (T.c.fact 45 (f := .free "enumerate") rfl)
theorem f_reversed (T : Tx K mg) : mg "reversed" = none := by obtain ⟨h, X, G⟩ := T.h; exact He.free_ok X G (T.c.fact 46 (f := .free "reversed") rfl)
theorem f_all (T : Tx K mg) : mg "all" = none := by obtain ⟨h, X, G⟩ := T.h; exact He.free_ok X G (T.c.fact 47 (f := .free "all") rfl)
theorem f_int (T : Tx K mg) : mg "int" = none := by obtain ⟨h, X, G⟩ := T.h; exact He.free_ok X G (T.c.fact 48 (f := .free "int") rfl)
theorem f_list (T : Tx K mg) : mg "list" = none := by obtain ⟨h, X, G⟩ := T.h; exact He.free_ok X G (T.c.fact 49 (f := .free "list") rfl)
theorem f_tuple (T : Tx K mg) : mg "tuple" = none := by obtain ⟨h, X, G⟩ := T.h; exact He.free_ok X G (T.c.fact 50 (f := .free "tuple") rfl)
theorem f_str (T : Tx K mg) : mg "str" = none := by obtain ⟨h, X, G⟩ := T.h; exact He.free_ok X G (T.c.fact 51 (f := .free "str") rfl)
theorem f_bool (T : Tx K mg) : mg "bool" = none := by obtain ⟨h, X, G⟩ := T.h; exact He.free_ok X G (T.c.fact 52 (f := .free "bool") rfl)
theorem i_MOST_LETTERS (T : Tx K mg) : ∃ t, mg "MOST_LETTERS" = some (.int 8 t) := by obtain ⟨h, X, G⟩ := T.h; exact He.int_ok X G (T.c.fact 53 (f := .int "MOST_LETTERS" 8) rfl)
theorem i_MOST_PARTS_document (T : Tx K mg) : ∃ t, mg "MOST_PARTS_document" = some (.int 240 t) := by obtain ⟨h, X, G⟩ := T.h; exact He.int_ok X G (T.c.fact 54 (f := .int "MOST_PARTS_document" 240) rfl)
theorem i_MOST_DEEP_document (T : Tx K mg) : ∃ t, mg "MOST_DEEP_document" = some (.int 80 t) := by obtain ⟨h, X, G⟩ := T.h; exact He.int_ok X G (T.c.fact 55 (f := .int "MOST_DEEP_document" 80) rfl)
theorem i_MOST_PARTS_garden (T : Tx K mg) : ∃ t, mg "MOST_PARTS_garden" = some (.int 240 t) := by obtain ⟨h, X, G⟩ := T.h; exact He.int_ok X G (T.c.fact 56 (f := .int "MOST_PARTS_garden" 240) rfl)
theorem i_MOST_DEEP_garden (T : Tx K mg) : ∃ t, mg "MOST_DEEP_garden" = some (.int 80 t) := by obtain ⟨h, X, G⟩ := T.h; exact He.int_ok X G (T.c.fact 57 (f := .int "MOST_DEEP_garden" 80) rfl)
theorem i_MOST_KEPT (T : Tx K mg) : ∃ t, mg "MOST_KEPT" = some (.int 12 t) := by obtain ⟨h, X, G⟩ := T.h; exact He.int_ok X G (T.c.fact 58 (f := .int "MOST_KEPT" 12) rfl)
theorem i_MOST_STEPS (T : Tx K mg) : ∃ t, mg "MOST_STEPS" = some (.int 100 t) := by obtain ⟨h, X, G⟩ := T.h; exact He.int_ok X G (T.c.fact 59 (f := .int "MOST_STEPS" 100) rfl)
theorem i_MOST_DEEP_question (T : Tx K mg) : ∃ t, mg "MOST_DEEP_question" = some (.int 30 t) := by obtain ⟨h, X, G⟩ := T.h; exact He.int_ok X G (T.c.fact 60 (f := .int "MOST_DEEP_question" 30) rfl)
theorem t_LETTERS (T : Tx K mg) : ∃ t, mg "LETTERS" = some (.str "abcdefghijklmnopqrstuvwxyz" t) := by obtain ⟨h, X, G⟩ := T.h; exact He.str_ok X G (T.c.fact 61 (f := .str "LETTERS" "abcdefghijklmnopqrstuvwxyz") rfl)
theorem c_Document (T : Tx K mg) : Cls K (aDocument K) := He.cls_ok (T.c.fact 62 (f := .cls "Document") rfl)
theorem k_Document (T : Tx K mg) : Mk K (aDocument K) (He.ma K (aDocument K) "__init__") := He.mkr_ok (T.c.fact 63 (f := .mkr "Document") rfl)
theorem n_Document_parts (T : Tx K mg) : NoAttr K (aDocument K) "parts" := He.noat_ok (T.c.fact 64 (f := .noat "Document" "parts") rfl)
theorem n_Document_ends (T : Tx K mg) : NoAttr K (aDocument K) "ends" := He.noat_ok (T.c.fact 65 (f := .noat "Document" "ends") rfl)
theorem n_Document_uppers (T : Tx K mg) : NoAttr K (aDocument K) "uppers" := He.noat_ok (T.c.fact 66 (f := .noat "Document" "uppers") rfl)
theorem m_Document_need_part (T : Tx K mg) : Meth K (aDocument K) "need_part" (He.ma K (aDocument K) "need_part") := He.meth_ok (T.c.fact 67 (f := .meth "Document" "need_part") rfl)
theorem m_Document_many (T : Tx K mg) : Meth K (aDocument K) "many" (He.ma K (aDocument K) "many") := He.meth_ok (T.c.fact 68 (f := .meth "Document" "many") rfl)
theorem m_Document_label_of (T : Tx K mg) : Meth K (aDocument K) "label_of" (He.ma K (aDocument K) "label_of") := He.meth_ok (T.c.fact 69 (f := .meth "Document" "label_of") rfl)
theorem m_Document_depth_of (T : Tx K mg) : Meth K (aDocument K) "depth_of" (He.ma K (aDocument K) "depth_of") := He.meth_ok (T.c.fact 70 (f := .meth "Document" "depth_of") rfl)
theorem m_Document_end_of (T : Tx K mg) : Meth K (aDocument K) "end_of" (He.ma K (aDocument K) "end_of") := He.meth_ok (T.c.fact 71 (f := .meth "Document" "end_of") rfl)
theorem m_Document_upper_of (T : Tx K mg) : Meth K (aDocument K) "upper_of" (He.ma K (aDocument K) "upper_of") := He.meth_ok (T.c.fact 72 (f := .meth "Document" "upper_of") rfl)
theorem m_Document_lowers_of (T : Tx K mg) : Meth K (aDocument K) "lowers_of" (He.ma K (aDocument K) "lowers_of") := He.meth_ok (T.c.fact 73 (f := .meth "Document" "lowers_of") rfl)
theorem m_Document_parts_of (T : Tx K mg) : Meth K (aDocument K) "parts_of" (He.ma K (aDocument K) "parts_of") := He.meth_ok (T.c.fact 74 (f := .meth "Document" "parts_of") rfl)
theorem m_Document_rows (T : Tx K mg) : Meth K (aDocument K) "rows" (He.ma K (aDocument K) "rows") := He.meth_ok (T.c.fact 75 (f := .meth "Document" "rows") rfl)
theorem c_Plant (T : Tx K mg) : Cls K (aPlant K) := He.cls_ok (T.c.fact 76 (f := .cls "Plant") rfl)
theorem k_Plant (T : Tx K mg) : Mk K (aPlant K) (He.ma K (aPlant K) "__init__") := He.mkr_ok (T.c.fact 77 (f := .mkr "Plant") rfl)
theorem n_Plant_label (T : Tx K mg) : NoAttr K (aPlant K) "label" := He.noat_ok (T.c.fact 78 (f := .noat "Plant" "label") rfl)
theorem n_Plant_over (T : Tx K mg) : NoAttr K (aPlant K) "over" := He.noat_ok (T.c.fact 79 (f := .noat "Plant" "over") rfl)
theorem n_Plant_under (T : Tx K mg) : NoAttr K (aPlant K) "under" := He.noat_ok (T.c.fact 80 (f := .noat "Plant" "under") rfl)
theorem c_Keeping (T : Tx K mg) : Cls K (aKeeping K) := He.cls_ok (T.c.fact 81 (f := .cls "Keeping") rfl)
theorem k_Keeping (T : Tx K mg) : Mk K (aKeeping K) (He.ma K (aKeeping K) "__init__") := He.mkr_ok (T.c.fact 82 (f := .mkr "Keeping") rfl)
theorem n_Keeping_steps_by (T : Tx K mg) : NoAttr K (aKeeping K) "steps_by" := He.noat_ok (T.c.fact 83 (f := .noat "Keeping" "steps_by") rfl)
theorem n_Keeping_near (T : Tx K mg) : NoAttr K (aKeeping K) "near" := He.noat_ok (T.c.fact 84 (f := .noat "Keeping" "near") rfl)
theorem n_Keeping_far (T : Tx K mg) : NoAttr K (aKeeping K) "far" := He.noat_ok (T.c.fact 85 (f := .noat "Keeping" "far") rfl)
theorem n_Keeping_uppers (T : Tx K mg) : NoAttr K (aKeeping K) "uppers" := He.noat_ok (T.c.fact 86 (f := .noat "Keeping" "uppers") rfl)
theorem n_Keeping_ways (T : Tx K mg) : NoAttr K (aKeeping K) "ways" := He.noat_ok (T.c.fact 87 (f := .noat "Keeping" "ways") rfl)
theorem n_Keeping_goal (T : Tx K mg) : NoAttr K (aKeeping K) "goal" := He.noat_ok (T.c.fact 88 (f := .noat "Keeping" "goal") rfl)
theorem n_Keeping_down (T : Tx K mg) : NoAttr K (aKeeping K) "down" := He.noat_ok (T.c.fact 89 (f := .noat "Keeping" "down") rfl)
theorem n_Keeping_beneath (T : Tx K mg) : NoAttr K (aKeeping K) "beneath" := He.noat_ok (T.c.fact 90 (f := .noat "Keeping" "beneath") rfl)
theorem n_Keeping_passed (T : Tx K mg) : NoAttr K (aKeeping K) "passed" := He.noat_ok (T.c.fact 91 (f := .noat "Keeping" "passed") rfl)
theorem n_Keeping_seen (T : Tx K mg) : NoAttr K (aKeeping K) "seen" := He.noat_ok (T.c.fact 92 (f := .noat "Keeping" "seen") rfl)
theorem m_Keeping_look_up (T : Tx K mg) : Meth K (aKeeping K) "look_up" (He.ma K (aKeeping K) "look_up") := He.meth_ok (T.c.fact 93 (f := .meth "Keeping" "look_up") rfl)
theorem m_Keeping_stands (T : Tx K mg) : Meth K (aKeeping K) "stands" (He.ma K (aKeeping K) "stands") := He.meth_ok (T.c.fact 94 (f := .meth "Keeping" "stands") rfl)
theorem m_Keeping_look_down (T : Tx K mg) : Meth K (aKeeping K) "look_down" (He.ma K (aKeeping K) "look_down") := He.meth_ok (T.c.fact 95 (f := .meth "Keeping" "look_down") rfl)
theorem m_Keeping_mend (T : Tx K mg) : Meth K (aKeeping K) "mend" (He.ma K (aKeeping K) "mend") := He.meth_ok (T.c.fact 96 (f := .meth "Keeping" "mend") rfl)
theorem m_Keeping_forget (T : Tx K mg) : Meth K (aKeeping K) "forget" (He.ma K (aKeeping K) "forget") := He.meth_ok (T.c.fact 97 (f := .meth "Keeping" "forget") rfl)
theorem c_Garden (T : Tx K mg) : Cls K (aGarden K) := He.cls_ok (T.c.fact 98 (f := .cls "Garden") rfl)
theorem k_Garden (T : Tx K mg) : Mk K (aGarden K) (He.ma K (aGarden K) "__init__") := He.mkr_ok (T.c.fact 99 (f := .mkr "Garden") rfl)
theorem n_Garden_plants (T : Tx K mg) : NoAttr K (aGarden K) "plants" := He.noat_ok (T.c.fact 100 (f := .noat "Garden" "plants") rfl)
theorem n_Garden_kept (T : Tx K mg) : NoAttr K (aGarden K) "kept" := He.noat_ok (T.c.fact 101 (f := .noat "Garden" "kept") rfl)
theorem n_Garden_coming (T : Tx K mg) : NoAttr K (aGarden K) "coming" := He.noat_ok (T.c.fact 102 (f := .noat "Garden" "coming") rfl)
theorem m_Garden_beneath_too (T : Tx K mg) : Meth K (aGarden K) "beneath_too" (He.ma K (aGarden K) "beneath_too") := He.meth_ok (T.c.fact 103 (f := .meth "Garden" "beneath_too") rfl)
theorem m_Garden_marks (T : Tx K mg) : Meth K (aGarden K) "marks" (He.ma K (aGarden K) "marks") := He.meth_ok (T.c.fact 104 (f := .meth "Garden" "marks") rfl)
theorem m_Garden_way_up (T : Tx K mg) : Meth K (aGarden K) "way_up" (He.ma K (aGarden K) "way_up") := He.meth_ok (T.c.fact 105 (f := .meth "Garden" "way_up") rfl)
theorem m_Garden_document (T : Tx K mg) : Meth K (aGarden K) "document" (He.ma K (aGarden K) "document") := He.meth_ok (T.c.fact 106 (f := .meth "Garden" "document") rfl)
theorem m_Garden_need_part (T : Tx K mg) : Meth K (aGarden K) "need_part" (He.ma K (aGarden K) "need_part") := He.meth_ok (T.c.fact 107 (f := .meth "Garden" "need_part") rfl)
theorem m_Garden_put (T : Tx K mg) : Meth K (aGarden K) "put" (He.ma K (aGarden K) "put") := He.meth_ok (T.c.fact 108 (f := .meth "Garden" "put") rfl)
theorem m_Garden_take (T : Tx K mg) : Meth K (aGarden K) "take" (He.ma K (aGarden K) "take") := He.meth_ok (T.c.fact 109 (f := .meth "Garden" "take") rfl)
theorem m_Garden_name (T : Tx K mg) : Meth K (aGarden K) "name" (He.ma K (aGarden K) "name") := He.meth_ok (T.c.fact 110 (f := .meth "Garden" "name") rfl)
theorem m_Garden_mend_all (T : Tx K mg) : Meth K (aGarden K) "mend_all" (He.ma K (aGarden K) "mend_all") := He.meth_ok (T.c.fact 111 (f := .meth "Garden" "mend_all") rfl)
theorem m_Garden_keep (T : Tx K mg) : Meth K (aGarden K) "keep" (He.ma K (aGarden K) "keep") := He.meth_ok (T.c.fact 112 (f := .meth "Garden" "keep") rfl)
theorem m_Garden_keeping_at (T : Tx K mg) : Meth K (aGarden K) "keeping_at" (He.ma K (aGarden K) "keeping_at") := He.meth_ok (T.c.fact 113 (f := .meth "Garden" "keeping_at") rfl)
theorem m_Garden_answer (T : Tx K mg) : Meth K (aGarden K) "answer" (He.ma K (aGarden K) "answer") := He.meth_ok (T.c.fact 114 (f := .meth "Garden" "answer") rfl)
theorem m_Garden_tables (T : Tx K mg) : Meth K (aGarden K) "tables" (He.ma K (aGarden K) "tables") := He.meth_ok (T.c.fact 115 (f := .meth "Garden" "tables") rfl)
theorem m_Garden_looked (T : Tx K mg) : Meth K (aGarden K) "looked" (He.ma K (aGarden K) "looked") := He.meth_ok (T.c.fact 116 (f := .meth "Garden" "looked") rfl)
theorem c_Straight (T : Tx K mg) : Cls K (aStraight K) := He.cls_ok (T.c.fact 117 (f := .cls "Straight") rfl)
theorem k_Straight (T : Tx K mg) : Mk K (aStraight K) (He.ma K (aStraight K) "__init__") := He.mkr_ok (T.c.fact 118 (f := .mkr "Straight") rfl)
theorem n_Straight_label (T : Tx K mg) : NoAttr K (aStraight K) "label" := He.noat_ok (T.c.fact 119 (f := .noat "Straight" "label") rfl)
theorem m_Straight_way (T : Tx K mg) : Meth K (aStraight K) "way" (He.ma K (aStraight K) "way") := He.meth_ok (T.c.fact 120 (f := .meth "Straight" "way") rfl)
theorem c_Anywhere (T : Tx K mg) : Cls K (aAnywhere K) := He.cls_ok (T.c.fact 121 (f := .cls "Anywhere") rfl)
theorem k_Anywhere (T : Tx K mg) : Mk K (aAnywhere K) (He.ma K (aAnywhere K) "__init__") := He.mkr_ok (T.c.fact 122 (f := .mkr "Anywhere") rfl)
theorem n_Anywhere_label (T : Tx K mg) : NoAttr K (aAnywhere K) "label" := He.noat_ok (T.c.fact 123 (f := .noat "Anywhere" "label") rfl)
theorem m_Anywhere_way (T : Tx K mg) : Meth K (aAnywhere K) "way" (He.ma K (aAnywhere K) "way") := He.meth_ok (T.c.fact 124 (f := .meth "Anywhere" "way") rfl)
theorem c_Question (T : Tx K mg) : Cls K (aQuestion K) := He.cls_ok (T.c.fact 125 (f := .cls "Question") rfl)
theorem k_Question (T : Tx K mg) : Mk K (aQuestion K) (He.ma K (aQuestion K) "__init__") := He.mkr_ok (T.c.fact 126 (f := .mkr "Question") rfl)
theorem n_Question_given_rows (T : Tx K mg) : NoAttr K (aQuestion K) "given_rows" := He.noat_ok (T.c.fact 127 (f := .noat "Question" "given_rows") rfl)
theorem n_Question_goal (T : Tx K mg) : NoAttr K (aQuestion K) "goal" := He.noat_ok (T.c.fact 128 (f := .noat "Question" "goal") rfl)
theorem n_Question_steps (T : Tx K mg) : NoAttr K (aQuestion K) "steps" := He.noat_ok (T.c.fact 129 (f := .noat "Question" "steps") rfl)
theorem n_Question_ends (T : Tx K mg) : NoAttr K (aQuestion K) "ends" := He.noat_ok (T.c.fact 130 (f := .noat "Question" "ends") rfl)
theorem n_Question_uppers (T : Tx K mg) : NoAttr K (aQuestion K) "uppers" := He.noat_ok (T.c.fact 131 (f := .noat "Question" "uppers") rfl)
theorem m_Question_need_step (T : Tx K mg) : Meth K (aQuestion K) "need_step" (He.ma K (aQuestion K) "need_step") := He.meth_ok (T.c.fact 132 (f := .meth "Question" "need_step") rfl)
theorem m_Question_many (T : Tx K mg) : Meth K (aQuestion K) "many" (He.ma K (aQuestion K) "many") := He.meth_ok (T.c.fact 133 (f := .meth "Question" "many") rfl)
theorem m_Question_step_at (T : Tx K mg) : Meth K (aQuestion K) "step_at" (He.ma K (aQuestion K) "step_at") := He.meth_ok (T.c.fact 134 (f := .meth "Question" "step_at") rfl)
theorem m_Question_upper_of (T : Tx K mg) : Meth K (aQuestion K) "upper_of" (He.ma K (aQuestion K) "upper_of") := He.meth_ok (T.c.fact 135 (f := .meth "Question" "upper_of") rfl)
theorem m_Question_lowers_of (T : Tx K mg) : Meth K (aQuestion K) "lowers_of" (He.ma K (aQuestion K) "lowers_of") := He.meth_ok (T.c.fact 136 (f := .meth "Question" "lowers_of") rfl)
theorem m_Question_wanted (T : Tx K mg) : Meth K (aQuestion K) "wanted" (He.ma K (aQuestion K) "wanted") := He.meth_ok (T.c.fact 137 (f := .meth "Question" "wanted") rfl)
theorem n_TooMany_found (T : Tx K mg) : NoAttr K (aTooMany K) "found" := He.noat_ok (T.c.fact 138 (f := .noat "TooMany" "found") rfl)
theorem kp_TooMany (T : Tx K mg) : PySem.W.keepIn K (.ref (aTooMany K)) = true := He.keep_ok (T.c.fact 139 (f := .keep "TooMany") rfl)
theorem x_TooMany_TooMany (T : Tx K mg) : PySem.W.exmOne K (.ref (aTooMany K)) (.ref (aTooMany K)) = some true := He.exm_ok (T.c.fact 140 (f := .exm "TooMany" "TooMany" true) rfl)
theorem x_TooMany_TooDeep (T : Tx K mg) : PySem.W.exmOne K (.ref (aTooMany K)) (.ref (aTooDeep K)) = some false := He.exm_ok (T.c.fact 141 (f := .exm "TooMany" "TooDeep" false) rfl)
theorem n_TooDeep_found (T : Tx K mg) : NoAttr K (aTooDeep K) "found" := He.noat_ok (T.c.fact 142 (f := .noat "TooDeep" "found") rfl)
theorem kp_TooDeep (T : Tx K mg) : PySem.W.keepIn K (.ref (aTooDeep K)) = true := He.keep_ok (T.c.fact 143 (f := .keep "TooDeep") rfl)
theorem x_TooDeep_TooMany (T : Tx K mg) : PySem.W.exmOne K (.ref (aTooDeep K)) (.ref (aTooMany K)) = some false := He.exm_ok (T.c.fact 144 (f := .exm "TooDeep" "TooMany" false) rfl)
theorem x_TooDeep_TooDeep (T : Tx K mg) : PySem.W.exmOne K (.ref (aTooDeep K)) (.ref (aTooDeep K)) = some true := He.exm_ok (T.c.fact 145 (f := .exm "TooDeep" "TooDeep" true) rfl)
theorem d_TooMany_init (T : Tx K mg) : ∃ fd, FunD K "__init__" "TooMany.__init__" (defArgs s_TooMany_init) (defBody s_TooMany_init) (defScope s_TooMany_init) [] [] (He.fAd K at_TooMany_init) fd := T.c.def_ 0 (d := Bg.d_TooMany_init) rfl
theorem d_TooDeep_init (T : Tx K mg) : ∃ fd, FunD K "__init__" "TooDeep.__init__" (defArgs s_TooDeep_init) (defBody s_TooDeep_init) (defScope s_TooDeep_init) [] [] (He.fAd K at_TooDeep_init) fd := T.c.def_ 1 (d := Bg.d_TooDeep_init) rfl
theorem d_is_whole (T : Tx K mg) : ∃ fd, FunD K "is_whole" "is_whole" (defArgs s_is_whole) (defBody s_is_whole) (defScope s_is_whole) [] [] (He.fAd K at_is_whole) fd := T.c.def_ 2 (d := Bg.d_is_whole) rfl
theorem d_is_within (T : Tx K mg) : ∃ fd, FunD K "is_within" "is_within" (defArgs s_is_within) (defBody s_is_within) (defScope s_is_within) [] [] (He.fAd K at_is_within) fd := T.c.def_ 3 (d := Bg.d_is_within) rfl
theorem d_is_label (T : Tx K mg) : ∃ fd, FunD K "is_label" "is_label" (defArgs s_is_label) (defBody s_is_label) (defScope s_is_label) [] [] (He.fAd K at_is_label) fd := T.c.def_ 4 (d := Bg.d_is_label) rfl
theorem d_ends_by (T : Tx K mg) : ∃ fd, FunD K "ends_by" "ends_by" (defArgs s_ends_by) (defBody s_ends_by) (defScope s_ends_by) [] [] (He.fAd K at_ends_by) fd := T.c.def_ 5 (d := Bg.d_ends_by) rfl
theorem d_uppers_by (T : Tx K mg) : ∃ fd, FunD K "uppers_by" "uppers_by" (defArgs s_uppers_by) (defBody s_uppers_by) (defScope s_uppers_by) [] [] (He.fAd K at_uppers_by) fd := T.c.def_ 6 (d := Bg.d_uppers_by) rfl
theorem d_is_part_row (T : Tx K mg) : ∃ fd, FunD K "is_part_row" "is_part_row" (defArgs s_is_part_row) (defBody s_is_part_row) (defScope s_is_part_row) [] [] (He.fAd K at_is_part_row) fd := T.c.def_ 7 (d := Bg.d_is_part_row) rfl
theorem d_Document_init (T : Tx K mg) : ∃ fd, FunD K "__init__" "Document.__init__" (defArgs s_Document_init) (defBody s_Document_init) (defScope s_Document_init) [] [] (He.fAd K at_Document_init) fd := T.c.def_ 8 (d := Bg.d_Document_init) rfl
theorem d_Document_need_part (T : Tx K mg) : ∃ fd, FunD K "need_part" "Document.need_part" (defArgs s_Document_need_part) (defBody s_Document_need_part) (defScope s_Document_need_part) [] [] (He.fAd K at_Document_need_part) fd := T.c.def_ 9 (d := Bg.d_Document_need_part) rfl
theorem d_Document_many (T : Tx K mg) : ∃ fd, FunD K "many" "Document.many" (defArgs s_Document_many) (defBody s_Document_many) (defScope s_Document_many) [] [] (He.fAd K at_Document_many) fd := T.c.def_ 10 (d := Bg.d_Document_many) rfl
theorem d_Document_label_of (T : Tx K mg) : ∃ fd, FunD K "label_of" "Document.label_of" (defArgs s_Document_label_of) (defBody s_Document_label_of) (defScope s_Document_label_of) [] [] (He.fAd K at_Document_label_of) fd := T.c.def_ 11 (d := Bg.d_Document_label_of) rfl
theorem d_Document_depth_of (T : Tx K mg) : ∃ fd, FunD K "depth_of" "Document.depth_of" (defArgs s_Document_depth_of) (defBody s_Document_depth_of) (defScope s_Document_depth_of) [] [] (He.fAd K at_Document_depth_of) fd := T.c.def_ 12 (d := Bg.d_Document_depth_of) rfl
theorem d_Document_end_of (T : Tx K mg) : ∃ fd, FunD K "end_of" "Document.end_of" (defArgs s_Document_end_of) (defBody s_Document_end_of) (defScope s_Document_end_of) [] [] (He.fAd K at_Document_end_of) fd := T.c.def_ 13 (d := Bg.d_Document_end_of) rfl
theorem d_Document_upper_of (T : Tx K mg) : ∃ fd, FunD K "upper_of" "Document.upper_of" (defArgs s_Document_upper_of) (defBody s_Document_upper_of) (defScope s_Document_upper_of) [] [] (He.fAd K at_Document_upper_of) fd := T.c.def_ 14 (d := Bg.d_Document_upper_of) rfl
theorem d_Document_lowers_of (T : Tx K mg) : ∃ fd, FunD K "lowers_of" "Document.lowers_of" (defArgs s_Document_lowers_of) (defBody s_Document_lowers_of) (defScope s_Document_lowers_of) [] [] (He.fAd K at_Document_lowers_of) fd := T.c.def_ 15 (d := Bg.d_Document_lowers_of) rfl
theorem d_Document_parts_of (T : Tx K mg) : ∃ fd, FunD K "parts_of" "Document.parts_of" (defArgs s_Document_parts_of) (defBody s_Document_parts_of) (defScope s_Document_parts_of) [] [] (He.fAd K at_Document_parts_of) fd := T.c.def_ 16 (d := Bg.d_Document_parts_of) rfl
theorem d_Document_rows (T : Tx K mg) : ∃ fd, FunD K "rows" "Document.rows" (defArgs s_Document_rows) (defBody s_Document_rows) (defScope s_Document_rows) [] [] (He.fAd K at_Document_rows) fd := T.c.def_ 17 (d := Bg.d_Document_rows) rfl
theorem d_Plant_init (T : Tx K mg) : ∃ fd, FunD K "__init__" "Plant.__init__" (defArgs s_Plant_init) (defBody s_Plant_init) (defScope s_Plant_init) [] [] (He.fAd K at_Plant_init) fd := T.c.def_ 18 (d := Bg.d_Plant_init) rfl
theorem d_Keeping_init (T : Tx K mg) : ∃ fd, FunD K "__init__" "Keeping.__init__" (defArgs s_Keeping_init) (defBody s_Keeping_init) (defScope s_Keeping_init) [] [] (He.fAd K at_Keeping_init) fd := T.c.def_ 19 (d := Bg.d_Keeping_init) rfl
theorem d_Keeping_look_up (T : Tx K mg) : ∃ fd, FunD K "look_up" "Keeping.look_up" (defArgs s_Keeping_look_up) (defBody s_Keeping_look_up) (defScope s_Keeping_look_up) [] [] (He.fAd K at_Keeping_look_up) fd := T.c.def_ 20 (d := Bg.d_Keeping_look_up) rfl
theorem d_Keeping_stands (T : Tx K mg) : ∃ fd, FunD K "stands" "Keeping.stands" (defArgs s_Keeping_stands) (defBody s_Keeping_stands) (defScope s_Keeping_stands) [] [] (He.fAd K at_Keeping_stands) fd := T.c.def_ 21 (d := Bg.d_Keeping_stands) rfl
theorem d_Keeping_look_down (T : Tx K mg) : ∃ fd, FunD K "look_down" "Keeping.look_down" (defArgs s_Keeping_look_down) (defBody s_Keeping_look_down) (defScope s_Keeping_look_down) [] [] (He.fAd K at_Keeping_look_down) fd := T.c.def_ 22 (d := Bg.d_Keeping_look_down) rfl
theorem d_Keeping_mend (T : Tx K mg) : ∃ fd, FunD K "mend" "Keeping.mend" (defArgs s_Keeping_mend) (defBody s_Keeping_mend) (defScope s_Keeping_mend) [] [] (He.fAd K at_Keeping_mend) fd := T.c.def_ 23 (d := Bg.d_Keeping_mend) rfl
theorem d_Keeping_forget (T : Tx K mg) : ∃ fd, FunD K "forget" "Keeping.forget" (defArgs s_Keeping_forget) (defBody s_Keeping_forget) (defScope s_Keeping_forget) [] [] (He.fAd K at_Keeping_forget) fd := T.c.def_ 24 (d := Bg.d_Keeping_forget) rfl
theorem d_Garden_init (T : Tx K mg) : ∃ fd, FunD K "__init__" "Garden.__init__" (defArgs s_Garden_init) (defBody s_Garden_init) (defScope s_Garden_init) [] [] (He.fAd K at_Garden_init) fd := T.c.def_ 25 (d := Bg.d_Garden_init) rfl
theorem d_Garden_beneath_too (T : Tx K mg) : ∃ fd, FunD K "beneath_too" "Garden.beneath_too" (defArgs s_Garden_beneath_too) (defBody s_Garden_beneath_too) (defScope s_Garden_beneath_too) [] [] (He.fAd K at_Garden_beneath_too) fd := T.c.def_ 26 (d := Bg.d_Garden_beneath_too) rfl
theorem d_Garden_marks (T : Tx K mg) : ∃ fd, FunD K "marks" "Garden.marks" (defArgs s_Garden_marks) (defBody s_Garden_marks) (defScope s_Garden_marks) [] [] (He.fAd K at_Garden_marks) fd := T.c.def_ 27 (d := Bg.d_Garden_marks) rfl
theorem d_Garden_way_up (T : Tx K mg) : ∃ fd, FunD K "way_up" "Garden.way_up" (defArgs s_Garden_way_up) (defBody s_Garden_way_up) (defScope s_Garden_way_up) [] [] (He.fAd K at_Garden_way_up) fd := T.c.def_ 28 (d := Bg.d_Garden_way_up) rfl
theorem d_Garden_document (T : Tx K mg) : ∃ fd, FunD K "document" "Garden.document" (defArgs s_Garden_document) (defBody s_Garden_document) (defScope s_Garden_document) [] [] (He.fAd K at_Garden_document) fd := T.c.def_ 29 (d := Bg.d_Garden_document) rfl
theorem d_Garden_need_part (T : Tx K mg) : ∃ fd, FunD K "need_part" "Garden.need_part" (defArgs s_Garden_need_part) (defBody s_Garden_need_part) (defScope s_Garden_need_part) [] [] (He.fAd K at_Garden_need_part) fd := T.c.def_ 30 (d := Bg.d_Garden_need_part) rfl
theorem d_Garden_put (T : Tx K mg) : ∃ fd, FunD K "put" "Garden.put" (defArgs s_Garden_put) (defBody s_Garden_put) (defScope s_Garden_put) [] [] (He.fAd K at_Garden_put) fd := T.c.def_ 31 (d := Bg.d_Garden_put) rfl
theorem d_Garden_take (T : Tx K mg) : ∃ fd, FunD K "take" "Garden.take" (defArgs s_Garden_take) (defBody s_Garden_take) (defScope s_Garden_take) [] [] (He.fAd K at_Garden_take) fd := T.c.def_ 32 (d := Bg.d_Garden_take) rfl
theorem d_Garden_name (T : Tx K mg) : ∃ fd, FunD K "name" "Garden.name" (defArgs s_Garden_name) (defBody s_Garden_name) (defScope s_Garden_name) [] [] (He.fAd K at_Garden_name) fd := T.c.def_ 33 (d := Bg.d_Garden_name) rfl
theorem d_Garden_mend_all (T : Tx K mg) : ∃ fd, FunD K "mend_all" "Garden.mend_all" (defArgs s_Garden_mend_all) (defBody s_Garden_mend_all) (defScope s_Garden_mend_all) [] [] (He.fAd K at_Garden_mend_all) fd := T.c.def_ 34 (d := Bg.d_Garden_mend_all) rfl
theorem d_Garden_keep (T : Tx K mg) : ∃ fd, FunD K "keep" "Garden.keep" (defArgs s_Garden_keep) (defBody s_Garden_keep) (defScope s_Garden_keep) [] [] (He.fAd K at_Garden_keep) fd := T.c.def_ 35 (d := Bg.d_Garden_keep) rfl
theorem d_Garden_keeping_at (T : Tx K mg) : ∃ fd, FunD K "keeping_at" "Garden.keeping_at" (defArgs s_Garden_keeping_at) (defBody s_Garden_keeping_at) (defScope s_Garden_keeping_at) [] [] (He.fAd K at_Garden_keeping_at) fd := T.c.def_ 36 (d := Bg.d_Garden_keeping_at) rfl
theorem d_Garden_answer (T : Tx K mg) : ∃ fd, FunD K "answer" "Garden.answer" (defArgs s_Garden_answer) (defBody s_Garden_answer) (defScope s_Garden_answer) [] [] (He.fAd K at_Garden_answer) fd := T.c.def_ 37 (d := Bg.d_Garden_answer) rfl
theorem d_Garden_tables (T : Tx K mg) : ∃ fd, FunD K "tables" "Garden.tables" (defArgs s_Garden_tables) (defBody s_Garden_tables) (defScope s_Garden_tables) [] [] (He.fAd K at_Garden_tables) fd := T.c.def_ 38 (d := Bg.d_Garden_tables) rfl
theorem d_Garden_looked (T : Tx K mg) : ∃ fd, FunD K "looked" "Garden.looked" (defArgs s_Garden_looked) (defBody s_Garden_looked) (defScope s_Garden_looked) [] [] (He.fAd K at_Garden_looked) fd := T.c.def_ 39 (d := Bg.d_Garden_looked) rfl
theorem d_Straight_way (T : Tx K mg) : ∃ fd, FunD K "way" "Straight.way" (defArgs s_Straight_way) (defBody s_Straight_way) (defScope s_Straight_way) [] [] (He.fAd K at_Straight_way) fd := T.c.def_ 40 (d := Bg.d_Straight_way) rfl
theorem d_Anywhere_way (T : Tx K mg) : ∃ fd, FunD K "way" "Anywhere.way" (defArgs s_Anywhere_way) (defBody s_Anywhere_way) (defScope s_Anywhere_way) [] [] (He.fAd K at_Anywhere_way) fd := T.c.def_ 41 (d := Bg.d_Anywhere_way) rfl
theorem d_step_of (T : Tx K mg) : ∃ fd, FunD K "step_of" "step_of" (defArgs s_step_of) (defBody s_step_of) (defScope s_step_of) [] [] (He.fAd K at_step_of) fd := T.c.def_ 42 (d := Bg.d_step_of) rfl
theorem d_is_step_row (T : Tx K mg) : ∃ fd, FunD K "is_step_row" "is_step_row" (defArgs s_is_step_row) (defBody s_is_step_row) (defScope s_is_step_row) [] [] (He.fAd K at_is_step_row) fd := T.c.def_ 43 (d := Bg.d_is_step_row) rfl
theorem d_Question_init (T : Tx K mg) : ∃ fd, FunD K "__init__" "Question.__init__" (defArgs s_Question_init) (defBody s_Question_init) (defScope s_Question_init) [] [] (He.fAd K at_Question_init) fd := T.c.def_ 44 (d := Bg.d_Question_init) rfl
theorem d_Question_need_step (T : Tx K mg) : ∃ fd, FunD K "need_step" "Question.need_step" (defArgs s_Question_need_step) (defBody s_Question_need_step) (defScope s_Question_need_step) [] [] (He.fAd K at_Question_need_step) fd := T.c.def_ 45 (d := Bg.d_Question_need_step) rfl
theorem d_Question_many (T : Tx K mg) : ∃ fd, FunD K "many" "Question.many" (defArgs s_Question_many) (defBody s_Question_many) (defScope s_Question_many) [] [] (He.fAd K at_Question_many) fd := T.c.def_ 46 (d := Bg.d_Question_many) rfl
theorem d_Question_step_at (T : Tx K mg) : ∃ fd, FunD K "step_at" "Question.step_at" (defArgs s_Question_step_at) (defBody s_Question_step_at) (defScope s_Question_step_at) [] [] (He.fAd K at_Question_step_at) fd := T.c.def_ 47 (d := Bg.d_Question_step_at) rfl
theorem d_Question_upper_of (T : Tx K mg) : ∃ fd, FunD K "upper_of" "Question.upper_of" (defArgs s_Question_upper_of) (defBody s_Question_upper_of) (defScope s_Question_upper_of) [] [] (He.fAd K at_Question_upper_of) fd := T.c.def_ 48 (d := Bg.d_Question_upper_of) rfl
theorem d_Question_lowers_of (T : Tx K mg) : ∃ fd, FunD K "lowers_of" "Question.lowers_of" (defArgs s_Question_lowers_of) (defBody s_Question_lowers_of) (defScope s_Question_lowers_of) [] [] (He.fAd K at_Question_lowers_of) fd := T.c.def_ 49 (d := Bg.d_Question_lowers_of) rfl
theorem d_Question_wanted (T : Tx K mg) : ∃ fd, FunD K "wanted" "Question.wanted" (defArgs s_Question_wanted) (defBody s_Question_wanted) (defScope s_Question_wanted) [] [] (He.fAd K at_Question_wanted) fd := T.c.def_ 50 (d := Bg.d_Question_wanted) rfl
theorem d_with_beneath (T : Tx K mg) : ∃ fd, FunD K "with_beneath" "with_beneath" (defArgs s_with_beneath) (defBody s_with_beneath) (defScope s_with_beneath) [] [] (He.fAd K at_with_beneath) fd := T.c.def_ 51 (d := Bg.d_with_beneath) rfl
theorem d_with_above (T : Tx K mg) : ∃ fd, FunD K "with_above" "with_above" (defArgs s_with_above) (defBody s_with_above) (defScope s_with_above) [] [] (He.fAd K at_with_above) fd := T.c.def_ 52 (d := Bg.d_with_above) rfl
theorem d_down_row (T : Tx K mg) : ∃ fd, FunD K "down_row" "down_row" (defArgs s_down_row) (defBody s_down_row) (defScope s_down_row) [] [] (He.fAd K at_down_row) fd := T.c.def_ 53 (d := Bg.d_down_row) rfl
theorem d_full_row (T : Tx K mg) : ∃ fd, FunD K "full_row" "full_row" (defArgs s_full_row) (defBody s_full_row) (defScope s_full_row) [] [] (He.fAd K at_full_row) fd := T.c.def_ 54 (d := Bg.d_full_row) rfl
theorem d_down_table (T : Tx K mg) : ∃ fd, FunD K "down_table" "down_table" (defArgs s_down_table) (defBody s_down_table) (defScope s_down_table) [] [] (He.fAd K at_down_table) fd := T.c.def_ 55 (d := Bg.d_down_table) rfl
theorem d_full_table (T : Tx K mg) : ∃ fd, FunD K "full_table" "full_table" (defArgs s_full_table) (defBody s_full_table) (defScope s_full_table) [] [] (He.fAd K at_full_table) fd := T.c.def_ 56 (d := Bg.d_full_table) rfl
theorem d_run_slow (T : Tx K mg) : ∃ fd, FunD K "run_slow" "run_slow" (defArgs s_run_slow) (defBody s_run_slow) (defScope s_run_slow) [] [] (He.fAd K at_run_slow) fd := T.c.def_ 57 (d := Bg.d_run_slow) rfl
theorem d__law_cell_at (T : Tx K mg) : ∃ fd, FunD K "_law_cell_at" "_law_cell_at" (defArgs s__law_cell_at) (defBody s__law_cell_at) (defScope s__law_cell_at) [] [] (He.fAd K at__law_cell_at) fd := T.c.def_ 58 (d := Bg.d__law_cell_at) rfl
theorem d__law_source (T : Tx K mg) : ∃ fd, FunD K "_law_source" "_law_source" (defArgs s__law_source) (defBody s__law_source) (defScope s__law_source) [] [] (He.fAd K at__law_source) fd := T.c.def_ 59 (d := Bg.d__law_source) rfl
theorem d__law_take (T : Tx K mg) : ∃ fd, FunD K "_law_take" "_law_take" (defArgs s__law_take) (defBody s__law_take) (defScope s__law_take) [] [] (He.fAd K at__law_take) fd := T.c.def_ 60 (d := Bg.d__law_take) rfl
theorem d__law_labels (T : Tx K mg) : ∃ fd, FunD K "_law_labels" "_law_labels" (defArgs s__law_labels) (defBody s__law_labels) (defScope s__law_labels) [] [] (He.fAd K at__law_labels) fd := T.c.def_ 61 (d := Bg.d__law_labels) rfl
theorem d__law_depth (T : Tx K mg) : ∃ fd, FunD K "_law_depth" "_law_depth" (defArgs s__law_depth) (defBody s__law_depth) (defScope s__law_depth) [] [] (He.fAd K at__law_depth) fd := T.c.def_ 62 (d := Bg.d__law_depth) rfl
theorem d__law_rows (T : Tx K mg) : ∃ fd, FunD K "_law_rows" "_law_rows" (defArgs s__law_rows) (defBody s__law_rows) (defScope s__law_rows) [] [] (He.fAd K at__law_rows) fd := T.c.def_ 63 (d := Bg.d__law_rows) rfl
theorem d__law_steps (T : Tx K mg) : ∃ fd, FunD K "_law_steps" "_law_steps" (defArgs s__law_steps) (defBody s__law_steps) (defScope s__law_steps) [] [] (He.fAd K at__law_steps) fd := T.c.def_ 64 (d := Bg.d__law_steps) rfl
theorem d__law_deed (T : Tx K mg) : ∃ fd, FunD K "_law_deed" "_law_deed" (defArgs s__law_deed) (defBody s__law_deed) (defScope s__law_deed) [] [] (He.fAd K at__law_deed) fd := T.c.def_ 65 (d := Bg.d__law_deed) rfl
theorem d__law_question (T : Tx K mg) : ∃ fd, FunD K "_law_question" "_law_question" (defArgs s__law_question) (defBody s__law_question) (defScope s__law_question) [] [] (He.fAd K at__law_question) fd := T.c.def_ 66 (d := Bg.d__law_question) rfl
theorem d__law_kept (T : Tx K mg) : ∃ fd, FunD K "_law_kept" "_law_kept" (defArgs s__law_kept) (defBody s__law_kept) (defScope s__law_kept) [] [] (He.fAd K at__law_kept) fd := T.c.def_ 67 (d := Bg.d__law_kept) rfl
theorem d__law_right (T : Tx K mg) : ∃ fd, FunD K "_law_right" "_law_right" (defArgs s__law_right) (defBody s__law_right) (defScope s__law_right) [] [] (He.fAd K at__law_right) fd := T.c.def_ 68 (d := Bg.d__law_right) rfl
theorem d__law_anew (T : Tx K mg) : ∃ fd, FunD K "_law_anew" "_law_anew" (defArgs s__law_anew) (defBody s__law_anew) (defScope s__law_anew) [] [] (He.fAd K at__law_anew) fd := T.c.def_ 69 (d := Bg.d__law_anew) rfl
theorem d__law_at_bound (T : Tx K mg) : ∃ fd, FunD K "_law_at_bound" "_law_at_bound" (defArgs s__law_at_bound) (defBody s__law_at_bound) (defScope s__law_at_bound) [] [] (He.fAd K at__law_at_bound) fd := T.c.def_ 70 (d := Bg.d__law_at_bound) rfl
theorem d_law (T : Tx K mg) : ∃ fd, FunD K "law" "law" (defArgs s_law) (defBody s_law) (defScope s_law) [] [] (He.fAd K at_law) fd := T.c.def_ 71 (d := Bg.d_law) rfl
theorem d_Straight_init (T : Tx K mg) : ∃ fd, FunD K "__init__" "Step.__init__" (defArgs s_Straight_init) (defBody s_Straight_init) (defScope s_Straight_init) [] [] (He.fAd K at_Straight_init) fd := T.c.def_ 72 (d := Bg.d_Straight_init) rfl
theorem d_Anywhere_init (T : Tx K mg) : ∃ fd, FunD K "__init__" "Step.__init__" (defArgs s_Anywhere_init) (defBody s_Anywhere_init) (defScope s_Anywhere_init) [] [] (He.fAd K at_Anywhere_init) fd := T.c.def_ 73 (d := Bg.d_Anywhere_init) rfl
end Tx
end Bg

set_option Elab.async false
set_option linter.all false
set_option maxRecDepth 100000
set_option maxHeartbeats 0
namespace Bg
open PySem PySem.Spec PyProof.Rows L2
abbrev R : PySem.W.OpenRow := PySem.W.OpenLaw.row PySem.Challenge.rw_boughask_k84_whole_gardens
abbrev hk : PySem.W.Hook := hookB ads fa fn exB
def ob (s : PySem.W.SharedT) : He.AlD × Bool := obB ads fa fn exB (HandSHeadRun.getT s)
def names1 : List PySem.Str := [("_wall" : PySem.Str), ("__name__" : PySem.Str), ("BoughError" : PySem.Str), ("NoLabel" : PySem.Str), ("NoPart" : PySem.Str), ("NoStep" : PySem.Str), ("NoPlace" : PySem.Str), ("NoDocument" : PySem.Str), ("NoQuestion" : PySem.Str), ("NoWanted" : PySem.Str), ("TooMany" : PySem.Str), ("TooDeep" : PySem.Str), ("NoView" : PySem.Str), ("LETTERS" : PySem.Str), ("MOST_LETTERS" : PySem.Str), ("is_whole" : PySem.Str), ("is_within" : PySem.Str), ("is_label" : PySem.Str), ("MOST_PARTS_document" : PySem.Str), ("MOST_DEEP_document" : PySem.Str), ("ends_by" : PySem.Str), ("uppers_by" : PySem.Str), ("is_part_row" : PySem.Str), ("Document" : PySem.Str), ("MOST_PARTS_garden" : PySem.Str), ("MOST_DEEP_garden" : PySem.Str), ("MOST_KEPT" : PySem.Str), ("Plant" : PySem.Str), ("Keeping" : PySem.Str), ("Garden" : PySem.Str), ("Step" : PySem.Str), ("Straight" : PySem.Str), ("Anywhere" : PySem.Str), ("step_of" : PySem.Str), ("MOST_STEPS" : PySem.Str)]
def names2 : List PySem.Str := [("MOST_DEEP_question" : PySem.Str), ("WAYS" : PySem.Str), ("is_step_row" : PySem.Str), ("Question" : PySem.Str), ("with_beneath" : PySem.Str), ("with_above" : PySem.Str), ("down_row" : PySem.Str), ("full_row" : PySem.Str), ("down_table" : PySem.Str), ("full_table" : PySem.Str), ("run_slow" : PySem.Str), ("_law_cell_at" : PySem.Str), ("_law_source" : PySem.Str), ("_law_take" : PySem.Str), ("_law_labels" : PySem.Str), ("_law_depth" : PySem.Str), ("_law_rows" : PySem.Str), ("_law_steps" : PySem.Str), ("_law_deed" : PySem.Str), ("_law_question" : PySem.Str), ("_law_kept" : PySem.Str), ("_law_right" : PySem.Str), ("_law_anew" : PySem.Str), ("_law_at_bound" : PySem.Str)]
def names : List PySem.Str := names1 ++ names2
theorem ob_eq (s : PySem.W.SharedT) : ob s = hk.obs s.abs := obB_eq (HandSHeadRun.getT_eq s)
/-- the head's run, once -/
theorem run (w : World) : HandSHeadRun.RunEq R (PySem.W.view R.prog [67]) hk ob 12000 names w := by
  intro os
  kernel_rfl
end Bg

set_option Elab.async false
set_option linter.all false
set_option maxRecDepth 100000
set_option maxHeartbeats 4000000
/-! rules of our own -/
namespace Bg
open PySem PySem.Spec PyProof.Rows L2
/-! ### defs by their promises -/
/-- the def at_ keeps sp -/
def Ok (P : Program) (w : World) (K : PySem.W.Frag) (mg : Str → Option Value) (base : Heap) (lv : Nat) (at_ : Str × Option Str) (ps : List Str) (sp : Sp) : Prop :=
  ∃ fd, FnOk P w K mg base CX0 lv (He.fAd K at_) fd ps sp ∧ Binds K fd ps [] ∧ PySem.W.keepIn K (.ref (He.fAd K at_)) = true
section
variable {P : Program} {w : World} {K : PySem.W.Frag} {mg : Str → Option Value} {base : Heap}
theorem mkOk {x qual : Str} {st : Stmt} {at_ : Str × Option Str} {N ps : List Str} {k : Nat} {sp : Sp} (E : ∃ fd, FunD K x qual (defArgs st) (defBody st) (defScope st) [] [] (He.fAd K at_) fd) (S : FnScope N ps (defScope st))
    (hb : ∀ (kV doc pm : Value) (an : Option Addr) (cdv ct : Value) (us : List Value), us.length = ps.length → bindArgs (PySem.W.fnOf x qual (defArgs st) (defBody st) (defScope st) .none kV doc pm an cdv ct) ⟨us, []⟩ = pure (ps.zip us))
    (len : ∀ vs H Q E, sp vs H Q E → vs.length = ps.length)
    (hbody : ∀ (cdv : Value) (A : Around) (outer : List Env) (s : Shared) (H : Hp) (vs : List V) (Q : VK) (E : XK), Room k (A.deeper (envOfC qual (defScope st) s.heap.objs.size (He.fAd K at_) cdv)) → sp vs H Q E →
      ∃ t, PSs (cxOf CX0 P w K mg base N qual (defScope st) (He.fAd K at_) cdv A outer s H E).nox (defBody st) t ∧ t { nx := fun _ H' => Q .non H', rt := Q } (start N vs) H) : Ok P w K mg base (k + 1) at_ ps sp := by
  obtain ⟨fd, F⟩ := E
  refine ⟨fd, F.ok S len fun cdv A outer s H vs Q E hr h => ?_, F.bindsN hb, F.kp⟩
  obtain ⟨t, h1, h2⟩ := hbody cdv A outer s H vs Q E hr h
  exact ⟨t, h1.nox, h2⟩
theorem Ok.imp {lv : Nat} {at_ : Str × Option Str} {ps : List Str} {sp sp' : Sp} (h : Ok P w K mg base lv at_ ps sp) (i : ∀ vs H Q E, sp' vs H Q E → sp vs H Q E) : Ok P w K mg base lv at_ ps sp' := by
  obtain ⟨fd, F, b, k⟩ := h
  exact ⟨fd, F.imp i, b, k⟩
end
section
variable {X : Cx} {lv : Nat} {x c m : Str} {ps : List Str} {sp : Sp} {p apos pos : Pos} {e o : Expr} {es : List Expr} {ta : TE} {t : TA}
/-- f(e, ..) -/
theorem pfn (F : Ok X.prog X.w X.K X.mg X.base lv (x, none) ps sp) (hm : X.mg x = some (.ref (He.ga X.K x))) (hr : Room lv X.A) (ha : PA X (e :: es) t) (hg : Gl X x := by rfl) (hdb : (x == ("__debug__" : Str)) = false := by decide)
    (he : starEach (e :: es) X.env = (false, eval e X.env) :: starEach es X.env := by rfl) (hpl : (backTo pos (starEach es X.env)).any (·.1) = false := by rfl) : PE X (.Call (.Name x p) (e :: es) [] pos) (tCall sp [] E0 t) := by
  obtain ⟨fd, G, b, k⟩ := F
  exact pe_call G hr hg hm k b .nil pass0 ha hdb he hpl
/-- o.m(e, ..) -/
theorem pme {pl : Sem Bool} (he : PE X o ta) (F : Ok X.prog X.w X.K X.mg X.base lv (c, some m) ps sp) (hc : Cls X.K (He.ga X.K c)) (hm : Meth X.K (He.ga X.K c) m (He.ma X.K (He.ga X.K c) m)) (hr : Room lv X.A) (ha : PA X (e :: es) t)
    (hst : starEach (e :: es) X.env = (false, eval e X.env) :: starEach es X.env := by rfl) (hpl : (backTo pos (starEach es X.env)).any (·.1) = false := by rfl)
    (ht : eval (.Call (.Attribute o m apos) (e :: es) [] pos) X.env = (do
      let ov ← eval o X.env
      standAt apos.atName
      let (f, first) ← holding [ov] (getMethod ov m pl)
      callWith pos f first (backTo pos (starEach (e :: es) X.env)) (backToKw pos (keywordEach [] X.env))) := by rfl) :
    PE X (.Call (.Attribute o m apos) (e :: es) [] pos) (tMeth (He.ga X.K c) m sp [] E0 ta t) := by
  obtain ⟨fd, G, b, k⟩ := F
  exact pe_meth he hc hm G hr b .nil pass0 ha hst hpl ht
theorem pme0 {pl : Sem Bool} (he : PE X o ta) (F : Ok X.prog X.w X.K X.mg X.base lv (c, some m) ps sp) (hc : Cls X.K (He.ga X.K c)) (hm : Meth X.K (He.ga X.K c) m (He.ma X.K (He.ga X.K c) m)) (hr : Room lv X.A)
    (ht : eval (.Call (.Attribute o m apos) [] [] pos) X.env = (do
      let ov ← eval o X.env
      standAt apos.atName
      let (f, first) ← holding [ov] (getMethod ov m pl)
      callWith pos f first (backTo pos (starEach [] X.env)) (backToKw pos (keywordEach [] X.env))) := by rfl) :
    PE X (.Call (.Attribute o m apos) [] [] pos) (tMeth (He.ga X.K c) m sp [] E0 ta tNil) := by
  obtain ⟨fd, G, b, k⟩ := F
  exact pe_meth0 he hc hm G hr b .nil pass0 ht
/-- C(e, ..) -/
theorem pmk (F : Ok X.prog X.w X.K X.mg X.base lv (x, some "__init__") ps sp) (M : Mk X.K (He.ga X.K x) (He.ma X.K (He.ga X.K x) "__init__")) (hm : X.mg x = some (.ref (He.ga X.K x))) (hr : Room (lv + 1) X.A) (ha : PA X (e :: es) t) (hg : Gl X x := by rfl)
    (hdb : (x == ("__debug__" : Str)) = false := by decide) (he : starEach (e :: es) X.env = (false, eval e X.env) :: starEach es X.env := by rfl) (hpl : (backTo pos (starEach es X.env)).any (·.1) = false := by rfl) :
    PE X (.Call (.Name x p) (e :: es) [] pos) (tMake (He.ga X.K x) sp [] E0 t) := by
  obtain ⟨fd, G, b, k⟩ := F
  exact pe_make M G hr hg hm b .nil pass0 ha hdb he hpl
/-- a module's whole number | text | object -/
theorem pgi {i : Int} (h : ∃ t, X.mg x = some (.int i t)) (hg : Gl X x := by rfl) (hdb : (x == ("__debug__" : Str)) = false := by decide) : PE X (.Name x p) (tC (.int i)) := by
  obtain ⟨t, h⟩ := h
  exact pe_glob hg h ⟨t, rfl⟩ hdb
theorem pgs {z : Str} (h : ∃ t, X.mg x = some (.str z t)) (hg : Gl X x := by rfl) (hdb : (x == ("__debug__" : Str)) = false := by decide) : PE X (.Name x p) (tC (.str z)) := by
  obtain ⟨t, h⟩ := h
  exact pe_glob hg h ⟨t, rfl⟩ hdb
theorem pgr {a : Addr} (h : X.mg x = some (.ref a)) (hg : Gl X x := by rfl) (hdb : (x == ("__debug__" : Str)) = false := by decide) : PE X (.Name x p) (tC (.ref a)) := pe_glob hg h rfl hdb
end
/-! ### o.way(): of two classes -/
def spWay (z : Str) : Sp := fun vs H Q _ => ∃ a, vs = [.ref a] ∧ Q (.str z) H
def tWay (K : PySem.W.Frag) (ta : TE) : TE := fun σ H Q => ta σ H fun x H1 => ∃ (a dx : Addr) (fs : List (Str × V)) (st : Bool), x = .ref a ∧ H1 a = some (.ins (if st = true then aStraight K else aAnywhere K) dx fs) ∧ fs.lookup ("way" : Str) = none ∧
  Q (.str (if st = true then "/" else "//")) H1
theorem pway {X : Cx} {lv : Nat} {o : Expr} {ta : TE} {apos pos : Pos} {pl : Sem Bool} (he : PE X o ta) (F1 : Ok X.prog X.w X.K X.mg X.base lv ("Straight", some "way") ["self"] (spWay "/")) (F2 : Ok X.prog X.w X.K X.mg X.base lv ("Anywhere", some "way") ["self"] (spWay "//"))
    (T : Tx X.K X.mg) (hr : Room lv X.A)
    (ht : eval (.Call (.Attribute o "way" apos) [] [] pos) X.env = (do
      let ov ← eval o X.env
      standAt apos.atName
      let (f, first) ← holding [ov] (getMethod ov "way" pl)
      callWith pos f first (backTo pos (starEach [] X.env)) (backToKw pos (keywordEach [] X.env))) := by rfl) :
    PE X (.Call (.Attribute o "way" apos) [] [] pos) (tWay X.K ta) := by
  obtain ⟨fd1, G1, b1, k1⟩ := F1
  obtain ⟨fd2, G2, b2, k2⟩ := F2
  refine ⟨fun pins s σ H Q I h => ?_⟩
  refine PySem.W.methodCall_KW (pl := pl) (thn (he.run pins s σ H _ I h) fun u s1 ⟨x, H1, I1, rx, a, dx, fs, st, ex, ea, l, q⟩ => ?_) ht
  subst ex
  obtain rfl : u = Value.ref a := rx
  cases st with
  | true =>
    refine getmeth_ok I1 ea T.c_Straight T.m_Straight_way l ?_
    exact PySem.W.callWith_K0 (first := [.ref a]) I1.kIn T.m_Straight_way.kp (run_fn (us := [.ref a]) (vs := [.ref a]) G1 hr b1 .nil pass0 I1 (.cons rfl .nil) ⟨a, rfl, q⟩)
  | false =>
    refine getmeth_ok I1 ea T.c_Anywhere T.m_Anywhere_way l ?_
    exact PySem.W.callWith_K0 (first := [.ref a]) I1.kIn T.m_Anywhere_way.kp (run_fn (us := [.ref a]) (vs := [.ref a]) G2 hr b2 .nil pass0 I1 (.cons rfl .nil) ⟨a, rfl, q⟩)
/-! ### lists compared with an empty one, whatever they hold -/
def rNeE (K : PySem.W.Frag) : R2 := fun x y H Q => ∃ a b xs, x = .ref a ∧ y = .ref b ∧ a ≠ b ∧ SqL K H a xs ∧ SqL K H b [] ∧ Q (.bl (!xs.isEmpty)) H
theorem op_neE {X : Cx} (hu : X.A.units + 64 < cLine) : OpR X (compareOp .NotEq) (rNeE X.K) := by
  intro pins s σ H x y v u Q I rx ry h
  obtain ⟨a, b, xs, rfl, rfl, hne, ha, hb, q⟩ := h
  cases xs with
  | nil =>
    exact op_neD hu pins s σ H (.ref a) (.ref b) v u Q I rx ry ⟨.list [], .list [], .lst ha .nil, .lst hb .nil, by decide +kernel, by decide +kernel, q⟩
  | cons z zs =>
    cases rx
    cases ry
    obtain ⟨its, r, pa, hz⟩ := I.list ha
    obtain ⟨its2, r2, pb, hz2⟩ := I.list hb
    have e2 : its2 = [] := by cases r2; rfl
    subst e2
    have hl := r.length
    have hsz : (its.toArray.size != ([] : List Value).toArray.size) = true := by
      rw [bne_iff_ne]; simp only [List.size_toArray, List.length_nil]; rw [← hl]; simp
    have hu2 : X.A.units < cLine := by omega
    exact SeqAt.RcNeAt.lists_lengths pa.isList pb.isList hsz hu2 X.prog X.w X.xe _ ⟨.bl _, H, I, rfl, q⟩
def rEqE (K : PySem.W.Frag) : R2 := fun x y H Q => ∃ a b xs, x = .ref a ∧ y = .ref b ∧ a ≠ b ∧ SqL K H a xs ∧ SqL K H b [] ∧ Q (.bl xs.isEmpty) H
theorem op_eqE {X : Cx} (hu : X.A.units + 64 < cLine) : OpR X (compareOp .Eq) (rEqE X.K) := by
  intro pins s σ H x y v u Q I rx ry h
  obtain ⟨a, b, xs, rfl, rfl, hne, ha, hb, q⟩ := h
  cases xs with
  | nil =>
    exact op_eqD hu pins s σ H (.ref a) (.ref b) v u Q I rx ry ⟨.list [], .list [], .lst ha .nil, .lst hb .nil, by decide +kernel, by decide +kernel, q⟩
  | cons z zs =>
    cases rx
    cases ry
    obtain ⟨its, r, pa, hz⟩ := I.list ha
    obtain ⟨its2, r2, pb, hz2⟩ := I.list hb
    have e2 : its2 = [] := by cases r2; rfl
    subst e2
    have hl := r.length
    have hsz : (its.toArray.size != ([] : List Value).toArray.size) = true := by
      rw [bne_iff_ne]; simp only [List.size_toArray, List.length_nil]; rw [← hl]; simp
    have hu2 : X.A.units < cLine := by omega
    exact SeqAt.RcAt.lists_lengths pa.isList pb.isList hsz hu2 X.prog X.w X.xe _ ⟨.bl _, H, I, rfl, q⟩
/-! ### list by place, changed -/
def rGetL (K : PySem.W.Frag) : V → V → Hp → VK → Prop := fun x y H Q => ∃ (p : Addr) (xs : List V) (j : Nat) (v : V), x = .ref p ∧ y = .int (j : Int) ∧ SqL K H p xs ∧ j < 1000000 ∧ xs[j]? = some v ∧ Q v H
theorem get_list {X : Cx} : PGet X (rGetL X.K) := by
  intro pins s σ H o i ov iv Q I r1 r2 h
  obtain ⟨p, xs, j, z, rfl, rfl, hq, hj, he, q⟩ := h
  cases r1
  obtain ⟨t, rfl⟩ := r2
  obtain ⟨its, r, pl, hz⟩ := I.list hq
  obtain ⟨w, ew, rw'⟩ := r.get he
  exact wpAny_getItem_list pl.isList (by omega) (by omega) (by simpa using ew) ⟨z, H, I, rw', q⟩
/-- xs[i] |= e -/
theorem ps_orL {X : Cx} {o i e : Expr} {to ti te : TE} {tpos pos : Pos} (ho : PE X o to) (hi : PE X i ti) (he : PE X e te)
    (ha : ∀ ov iv new, augStore i ov iv new = (do holding [new, ov, iv] (setItem ov iv new); release [new, ov, iv] []; pure .next) := by intros; rfl) :
    PS X (.AugAssign (.Subscript o i tpos) .BitOr e pos) (tAugS to ti te (rGetL X.K) (rI0 fun i j => .int (Builtin.bitOr i j)) rSetL) :=
  ps_augS ho hi get_list he iop_or set_list ha
/-! ### list(reversed(a list)) -/
section
open PySem.W RT
variable {prog : Program} {w : World} {A : Around} {E : Value → Shared → Prop} {s : Shared}
theorem init_rev {R : Result → Shared → Prop} {it l : Addr} {items : Array Value} (hh : A.handled = none) (hit : s.heap.IsRevIter it l ((items.size : Int) - 1)) (hl : s.heap.IsList l items) (hne : l ≠ it) (hn : items.size ≤ sizeLine)
    (S : Addr) (hSi : S ≠ it) (hSl : S ≠ l) (hS : s.heap.get? S = some { cls := .type "list", data := .seq #[] })
    (hR : ∀ h' tk acc' c', (∀ b o, b ≠ S → b ≠ it → s.heap.get? b = some o → h'.get? b = some o) → h'.get? S = some { cls := .type "list", dict := none, data := .seq acc' c', slots := #[] } →
      ItemsOf (fun i v => items[items.size - 1 - i]? = some v) acc' items.size → R (.ok (.ret .none)) { s with heap := h', toks := tk }) :
    wpAny (model prog w) A.in1 (Builtin.«list.__init__» ⟨[.ref S, .ref it], []⟩)
      (fun fin s' => match fin with | .done f => R (.ok f) s' | .again c' => c'.quiet = true ∧ codeAny (model prog w) A c' R s') (fun e s' => R (.error e) s') s := by
  have W := (Walks.listRev (prog := prog) (w := w) (A := A.in1) hh it l hne items).toS
  have hSf : S ∉ [it, l] := by simp only [List.mem_cons, List.not_mem_nil, or_false, not_or]; exact ⟨hSi, hSl⟩
  show wpAny _ _ (do let old ← Builtin.List.listItems (.ref S); Builtin.List.listUpdate (.ref S) (fun _ => #[]); letGo old.toList.reverse; Builtin.List.listExtendWith (.ref S) (.ref it) .none) _ _ s
  refine wpAny_bind ?_
  unfold Builtin.List.listItems
  refine wpAny_bind (wpAny_seqItems hS rfl (wpAny_pure ?_))
  show wpAny _ _ (updateSeq S (fun _ => #[]) >>= fun _ => letGo (#[] : Array Value).toList.reverse >>= fun _ => Builtin.List.listExtendWith (.ref S) (.ref it) .none) _ _ s
  refine wpAny_bind (wpAny_updateSeq hS rfl ?_)
  have hS₂ := Heap.get?_update_self (Obj.mapSeq (fun _ => (#[] : Array Value))) hS rfl
  have oth : ∀ b o, b ≠ S → s.heap.get? b = some o → (s.heap.update S (Obj.mapSeq (fun _ => (#[] : Array Value)))).get? b = some o :=
    fun b o hb e => (Heap.get?_update_other _ _ (Ne.symm hb)).trans e
  refine wpAny_bind (wpAny_letGo ?_)
  generalize hh2 : s.heap.update S (Obj.mapSeq (fun _ => (#[] : Array Value))) = h2 at hS₂ oth ⊢
  have hit1 : h2.IsRevIter it l ((items.size : Int) - 1) := hit.at fun o e => oth it o hSi.symm e
  have hl1 : h2.IsList l items := by
    obtain ⟨o, ho, x⟩ := hl
    exact ⟨o, oth l o hSl.symm ho, x⟩
  have hT : ({ s with heap := h2 } : Shared).TypeIs (.ref it) "list_reverseiterator" := Heap.IsRevIter.typeIs (s := { s with heap := h2 }) hit1
  have h1 : Builtin.List.listSameRef (.ref S) (.ref it) = false := by simp [Builtin.List.listSameRef, hSi]
  unfold Builtin.List.listExtendWith
  refine wpAny_bind (wpAny_typeOf hT ?_)
  rw [if_neg (by rw [h1]; decide)]
  refine wpAny_bind (wpAny_pyIter_revIter (s := { s with heap := h2 }) hit1 ?_)
  refine wpAny_bind (wpAny_holding ?_)
  unfold Builtin.List.listLengthHint
  refine wpAny_bind (wpAny_specialOf hT nolen_lri ?_)
  show wpAny _ A.in1 (specialOf (Value.ref it) (Str.ofString "__length_hint__") >>= _) _ _ _
  refine wpAny_bind (wpAny_specialOf hT hint_lri ?_)
  generalize hid : ("list_reverseiterator.__length_hint__" : String) = id0
  wp_delta
  rw [show splitId id0 = some ("list_reverseiterator", "__length_hint__") from by subst hid; decide +kernel]
  subst hid
  refine wpAny_bind (wpAny_isInstance (b := true) hT (by rw [isSubtype_type]; kernel_rfl) ?_)
  refine wpAny_pure ?_
  rw [if_neg (by decide)]
  have e0 : ((items.size : Nat) : Int) - 1 - ((0 : Nat) : Int) = (items.size : Int) - 1 := by omega
  refine wpAny_pure ⟨plainId_quiet F.plain_extend_loop _, codeAny_extend_loopS W hn _ hSf _ items.size 0 _ _ _ rfl (Nat.zero_le _) ⟨Nat.zero_le _, by rw [e0]; exact hit1, hl1⟩ hS₂ (ItemsOf.nil _) fun s' acc' c' hm hS' hacc => ?_⟩
  rw [Moved.eq_with hm]
  refine hR s'.heap s'.toks acc' c' (fun b o hbS hbi e => hm.heap b o (fun hmem => ?_) (oth b o hbS e)) hS' hacc
  rcases List.mem_cons.mp hmem with e' | hmem
  · exact hbS e'
  · exact hbi (List.mem_singleton.mp hmem)
theorem call_list_rev {Q : Value → Shared → Prop} {it l : Addr} {items : Array Value} (hh : A.handled = none) (hit : s.heap.IsRevIter it l ((items.size : Int) - 1)) (hl : s.heap.IsList l items) (hne : l ≠ it) (hn : items.size ≤ sizeLine)
    (hQ : ∀ h' tk acc' c', (∀ b o, b ≠ it → s.heap.get? b = some o → h'.get? b = some o) →
      h'.get? s.heap.objs.size = some { cls := .type "list", dict := none, data := .seq acc' c', slots := #[] } → ItemsOf (fun i v => items[items.size - 1 - i]? = some v) acc' items.size → Q (.ref s.heap.objs.size) { s with heap := h', toks := tk }) :
    wpAny (model prog w) A (call (.type "list") [.ref it]) Q E s := by
  refine callType_codes (Q₁ := fun obj s₁ => obj = .ref s.heap.objs.size ∧ s₁ = { s with heap := s.heap.push { cls := .type "list", data := .seq #[] } }) PySem.F.called_list (PySem.F.typeCall_list_1 _) PySem.F.entry_list_init
    (code_list_new _ ⟨rfl, rfl⟩) fun obj s₁ h₁ => ?_
  obtain ⟨rfl, rfl⟩ := h₁
  have hS : (s.heap.push { cls := .type "list", data := .seq #[] }).get? s.heap.objs.size = some { cls := .type "list", data := .seq #[] } := Heap.get?_push_size _ rfl
  obtain ⟨oi, hoi, _⟩ := id hit
  obtain ⟨ol, hol, _⟩ := id hl
  refine ⟨⟨_, hS, rfl⟩, PySem.F.args_list_init_2 _ _, init_rev (A := A.in1) (l := l) (items := items) hh (hit.at fun o e => Heap.get?_push_of_some _ e) (hl.push _) hne hn _ (Nat.ne_of_gt (Heap.lt_size hoi)) (Nat.ne_of_gt (Heap.lt_size hol)) hS fun h' tk acc' c' hk hS' hacc => ?_⟩
  exact ⟨rfl, hQ h' tk acc' c' (fun b o hb e => hk b o (Nat.ne_of_lt (Heap.lt_size e)) hb (Heap.get?_push_of_some _ e)) hS' hacc⟩
end
def tLstRev (K : PySem.W.Frag) (te : TE) : TE := fun σ H Q => te σ H fun v H1 => ∃ (a : Addr) (xs : List V), v = .ref a ∧ SqL K H1 a xs ∧ ∀ q, H1 q = none → Q (.ref q) (upd H1 q (.lst xs.reverse))
theorem pe_lstRev {X : Cx} {e : Expr} {te : TE} {p p2 pos pos2 : Pos} (hc : X.calm = true) (hm : X.mg "list" = none) (hm2 : X.mg "reversed" = none) (he : PE X e te) (hg : Gl X "list" := by rfl) (hg2 : Gl X "reversed" := by rfl)
    (hs : starEach [e] X.env = (false, eval e X.env) :: starEach [] X.env := by rfl)
    (hs2 : starEach [.Call (.Name "reversed" p2) [e] [] pos2] X.env = (false, eval (.Call (.Name "reversed" p2) [e] [] pos2) X.env) :: starEach [] X.env := by rfl) :
    PE X (.Call (.Name "list" p) [.Call (.Name "reversed" p2) [e] [] pos2] [] pos) (tLstRev X.K te) := by
  refine ⟨fun pins s σ H Q I h => ?_⟩
  refine Call_ (ld_blt I hg hm boot_list (PyProof.Rows.callWith_type1 (args_cons (Call_ (ld_blt I hg2 hm2 PyProof.Rows.boot_reversed (PyProof.Rows.callWith_type1 (args_cons (thn (he.run pins s σ H _ I h) fun u s1 ⟨v, H1, I1, r1, q1⟩ => args_nil ?_) hs) hs rfl))) hs2) hs2 rfl))
  obtain ⟨a, xs, ev, hq, q⟩ := q1
  subst ev
  obtain rfl : u = Value.ref a := r1
  obtain ⟨its, rv, p', hz⟩ := I1.list hq
  refine call_reversed_list p'.isList (args_nil ?_)
  have k0 : ∀ b o, s1.heap.get? b = some o → (s1.heap.push (revObj a ((its.toArray.size : Int) - 1))).get? b = some o := fun b o e => Heap.get?_push_of_some _ e
  have I2 : Inv X pins σ H1 { s1 with heap := s1.heap.push (revObj a ((its.toArray.size : Int) - 1)) } := I1.kept (t' := s1.toks) k0
  obtain ⟨f0, f1, f2, f3, f4, f5⟩ := I1.fpOk (H' := H1) (b := s1.heap.objs.size) (Nat.le_refl _) (I1.hok.fresh (Nat.le_refl _))
  have hl := p'.isList
  obtain ⟨ol, hol, _⟩ := id hl
  have hne : a ≠ s1.heap.objs.size := Nat.ne_of_lt (Heap.lt_size hol)
  have hn : its.toArray.size ≤ sizeLine := by rw [List.size_toArray, ← rv.length]; exact hz
  refine call_list_rev (s := { s1 with heap := s1.heap.push (revObj a ((its.toArray.size : Int) - 1)) }) (I1.ok.hd hc) ⟨_, Heap.get?_push_size _ rfl, rfl, rfl⟩ (hl.push _) hne hn fun h' tk acc c' hk hS hi => ?_
  have hS1 : s1.heap.objs.size ≤ (s1.heap.push (revObj a ((its.toArray.size : Int) - 1))).objs.size := by rw [Heap.size_push]; omega
  refine ⟨.ref (s1.heap.push (revObj a ((its.toArray.size : Int) - 1))).objs.size, upd H1 (s1.heap.push (revObj a ((its.toArray.size : Int) - 1))).objs.size (.lst xs.reverse),
    I1.laid (t' := tk) (fun b o e' => hk b o (Nat.ne_of_lt (Heap.lt_size e')) (k0 b o e')) hS1 (show ObjOk X.prog X.w _ _ _ (.lst xs.reverse) from ⟨by rw [List.length_reverse]; exact hz, acc.toList, c', RT.vals_rev rv hi, ?_⟩), rfl, q _ (I1.hok.fresh hS1)⟩
  rw [Array.toArray_toList]
  exact hS
end Bg

set_option Elab.async false
set_option linter.all false
set_option maxRecDepth 100000
set_option maxHeartbeats 4000000
/-! rules of our own: errors, enumerate of a tuple -/
namespace Bg
open PySem PySem.Spec PyProof.Rows L2
/-- B.__init__(self, ..), B an own class over ValueError -/
theorem pe_binit {X : Cx} {B : Addr} {b : Str} {e : Expr} {es : List Expr} {ta : TA} {p1 p2 pos : Pos} {pl : Sem Bool} (hg : Gl X b) (hm : X.mg b = some (.ref B)) (hq : binB X.K B = true) (ha : PA X (e :: es) ta) (hdb : (b == ("__debug__" : Str)) = false := by decide)
    (hc : eval (.Call (.Attribute (.Name b p1) "__init__" p2) (e :: es) [] pos) X.env = (do
      let ov ← eval (.Name b p1) X.env
      standAt p2.atName
      let (f, first) ← holding [ov] (getMethod ov "__init__" pl)
      callWith pos f first (backTo pos (starEach (e :: es) X.env)) (backToKw pos (keywordEach [] X.env))) := by rfl)
    (he : starEach (e :: es) X.env = (false, eval e X.env) :: starEach es X.env := by rfl) (hpl : (backTo pos (starEach es X.env)).any (·.1) = false := by rfl) :
    PE X (.Call (.Attribute (.Name b p1) "__init__" p2) (e :: es) [] pos) (tVeI X.K ta) := by
  obtain ⟨q1, q2, q3⟩ := binB_ok hq
  refine ⟨fun pins s σ H Q I h => ?_⟩
  refine PySem.W.methodCall_KW (ld_glob I hg hm ?_ hdb) hc
  refine PySem.W.method_cls I.kIn q1 ?_
  refine PySem.W.cls_value I.kIn q2 q3 (by decide +kernel) ?_
  show wpAny _ _ (callWith pos (Value.builtin "ValueError.__init__") [] (backTo pos (starEach (e :: es) X.env)) []) _ _ _
  refine PyProof.Rows.callWith_method1 (thn (ha.run pos pins _ σ H _ (I.tok _) h) fun us s1 ⟨vs, H1, I1, r1, a, C, ws, ev, hl, T, ea, q⟩ => ?_) he hpl
  subst ev
  cases r1 with
  | @cons _ u0 _ ur ra rw' =>
    obtain rfl : u0 = Value.ref a := ra
    have hlen : ur.length ≤ sizeLine := by
      rw [← Paired.length rw', sizeLine_eq]
      omega
    exact oinit_ok T I1 ea hlen fun s' J => ⟨.non, H1, J, rfl, q⟩
/-! ### except (A, B): suite -/
def wTwo (K : PySem.W.Frag) (c1 c2 : Value) (ts : Addr → Value → Option Addr → TS) (Wout : WX) (D : Ends) : WX := fun cls d σ H =>
  PySem.W.exmAny K cls [c1, c2] = some true ∧ ∀ a, H a = none → ts a cls d D σ H
theorem stays_push {B h : Heap} (k : B.StaysIn h) (o : Obj) : B.StaysIn (h.push o) := fun b u e => Heap.get?_push_of_some _ (k b u e)
theorem flying_push {B h : Heap} {l : List Env} {a : Addr} {Z : Obj → Prop} (x : PySem.HandSPX.FlyingZ B l a Z h) (o : Obj) : PySem.HandSPX.FlyingZ B l a Z (h.push o) := by
  obtain ⟨k1, k2, k3, oe, vs, T, oT, ts, h1, h2, h3, h4, h5, h6, h7, h8, h9⟩ := x
  exact ⟨stays_push k1 o, k2, k3.of_keeps fun b u e _ => ⟨u, Heap.get?_push_of_some _ e, rfl⟩, oe, vs, T, oT, ts, Heap.get?_push_of_some _ h1, h2, h3, h4, h5, h6, Heap.get?_push_of_some _ h7, h8, h9⟩
section
variable {X : Cx} {x1 x2 : Str} {c1 c2 : Value} {body suite : List Stmt} {b₀ : Stmt} {np1 np2 tpos pos pos' : Pos} {kk : Nat} {tb : WX → TS} {ts : Addr → Value → Option Addr → TS} {Wout : WX}
theorem ps_try_two (hs : X.stack = X.env :: X.outer) (hf : X.env.frame = some X.env.locals) (n1 : Names X x1 c1) (n2 : Names X x2 c2) (r1 : RelV (absV c1 |>.getD .non) c1) (r2 : RelV (absV c2 |>.getD .non) c2)
    (hb : ∀ (W : WX) (pn : List (Addr × Obj)) (xe : Value → Shared → Prop), Takes (X.tr pn xe) W → PassesOwn (model X.prog X.w) X.A X.env xe → PSs (X.tr pn xe) body (tb W))
    (hsu : ∀ (a : Addr) (oe : Obj) (cls : Value) (d : Option Addr) (pn : List (Addr × Obj)), Zc cls d oe → (∃ vs, oe.data = .fields vs) → PSs (X.suite a ((a, oe) :: pn)) (b₀ :: suite) (ts a cls d)) :
    PS X (.Try body [.ExceptHandler (some (.Tuple [.Name x1 np1, .Name x2 np2] kk tpos)) none (b₀ :: suite) pos'] [] [] pos) (fun D σ H => tb (wTwo X.K c1 c2 ts Wout D) D σ H) := by
  refine ⟨fun pins s σ H D I h => ?_⟩
  have ok := I.ok
  have hfr : X.A.frames = some (X.env :: X.outer) := by rw [ok.frames, hs]
  refine wpAny_Try_except ?_
  refine wpAny_mono ((hb (wTwo X.K c1 c2 ts Wout D) (X.pn ++ pins) (fun e s₁ => wpAny (model X.prog X.w) X.A (noteFrame e X.env) (fun _ s₂ => wpAny (model X.prog X.w) X.A (setFlight e none) (fun _ s₃ =>
    wpAny (model X.prog X.w) X.A (handleBy e X.env [.ExceptHandler (some (.Tuple [.Name x1 np1, .Name x2 np2] kk tpos)) none (b₀ :: suite) pos']) (SP X pins D) X.xe s₃) X.xe s₂) X.xe s₁) (fun u s' xx => ?_) PassesOwn.looking).run [] s σ H D (I.toTry _) h) (fun f s1 hsp => ?_) (fun e s1 he => he)
  · -- the catch
    obtain ⟨a, B, sI, pins', σ', H', cls, d, rfl, J', nb, up, sky, na, os, ag, hb1, hyes⟩ := xx
    have J : Inv X pins σ' H' sI := J'.ofTry ok
    have sky' : Sky B (X.env :: X.outer) a (Zc cls d) X.env.locals s'.heap := by rw [← hs]; exact sky
    show wpAny (model X.prog X.w) X.A (noteFrame (.ref a) X.env) _ _ _
    refine Sky.land Zc.steady hfr hf sky' fun h3 fl3 up3 => ?_
    have J3 : Inv X pins σ' H' { s' with heap := h3 } := J.landed nb fl3.1 (up.trans up3) os ag
    obtain ⟨oe3, vs3, he3, hz3, hd3⟩ := fl3.there
    have notFr : ∀ {h : Heap} {o : Obj} {vs : Array Value}, h.FunFrames B (X.env :: X.outer) → h.get? a = some o → o.data = .fields vs → a ∉ frs (X.env :: X.outer) := fun {h o vs} ff e dd hm => by
      obtain ⟨_, o', e', hnf⟩ := ff.mem hm
      rw [e] at e'; cases e'
      exact hnf _ dd
    have nfr := notFr fl3.2.2.1 he3 hd3
    have nL : a ≠ X.env.locals := fun z => nfr (List.mem_filterMap.mpr ⟨X.env, List.mem_cons_self, by rw [hf, z]⟩)
    have nF : a ∉ X.fs := fun hm => by
      obtain ⟨e, he, q⟩ := List.mem_filterMap.mp hm
      exact nfr (List.mem_filterMap.mpr ⟨e, List.mem_cons_of_mem _ he, q⟩)
    have S3 := J3.suite he3 hd3 na nL nF
    refine wpAny_handleBy_cons (codeAny_handlers_test ?_) (by intro q; cases q)
    have test : ∀ {y : Str} {c : Value} {np : Pos} (hc : Names X y c) {t : Nat} {Q : Value → Shared → Prop} {E : Value → Shared → Prop}, Q c { s' with heap := h3 } → wpAny (model X.prog X.w) (X.A.mark (some (.ref a))) (eval (.Name y np) X.env) Q E { s' with heap := h3 } := fun {y c np} hc {t Q E} q => by
      obtain ⟨hg, hdbg, hm | ⟨hm, hv, hnn⟩⟩ := hc
      · exact ld_glob (X := X.suite a ((a, oe3) :: (X.pn ++ pins))) S3 hg hm q hdbg
      · exact ld_blt (X := X.suite a ((a, oe3) :: (X.pn ++ pins))) S3 hg hm hv q hnn hdbg
    refine Tuple_ (args_cons (test n1 (t := 0) (args_cons (test n2 (t := 0) (args_nil ?_)) rfl)) rfl)
    refine wpAny_newObj_type ?_ (by show 2 ≤ sizeLine; decide)
    have k4 : ∀ b o, h3.get? b = some o → (h3.push { cls := .type "tuple", data := .seq [c1, c2].toArray }).get? b = some o := fun b o e => Heap.get?_push_of_some _ e
    have fl5 := flying_push fl3 { cls := .type "tuple", data := .seq [c1, c2].toArray }
    have J5 : Inv X pins σ' H' { s' with heap := h3.push { cls := .type "tuple", data := .seq [c1, c2].toArray } } := J3.kept (t' := s'.toks) k4
    have LT : PySem.W.Looks (model X.prog X.w) (h3.push { cls := .type "tuple", data := .seq [c1, c2].toArray }) (typeOf (.ref a)) cls := fun A Q E s k q => wpAny_typeOf_ref (k _ _ (k4 _ _ he3)) (by rw [hz3.1]; exact q)
    have LM := PySem.W.exm_tup2 (M := model X.prog X.w) J5.kIn LT (Heap.get?_push_size _ rfl) hb1
    refine LM.here ?_
    refine codeAny_handlers_suite ?_
    refine HandSPX.lands_againZ (s := { s' with heap := h3.push { cls := .type "tuple", data := .seq [c1, c2].toArray } }) fl5 fun h4 fl4 up4 => ?_
    have up5 : h3.UpToSlots (h3.push { cls := .type "tuple", data := .seq [c1, c2].toArray }) := fun b o e _ => ⟨o.slots, k4 b o e⟩
    have J4 : Inv X pins σ' H' { s' with heap := h4 } := J.landed nb fl4.1 (((up.trans up3).trans up5).trans up4) os ag
    obtain ⟨oe4, vs4, he4, hz4, hd4⟩ := fl4.there
    have S4 := J4.suite he4 hd4 na nL nF
    refine wpAny_mono ((hsu a oe4 cls d (X.pn ++ pins) hz4 ⟨_, hd4⟩).run [] _ _ H' _ S4 (hyes a na)) (fun f s6 hsp => ?_) (fun _ _ z => False.elim z)
    cases f with
    | next =>
      obtain ⟨σ6, H6, S6, q6⟩ := hsp
      exact ⟨_, _, S6.unsuite ok, q6⟩
    | brk =>
      obtain ⟨σ6, H6, S6, q6⟩ := hsp
      exact ⟨_, _, S6.unsuite ok, q6⟩
    | cont =>
      obtain ⟨σ6, H6, S6, q6⟩ := hsp
      exact ⟨_, _, S6.unsuite ok, q6⟩
    | ret u =>
      obtain ⟨v6, σ6, H6, S6, r6, q6⟩ := hsp
      exact ⟨_, _, _, S6.unsuite ok, r6, q6⟩
  · cases f with
    | next =>
      obtain ⟨σ', H', J', q⟩ := hsp
      exact wpAny_execs_nil ⟨σ', H', J'.ofTry ok, q⟩
    | brk =>
      obtain ⟨σ', H', J', q⟩ := hsp
      exact ⟨σ', H', J'.ofTry ok, q⟩
    | cont =>
      obtain ⟨σ', H', J', q⟩ := hsp
      exact ⟨σ', H', J'.ofTry ok, q⟩
    | ret u =>
      obtain ⟨v, σ', H', J', r, q⟩ := hsp
      exact ⟨v, σ', H', J'.ofTry ok, r, q⟩
end
end Bg

set_option Elab.async false
set_option linter.all false
set_option maxRecDepth 100000
set_option maxHeartbeats 4000000
/-! enumerate(a tuple) -/
namespace Bg
open PySem PySem.Spec PyProof.Rows L2
set_option maxHeartbeats 4000000 in
theorem meets_enum1 {v : Value} {o : Obj} {H : Heap → Prop} (B : Begins v o H) :
    Meets (Builtin.«enumerate.__new__» ⟨[.type "enumerate", v], []⟩) (fun _ R s => H s.heap ∧
      R (.ok (.ret (.ref (s.heap.push o).objs.size))) { s with heap := (s.heap.push o).push { cls := .type "enumerate", data := .fields #[.none, .bool false, .ref s.heap.objs.size, rawInt 0, .none, .none] } }) :=
  .of_wp fun prog w A R s h => by
    obtain ⟨hp, g, d, tk, os⟩ := s; obtain ⟨h1, h⟩ := h
    have hsub := sub_enumerate
    have q1 : ∀ {A' : Around} {E : Value → Shared → Prop} {Q : Value → Shared → Prop}, Q (.ref hp.objs.size) ⟨hp.push o, g, d, tk, os⟩ → wpAny (model prog w) A' (pyIter v) Q E ⟨hp, g, d, tk, os⟩ :=
      fun q => B.iter prog w _ _ ⟨hp, g, d, tk, os⟩ _ h1 q
    wp_walk using q1
    refine wpAny_stack_any fun st => wpAny_pure ?_
    split
    · rename_i c _ _ _ _ _
      cases (c == Value.type "enumerate")
      · wp_walk using q1
        exact ⟨_, rfl, h⟩
      · wp_walk using q1
        exact ⟨_, rfl, h⟩
    · wp_walk using q1
      exact ⟨_, rfl, h⟩
theorem call_enum1 {prog : Program} {w : World} {A : Around} {E : Value → Shared → Prop} {s : Shared} {v : Value} {o : Obj} {H : Heap → Prop} {Q : Value → Shared → Prop} (B : Begins v o H) (h1 : H s.heap)
    (h : ∀ h', IsEnum h' (s.heap.objs.size + 1) s.heap.objs.size 0 .none → h'.get? s.heap.objs.size = some o → h'.objs.size = s.heap.objs.size + 2 →
      (∀ b o, s.heap.get? b = some o → h'.get? b = some o) → Q (.ref (s.heap.objs.size + 1)) { s with heap := h' }) :
    wpAny (model prog w) A (call (.type "enumerate") [v]) Q E s := by
  refine callType_new F.called_enumerate (by decide) (F.typeCall_enumerate_1 _) (F.newCall_enumerate_1 _) (fun obj => F.args_object_init_2 obj _) F.entry_enumerate_new
    (meets_enum1 B) ⟨h1, ?_⟩
  have hz : (s.heap.push o).objs.size = s.heap.objs.size + 1 := Heap.size_push ..
  show _ ∧ _
  rw [hz]
  have he : IsEnum ((s.heap.push o).push { cls := .type "enumerate", data := .fields #[.none, .bool false, .ref s.heap.objs.size, rawInt 0, .none, .none] }) (s.heap.objs.size + 1) s.heap.objs.size 0 .none := by
    have := Heap.get?_push_size (s.heap.push o) (o := { cls := .type "enumerate", data := .fields #[.none, .bool false, .ref s.heap.objs.size, rawInt 0, .none, .none] }) rfl
    rw [hz] at this; exact this
  exact ⟨⟨_, he, rfl⟩, h _ he (Heap.get?_push_of_some _ (Heap.get?_push_size _ B.free)) (by rw [Heap.size_push, hz]) fun b o x => Heap.get?_push_of_some _ (Heap.get?_push_of_some _ x)⟩

theorem enumT_end {prog : Program} {w : World} {A : Around} {E : Value → Shared → Prop} {s : Shared} {e it l : Addr} {i : Nat} {items : Array Value} {old : Value} {Q : Option Value → Shared → Prop} (hh : A.in1.handled = none)
    (he : IsEnum s.heap e it i old) (hit : s.heap.IsTupleIter it l i) (hl : s.heap.IsTuple l items) (hx : items[i]? = none)
    (hQ : ∀ h', Heap.ExtBut it s.heap h' → Q none { s with heap := h' }) : wpAny (model prog w) A (pyNext (.ref e)) Q E s := by
  have hT : s.TypeIs (.ref e) "enumerate" := ⟨_, he, rfl⟩
  unfold pyNext
  refine wpAny_bind (wpAny_attempt (wpAny_callSpecial?_slot (name := Str.ofString "__next__") hT F.slot_enumerate_next
    (wpAny_call_entry F.slot_enumerate_next hT F.entry_enumerate_next ?_ (F.args_enumerate_next_1 _))))
  show wpAny _ _ (field (.ref e) 2 >>= _) _ _ _
  refine wpAny_bind (wpAny_field he rfl (x := .ref it) rfl ?_)
  refine wpAny_bind (wpAny_nextOf_tuple_end hh hit hl hx fun h' x he' hx' => ?_)
  obtain ⟨o, ho, hc⟩ := hx'
  refine wpAny_bind (wpAny_isInstance (T := "StopIteration") (b := true) ⟨o, ho, hc⟩ isSubtype_stop ?_)
  exact wpAny_pure (hQ _ he')
/-- the tuple at a, its items in new pairs -/
def IteT (K : PySem.W.Frag) (a : Addr) : It :=
  ⟨fun i H => ∃ (xs : List V) (x : V), SqT K H a xs ∧ xs[i]? = some x, fun i H v H' => ∃ T x, v = .ref T ∧ H T = none ∧ H' = upd H T (.tup [.int (i : Nat), x]) ∧ ∀ xs, SqT K H a xs → xs[i]? = some x, fun i H => ∃ xs : List V, SqT K H a xs ∧ xs.length ≤ i⟩
theorem turn_enumT {P : Program} {w : World} {K : PySem.W.Frag} {elts : List Expr} {kk : Nat} {tpos : Pos} (a e it : Addr) :
    Turn P w K (.Tuple elts kk tpos) (IteT K a) [e, it] e (fun i h => (∃ old, IsEnum h e it ((i : Nat) : Int) old) ∧ h.IsTupleIter it a i ∧ e ≠ it) where
  mem := by simp
  obj := fun i h st b hb => by
    obtain ⟨⟨old, he⟩, ⟨o, ho, hc, hd⟩, _⟩ := st
    have e' : b = e ∨ b = it := by simpa using hb
    rcases e' with z | z
    · rw [z]; exact ⟨_, he, fun v q => nomatch q⟩
    · rw [z]; exact ⟨o, ho, fun v q => by rw [hd] at q; cases q⟩
  keep := fun i h h' st k => let ⟨⟨old, he⟩, hi, hne⟩ := st; ⟨⟨old, k e (by simp) _ he⟩, hi.at fun o q => k it (by simp) o q, hne⟩
  item := by
    intro X hP hw hK hc i pins s σ H E I hf st hg
    subst hP hw hK
    obtain ⟨⟨old, he⟩, hit, hne⟩ := st
    obtain ⟨xs, x, hq, hx⟩ := hg
    obtain ⟨its, rv, p, hz⟩ := I.tuple hq
    obtain ⟨u, hu, ru⟩ := rv.get hx
    have hel : e < s.heap.objs.size := Heap.lt_size he
    have hil : it < s.heap.objs.size := by obtain ⟨_, q, _⟩ := hit; exact Heap.lt_size q
    have pT : s.heap.IsTuple a its.toArray := p
    have hai : a ≠ it := fun z => by
      obtain ⟨o1, h1, c1, _⟩ := p
      obtain ⟨o2, h2, c2, _⟩ := hit
      rw [z, h2] at h1
      cases h1
      rw [c2] at c1
      injection c1 with c1
      exact absurd c1 (by decide)
    have hea : e ≠ a := fun z => by
      obtain ⟨o1, h1, c1, _⟩ := p
      have he2 : s.heap.get? e = some _ := he
      rw [z, h1] at he2
      cases he2
      injection c1 with c1
      exact absurd c1 (by decide)
    have hA : X.A.in1.handled = none := I.ok.hd hc
    have D := Draws.tuple (prog := X.prog) (w := X.w) (A := X.A.in1) hA it a hai its.toArray
    have hil2 : i < its.toArray.size := by
      have := (List.getElem?_eq_some_iff.mp hu).1
      simpa using this
    refine wpAny_pyNext_enum_itemC D he ⟨hit, pT⟩ hil2 hne (by simp [hne, hea]) fun x' h' tk hP ho hst' hT hsz hk => ?_
    have ex' : x' = u := by
      have h1 : its.toArray[i]? = some x' := hP
      have h2 : its[i]? = some x' := by simpa using h1
      rw [hu] at h2
      exact (Option.some.inj h2).symm
    subst ex'
    refine ⟨_, rfl, wpAny_letOwnedTupleGo_enum (s := { s with heap := h', toks := tk + 1 }) ho fun h'' he' sb => ?_⟩
    have hT2 : h''.get? s.heap.objs.size = some { cls := .type "tuple", data := .seq #[.int i tk, x'] } := (sb.2 _ (Nat.ne_of_gt hel)).trans hT
    have new : ObjOk X.prog X.w (upd H s.heap.objs.size (.tup [.int (i : Nat), x])) h'' s.heap.objs.size (.tup [.int (i : Nat), x]) :=
      ⟨by show 2 ≤ sizeLine; decide, [.int i tk, x'], .cons ⟨_, rfl⟩ (.cons ru .nil), ⟨_, hT2, rfl, _, rfl⟩⟩
    have I1 : Inv X pins σ (upd H s.heap.objs.size (.tup [.int (i : Nat), x])) { s with heap := h'', toks := tk + 1 } :=
      I.turnedNew (ch := [e, it]) (fun b ob hb q => (sb.2 b (fun z => hb (by simp [z]))).trans (hk b ob (fun z => hb (by simp [z])) (fun z => hb (by simp [z])) q)) hf (Nat.le_refl _) new
    refine ⟨.ref s.heap.objs.size, _, I1, rfl, ⟨_, x, rfl, I.hok.fresh (Nat.le_refl _), rfl, fun ys hy => by rw [I.tuple_inj hy hq]; exact hx⟩, ⟨⟨x', ?_⟩, hst'.1.at fun o q => (sb.2 it (Ne.symm hne)).trans q, hne⟩, fun b hb => ?_⟩
    · have e1 : ((i + 1 : Nat) : Int) = (i : Int) + 1 := by omega
      rw [e1]; exact he'
    · have hb' : b < s.heap.objs.size := by
        have e' : b = e ∨ b = it := by simpa using hb
        rcases e' with z | z
        · rw [z]; exact hel
        · rw [z]; exact hil
      rw [upd_ne (Nat.ne_of_lt hb')]
      exact (hf b hb).1
  done := by
    intro X hP hw hK hc i pins s σ H E I hf st hg
    subst hP hw hK
    obtain ⟨⟨old, he⟩, hit, hne⟩ := st
    obtain ⟨xs, hq, hx⟩ := hg
    obtain ⟨its, rv, p, hz⟩ := I.tuple hq
    obtain ⟨f0, f1, f2, f3, f4, f5⟩ := hf it (by simp)
    have hl := rv.length
    have pT : s.heap.IsTuple a its.toArray := p
    have hA : X.A.in1.handled = none := I.ok.hd hc
    exact enumT_end hA he hit pT (by simp; omega) fun h' eb => ⟨rfl, I.turned (t' := s.toks) (fun b o hb q => eb b o hb q) f0 f1 f3 f4 f5⟩
  self := fun A i s Q E st h => let ⟨⟨_, he⟩, _⟩ := st; wpAny_pyIter_enum he h
def iEnumT (K : PySem.W.Frag) (ta : TA) : TI := fun σ H R => ta σ H fun vs H1 => ∃ a xs, vs = [.ref a] ∧ SqT K H1 a xs ∧ R (IteT K a) H1
theorem pi_enumT {X : Cx} {e : Expr} {ta : TA} {p pos tpos : Pos} {elts : List Expr} {kk : Nat} (hm : X.mg "enumerate" = none) (ha : PA X [e] ta) (hg : Gl X "enumerate" := by rfl) (hs : starEach [e] X.env = [(false, eval e X.env)] := by rfl) :
    PI X (.Tuple elts kk tpos) (.Call (.Name "enumerate" p) [e] [] pos) (iEnumT X.K ta) := by
  refine ⟨fun pins s σ H R I h => ?_⟩
  refine Call_ (ld_blt I hg hm boot_enumerate (PyProof.Rows.callWith_type1 (thn (ha.run pos pins s σ H _ I h) fun us s1 ⟨vs, H1, I1, r1, q1⟩ => ?_) hs rfl))
  obtain ⟨a, xs, ex, hq, q⟩ := q1
  subst ex
  cases r1 with
  | cons r rr =>
    cases rr
    cases r
    obtain ⟨its, rv, p', hz⟩ := I1.tuple hq
    refine call_enum1 (begins_tuple a its.toArray) p' fun h' he hit hsz hk => wpAny_pyIter_enum he ?_
    have I2 : Inv X pins σ H1 { s1 with heap := h' } := I1.kept (t' := s1.toks) hk
    refine ⟨s1.heap.objs.size + 1, [s1.heap.objs.size + 1, s1.heap.objs.size], _, _, H1, rfl, I2, turn_enumT a (s1.heap.objs.size + 1) s1.heap.objs.size, ⟨⟨.none, he⟩, ⟨_, hit, rfl, rfl⟩, Nat.succ_ne_self _⟩, fun b hb => ?_, q⟩
    have e' : b = s1.heap.objs.size + 1 ∨ b = s1.heap.objs.size := by simpa using hb
    have hle : s1.heap.objs.size ≤ b := by
      rcases e' with z | z
      · rw [z]; exact Nat.le_add_right _ _
      · rw [z]; exact Nat.le_refl _
    exact I1.fpOk hle (I1.hok.fresh hle)
theorem walk_enumT {K : PySem.W.Frag} {a : Addr} {xs : List V} : Walk (IteT K a) xs.length (fun H => SqT K H a xs) (fun i H v H' => ∃ T x, v = .ref T ∧ H T = none ∧ H' = upd H T (.tup [.int (i : Nat), x]) ∧ xs[i]? = some x) :=
  ⟨fun i _ hi q => ⟨xs, xs[i], q, by simp [hi]⟩, fun _ q => ⟨xs, q, Nat.le_refl _⟩, fun _ _ _ _ _ q ⟨T, x, h1, h2, h3, h4⟩ => ⟨T, x, h1, h2, h3, h4 xs q⟩⟩
end Bg

set_option Elab.async false
set_option linter.all false
set_option maxRecDepth 100000
set_option maxHeartbeats 4000000
/-! the rules with the written part named -/
namespace Bg
open PySem PySem.Spec PyProof.Rows L2
section
variable {X : Cx} {K : PySem.W.Frag} {o e a b : Expr} {es : List Expr} {to ta te tb : TE} {t : TA} {f : Str} {pos apos cpos p tpos : Pos} {tg : Expr}
theorem kfld (he : PE X e ta) (hb : attributeBase e f X.env (eval e X.env) = eval e X.env := by rfl) (hK : X.K = K := by rfl) : PE X (.Attribute e f pos) (tFld K ta f) := by subst hK; exact pe_fld he hb
theorem kput {value : Expr} {tv : TE} {pos' : Pos} (ha : PE X o ta) (hv : PE X value tv) (hs : swapsWith value (some (.Attribute o f pos')) pos.line X.env = pure false := by rfl) (hK : X.K = K := by rfl) : PS X (.Assign [.Attribute o f pos'] value pos) (sFld K ta tv f) := by subst hK; exact ps_fld ha hv hs
theorem kaug {value : Expr} {tv : TE} (ha : PE X o ta) (hv : PE X value tv) (hK : X.K = K := by rfl) : PS X (.AugAssign (.Attribute o f tpos) .Add value pos) (sFldAug K ta tv rAdd f) := by subst hK; exact ps_fldaug ha hv in_add
theorem kixL (hK : X.K = K := by rfl) : IxR X (rIxL K) := by subst hK; exact ix_list
theorem kixT (hK : X.K = K := by rfl) : IxR X (rIxT K) := by subst hK; exact ix_tup
theorem kslL (hK : X.K = K := by rfl) : SlR X (rSlL K) := by subst hK; exact sl_list
theorem kin (hK : X.K = K := by rfl) : OpR X (compareOp .In) (rIn K false) := by subst hK; exact op_in_seq
theorem knotin (hK : X.K = K := by rfl) : OpR X (compareOp .NotIn) (rIn K true) := by subst hK; exact op_notIn_seq
theorem keqD (hu : X.A.units + 64 < cLine) (hK : X.K = K := by rfl) : OpR X (compareOp .Eq) (rEqD K) := by subst hK; exact op_eqD hu
theorem kneD (hu : X.A.units + 64 < cLine) (hK : X.K = K := by rfl) : OpR X (compareOp .NotEq) (rNeD K) := by subst hK; exact op_neD hu
theorem keqE (hu : X.A.units + 64 < cLine) (hK : X.K = K := by rfl) : OpR X (compareOp .Eq) (rEqE K) := by subst hK; exact op_eqE hu
theorem kneE (hu : X.A.units + 64 < cLine) (hK : X.K = K := by rfl) : OpR X (compareOp .NotEq) (rNeE K) := by subst hK; exact op_neE hu
theorem kcatT (hK : X.K = K := by rfl) : OpR X (binaryOp .Add) (rCatT K) := by subst hK; exact op_catT
def rLenQ (K : PySem.W.Frag) : List V → Hp → VK → Prop := fun xs H Q => ∃ p ys, xs = [.ref p] ∧ (SqL K H p ys ∨ SqT K H p ys) ∧ Q (.int ys.length) H
theorem klen (hK : X.K = K := by rfl) : CallR X (.builtin "len") (rLenQ K) := by subst hK; exact call_len_seq
theorem kisi (hK : X.K = K := by rfl) : CallR X (.builtin "isinstance") (rIsi K) := by subst hK; exact call_isi
theorem kall (hc : X.calm = true := by rfl) (hK : X.K = K := by rfl) : CallR X (.builtin "all") (rAll K) := by subst hK; exact cr_all hc
def rListO (K : PySem.W.Frag) : List V → Hp → VK → Prop := fun xs H Q => ∃ p ys, xs = [.ref p] ∧ (SqL K H p ys ∨ SqT K H p ys) ∧ ∀ l, H l = none → Q (.ref l) (upd H l (.lst ys))
theorem klist (hK : X.K = K := by rfl) : CallR X (.type "list") (rListO K) := by subst hK; exact call_list_of
def rTupO (K : PySem.W.Frag) : List V → Hp → VK → Prop := fun xs H Q => ∃ p ys, xs = [.ref p] ∧ ((SqL K H p ys ∧ ∀ l, H l = none → Q (.ref l) (upd H l (.tup ys))) ∨ (SqT K H p ys ∧ Q (.ref p) H))
theorem ktuple (hK : X.K = K := by rfl) : CallR X (.type "tuple") (rTupO K) := by subst hK; exact call_tuple_of
theorem kpiL {l : Expr} {tl : TE} (hl : PE X l tl) (hK : X.K = K := by rfl) : PI X tg l (iList K tl) := by subst hK; exact pi_list hl
theorem kpiT {l : Expr} {tl : TE} (hl : PE X l tl) (hK : X.K = K := by rfl) : PI X tg l (iTup K tl) := by subst hK; exact pi_tup hl
theorem kenum {elts : List Expr} {kk : Nat} (hm : X.mg "enumerate" = none) (ha : PA X [e] t) (hg : Gl X "enumerate" := by rfl) (hs : starEach [e] X.env = [(false, eval e X.env)] := by rfl) (hK : X.K = K := by rfl) : PI X (.Tuple elts kk tpos) (.Call (.Name "enumerate" p) [e] [] pos) (iEnum K t) := by subst hK; exact pi_enum hg hm ha hs
theorem kenumT {elts : List Expr} {kk : Nat} (hm : X.mg "enumerate" = none) (ha : PA X [e] t) (hg : Gl X "enumerate" := by rfl) (hs : starEach [e] X.env = [(false, eval e X.env)] := by rfl) (hK : X.K = K := by rfl) : PI X (.Tuple elts kk tpos) (.Call (.Name "enumerate" p) [e] [] pos) (iEnumT K t) := by subst hK; exact pi_enumT hm ha hg hs
theorem krev (hm : X.mg "reversed" = none) (ha : PA X [e] t) (hg : Gl X "reversed" := by rfl) (hs : starEach [e] X.env = [(false, eval e X.env)] := by rfl) (hK : X.K = K := by rfl) : PI X tg (.Call (.Name "reversed" p) [e] [] pos) (iRev K t) := by subst hK; exact pi_reversed hg hm ha hs
theorem klrev {p2 pos2 : Pos} (hm : X.mg "list" = none) (hm2 : X.mg "reversed" = none) (he : PE X e te) (hc : X.calm = true := by rfl) (hg : Gl X "list" := by rfl) (hg2 : Gl X "reversed" := by rfl)
    (hs : starEach [e] X.env = (false, eval e X.env) :: starEach [] X.env := by rfl)
    (hs2 : starEach [.Call (.Name "reversed" p2) [e] [] pos2] X.env = (false, eval (.Call (.Name "reversed" p2) [e] [] pos2) X.env) :: starEach [] X.env := by rfl) (hK : X.K = K := by rfl) :
    PE X (.Call (.Name "list" p) [.Call (.Name "reversed" p2) [e] [] pos2] [] pos) (tLstRev K te) := by subst hK; exact pe_lstRev hc hm hm2 he hg hg2 hs hs2
theorem kbm {T id : String} {name : Str} {r : V → List V → Hp → VK → Prop} (pa : PlainAttrs T) (slot : Slot T name id) (hty : typeOf (.builtin id) = pure (.type "method_descriptor")) (hm : MtR X id r) (ho : PE X o to) (ha : PA X (e :: es) t)
    (hbase : attributeBase o name X.env (eval o X.env) = eval o X.env := by rfl)
    (hfew : ((backTo cpos (starEach (e :: es) X.env)).all (fun x => !x.1) && (backToKw cpos (keywordEach [] X.env)).all (fun x => x.1.isSome)
      && decide ((e :: es).length + ([] : List Keyword).length + (if ([] : List Keyword).isEmpty then 0 else 1) < 30)) = true := by rfl)
    (hline : (apos.endLine == cpos.line) = true := by rfl) (hs : starEach (e :: es) X.env = (false, eval e X.env) :: starEach es X.env := by rfl) (hplain : (backTo cpos (starEach es X.env)).any (·.1) = false := by rfl) (hK : X.K = K := by rfl) :
    PE X (.Call (.Attribute o name apos) (e :: es) [] cpos) (tBM K T r to t) := by subst hK; exact pe_bm pa slot hty hm ho ha hbase hfew hline hs hplain
theorem kbm0 {T id : String} {name : Str} {r : V → List V → Hp → VK → Prop} (pa : PlainAttrs T) (slot : Slot T name id) (hty : typeOf (.builtin id) = pure (.type "method_descriptor")) (hm : MtR X id r) (ho : PE X o to)
    (hbase : attributeBase o name X.env (eval o X.env) = eval o X.env := by rfl) (hline : (apos.endLine == cpos.line) = true := by rfl) (hK : X.K = K := by rfl) : PE X (.Call (.Attribute o name apos) [] [] cpos) (tBM0 K T r to) := by subst hK; exact pe_bm0 pa slot hty hm ho hbase hline
theorem kindex (hK : X.K = K := by rfl) : MtR X "list.index" (rIndex K) := by subst hK; exact mt_index
def rInsert : V → List V → Hp → VK → Prop := fun x vs H Q => ∃ (l : Addr) (xs : List V) (i : Int) (y : V), x = .ref l ∧ vs = [.int i, y] ∧ H l = some (.lst xs) ∧ xs.length < sizeLine ∧ 0 ≤ i ∧ i < 2 ^ 63 ∧
    Q .non (upd H l (.lst (xs.take i.toNat ++ [y] ++ xs.drop i.toNat)))
theorem kinsert : MtR X "list.insert" rInsert := mt_insert
theorem kremove : MtR X "list.remove" rRemI := mt_remove
theorem kpop : MtR X "list.pop" rPop := mt_pop
theorem kappend : MtR X "list.append" rAppend := mt_append
theorem kextend : MtR X "list.extend" rExtend := mt_extend
def rJoin (K : PySem.W.Frag) : V → List V → Hp → VK → Prop := fun x xs H Q => ∃ a p, ∃ ys : List Str, x = .str a ∧ xs = [.ref p] ∧ (SqL K H p (ys.map V.str) ∨ SqT K H p (ys.map V.str)) ∧
      (ys.map (·.length)).sum + ys.length * a.length ≤ 16777216 ∧ Q (.str (Txt.join a ys)) H
theorem kjoin (ho : PE X o to) (he : PE X e te) (hs : starEach [e] X.env = [(false, eval e X.env)] := by rfl) (hbase : attributeBase o "join" X.env (eval o X.env) = eval o X.env := by rfl) (hline : (apos.endLine == pos.line) = true := by rfl) (hK : X.K = K := by rfl) :
    PE X (.Call (.Attribute o "join" apos) [e] [] pos) (tM1 (rJoin K) to te) := by subst hK; exact pe_join ho he hs hbase hline
theorem kgtup {es : List Expr} {k : Nat} {t : TGs} {n : Nat} (h : PGs X es t) (hc : X.calm = true := by rfl) (hn : (assignEach es X.env).length = n := by rfl) (hst : (assignEach es X.env).findIdx? (·.1) = none := by rfl) (hK : X.K = K := by rfl) : PG X (.Tuple es k pos) (gTup K n t) := by subst hK; exact pg_tup hc h hn hst
theorem korL {i : Expr} {ti : TE} (ho : PE X o to) (hi : PE X i ti) (he : PE X e te)
    (ha : ∀ ov iv new, augStore i ov iv new = (do holding [new, ov, iv] (setItem ov iv new); release [new, ov, iv] []; pure .next) := by intros; rfl) (hK : X.K = K := by rfl) :
    PS X (.AugAssign (.Subscript o i tpos) .BitOr e pos) (tAugS to ti te (rGetL K) (rI0 fun i j => .int (Builtin.bitOr i j)) rSetL) := by subst hK; exact ps_orL ho hi he ha
theorem kway {P : Program} {w : World} {mg : Str → Option Value} {base : Heap} {lv : Nat} {pl : Sem Bool} (he : PE X o ta) (F1 : Ok P w K mg base lv ("Straight", some "way") ["self"] (spWay "/")) (F2 : Ok P w K mg base lv ("Anywhere", some "way") ["self"] (spWay "//"))
    (T : Tx K mg) (hr : Room lv X.A)
    (ht : eval (.Call (.Attribute o "way" apos) [] [] pos) X.env = (do
      let ov ← eval o X.env
      standAt apos.atName
      let (f, first) ← holding [ov] (getMethod ov "way" pl)
      callWith pos f first (backTo pos (starEach [] X.env)) (backToKw pos (keywordEach [] X.env))) := by rfl)
    (hP : X.prog = P := by rfl) (hw : X.w = w := by rfl) (hK : X.K = K := by rfl) (hmg : X.mg = mg := by rfl) (hb : X.base = base := by rfl) :
    PE X (.Call (.Attribute o "way" apos) [] [] pos) (tWay K ta) := by subst hP hw hK hmg hb; exact pway he F1 F2 T hr ht
variable {P : Program} {w : World} {mg : Str → Option Value} {base : Heap} {lv : Nat} {c m x : Str} {ps : List Str} {sp : Sp}
theorem kme {pl : Sem Bool} (he : PE X o ta) (F : Ok P w K mg base lv (c, some m) ps sp) (hc : Cls K (He.ga K c)) (hm : Meth K (He.ga K c) m (He.ma K (He.ga K c) m)) (hr : Room lv X.A) (ha : PA X (e :: es) t)
    (hst : starEach (e :: es) X.env = (false, eval e X.env) :: starEach es X.env := by rfl) (hpl : (backTo pos (starEach es X.env)).any (·.1) = false := by rfl)
    (ht : eval (.Call (.Attribute o m apos) (e :: es) [] pos) X.env = (do
      let ov ← eval o X.env
      standAt apos.atName
      let (f, first) ← holding [ov] (getMethod ov m pl)
      callWith pos f first (backTo pos (starEach (e :: es) X.env)) (backToKw pos (keywordEach [] X.env))) := by rfl)
    (hP : X.prog = P := by rfl) (hw : X.w = w := by rfl) (hK : X.K = K := by rfl) (hmg : X.mg = mg := by rfl) (hb : X.base = base := by rfl) :
    PE X (.Call (.Attribute o m apos) (e :: es) [] pos) (tMeth (He.ga K c) m sp [] E0 ta t) := by subst hP hw hK hmg hb; exact pme he F hc hm hr ha hst hpl ht
theorem kme0 {pl : Sem Bool} (he : PE X o ta) (F : Ok P w K mg base lv (c, some m) ps sp) (hc : Cls K (He.ga K c)) (hm : Meth K (He.ga K c) m (He.ma K (He.ga K c) m)) (hr : Room lv X.A)
    (ht : eval (.Call (.Attribute o m apos) [] [] pos) X.env = (do
      let ov ← eval o X.env
      standAt apos.atName
      let (f, first) ← holding [ov] (getMethod ov m pl)
      callWith pos f first (backTo pos (starEach [] X.env)) (backToKw pos (keywordEach [] X.env))) := by rfl)
    (hP : X.prog = P := by rfl) (hw : X.w = w := by rfl) (hK : X.K = K := by rfl) (hmg : X.mg = mg := by rfl) (hb : X.base = base := by rfl) :
    PE X (.Call (.Attribute o m apos) [] [] pos) (tMeth (He.ga K c) m sp [] E0 ta tNil) := by subst hP hw hK hmg hb; exact pme0 he F hc hm hr ht
theorem kmk (F : Ok P w K mg base lv (x, some "__init__") ps sp) (M : Mk K (He.ga K x) (He.ma K (He.ga K x) "__init__")) (hm : mg x = some (.ref (He.ga K x))) (hr : Room (lv + 1) X.A) (ha : PA X (e :: es) t) (hg : Gl X x := by rfl)
    (hdb : (x == ("__debug__" : Str)) = false := by decide) (he : starEach (e :: es) X.env = (false, eval e X.env) :: starEach es X.env := by rfl) (hpl : (backTo pos (starEach es X.env)).any (·.1) = false := by rfl)
    (hP : X.prog = P := by rfl) (hw : X.w = w := by rfl) (hK : X.K = K := by rfl) (hmg : X.mg = mg := by rfl) (hb : X.base = base := by rfl) :
    PE X (.Call (.Name x p) (e :: es) [] pos) (tMake (He.ga K x) sp [] E0 t) := by subst hP hw hK hmg hb; exact pmk F M hm hr ha hg hdb he hpl
theorem kfn (F : Ok P w K mg base lv (x, none) ps sp) (hm : mg x = some (.ref (He.ga K x))) (hr : Room lv X.A) (ha : PA X (e :: es) t) (hg : Gl X x := by rfl) (hdb : (x == ("__debug__" : Str)) = false := by decide)
    (he : starEach (e :: es) X.env = (false, eval e X.env) :: starEach es X.env := by rfl) (hpl : (backTo pos (starEach es X.env)).any (·.1) = false := by rfl)
    (hP : X.prog = P := by rfl) (hw : X.w = w := by rfl) (hK : X.K = K := by rfl) (hmg : X.mg = mg := by rfl) (hb : X.base = base := by rfl) : PE X (.Call (.Name x p) (e :: es) [] pos) (tCall sp [] E0 t) := by
  subst hP hw hK hmg hb; exact pfn F hm hr ha hg hdb he hpl
end
end Bg

set_option Elab.async false
set_option linter.all false
set_option maxRecDepth 100000
set_option maxHeartbeats 4000000
/-! objects by their fields -/
namespace Bg
open PySem PySem.Spec PyProof.Rows L2
theorem lkH {f : Str} {v : V} {r : List (Str × V)} : List.lookup f ((f, v) :: r) = some v := by simp [List.lookup]
theorem lkM {f g : Str} {v : V} {r : List (Str × V)} {o : Option V} (h : ¬ f = g) (e : List.lookup f r = o) : List.lookup f ((g, v) :: r) = o := by
  have : (f == g) = false := beq_eq_false_iff_ne.mpr h
  simp only [List.lookup, this]; exact e
theorem lkN {f : Str} : List.lookup f ([] : List (Str × V)) = none := rfl
theorem ptH {f : Str} {v x : V} {r : List (Str × V)} : putF f v ((f, x) :: r) = (f, v) :: r := if_pos rfl
theorem ptM {f g : Str} {v x : V} {r r' : List (Str × V)} (h : ¬ g = f) (e : putF f v r = r') : putF f v ((g, x) :: r) = (g, x) :: r' := by rw [← e]; exact if_neg h
theorem ptN {f : Str} {v : V} : putF f v [] = [(f, v)] := rfl
theorem ne_answer_coming : ¬ ("answer" : Str) = "coming" := by decide +kernel
theorem ne_answer_kept : ¬ ("answer" : Str) = "kept" := by decide +kernel
theorem ne_answer_plants : ¬ ("answer" : Str) = "plants" := by decide +kernel
theorem ne_beneath_down : ¬ ("beneath" : Str) = "down" := by decide +kernel
theorem ne_beneath_far : ¬ ("beneath" : Str) = "far" := by decide +kernel
theorem ne_beneath_goal : ¬ ("beneath" : Str) = "goal" := by decide +kernel
theorem ne_beneath_near : ¬ ("beneath" : Str) = "near" := by decide +kernel
theorem ne_beneath_passed : ¬ ("beneath" : Str) = "passed" := by decide +kernel
theorem ne_beneath_seen : ¬ ("beneath" : Str) = "seen" := by decide +kernel
theorem ne_beneath_steps_by : ¬ ("beneath" : Str) = "steps_by" := by decide +kernel
theorem ne_beneath_uppers : ¬ ("beneath" : Str) = "uppers" := by decide +kernel
theorem ne_beneath_ways : ¬ ("beneath" : Str) = "ways" := by decide +kernel
theorem ne_beneath_too_coming : ¬ ("beneath_too" : Str) = "coming" := by decide +kernel
theorem ne_beneath_too_kept : ¬ ("beneath_too" : Str) = "kept" := by decide +kernel
theorem ne_beneath_too_plants : ¬ ("beneath_too" : Str) = "plants" := by decide +kernel
theorem ne_coming_kept : ¬ ("coming" : Str) = "kept" := by decide +kernel
theorem ne_coming_plants : ¬ ("coming" : Str) = "plants" := by decide +kernel
theorem ne_depth_of_ends : ¬ ("depth_of" : Str) = "ends" := by decide +kernel
theorem ne_depth_of_parts : ¬ ("depth_of" : Str) = "parts" := by decide +kernel
theorem ne_depth_of_uppers : ¬ ("depth_of" : Str) = "uppers" := by decide +kernel
theorem ne_document_coming : ¬ ("document" : Str) = "coming" := by decide +kernel
theorem ne_document_kept : ¬ ("document" : Str) = "kept" := by decide +kernel
theorem ne_document_plants : ¬ ("document" : Str) = "plants" := by decide +kernel
theorem ne_down_beneath : ¬ ("down" : Str) = "beneath" := by decide +kernel
theorem ne_down_far : ¬ ("down" : Str) = "far" := by decide +kernel
theorem ne_down_goal : ¬ ("down" : Str) = "goal" := by decide +kernel
theorem ne_down_near : ¬ ("down" : Str) = "near" := by decide +kernel
theorem ne_down_passed : ¬ ("down" : Str) = "passed" := by decide +kernel
theorem ne_down_seen : ¬ ("down" : Str) = "seen" := by decide +kernel
theorem ne_down_steps_by : ¬ ("down" : Str) = "steps_by" := by decide +kernel
theorem ne_down_uppers : ¬ ("down" : Str) = "uppers" := by decide +kernel
theorem ne_down_ways : ¬ ("down" : Str) = "ways" := by decide +kernel
theorem ne_end_of_ends : ¬ ("end_of" : Str) = "ends" := by decide +kernel
theorem ne_end_of_parts : ¬ ("end_of" : Str) = "parts" := by decide +kernel
theorem ne_end_of_uppers : ¬ ("end_of" : Str) = "uppers" := by decide +kernel
theorem ne_ends_given_rows : ¬ ("ends" : Str) = "given_rows" := by decide +kernel
theorem ne_ends_goal : ¬ ("ends" : Str) = "goal" := by decide +kernel
theorem ne_ends_parts : ¬ ("ends" : Str) = "parts" := by decide +kernel
theorem ne_ends_steps : ¬ ("ends" : Str) = "steps" := by decide +kernel
theorem ne_ends_uppers : ¬ ("ends" : Str) = "uppers" := by decide +kernel
theorem ne_far_beneath : ¬ ("far" : Str) = "beneath" := by decide +kernel
theorem ne_far_down : ¬ ("far" : Str) = "down" := by decide +kernel
theorem ne_far_goal : ¬ ("far" : Str) = "goal" := by decide +kernel
theorem ne_far_near : ¬ ("far" : Str) = "near" := by decide +kernel
theorem ne_far_passed : ¬ ("far" : Str) = "passed" := by decide +kernel
theorem ne_far_seen : ¬ ("far" : Str) = "seen" := by decide +kernel
theorem ne_far_steps_by : ¬ ("far" : Str) = "steps_by" := by decide +kernel
theorem ne_far_uppers : ¬ ("far" : Str) = "uppers" := by decide +kernel
theorem ne_far_ways : ¬ ("far" : Str) = "ways" := by decide +kernel
theorem ne_forget_beneath : ¬ ("forget" : Str) = "beneath" := by decide +kernel
theorem ne_forget_down : ¬ ("forget" : Str) = "down" := by decide +kernel
theorem ne_forget_far : ¬ ("forget" : Str) = "far" := by decide +kernel
theorem ne_forget_goal : ¬ ("forget" : Str) = "goal" := by decide +kernel
theorem ne_forget_near : ¬ ("forget" : Str) = "near" := by decide +kernel
theorem ne_forget_passed : ¬ ("forget" : Str) = "passed" := by decide +kernel
theorem ne_forget_seen : ¬ ("forget" : Str) = "seen" := by decide +kernel
theorem ne_forget_steps_by : ¬ ("forget" : Str) = "steps_by" := by decide +kernel
theorem ne_forget_uppers : ¬ ("forget" : Str) = "uppers" := by decide +kernel
theorem ne_forget_ways : ¬ ("forget" : Str) = "ways" := by decide +kernel
theorem ne_given_rows_ends : ¬ ("given_rows" : Str) = "ends" := by decide +kernel
theorem ne_given_rows_goal : ¬ ("given_rows" : Str) = "goal" := by decide +kernel
theorem ne_given_rows_steps : ¬ ("given_rows" : Str) = "steps" := by decide +kernel
theorem ne_given_rows_uppers : ¬ ("given_rows" : Str) = "uppers" := by decide +kernel
theorem ne_goal_beneath : ¬ ("goal" : Str) = "beneath" := by decide +kernel
theorem ne_goal_down : ¬ ("goal" : Str) = "down" := by decide +kernel
theorem ne_goal_ends : ¬ ("goal" : Str) = "ends" := by decide +kernel
theorem ne_goal_far : ¬ ("goal" : Str) = "far" := by decide +kernel
theorem ne_goal_given_rows : ¬ ("goal" : Str) = "given_rows" := by decide +kernel
theorem ne_goal_near : ¬ ("goal" : Str) = "near" := by decide +kernel
theorem ne_goal_passed : ¬ ("goal" : Str) = "passed" := by decide +kernel
theorem ne_goal_seen : ¬ ("goal" : Str) = "seen" := by decide +kernel
theorem ne_goal_steps : ¬ ("goal" : Str) = "steps" := by decide +kernel
theorem ne_goal_steps_by : ¬ ("goal" : Str) = "steps_by" := by decide +kernel
theorem ne_goal_uppers : ¬ ("goal" : Str) = "uppers" := by decide +kernel
theorem ne_goal_ways : ¬ ("goal" : Str) = "ways" := by decide +kernel
theorem ne_keep_coming : ¬ ("keep" : Str) = "coming" := by decide +kernel
theorem ne_keep_kept : ¬ ("keep" : Str) = "kept" := by decide +kernel
theorem ne_keep_plants : ¬ ("keep" : Str) = "plants" := by decide +kernel
theorem ne_keeping_at_coming : ¬ ("keeping_at" : Str) = "coming" := by decide +kernel
theorem ne_keeping_at_kept : ¬ ("keeping_at" : Str) = "kept" := by decide +kernel
theorem ne_keeping_at_plants : ¬ ("keeping_at" : Str) = "plants" := by decide +kernel
theorem ne_kept_coming : ¬ ("kept" : Str) = "coming" := by decide +kernel
theorem ne_kept_plants : ¬ ("kept" : Str) = "plants" := by decide +kernel
theorem ne_label_over : ¬ ("label" : Str) = "over" := by decide +kernel
theorem ne_label_under : ¬ ("label" : Str) = "under" := by decide +kernel
theorem ne_label_of_ends : ¬ ("label_of" : Str) = "ends" := by decide +kernel
theorem ne_label_of_parts : ¬ ("label_of" : Str) = "parts" := by decide +kernel
theorem ne_label_of_uppers : ¬ ("label_of" : Str) = "uppers" := by decide +kernel
theorem ne_look_down_beneath : ¬ ("look_down" : Str) = "beneath" := by decide +kernel
theorem ne_look_down_down : ¬ ("look_down" : Str) = "down" := by decide +kernel
theorem ne_look_down_far : ¬ ("look_down" : Str) = "far" := by decide +kernel
theorem ne_look_down_goal : ¬ ("look_down" : Str) = "goal" := by decide +kernel
theorem ne_look_down_near : ¬ ("look_down" : Str) = "near" := by decide +kernel
theorem ne_look_down_passed : ¬ ("look_down" : Str) = "passed" := by decide +kernel
theorem ne_look_down_seen : ¬ ("look_down" : Str) = "seen" := by decide +kernel
theorem ne_look_down_steps_by : ¬ ("look_down" : Str) = "steps_by" := by decide +kernel
theorem ne_look_down_uppers : ¬ ("look_down" : Str) = "uppers" := by decide +kernel
theorem ne_look_down_ways : ¬ ("look_down" : Str) = "ways" := by decide +kernel
theorem ne_look_up_beneath : ¬ ("look_up" : Str) = "beneath" := by decide +kernel
theorem ne_look_up_down : ¬ ("look_up" : Str) = "down" := by decide +kernel
theorem ne_look_up_far : ¬ ("look_up" : Str) = "far" := by decide +kernel
theorem ne_look_up_goal : ¬ ("look_up" : Str) = "goal" := by decide +kernel
theorem ne_look_up_near : ¬ ("look_up" : Str) = "near" := by decide +kernel
theorem ne_look_up_passed : ¬ ("look_up" : Str) = "passed" := by decide +kernel
theorem ne_look_up_seen : ¬ ("look_up" : Str) = "seen" := by decide +kernel
theorem ne_look_up_steps_by : ¬ ("look_up" : Str) = "steps_by" := by decide +kernel
theorem ne_look_up_uppers : ¬ ("look_up" : Str) = "uppers" := by decide +kernel
theorem ne_look_up_ways : ¬ ("look_up" : Str) = "ways" := by decide +kernel
theorem ne_looked_coming : ¬ ("looked" : Str) = "coming" := by decide +kernel
theorem ne_looked_kept : ¬ ("looked" : Str) = "kept" := by decide +kernel
theorem ne_looked_plants : ¬ ("looked" : Str) = "plants" := by decide +kernel
theorem ne_lowers_of_ends : ¬ ("lowers_of" : Str) = "ends" := by decide +kernel
theorem ne_lowers_of_given_rows : ¬ ("lowers_of" : Str) = "given_rows" := by decide +kernel
theorem ne_lowers_of_goal : ¬ ("lowers_of" : Str) = "goal" := by decide +kernel
theorem ne_lowers_of_parts : ¬ ("lowers_of" : Str) = "parts" := by decide +kernel
theorem ne_lowers_of_steps : ¬ ("lowers_of" : Str) = "steps" := by decide +kernel
theorem ne_lowers_of_uppers : ¬ ("lowers_of" : Str) = "uppers" := by decide +kernel
theorem ne_many_ends : ¬ ("many" : Str) = "ends" := by decide +kernel
theorem ne_many_given_rows : ¬ ("many" : Str) = "given_rows" := by decide +kernel
theorem ne_many_goal : ¬ ("many" : Str) = "goal" := by decide +kernel
theorem ne_many_parts : ¬ ("many" : Str) = "parts" := by decide +kernel
theorem ne_many_steps : ¬ ("many" : Str) = "steps" := by decide +kernel
theorem ne_many_uppers : ¬ ("many" : Str) = "uppers" := by decide +kernel
theorem ne_marks_coming : ¬ ("marks" : Str) = "coming" := by decide +kernel
theorem ne_marks_kept : ¬ ("marks" : Str) = "kept" := by decide +kernel
theorem ne_marks_plants : ¬ ("marks" : Str) = "plants" := by decide +kernel
theorem ne_mend_beneath : ¬ ("mend" : Str) = "beneath" := by decide +kernel
theorem ne_mend_down : ¬ ("mend" : Str) = "down" := by decide +kernel
theorem ne_mend_far : ¬ ("mend" : Str) = "far" := by decide +kernel
theorem ne_mend_goal : ¬ ("mend" : Str) = "goal" := by decide +kernel
theorem ne_mend_near : ¬ ("mend" : Str) = "near" := by decide +kernel
theorem ne_mend_passed : ¬ ("mend" : Str) = "passed" := by decide +kernel
theorem ne_mend_seen : ¬ ("mend" : Str) = "seen" := by decide +kernel
theorem ne_mend_steps_by : ¬ ("mend" : Str) = "steps_by" := by decide +kernel
theorem ne_mend_uppers : ¬ ("mend" : Str) = "uppers" := by decide +kernel
theorem ne_mend_ways : ¬ ("mend" : Str) = "ways" := by decide +kernel
theorem ne_mend_all_coming : ¬ ("mend_all" : Str) = "coming" := by decide +kernel
theorem ne_mend_all_kept : ¬ ("mend_all" : Str) = "kept" := by decide +kernel
theorem ne_mend_all_plants : ¬ ("mend_all" : Str) = "plants" := by decide +kernel
theorem ne_name_coming : ¬ ("name" : Str) = "coming" := by decide +kernel
theorem ne_name_kept : ¬ ("name" : Str) = "kept" := by decide +kernel
theorem ne_name_plants : ¬ ("name" : Str) = "plants" := by decide +kernel
theorem ne_near_beneath : ¬ ("near" : Str) = "beneath" := by decide +kernel
theorem ne_near_down : ¬ ("near" : Str) = "down" := by decide +kernel
theorem ne_near_far : ¬ ("near" : Str) = "far" := by decide +kernel
theorem ne_near_goal : ¬ ("near" : Str) = "goal" := by decide +kernel
theorem ne_near_passed : ¬ ("near" : Str) = "passed" := by decide +kernel
theorem ne_near_seen : ¬ ("near" : Str) = "seen" := by decide +kernel
theorem ne_near_steps_by : ¬ ("near" : Str) = "steps_by" := by decide +kernel
theorem ne_near_uppers : ¬ ("near" : Str) = "uppers" := by decide +kernel
theorem ne_near_ways : ¬ ("near" : Str) = "ways" := by decide +kernel
theorem ne_need_part_coming : ¬ ("need_part" : Str) = "coming" := by decide +kernel
theorem ne_need_part_ends : ¬ ("need_part" : Str) = "ends" := by decide +kernel
theorem ne_need_part_kept : ¬ ("need_part" : Str) = "kept" := by decide +kernel
theorem ne_need_part_parts : ¬ ("need_part" : Str) = "parts" := by decide +kernel
theorem ne_need_part_plants : ¬ ("need_part" : Str) = "plants" := by decide +kernel
theorem ne_need_part_uppers : ¬ ("need_part" : Str) = "uppers" := by decide +kernel
theorem ne_need_step_ends : ¬ ("need_step" : Str) = "ends" := by decide +kernel
theorem ne_need_step_given_rows : ¬ ("need_step" : Str) = "given_rows" := by decide +kernel
theorem ne_need_step_goal : ¬ ("need_step" : Str) = "goal" := by decide +kernel
theorem ne_need_step_steps : ¬ ("need_step" : Str) = "steps" := by decide +kernel
theorem ne_need_step_uppers : ¬ ("need_step" : Str) = "uppers" := by decide +kernel
theorem ne_over_label : ¬ ("over" : Str) = "label" := by decide +kernel
theorem ne_over_under : ¬ ("over" : Str) = "under" := by decide +kernel
theorem ne_parts_ends : ¬ ("parts" : Str) = "ends" := by decide +kernel
theorem ne_parts_uppers : ¬ ("parts" : Str) = "uppers" := by decide +kernel
theorem ne_parts_of_ends : ¬ ("parts_of" : Str) = "ends" := by decide +kernel
theorem ne_parts_of_parts : ¬ ("parts_of" : Str) = "parts" := by decide +kernel
theorem ne_parts_of_uppers : ¬ ("parts_of" : Str) = "uppers" := by decide +kernel
theorem ne_passed_beneath : ¬ ("passed" : Str) = "beneath" := by decide +kernel
theorem ne_passed_down : ¬ ("passed" : Str) = "down" := by decide +kernel
theorem ne_passed_far : ¬ ("passed" : Str) = "far" := by decide +kernel
theorem ne_passed_goal : ¬ ("passed" : Str) = "goal" := by decide +kernel
theorem ne_passed_near : ¬ ("passed" : Str) = "near" := by decide +kernel
theorem ne_passed_seen : ¬ ("passed" : Str) = "seen" := by decide +kernel
theorem ne_passed_steps_by : ¬ ("passed" : Str) = "steps_by" := by decide +kernel
theorem ne_passed_uppers : ¬ ("passed" : Str) = "uppers" := by decide +kernel
theorem ne_passed_ways : ¬ ("passed" : Str) = "ways" := by decide +kernel
theorem ne_plants_coming : ¬ ("plants" : Str) = "coming" := by decide +kernel
theorem ne_plants_kept : ¬ ("plants" : Str) = "kept" := by decide +kernel
theorem ne_put_coming : ¬ ("put" : Str) = "coming" := by decide +kernel
theorem ne_put_kept : ¬ ("put" : Str) = "kept" := by decide +kernel
theorem ne_put_plants : ¬ ("put" : Str) = "plants" := by decide +kernel
theorem ne_rows_ends : ¬ ("rows" : Str) = "ends" := by decide +kernel
theorem ne_rows_parts : ¬ ("rows" : Str) = "parts" := by decide +kernel
theorem ne_rows_uppers : ¬ ("rows" : Str) = "uppers" := by decide +kernel
theorem ne_seen_beneath : ¬ ("seen" : Str) = "beneath" := by decide +kernel
theorem ne_seen_down : ¬ ("seen" : Str) = "down" := by decide +kernel
theorem ne_seen_far : ¬ ("seen" : Str) = "far" := by decide +kernel
theorem ne_seen_goal : ¬ ("seen" : Str) = "goal" := by decide +kernel
theorem ne_seen_near : ¬ ("seen" : Str) = "near" := by decide +kernel
theorem ne_seen_passed : ¬ ("seen" : Str) = "passed" := by decide +kernel
theorem ne_seen_steps_by : ¬ ("seen" : Str) = "steps_by" := by decide +kernel
theorem ne_seen_uppers : ¬ ("seen" : Str) = "uppers" := by decide +kernel
theorem ne_seen_ways : ¬ ("seen" : Str) = "ways" := by decide +kernel
theorem ne_stands_beneath : ¬ ("stands" : Str) = "beneath" := by decide +kernel
theorem ne_stands_down : ¬ ("stands" : Str) = "down" := by decide +kernel
theorem ne_stands_far : ¬ ("stands" : Str) = "far" := by decide +kernel
theorem ne_stands_goal : ¬ ("stands" : Str) = "goal" := by decide +kernel
theorem ne_stands_near : ¬ ("stands" : Str) = "near" := by decide +kernel
theorem ne_stands_passed : ¬ ("stands" : Str) = "passed" := by decide +kernel
theorem ne_stands_seen : ¬ ("stands" : Str) = "seen" := by decide +kernel
theorem ne_stands_steps_by : ¬ ("stands" : Str) = "steps_by" := by decide +kernel
theorem ne_stands_uppers : ¬ ("stands" : Str) = "uppers" := by decide +kernel
theorem ne_stands_ways : ¬ ("stands" : Str) = "ways" := by decide +kernel
theorem ne_step_at_ends : ¬ ("step_at" : Str) = "ends" := by decide +kernel
theorem ne_step_at_given_rows : ¬ ("step_at" : Str) = "given_rows" := by decide +kernel
theorem ne_step_at_goal : ¬ ("step_at" : Str) = "goal" := by decide +kernel
theorem ne_step_at_steps : ¬ ("step_at" : Str) = "steps" := by decide +kernel
theorem ne_step_at_uppers : ¬ ("step_at" : Str) = "uppers" := by decide +kernel
theorem ne_steps_ends : ¬ ("steps" : Str) = "ends" := by decide +kernel
theorem ne_steps_given_rows : ¬ ("steps" : Str) = "given_rows" := by decide +kernel
theorem ne_steps_goal : ¬ ("steps" : Str) = "goal" := by decide +kernel
theorem ne_steps_uppers : ¬ ("steps" : Str) = "uppers" := by decide +kernel
theorem ne_steps_by_beneath : ¬ ("steps_by" : Str) = "beneath" := by decide +kernel
theorem ne_steps_by_down : ¬ ("steps_by" : Str) = "down" := by decide +kernel
theorem ne_steps_by_far : ¬ ("steps_by" : Str) = "far" := by decide +kernel
theorem ne_steps_by_goal : ¬ ("steps_by" : Str) = "goal" := by decide +kernel
theorem ne_steps_by_near : ¬ ("steps_by" : Str) = "near" := by decide +kernel
theorem ne_steps_by_passed : ¬ ("steps_by" : Str) = "passed" := by decide +kernel
theorem ne_steps_by_seen : ¬ ("steps_by" : Str) = "seen" := by decide +kernel
theorem ne_steps_by_uppers : ¬ ("steps_by" : Str) = "uppers" := by decide +kernel
theorem ne_steps_by_ways : ¬ ("steps_by" : Str) = "ways" := by decide +kernel
theorem ne_tables_coming : ¬ ("tables" : Str) = "coming" := by decide +kernel
theorem ne_tables_kept : ¬ ("tables" : Str) = "kept" := by decide +kernel
theorem ne_tables_plants : ¬ ("tables" : Str) = "plants" := by decide +kernel
theorem ne_take_coming : ¬ ("take" : Str) = "coming" := by decide +kernel
theorem ne_take_kept : ¬ ("take" : Str) = "kept" := by decide +kernel
theorem ne_take_plants : ¬ ("take" : Str) = "plants" := by decide +kernel
theorem ne_under_label : ¬ ("under" : Str) = "label" := by decide +kernel
theorem ne_under_over : ¬ ("under" : Str) = "over" := by decide +kernel
theorem ne_upper_of_ends : ¬ ("upper_of" : Str) = "ends" := by decide +kernel
theorem ne_upper_of_given_rows : ¬ ("upper_of" : Str) = "given_rows" := by decide +kernel
theorem ne_upper_of_goal : ¬ ("upper_of" : Str) = "goal" := by decide +kernel
theorem ne_upper_of_parts : ¬ ("upper_of" : Str) = "parts" := by decide +kernel
theorem ne_upper_of_steps : ¬ ("upper_of" : Str) = "steps" := by decide +kernel
theorem ne_upper_of_uppers : ¬ ("upper_of" : Str) = "uppers" := by decide +kernel
theorem ne_uppers_beneath : ¬ ("uppers" : Str) = "beneath" := by decide +kernel
theorem ne_uppers_down : ¬ ("uppers" : Str) = "down" := by decide +kernel
theorem ne_uppers_ends : ¬ ("uppers" : Str) = "ends" := by decide +kernel
theorem ne_uppers_far : ¬ ("uppers" : Str) = "far" := by decide +kernel
theorem ne_uppers_given_rows : ¬ ("uppers" : Str) = "given_rows" := by decide +kernel
theorem ne_uppers_goal : ¬ ("uppers" : Str) = "goal" := by decide +kernel
theorem ne_uppers_near : ¬ ("uppers" : Str) = "near" := by decide +kernel
theorem ne_uppers_parts : ¬ ("uppers" : Str) = "parts" := by decide +kernel
theorem ne_uppers_passed : ¬ ("uppers" : Str) = "passed" := by decide +kernel
theorem ne_uppers_seen : ¬ ("uppers" : Str) = "seen" := by decide +kernel
theorem ne_uppers_steps : ¬ ("uppers" : Str) = "steps" := by decide +kernel
theorem ne_uppers_steps_by : ¬ ("uppers" : Str) = "steps_by" := by decide +kernel
theorem ne_uppers_ways : ¬ ("uppers" : Str) = "ways" := by decide +kernel
theorem ne_wanted_ends : ¬ ("wanted" : Str) = "ends" := by decide +kernel
theorem ne_wanted_given_rows : ¬ ("wanted" : Str) = "given_rows" := by decide +kernel
theorem ne_wanted_goal : ¬ ("wanted" : Str) = "goal" := by decide +kernel
theorem ne_wanted_steps : ¬ ("wanted" : Str) = "steps" := by decide +kernel
theorem ne_wanted_uppers : ¬ ("wanted" : Str) = "uppers" := by decide +kernel
theorem ne_way_label : ¬ ("way" : Str) = "label" := by decide +kernel
theorem ne_way_up_coming : ¬ ("way_up" : Str) = "coming" := by decide +kernel
theorem ne_way_up_kept : ¬ ("way_up" : Str) = "kept" := by decide +kernel
theorem ne_way_up_plants : ¬ ("way_up" : Str) = "plants" := by decide +kernel
theorem ne_ways_beneath : ¬ ("ways" : Str) = "beneath" := by decide +kernel
theorem ne_ways_down : ¬ ("ways" : Str) = "down" := by decide +kernel
theorem ne_ways_far : ¬ ("ways" : Str) = "far" := by decide +kernel
theorem ne_ways_goal : ¬ ("ways" : Str) = "goal" := by decide +kernel
theorem ne_ways_near : ¬ ("ways" : Str) = "near" := by decide +kernel
theorem ne_ways_passed : ¬ ("ways" : Str) = "passed" := by decide +kernel
theorem ne_ways_seen : ¬ ("ways" : Str) = "seen" := by decide +kernel
theorem ne_ways_steps_by : ¬ ("ways" : Str) = "steps_by" := by decide +kernel
theorem ne_ways_uppers : ¬ ("ways" : Str) = "uppers" := by decide +kernel
def fs_Document_1 (v0 : V) : List (Str × V) := [("parts", v0)]
theorem fs_Document_1_new {v0 : V} : putF "parts" v0 [] = fs_Document_1 v0 := ptN
theorem fs_Document_1_len {v0 : V} : (fs_Document_1 v0).length < 1000 := by show 1 < 1000; decide
def fs_Document_2 (v0 v1 : V) : List (Str × V) := [("parts", v0), ("ends", v1)]
theorem fs_Document_2_new {v0 v1 : V} : putF "ends" v1 (fs_Document_1 v0) = (fs_Document_2 v0 v1) := (ptM ne_parts_ends ptN)
theorem fs_Document_2_len {v0 v1 : V} : (fs_Document_2 v0 v1).length < 1000 := by show 2 < 1000; decide
def fs_Document (v0 v1 v2 : V) : List (Str × V) := [("parts", v0), ("ends", v1), ("uppers", v2)]
theorem fs_Document_parts {v0 v1 v2 : V} : (fs_Document v0 v1 v2).lookup ("parts" : Str) = some v0 := lkH
theorem fs_Document_ends {v0 v1 v2 : V} : (fs_Document v0 v1 v2).lookup ("ends" : Str) = some v1 := (lkM ne_ends_parts lkH)
theorem fs_Document_uppers {v0 v1 v2 : V} : (fs_Document v0 v1 v2).lookup ("uppers" : Str) = some v2 := (lkM ne_uppers_parts (lkM ne_uppers_ends lkH))
theorem fs_Document_new {v0 v1 v2 : V} : putF "uppers" v2 (fs_Document_2 v0 v1) = (fs_Document v0 v1 v2) := (ptM ne_parts_uppers (ptM ne_ends_uppers ptN))
theorem fs_Document_len {v0 v1 v2 : V} : (fs_Document v0 v1 v2).length < 1000 := by show 3 < 1000; decide
theorem fs_Document_put_parts {v0 v1 v2 y : V} : putF "parts" y (fs_Document v0 v1 v2) = fs_Document y v1 v2 := ptH
theorem fs_Document_put_ends {v0 v1 v2 y : V} : putF "ends" y (fs_Document v0 v1 v2) = fs_Document v0 y v2 := (ptM ne_parts_ends ptH)
theorem fs_Document_put_uppers {v0 v1 v2 y : V} : putF "uppers" y (fs_Document v0 v1 v2) = fs_Document v0 v1 y := (ptM ne_parts_uppers (ptM ne_ends_uppers ptH))
theorem fs_Document_no_need_part {v0 v1 v2 : V} : (fs_Document v0 v1 v2).lookup ("need_part" : Str) = none := (lkM ne_need_part_parts (lkM ne_need_part_ends (lkM ne_need_part_uppers lkN)))
theorem fs_Document_no_many {v0 v1 v2 : V} : (fs_Document v0 v1 v2).lookup ("many" : Str) = none := (lkM ne_many_parts (lkM ne_many_ends (lkM ne_many_uppers lkN)))
theorem fs_Document_no_label_of {v0 v1 v2 : V} : (fs_Document v0 v1 v2).lookup ("label_of" : Str) = none := (lkM ne_label_of_parts (lkM ne_label_of_ends (lkM ne_label_of_uppers lkN)))
theorem fs_Document_no_depth_of {v0 v1 v2 : V} : (fs_Document v0 v1 v2).lookup ("depth_of" : Str) = none := (lkM ne_depth_of_parts (lkM ne_depth_of_ends (lkM ne_depth_of_uppers lkN)))
theorem fs_Document_no_end_of {v0 v1 v2 : V} : (fs_Document v0 v1 v2).lookup ("end_of" : Str) = none := (lkM ne_end_of_parts (lkM ne_end_of_ends (lkM ne_end_of_uppers lkN)))
theorem fs_Document_no_upper_of {v0 v1 v2 : V} : (fs_Document v0 v1 v2).lookup ("upper_of" : Str) = none := (lkM ne_upper_of_parts (lkM ne_upper_of_ends (lkM ne_upper_of_uppers lkN)))
theorem fs_Document_no_lowers_of {v0 v1 v2 : V} : (fs_Document v0 v1 v2).lookup ("lowers_of" : Str) = none := (lkM ne_lowers_of_parts (lkM ne_lowers_of_ends (lkM ne_lowers_of_uppers lkN)))
theorem fs_Document_no_parts_of {v0 v1 v2 : V} : (fs_Document v0 v1 v2).lookup ("parts_of" : Str) = none := (lkM ne_parts_of_parts (lkM ne_parts_of_ends (lkM ne_parts_of_uppers lkN)))
theorem fs_Document_no_rows {v0 v1 v2 : V} : (fs_Document v0 v1 v2).lookup ("rows" : Str) = none := (lkM ne_rows_parts (lkM ne_rows_ends (lkM ne_rows_uppers lkN)))
def fs_Plant_1 (v0 : V) : List (Str × V) := [("label", v0)]
theorem fs_Plant_1_new {v0 : V} : putF "label" v0 [] = fs_Plant_1 v0 := ptN
theorem fs_Plant_1_len {v0 : V} : (fs_Plant_1 v0).length < 1000 := by show 1 < 1000; decide
def fs_Plant_2 (v0 v1 : V) : List (Str × V) := [("label", v0), ("over", v1)]
theorem fs_Plant_2_new {v0 v1 : V} : putF "over" v1 (fs_Plant_1 v0) = (fs_Plant_2 v0 v1) := (ptM ne_label_over ptN)
theorem fs_Plant_2_len {v0 v1 : V} : (fs_Plant_2 v0 v1).length < 1000 := by show 2 < 1000; decide
def fs_Plant (v0 v1 v2 : V) : List (Str × V) := [("label", v0), ("over", v1), ("under", v2)]
theorem fs_Plant_label {v0 v1 v2 : V} : (fs_Plant v0 v1 v2).lookup ("label" : Str) = some v0 := lkH
theorem fs_Plant_over {v0 v1 v2 : V} : (fs_Plant v0 v1 v2).lookup ("over" : Str) = some v1 := (lkM ne_over_label lkH)
theorem fs_Plant_under {v0 v1 v2 : V} : (fs_Plant v0 v1 v2).lookup ("under" : Str) = some v2 := (lkM ne_under_label (lkM ne_under_over lkH))
theorem fs_Plant_new {v0 v1 v2 : V} : putF "under" v2 (fs_Plant_2 v0 v1) = (fs_Plant v0 v1 v2) := (ptM ne_label_under (ptM ne_over_under ptN))
theorem fs_Plant_len {v0 v1 v2 : V} : (fs_Plant v0 v1 v2).length < 1000 := by show 3 < 1000; decide
theorem fs_Plant_put_label {v0 v1 v2 y : V} : putF "label" y (fs_Plant v0 v1 v2) = fs_Plant y v1 v2 := ptH
theorem fs_Plant_put_over {v0 v1 v2 y : V} : putF "over" y (fs_Plant v0 v1 v2) = fs_Plant v0 y v2 := (ptM ne_label_over ptH)
theorem fs_Plant_put_under {v0 v1 v2 y : V} : putF "under" y (fs_Plant v0 v1 v2) = fs_Plant v0 v1 y := (ptM ne_label_under (ptM ne_over_under ptH))
def fs_Keeping_1 (v0 : V) : List (Str × V) := [("steps_by", v0)]
theorem fs_Keeping_1_steps_by {v0 : V} : (fs_Keeping_1 v0).lookup ("steps_by" : Str) = some v0 := lkH
theorem fs_Keeping_1_new {v0 : V} : putF "steps_by" v0 [] = fs_Keeping_1 v0 := ptN
theorem fs_Keeping_1_len {v0 : V} : (fs_Keeping_1 v0).length < 1000 := by show 1 < 1000; decide
def fs_Keeping_2 (v0 v1 : V) : List (Str × V) := [("steps_by", v0), ("near", v1)]
theorem fs_Keeping_2_steps_by {v0 v1 : V} : (fs_Keeping_2 v0 v1).lookup ("steps_by" : Str) = some v0 := lkH
theorem fs_Keeping_2_near {v0 v1 : V} : (fs_Keeping_2 v0 v1).lookup ("near" : Str) = some v1 := (lkM ne_near_steps_by lkH)
theorem fs_Keeping_2_new {v0 v1 : V} : putF "near" v1 (fs_Keeping_1 v0) = (fs_Keeping_2 v0 v1) := (ptM ne_steps_by_near ptN)
theorem fs_Keeping_2_len {v0 v1 : V} : (fs_Keeping_2 v0 v1).length < 1000 := by show 2 < 1000; decide
def fs_Keeping_3 (v0 v1 v2 : V) : List (Str × V) := [("steps_by", v0), ("near", v1), ("far", v2)]
theorem fs_Keeping_3_steps_by {v0 v1 v2 : V} : (fs_Keeping_3 v0 v1 v2).lookup ("steps_by" : Str) = some v0 := lkH
theorem fs_Keeping_3_near {v0 v1 v2 : V} : (fs_Keeping_3 v0 v1 v2).lookup ("near" : Str) = some v1 := (lkM ne_near_steps_by lkH)
theorem fs_Keeping_3_far {v0 v1 v2 : V} : (fs_Keeping_3 v0 v1 v2).lookup ("far" : Str) = some v2 := (lkM ne_far_steps_by (lkM ne_far_near lkH))
theorem fs_Keeping_3_new {v0 v1 v2 : V} : putF "far" v2 (fs_Keeping_2 v0 v1) = (fs_Keeping_3 v0 v1 v2) := (ptM ne_steps_by_far (ptM ne_near_far ptN))
theorem fs_Keeping_3_len {v0 v1 v2 : V} : (fs_Keeping_3 v0 v1 v2).length < 1000 := by show 3 < 1000; decide
def fs_Keeping_4 (v0 v1 v2 v3 : V) : List (Str × V) := [("steps_by", v0), ("near", v1), ("far", v2), ("uppers", v3)]
theorem fs_Keeping_4_steps_by {v0 v1 v2 v3 : V} : (fs_Keeping_4 v0 v1 v2 v3).lookup ("steps_by" : Str) = some v0 := lkH
theorem fs_Keeping_4_near {v0 v1 v2 v3 : V} : (fs_Keeping_4 v0 v1 v2 v3).lookup ("near" : Str) = some v1 := (lkM ne_near_steps_by lkH)
theorem fs_Keeping_4_far {v0 v1 v2 v3 : V} : (fs_Keeping_4 v0 v1 v2 v3).lookup ("far" : Str) = some v2 := (lkM ne_far_steps_by (lkM ne_far_near lkH))
theorem fs_Keeping_4_uppers {v0 v1 v2 v3 : V} : (fs_Keeping_4 v0 v1 v2 v3).lookup ("uppers" : Str) = some v3 := (lkM ne_uppers_steps_by (lkM ne_uppers_near (lkM ne_uppers_far lkH)))
theorem fs_Keeping_4_new {v0 v1 v2 v3 : V} : putF "uppers" v3 (fs_Keeping_3 v0 v1 v2) = (fs_Keeping_4 v0 v1 v2 v3) := (ptM ne_steps_by_uppers (ptM ne_near_uppers (ptM ne_far_uppers ptN)))
theorem fs_Keeping_4_len {v0 v1 v2 v3 : V} : (fs_Keeping_4 v0 v1 v2 v3).length < 1000 := by show 4 < 1000; decide
def fs_Keeping_5 (v0 v1 v2 v3 v4 : V) : List (Str × V) := [("steps_by", v0), ("near", v1), ("far", v2), ("uppers", v3), ("ways", v4)]
theorem fs_Keeping_5_steps_by {v0 v1 v2 v3 v4 : V} : (fs_Keeping_5 v0 v1 v2 v3 v4).lookup ("steps_by" : Str) = some v0 := lkH
theorem fs_Keeping_5_near {v0 v1 v2 v3 v4 : V} : (fs_Keeping_5 v0 v1 v2 v3 v4).lookup ("near" : Str) = some v1 := (lkM ne_near_steps_by lkH)
theorem fs_Keeping_5_far {v0 v1 v2 v3 v4 : V} : (fs_Keeping_5 v0 v1 v2 v3 v4).lookup ("far" : Str) = some v2 := (lkM ne_far_steps_by (lkM ne_far_near lkH))
theorem fs_Keeping_5_uppers {v0 v1 v2 v3 v4 : V} : (fs_Keeping_5 v0 v1 v2 v3 v4).lookup ("uppers" : Str) = some v3 := (lkM ne_uppers_steps_by (lkM ne_uppers_near (lkM ne_uppers_far lkH)))
theorem fs_Keeping_5_ways {v0 v1 v2 v3 v4 : V} : (fs_Keeping_5 v0 v1 v2 v3 v4).lookup ("ways" : Str) = some v4 := (lkM ne_ways_steps_by (lkM ne_ways_near (lkM ne_ways_far (lkM ne_ways_uppers lkH))))
theorem fs_Keeping_5_new {v0 v1 v2 v3 v4 : V} : putF "ways" v4 (fs_Keeping_4 v0 v1 v2 v3) = (fs_Keeping_5 v0 v1 v2 v3 v4) := (ptM ne_steps_by_ways (ptM ne_near_ways (ptM ne_far_ways (ptM ne_uppers_ways ptN))))
theorem fs_Keeping_5_len {v0 v1 v2 v3 v4 : V} : (fs_Keeping_5 v0 v1 v2 v3 v4).length < 1000 := by show 5 < 1000; decide
def fs_Keeping_6 (v0 v1 v2 v3 v4 v5 : V) : List (Str × V) := [("steps_by", v0), ("near", v1), ("far", v2), ("uppers", v3), ("ways", v4), ("goal", v5)]
theorem fs_Keeping_6_steps_by {v0 v1 v2 v3 v4 v5 : V} : (fs_Keeping_6 v0 v1 v2 v3 v4 v5).lookup ("steps_by" : Str) = some v0 := lkH
theorem fs_Keeping_6_near {v0 v1 v2 v3 v4 v5 : V} : (fs_Keeping_6 v0 v1 v2 v3 v4 v5).lookup ("near" : Str) = some v1 := (lkM ne_near_steps_by lkH)
theorem fs_Keeping_6_far {v0 v1 v2 v3 v4 v5 : V} : (fs_Keeping_6 v0 v1 v2 v3 v4 v5).lookup ("far" : Str) = some v2 := (lkM ne_far_steps_by (lkM ne_far_near lkH))
theorem fs_Keeping_6_uppers {v0 v1 v2 v3 v4 v5 : V} : (fs_Keeping_6 v0 v1 v2 v3 v4 v5).lookup ("uppers" : Str) = some v3 := (lkM ne_uppers_steps_by (lkM ne_uppers_near (lkM ne_uppers_far lkH)))
theorem fs_Keeping_6_ways {v0 v1 v2 v3 v4 v5 : V} : (fs_Keeping_6 v0 v1 v2 v3 v4 v5).lookup ("ways" : Str) = some v4 := (lkM ne_ways_steps_by (lkM ne_ways_near (lkM ne_ways_far (lkM ne_ways_uppers lkH))))
theorem fs_Keeping_6_goal {v0 v1 v2 v3 v4 v5 : V} : (fs_Keeping_6 v0 v1 v2 v3 v4 v5).lookup ("goal" : Str) = some v5 := (lkM ne_goal_steps_by (lkM ne_goal_near (lkM ne_goal_far (lkM ne_goal_uppers (lkM ne_goal_ways lkH)))))
theorem fs_Keeping_6_new {v0 v1 v2 v3 v4 v5 : V} : putF "goal" v5 (fs_Keeping_5 v0 v1 v2 v3 v4) = (fs_Keeping_6 v0 v1 v2 v3 v4 v5) := (ptM ne_steps_by_goal (ptM ne_near_goal (ptM ne_far_goal (ptM ne_uppers_goal (ptM ne_ways_goal ptN)))))
theorem fs_Keeping_6_len {v0 v1 v2 v3 v4 v5 : V} : (fs_Keeping_6 v0 v1 v2 v3 v4 v5).length < 1000 := by show 6 < 1000; decide
def fs_Keeping_7 (v0 v1 v2 v3 v4 v5 v6 : V) : List (Str × V) := [("steps_by", v0), ("near", v1), ("far", v2), ("uppers", v3), ("ways", v4), ("goal", v5), ("down", v6)]
theorem fs_Keeping_7_steps_by {v0 v1 v2 v3 v4 v5 v6 : V} : (fs_Keeping_7 v0 v1 v2 v3 v4 v5 v6).lookup ("steps_by" : Str) = some v0 := lkH
theorem fs_Keeping_7_near {v0 v1 v2 v3 v4 v5 v6 : V} : (fs_Keeping_7 v0 v1 v2 v3 v4 v5 v6).lookup ("near" : Str) = some v1 := (lkM ne_near_steps_by lkH)
theorem fs_Keeping_7_far {v0 v1 v2 v3 v4 v5 v6 : V} : (fs_Keeping_7 v0 v1 v2 v3 v4 v5 v6).lookup ("far" : Str) = some v2 := (lkM ne_far_steps_by (lkM ne_far_near lkH))
theorem fs_Keeping_7_uppers {v0 v1 v2 v3 v4 v5 v6 : V} : (fs_Keeping_7 v0 v1 v2 v3 v4 v5 v6).lookup ("uppers" : Str) = some v3 := (lkM ne_uppers_steps_by (lkM ne_uppers_near (lkM ne_uppers_far lkH)))
theorem fs_Keeping_7_ways {v0 v1 v2 v3 v4 v5 v6 : V} : (fs_Keeping_7 v0 v1 v2 v3 v4 v5 v6).lookup ("ways" : Str) = some v4 := (lkM ne_ways_steps_by (lkM ne_ways_near (lkM ne_ways_far (lkM ne_ways_uppers lkH))))
theorem fs_Keeping_7_goal {v0 v1 v2 v3 v4 v5 v6 : V} : (fs_Keeping_7 v0 v1 v2 v3 v4 v5 v6).lookup ("goal" : Str) = some v5 := (lkM ne_goal_steps_by (lkM ne_goal_near (lkM ne_goal_far (lkM ne_goal_uppers (lkM ne_goal_ways lkH)))))
theorem fs_Keeping_7_down {v0 v1 v2 v3 v4 v5 v6 : V} : (fs_Keeping_7 v0 v1 v2 v3 v4 v5 v6).lookup ("down" : Str) = some v6 := (lkM ne_down_steps_by (lkM ne_down_near (lkM ne_down_far (lkM ne_down_uppers (lkM ne_down_ways (lkM ne_down_goal lkH))))))
theorem fs_Keeping_7_new {v0 v1 v2 v3 v4 v5 v6 : V} : putF "down" v6 (fs_Keeping_6 v0 v1 v2 v3 v4 v5) = (fs_Keeping_7 v0 v1 v2 v3 v4 v5 v6) := (ptM ne_steps_by_down (ptM ne_near_down (ptM ne_far_down (ptM ne_uppers_down (ptM ne_ways_down (ptM ne_goal_down ptN))))))
theorem fs_Keeping_7_len {v0 v1 v2 v3 v4 v5 v6 : V} : (fs_Keeping_7 v0 v1 v2 v3 v4 v5 v6).length < 1000 := by show 7 < 1000; decide
def fs_Keeping_8 (v0 v1 v2 v3 v4 v5 v6 v7 : V) : List (Str × V) := [("steps_by", v0), ("near", v1), ("far", v2), ("uppers", v3), ("ways", v4), ("goal", v5), ("down", v6), ("beneath", v7)]
theorem fs_Keeping_8_steps_by {v0 v1 v2 v3 v4 v5 v6 v7 : V} : (fs_Keeping_8 v0 v1 v2 v3 v4 v5 v6 v7).lookup ("steps_by" : Str) = some v0 := lkH
theorem fs_Keeping_8_near {v0 v1 v2 v3 v4 v5 v6 v7 : V} : (fs_Keeping_8 v0 v1 v2 v3 v4 v5 v6 v7).lookup ("near" : Str) = some v1 := (lkM ne_near_steps_by lkH)
theorem fs_Keeping_8_far {v0 v1 v2 v3 v4 v5 v6 v7 : V} : (fs_Keeping_8 v0 v1 v2 v3 v4 v5 v6 v7).lookup ("far" : Str) = some v2 := (lkM ne_far_steps_by (lkM ne_far_near lkH))
theorem fs_Keeping_8_uppers {v0 v1 v2 v3 v4 v5 v6 v7 : V} : (fs_Keeping_8 v0 v1 v2 v3 v4 v5 v6 v7).lookup ("uppers" : Str) = some v3 := (lkM ne_uppers_steps_by (lkM ne_uppers_near (lkM ne_uppers_far lkH)))
theorem fs_Keeping_8_ways {v0 v1 v2 v3 v4 v5 v6 v7 : V} : (fs_Keeping_8 v0 v1 v2 v3 v4 v5 v6 v7).lookup ("ways" : Str) = some v4 := (lkM ne_ways_steps_by (lkM ne_ways_near (lkM ne_ways_far (lkM ne_ways_uppers lkH))))
theorem fs_Keeping_8_goal {v0 v1 v2 v3 v4 v5 v6 v7 : V} : (fs_Keeping_8 v0 v1 v2 v3 v4 v5 v6 v7).lookup ("goal" : Str) = some v5 := (lkM ne_goal_steps_by (lkM ne_goal_near (lkM ne_goal_far (lkM ne_goal_uppers (lkM ne_goal_ways lkH)))))
theorem fs_Keeping_8_down {v0 v1 v2 v3 v4 v5 v6 v7 : V} : (fs_Keeping_8 v0 v1 v2 v3 v4 v5 v6 v7).lookup ("down" : Str) = some v6 := (lkM ne_down_steps_by (lkM ne_down_near (lkM ne_down_far (lkM ne_down_uppers (lkM ne_down_ways (lkM ne_down_goal lkH))))))
theorem fs_Keeping_8_beneath {v0 v1 v2 v3 v4 v5 v6 v7 : V} : (fs_Keeping_8 v0 v1 v2 v3 v4 v5 v6 v7).lookup ("beneath" : Str) = some v7 := (lkM ne_beneath_steps_by (lkM ne_beneath_near (lkM ne_beneath_far (lkM ne_beneath_uppers (lkM ne_beneath_ways (lkM ne_beneath_goal (lkM ne_beneath_down lkH)))))))
theorem fs_Keeping_8_new {v0 v1 v2 v3 v4 v5 v6 v7 : V} : putF "beneath" v7 (fs_Keeping_7 v0 v1 v2 v3 v4 v5 v6) = (fs_Keeping_8 v0 v1 v2 v3 v4 v5 v6 v7) := (ptM ne_steps_by_beneath (ptM ne_near_beneath (ptM ne_far_beneath (ptM ne_uppers_beneath (ptM ne_ways_beneath (ptM ne_goal_beneath (ptM ne_down_beneath ptN)))))))
theorem fs_Keeping_8_len {v0 v1 v2 v3 v4 v5 v6 v7 : V} : (fs_Keeping_8 v0 v1 v2 v3 v4 v5 v6 v7).length < 1000 := by show 8 < 1000; decide
def fs_Keeping_9 (v0 v1 v2 v3 v4 v5 v6 v7 v8 : V) : List (Str × V) := [("steps_by", v0), ("near", v1), ("far", v2), ("uppers", v3), ("ways", v4), ("goal", v5), ("down", v6), ("beneath", v7), ("passed", v8)]
theorem fs_Keeping_9_steps_by {v0 v1 v2 v3 v4 v5 v6 v7 v8 : V} : (fs_Keeping_9 v0 v1 v2 v3 v4 v5 v6 v7 v8).lookup ("steps_by" : Str) = some v0 := lkH
theorem fs_Keeping_9_near {v0 v1 v2 v3 v4 v5 v6 v7 v8 : V} : (fs_Keeping_9 v0 v1 v2 v3 v4 v5 v6 v7 v8).lookup ("near" : Str) = some v1 := (lkM ne_near_steps_by lkH)
theorem fs_Keeping_9_far {v0 v1 v2 v3 v4 v5 v6 v7 v8 : V} : (fs_Keeping_9 v0 v1 v2 v3 v4 v5 v6 v7 v8).lookup ("far" : Str) = some v2 := (lkM ne_far_steps_by (lkM ne_far_near lkH))
theorem fs_Keeping_9_uppers {v0 v1 v2 v3 v4 v5 v6 v7 v8 : V} : (fs_Keeping_9 v0 v1 v2 v3 v4 v5 v6 v7 v8).lookup ("uppers" : Str) = some v3 := (lkM ne_uppers_steps_by (lkM ne_uppers_near (lkM ne_uppers_far lkH)))
theorem fs_Keeping_9_ways {v0 v1 v2 v3 v4 v5 v6 v7 v8 : V} : (fs_Keeping_9 v0 v1 v2 v3 v4 v5 v6 v7 v8).lookup ("ways" : Str) = some v4 := (lkM ne_ways_steps_by (lkM ne_ways_near (lkM ne_ways_far (lkM ne_ways_uppers lkH))))
theorem fs_Keeping_9_goal {v0 v1 v2 v3 v4 v5 v6 v7 v8 : V} : (fs_Keeping_9 v0 v1 v2 v3 v4 v5 v6 v7 v8).lookup ("goal" : Str) = some v5 := (lkM ne_goal_steps_by (lkM ne_goal_near (lkM ne_goal_far (lkM ne_goal_uppers (lkM ne_goal_ways lkH)))))
theorem fs_Keeping_9_down {v0 v1 v2 v3 v4 v5 v6 v7 v8 : V} : (fs_Keeping_9 v0 v1 v2 v3 v4 v5 v6 v7 v8).lookup ("down" : Str) = some v6 := (lkM ne_down_steps_by (lkM ne_down_near (lkM ne_down_far (lkM ne_down_uppers (lkM ne_down_ways (lkM ne_down_goal lkH))))))
theorem fs_Keeping_9_beneath {v0 v1 v2 v3 v4 v5 v6 v7 v8 : V} : (fs_Keeping_9 v0 v1 v2 v3 v4 v5 v6 v7 v8).lookup ("beneath" : Str) = some v7 := (lkM ne_beneath_steps_by (lkM ne_beneath_near (lkM ne_beneath_far (lkM ne_beneath_uppers (lkM ne_beneath_ways (lkM ne_beneath_goal (lkM ne_beneath_down lkH)))))))
theorem fs_Keeping_9_passed {v0 v1 v2 v3 v4 v5 v6 v7 v8 : V} : (fs_Keeping_9 v0 v1 v2 v3 v4 v5 v6 v7 v8).lookup ("passed" : Str) = some v8 := (lkM ne_passed_steps_by (lkM ne_passed_near (lkM ne_passed_far (lkM ne_passed_uppers (lkM ne_passed_ways (lkM ne_passed_goal (lkM ne_passed_down (lkM ne_passed_beneath lkH))))))))
theorem fs_Keeping_9_new {v0 v1 v2 v3 v4 v5 v6 v7 v8 : V} : putF "passed" v8 (fs_Keeping_8 v0 v1 v2 v3 v4 v5 v6 v7) = (fs_Keeping_9 v0 v1 v2 v3 v4 v5 v6 v7 v8) := (ptM ne_steps_by_passed (ptM ne_near_passed (ptM ne_far_passed (ptM ne_uppers_passed (ptM ne_ways_passed (ptM ne_goal_passed (ptM ne_down_passed (ptM ne_beneath_passed ptN))))))))
theorem fs_Keeping_9_len {v0 v1 v2 v3 v4 v5 v6 v7 v8 : V} : (fs_Keeping_9 v0 v1 v2 v3 v4 v5 v6 v7 v8).length < 1000 := by show 9 < 1000; decide
def fs_Keeping (v0 v1 v2 v3 v4 v5 v6 v7 v8 v9 : V) : List (Str × V) := [("steps_by", v0), ("near", v1), ("far", v2), ("uppers", v3), ("ways", v4), ("goal", v5), ("down", v6), ("beneath", v7), ("passed", v8), ("seen", v9)]
theorem fs_Keeping_steps_by {v0 v1 v2 v3 v4 v5 v6 v7 v8 v9 : V} : (fs_Keeping v0 v1 v2 v3 v4 v5 v6 v7 v8 v9).lookup ("steps_by" : Str) = some v0 := lkH
theorem fs_Keeping_near {v0 v1 v2 v3 v4 v5 v6 v7 v8 v9 : V} : (fs_Keeping v0 v1 v2 v3 v4 v5 v6 v7 v8 v9).lookup ("near" : Str) = some v1 := (lkM ne_near_steps_by lkH)
theorem fs_Keeping_far {v0 v1 v2 v3 v4 v5 v6 v7 v8 v9 : V} : (fs_Keeping v0 v1 v2 v3 v4 v5 v6 v7 v8 v9).lookup ("far" : Str) = some v2 := (lkM ne_far_steps_by (lkM ne_far_near lkH))
theorem fs_Keeping_uppers {v0 v1 v2 v3 v4 v5 v6 v7 v8 v9 : V} : (fs_Keeping v0 v1 v2 v3 v4 v5 v6 v7 v8 v9).lookup ("uppers" : Str) = some v3 := (lkM ne_uppers_steps_by (lkM ne_uppers_near (lkM ne_uppers_far lkH)))
theorem fs_Keeping_ways {v0 v1 v2 v3 v4 v5 v6 v7 v8 v9 : V} : (fs_Keeping v0 v1 v2 v3 v4 v5 v6 v7 v8 v9).lookup ("ways" : Str) = some v4 := (lkM ne_ways_steps_by (lkM ne_ways_near (lkM ne_ways_far (lkM ne_ways_uppers lkH))))
theorem fs_Keeping_goal {v0 v1 v2 v3 v4 v5 v6 v7 v8 v9 : V} : (fs_Keeping v0 v1 v2 v3 v4 v5 v6 v7 v8 v9).lookup ("goal" : Str) = some v5 := (lkM ne_goal_steps_by (lkM ne_goal_near (lkM ne_goal_far (lkM ne_goal_uppers (lkM ne_goal_ways lkH)))))
theorem fs_Keeping_down {v0 v1 v2 v3 v4 v5 v6 v7 v8 v9 : V} : (fs_Keeping v0 v1 v2 v3 v4 v5 v6 v7 v8 v9).lookup ("down" : Str) = some v6 := (lkM ne_down_steps_by (lkM ne_down_near (lkM ne_down_far (lkM ne_down_uppers (lkM ne_down_ways (lkM ne_down_goal lkH))))))
theorem fs_Keeping_beneath {v0 v1 v2 v3 v4 v5 v6 v7 v8 v9 : V} : (fs_Keeping v0 v1 v2 v3 v4 v5 v6 v7 v8 v9).lookup ("beneath" : Str) = some v7 := (lkM ne_beneath_steps_by (lkM ne_beneath_near (lkM ne_beneath_far (lkM ne_beneath_uppers (lkM ne_beneath_ways (lkM ne_beneath_goal (lkM ne_beneath_down lkH)))))))
theorem fs_Keeping_passed {v0 v1 v2 v3 v4 v5 v6 v7 v8 v9 : V} : (fs_Keeping v0 v1 v2 v3 v4 v5 v6 v7 v8 v9).lookup ("passed" : Str) = some v8 := (lkM ne_passed_steps_by (lkM ne_passed_near (lkM ne_passed_far (lkM ne_passed_uppers (lkM ne_passed_ways (lkM ne_passed_goal (lkM ne_passed_down (lkM ne_passed_beneath lkH))))))))
theorem fs_Keeping_seen {v0 v1 v2 v3 v4 v5 v6 v7 v8 v9 : V} : (fs_Keeping v0 v1 v2 v3 v4 v5 v6 v7 v8 v9).lookup ("seen" : Str) = some v9 := (lkM ne_seen_steps_by (lkM ne_seen_near (lkM ne_seen_far (lkM ne_seen_uppers (lkM ne_seen_ways (lkM ne_seen_goal (lkM ne_seen_down (lkM ne_seen_beneath (lkM ne_seen_passed lkH)))))))))
theorem fs_Keeping_new {v0 v1 v2 v3 v4 v5 v6 v7 v8 v9 : V} : putF "seen" v9 (fs_Keeping_9 v0 v1 v2 v3 v4 v5 v6 v7 v8) = (fs_Keeping v0 v1 v2 v3 v4 v5 v6 v7 v8 v9) := (ptM ne_steps_by_seen (ptM ne_near_seen (ptM ne_far_seen (ptM ne_uppers_seen (ptM ne_ways_seen (ptM ne_goal_seen (ptM ne_down_seen (ptM ne_beneath_seen (ptM ne_passed_seen ptN)))))))))
theorem fs_Keeping_len {v0 v1 v2 v3 v4 v5 v6 v7 v8 v9 : V} : (fs_Keeping v0 v1 v2 v3 v4 v5 v6 v7 v8 v9).length < 1000 := by show 10 < 1000; decide
theorem fs_Keeping_put_steps_by {v0 v1 v2 v3 v4 v5 v6 v7 v8 v9 y : V} : putF "steps_by" y (fs_Keeping v0 v1 v2 v3 v4 v5 v6 v7 v8 v9) = fs_Keeping y v1 v2 v3 v4 v5 v6 v7 v8 v9 := ptH
theorem fs_Keeping_put_near {v0 v1 v2 v3 v4 v5 v6 v7 v8 v9 y : V} : putF "near" y (fs_Keeping v0 v1 v2 v3 v4 v5 v6 v7 v8 v9) = fs_Keeping v0 y v2 v3 v4 v5 v6 v7 v8 v9 := (ptM ne_steps_by_near ptH)
theorem fs_Keeping_put_far {v0 v1 v2 v3 v4 v5 v6 v7 v8 v9 y : V} : putF "far" y (fs_Keeping v0 v1 v2 v3 v4 v5 v6 v7 v8 v9) = fs_Keeping v0 v1 y v3 v4 v5 v6 v7 v8 v9 := (ptM ne_steps_by_far (ptM ne_near_far ptH))
theorem fs_Keeping_put_uppers {v0 v1 v2 v3 v4 v5 v6 v7 v8 v9 y : V} : putF "uppers" y (fs_Keeping v0 v1 v2 v3 v4 v5 v6 v7 v8 v9) = fs_Keeping v0 v1 v2 y v4 v5 v6 v7 v8 v9 := (ptM ne_steps_by_uppers (ptM ne_near_uppers (ptM ne_far_uppers ptH)))
theorem fs_Keeping_put_ways {v0 v1 v2 v3 v4 v5 v6 v7 v8 v9 y : V} : putF "ways" y (fs_Keeping v0 v1 v2 v3 v4 v5 v6 v7 v8 v9) = fs_Keeping v0 v1 v2 v3 y v5 v6 v7 v8 v9 := (ptM ne_steps_by_ways (ptM ne_near_ways (ptM ne_far_ways (ptM ne_uppers_ways ptH))))
theorem fs_Keeping_put_goal {v0 v1 v2 v3 v4 v5 v6 v7 v8 v9 y : V} : putF "goal" y (fs_Keeping v0 v1 v2 v3 v4 v5 v6 v7 v8 v9) = fs_Keeping v0 v1 v2 v3 v4 y v6 v7 v8 v9 := (ptM ne_steps_by_goal (ptM ne_near_goal (ptM ne_far_goal (ptM ne_uppers_goal (ptM ne_ways_goal ptH)))))
theorem fs_Keeping_put_down {v0 v1 v2 v3 v4 v5 v6 v7 v8 v9 y : V} : putF "down" y (fs_Keeping v0 v1 v2 v3 v4 v5 v6 v7 v8 v9) = fs_Keeping v0 v1 v2 v3 v4 v5 y v7 v8 v9 := (ptM ne_steps_by_down (ptM ne_near_down (ptM ne_far_down (ptM ne_uppers_down (ptM ne_ways_down (ptM ne_goal_down ptH))))))
theorem fs_Keeping_put_beneath {v0 v1 v2 v3 v4 v5 v6 v7 v8 v9 y : V} : putF "beneath" y (fs_Keeping v0 v1 v2 v3 v4 v5 v6 v7 v8 v9) = fs_Keeping v0 v1 v2 v3 v4 v5 v6 y v8 v9 := (ptM ne_steps_by_beneath (ptM ne_near_beneath (ptM ne_far_beneath (ptM ne_uppers_beneath (ptM ne_ways_beneath (ptM ne_goal_beneath (ptM ne_down_beneath ptH)))))))
theorem fs_Keeping_put_passed {v0 v1 v2 v3 v4 v5 v6 v7 v8 v9 y : V} : putF "passed" y (fs_Keeping v0 v1 v2 v3 v4 v5 v6 v7 v8 v9) = fs_Keeping v0 v1 v2 v3 v4 v5 v6 v7 y v9 := (ptM ne_steps_by_passed (ptM ne_near_passed (ptM ne_far_passed (ptM ne_uppers_passed (ptM ne_ways_passed (ptM ne_goal_passed (ptM ne_down_passed (ptM ne_beneath_passed ptH))))))))
theorem fs_Keeping_put_seen {v0 v1 v2 v3 v4 v5 v6 v7 v8 v9 y : V} : putF "seen" y (fs_Keeping v0 v1 v2 v3 v4 v5 v6 v7 v8 v9) = fs_Keeping v0 v1 v2 v3 v4 v5 v6 v7 v8 y := (ptM ne_steps_by_seen (ptM ne_near_seen (ptM ne_far_seen (ptM ne_uppers_seen (ptM ne_ways_seen (ptM ne_goal_seen (ptM ne_down_seen (ptM ne_beneath_seen (ptM ne_passed_seen ptH)))))))))
theorem fs_Keeping_no_look_up {v0 v1 v2 v3 v4 v5 v6 v7 v8 v9 : V} : (fs_Keeping v0 v1 v2 v3 v4 v5 v6 v7 v8 v9).lookup ("look_up" : Str) = none := (lkM ne_look_up_steps_by (lkM ne_look_up_near (lkM ne_look_up_far (lkM ne_look_up_uppers (lkM ne_look_up_ways (lkM ne_look_up_goal (lkM ne_look_up_down (lkM ne_look_up_beneath (lkM ne_look_up_passed (lkM ne_look_up_seen lkN))))))))))
theorem fs_Keeping_no_stands {v0 v1 v2 v3 v4 v5 v6 v7 v8 v9 : V} : (fs_Keeping v0 v1 v2 v3 v4 v5 v6 v7 v8 v9).lookup ("stands" : Str) = none := (lkM ne_stands_steps_by (lkM ne_stands_near (lkM ne_stands_far (lkM ne_stands_uppers (lkM ne_stands_ways (lkM ne_stands_goal (lkM ne_stands_down (lkM ne_stands_beneath (lkM ne_stands_passed (lkM ne_stands_seen lkN))))))))))
theorem fs_Keeping_no_look_down {v0 v1 v2 v3 v4 v5 v6 v7 v8 v9 : V} : (fs_Keeping v0 v1 v2 v3 v4 v5 v6 v7 v8 v9).lookup ("look_down" : Str) = none := (lkM ne_look_down_steps_by (lkM ne_look_down_near (lkM ne_look_down_far (lkM ne_look_down_uppers (lkM ne_look_down_ways (lkM ne_look_down_goal (lkM ne_look_down_down (lkM ne_look_down_beneath (lkM ne_look_down_passed (lkM ne_look_down_seen lkN))))))))))
theorem fs_Keeping_no_mend {v0 v1 v2 v3 v4 v5 v6 v7 v8 v9 : V} : (fs_Keeping v0 v1 v2 v3 v4 v5 v6 v7 v8 v9).lookup ("mend" : Str) = none := (lkM ne_mend_steps_by (lkM ne_mend_near (lkM ne_mend_far (lkM ne_mend_uppers (lkM ne_mend_ways (lkM ne_mend_goal (lkM ne_mend_down (lkM ne_mend_beneath (lkM ne_mend_passed (lkM ne_mend_seen lkN))))))))))
theorem fs_Keeping_no_forget {v0 v1 v2 v3 v4 v5 v6 v7 v8 v9 : V} : (fs_Keeping v0 v1 v2 v3 v4 v5 v6 v7 v8 v9).lookup ("forget" : Str) = none := (lkM ne_forget_steps_by (lkM ne_forget_near (lkM ne_forget_far (lkM ne_forget_uppers (lkM ne_forget_ways (lkM ne_forget_goal (lkM ne_forget_down (lkM ne_forget_beneath (lkM ne_forget_passed (lkM ne_forget_seen lkN))))))))))
def fs_Garden_1 (v0 : V) : List (Str × V) := [("plants", v0)]
theorem fs_Garden_1_plants {v0 : V} : (fs_Garden_1 v0).lookup ("plants" : Str) = some v0 := lkH
theorem fs_Garden_1_new {v0 : V} : putF "plants" v0 [] = fs_Garden_1 v0 := ptN
theorem fs_Garden_1_len {v0 : V} : (fs_Garden_1 v0).length < 1000 := by show 1 < 1000; decide
def fs_Garden_2 (v0 v1 : V) : List (Str × V) := [("plants", v0), ("kept", v1)]
theorem fs_Garden_2_plants {v0 v1 : V} : (fs_Garden_2 v0 v1).lookup ("plants" : Str) = some v0 := lkH
theorem fs_Garden_2_kept {v0 v1 : V} : (fs_Garden_2 v0 v1).lookup ("kept" : Str) = some v1 := (lkM ne_kept_plants lkH)
theorem fs_Garden_2_new {v0 v1 : V} : putF "kept" v1 (fs_Garden_1 v0) = (fs_Garden_2 v0 v1) := (ptM ne_plants_kept ptN)
theorem fs_Garden_2_len {v0 v1 : V} : (fs_Garden_2 v0 v1).length < 1000 := by show 2 < 1000; decide
def fs_Garden (v0 v1 v2 : V) : List (Str × V) := [("plants", v0), ("kept", v1), ("coming", v2)]
theorem fs_Garden_plants {v0 v1 v2 : V} : (fs_Garden v0 v1 v2).lookup ("plants" : Str) = some v0 := lkH
theorem fs_Garden_kept {v0 v1 v2 : V} : (fs_Garden v0 v1 v2).lookup ("kept" : Str) = some v1 := (lkM ne_kept_plants lkH)
theorem fs_Garden_coming {v0 v1 v2 : V} : (fs_Garden v0 v1 v2).lookup ("coming" : Str) = some v2 := (lkM ne_coming_plants (lkM ne_coming_kept lkH))
theorem fs_Garden_new {v0 v1 v2 : V} : putF "coming" v2 (fs_Garden_2 v0 v1) = (fs_Garden v0 v1 v2) := (ptM ne_plants_coming (ptM ne_kept_coming ptN))
theorem fs_Garden_len {v0 v1 v2 : V} : (fs_Garden v0 v1 v2).length < 1000 := by show 3 < 1000; decide
theorem fs_Garden_put_plants {v0 v1 v2 y : V} : putF "plants" y (fs_Garden v0 v1 v2) = fs_Garden y v1 v2 := ptH
theorem fs_Garden_put_kept {v0 v1 v2 y : V} : putF "kept" y (fs_Garden v0 v1 v2) = fs_Garden v0 y v2 := (ptM ne_plants_kept ptH)
theorem fs_Garden_put_coming {v0 v1 v2 y : V} : putF "coming" y (fs_Garden v0 v1 v2) = fs_Garden v0 v1 y := (ptM ne_plants_coming (ptM ne_kept_coming ptH))
theorem fs_Garden_no_beneath_too {v0 v1 v2 : V} : (fs_Garden v0 v1 v2).lookup ("beneath_too" : Str) = none := (lkM ne_beneath_too_plants (lkM ne_beneath_too_kept (lkM ne_beneath_too_coming lkN)))
theorem fs_Garden_no_marks {v0 v1 v2 : V} : (fs_Garden v0 v1 v2).lookup ("marks" : Str) = none := (lkM ne_marks_plants (lkM ne_marks_kept (lkM ne_marks_coming lkN)))
theorem fs_Garden_no_way_up {v0 v1 v2 : V} : (fs_Garden v0 v1 v2).lookup ("way_up" : Str) = none := (lkM ne_way_up_plants (lkM ne_way_up_kept (lkM ne_way_up_coming lkN)))
theorem fs_Garden_no_document {v0 v1 v2 : V} : (fs_Garden v0 v1 v2).lookup ("document" : Str) = none := (lkM ne_document_plants (lkM ne_document_kept (lkM ne_document_coming lkN)))
theorem fs_Garden_no_need_part {v0 v1 v2 : V} : (fs_Garden v0 v1 v2).lookup ("need_part" : Str) = none := (lkM ne_need_part_plants (lkM ne_need_part_kept (lkM ne_need_part_coming lkN)))
theorem fs_Garden_no_put {v0 v1 v2 : V} : (fs_Garden v0 v1 v2).lookup ("put" : Str) = none := (lkM ne_put_plants (lkM ne_put_kept (lkM ne_put_coming lkN)))
theorem fs_Garden_no_take {v0 v1 v2 : V} : (fs_Garden v0 v1 v2).lookup ("take" : Str) = none := (lkM ne_take_plants (lkM ne_take_kept (lkM ne_take_coming lkN)))
theorem fs_Garden_no_name {v0 v1 v2 : V} : (fs_Garden v0 v1 v2).lookup ("name" : Str) = none := (lkM ne_name_plants (lkM ne_name_kept (lkM ne_name_coming lkN)))
theorem fs_Garden_no_mend_all {v0 v1 v2 : V} : (fs_Garden v0 v1 v2).lookup ("mend_all" : Str) = none := (lkM ne_mend_all_plants (lkM ne_mend_all_kept (lkM ne_mend_all_coming lkN)))
theorem fs_Garden_no_keep {v0 v1 v2 : V} : (fs_Garden v0 v1 v2).lookup ("keep" : Str) = none := (lkM ne_keep_plants (lkM ne_keep_kept (lkM ne_keep_coming lkN)))
theorem fs_Garden_no_keeping_at {v0 v1 v2 : V} : (fs_Garden v0 v1 v2).lookup ("keeping_at" : Str) = none := (lkM ne_keeping_at_plants (lkM ne_keeping_at_kept (lkM ne_keeping_at_coming lkN)))
theorem fs_Garden_no_answer {v0 v1 v2 : V} : (fs_Garden v0 v1 v2).lookup ("answer" : Str) = none := (lkM ne_answer_plants (lkM ne_answer_kept (lkM ne_answer_coming lkN)))
theorem fs_Garden_no_tables {v0 v1 v2 : V} : (fs_Garden v0 v1 v2).lookup ("tables" : Str) = none := (lkM ne_tables_plants (lkM ne_tables_kept (lkM ne_tables_coming lkN)))
theorem fs_Garden_no_looked {v0 v1 v2 : V} : (fs_Garden v0 v1 v2).lookup ("looked" : Str) = none := (lkM ne_looked_plants (lkM ne_looked_kept (lkM ne_looked_coming lkN)))
def fs_Straight (v0 : V) : List (Str × V) := [("label", v0)]
theorem fs_Straight_label {v0 : V} : (fs_Straight v0).lookup ("label" : Str) = some v0 := lkH
theorem fs_Straight_new {v0 : V} : putF "label" v0 [] = fs_Straight v0 := ptN
theorem fs_Straight_len {v0 : V} : (fs_Straight v0).length < 1000 := by show 1 < 1000; decide
theorem fs_Straight_put_label {v0 y : V} : putF "label" y (fs_Straight v0) = fs_Straight y := ptH
theorem fs_Straight_no_way {v0 : V} : (fs_Straight v0).lookup ("way" : Str) = none := (lkM ne_way_label lkN)
def fs_Anywhere (v0 : V) : List (Str × V) := [("label", v0)]
theorem fs_Anywhere_label {v0 : V} : (fs_Anywhere v0).lookup ("label" : Str) = some v0 := lkH
theorem fs_Anywhere_new {v0 : V} : putF "label" v0 [] = fs_Anywhere v0 := ptN
theorem fs_Anywhere_len {v0 : V} : (fs_Anywhere v0).length < 1000 := by show 1 < 1000; decide
theorem fs_Anywhere_put_label {v0 y : V} : putF "label" y (fs_Anywhere v0) = fs_Anywhere y := ptH
theorem fs_Anywhere_no_way {v0 : V} : (fs_Anywhere v0).lookup ("way" : Str) = none := (lkM ne_way_label lkN)
def fs_Question_1 (v0 : V) : List (Str × V) := [("given_rows", v0)]
theorem fs_Question_1_new {v0 : V} : putF "given_rows" v0 [] = fs_Question_1 v0 := ptN
theorem fs_Question_1_len {v0 : V} : (fs_Question_1 v0).length < 1000 := by show 1 < 1000; decide
def fs_Question_2 (v0 v1 : V) : List (Str × V) := [("given_rows", v0), ("goal", v1)]
theorem fs_Question_2_new {v0 v1 : V} : putF "goal" v1 (fs_Question_1 v0) = (fs_Question_2 v0 v1) := (ptM ne_given_rows_goal ptN)
theorem fs_Question_2_len {v0 v1 : V} : (fs_Question_2 v0 v1).length < 1000 := by show 2 < 1000; decide
def fs_Question_3 (v0 v1 v2 : V) : List (Str × V) := [("given_rows", v0), ("goal", v1), ("steps", v2)]
theorem fs_Question_3_new {v0 v1 v2 : V} : putF "steps" v2 (fs_Question_2 v0 v1) = (fs_Question_3 v0 v1 v2) := (ptM ne_given_rows_steps (ptM ne_goal_steps ptN))
theorem fs_Question_3_len {v0 v1 v2 : V} : (fs_Question_3 v0 v1 v2).length < 1000 := by show 3 < 1000; decide
def fs_Question_4 (v0 v1 v2 v3 : V) : List (Str × V) := [("given_rows", v0), ("goal", v1), ("steps", v2), ("ends", v3)]
theorem fs_Question_4_new {v0 v1 v2 v3 : V} : putF "ends" v3 (fs_Question_3 v0 v1 v2) = (fs_Question_4 v0 v1 v2 v3) := (ptM ne_given_rows_ends (ptM ne_goal_ends (ptM ne_steps_ends ptN)))
theorem fs_Question_4_len {v0 v1 v2 v3 : V} : (fs_Question_4 v0 v1 v2 v3).length < 1000 := by show 4 < 1000; decide
def fs_Question (v0 v1 v2 v3 v4 : V) : List (Str × V) := [("given_rows", v0), ("goal", v1), ("steps", v2), ("ends", v3), ("uppers", v4)]
theorem fs_Question_given_rows {v0 v1 v2 v3 v4 : V} : (fs_Question v0 v1 v2 v3 v4).lookup ("given_rows" : Str) = some v0 := lkH
theorem fs_Question_goal {v0 v1 v2 v3 v4 : V} : (fs_Question v0 v1 v2 v3 v4).lookup ("goal" : Str) = some v1 := (lkM ne_goal_given_rows lkH)
theorem fs_Question_steps {v0 v1 v2 v3 v4 : V} : (fs_Question v0 v1 v2 v3 v4).lookup ("steps" : Str) = some v2 := (lkM ne_steps_given_rows (lkM ne_steps_goal lkH))
theorem fs_Question_ends {v0 v1 v2 v3 v4 : V} : (fs_Question v0 v1 v2 v3 v4).lookup ("ends" : Str) = some v3 := (lkM ne_ends_given_rows (lkM ne_ends_goal (lkM ne_ends_steps lkH)))
theorem fs_Question_uppers {v0 v1 v2 v3 v4 : V} : (fs_Question v0 v1 v2 v3 v4).lookup ("uppers" : Str) = some v4 := (lkM ne_uppers_given_rows (lkM ne_uppers_goal (lkM ne_uppers_steps (lkM ne_uppers_ends lkH))))
theorem fs_Question_new {v0 v1 v2 v3 v4 : V} : putF "uppers" v4 (fs_Question_4 v0 v1 v2 v3) = (fs_Question v0 v1 v2 v3 v4) := (ptM ne_given_rows_uppers (ptM ne_goal_uppers (ptM ne_steps_uppers (ptM ne_ends_uppers ptN))))
theorem fs_Question_len {v0 v1 v2 v3 v4 : V} : (fs_Question v0 v1 v2 v3 v4).length < 1000 := by show 5 < 1000; decide
theorem fs_Question_put_given_rows {v0 v1 v2 v3 v4 y : V} : putF "given_rows" y (fs_Question v0 v1 v2 v3 v4) = fs_Question y v1 v2 v3 v4 := ptH
theorem fs_Question_put_goal {v0 v1 v2 v3 v4 y : V} : putF "goal" y (fs_Question v0 v1 v2 v3 v4) = fs_Question v0 y v2 v3 v4 := (ptM ne_given_rows_goal ptH)
theorem fs_Question_put_steps {v0 v1 v2 v3 v4 y : V} : putF "steps" y (fs_Question v0 v1 v2 v3 v4) = fs_Question v0 v1 y v3 v4 := (ptM ne_given_rows_steps (ptM ne_goal_steps ptH))
theorem fs_Question_put_ends {v0 v1 v2 v3 v4 y : V} : putF "ends" y (fs_Question v0 v1 v2 v3 v4) = fs_Question v0 v1 v2 y v4 := (ptM ne_given_rows_ends (ptM ne_goal_ends (ptM ne_steps_ends ptH)))
theorem fs_Question_put_uppers {v0 v1 v2 v3 v4 y : V} : putF "uppers" y (fs_Question v0 v1 v2 v3 v4) = fs_Question v0 v1 v2 v3 y := (ptM ne_given_rows_uppers (ptM ne_goal_uppers (ptM ne_steps_uppers (ptM ne_ends_uppers ptH))))
theorem fs_Question_no_need_step {v0 v1 v2 v3 v4 : V} : (fs_Question v0 v1 v2 v3 v4).lookup ("need_step" : Str) = none := (lkM ne_need_step_given_rows (lkM ne_need_step_goal (lkM ne_need_step_steps (lkM ne_need_step_ends (lkM ne_need_step_uppers lkN)))))
theorem fs_Question_no_many {v0 v1 v2 v3 v4 : V} : (fs_Question v0 v1 v2 v3 v4).lookup ("many" : Str) = none := (lkM ne_many_given_rows (lkM ne_many_goal (lkM ne_many_steps (lkM ne_many_ends (lkM ne_many_uppers lkN)))))
theorem fs_Question_no_step_at {v0 v1 v2 v3 v4 : V} : (fs_Question v0 v1 v2 v3 v4).lookup ("step_at" : Str) = none := (lkM ne_step_at_given_rows (lkM ne_step_at_goal (lkM ne_step_at_steps (lkM ne_step_at_ends (lkM ne_step_at_uppers lkN)))))
theorem fs_Question_no_upper_of {v0 v1 v2 v3 v4 : V} : (fs_Question v0 v1 v2 v3 v4).lookup ("upper_of" : Str) = none := (lkM ne_upper_of_given_rows (lkM ne_upper_of_goal (lkM ne_upper_of_steps (lkM ne_upper_of_ends (lkM ne_upper_of_uppers lkN)))))
theorem fs_Question_no_lowers_of {v0 v1 v2 v3 v4 : V} : (fs_Question v0 v1 v2 v3 v4).lookup ("lowers_of" : Str) = none := (lkM ne_lowers_of_given_rows (lkM ne_lowers_of_goal (lkM ne_lowers_of_steps (lkM ne_lowers_of_ends (lkM ne_lowers_of_uppers lkN)))))
theorem fs_Question_no_wanted {v0 v1 v2 v3 v4 : V} : (fs_Question v0 v1 v2 v3 v4).lookup ("wanted" : Str) = none := (lkM ne_wanted_given_rows (lkM ne_wanted_goal (lkM ne_wanted_steps (lkM ne_wanted_ends (lkM ne_wanted_uppers lkN)))))
section
variable {K : PySem.W.Frag} {mg : Str → Option Value} {H : Hp} {p dx : Addr}
theorem rd_Document_parts {v0 v1 v2 : V} {Q : V → Prop} (T : Tx K mg) (hp : H p = some (.ins (aDocument K) dx (fs_Document v0 v1 v2))) (q : Q v0) : ∃ a C dx fs v, V.ref p = .ref a ∧ H a = some (.ins C dx fs) ∧ Cls K C ∧ NoAttr K C "parts" ∧ fs.lookup ("parts" : Str) = some v ∧ Q v := ⟨p, _, _, _, _, rfl, hp, T.c_Document, T.n_Document_parts, fs_Document_parts, q⟩
theorem wr_Document_parts {v0 v1 v2 y : V} {N : Hp → Prop} (T : Tx K mg) (hp : H p = some (.ins (aDocument K) dx (fs_Document v0 v1 v2))) (q : N (upd H p (.ins (aDocument K) dx (fs_Document y v1 v2)))) : ∃ a C dx fs, V.ref p = .ref a ∧ H a = some (.ins C dx fs) ∧ Cls K C ∧ NoAttr K C "parts" ∧ fs.length < 1000 ∧ N (upd H a (.ins C dx (putF "parts" y fs))) := ⟨p, _, _, _, rfl, hp, T.c_Document, T.n_Document_parts, fs_Document_len, by rw [fs_Document_put_parts]; exact q⟩
theorem rd_Document_ends {v0 v1 v2 : V} {Q : V → Prop} (T : Tx K mg) (hp : H p = some (.ins (aDocument K) dx (fs_Document v0 v1 v2))) (q : Q v1) : ∃ a C dx fs v, V.ref p = .ref a ∧ H a = some (.ins C dx fs) ∧ Cls K C ∧ NoAttr K C "ends" ∧ fs.lookup ("ends" : Str) = some v ∧ Q v := ⟨p, _, _, _, _, rfl, hp, T.c_Document, T.n_Document_ends, fs_Document_ends, q⟩
theorem wr_Document_ends {v0 v1 v2 y : V} {N : Hp → Prop} (T : Tx K mg) (hp : H p = some (.ins (aDocument K) dx (fs_Document v0 v1 v2))) (q : N (upd H p (.ins (aDocument K) dx (fs_Document v0 y v2)))) : ∃ a C dx fs, V.ref p = .ref a ∧ H a = some (.ins C dx fs) ∧ Cls K C ∧ NoAttr K C "ends" ∧ fs.length < 1000 ∧ N (upd H a (.ins C dx (putF "ends" y fs))) := ⟨p, _, _, _, rfl, hp, T.c_Document, T.n_Document_ends, fs_Document_len, by rw [fs_Document_put_ends]; exact q⟩
theorem rd_Document_uppers {v0 v1 v2 : V} {Q : V → Prop} (T : Tx K mg) (hp : H p = some (.ins (aDocument K) dx (fs_Document v0 v1 v2))) (q : Q v2) : ∃ a C dx fs v, V.ref p = .ref a ∧ H a = some (.ins C dx fs) ∧ Cls K C ∧ NoAttr K C "uppers" ∧ fs.lookup ("uppers" : Str) = some v ∧ Q v := ⟨p, _, _, _, _, rfl, hp, T.c_Document, T.n_Document_uppers, fs_Document_uppers, q⟩
theorem wr_Document_uppers {v0 v1 v2 y : V} {N : Hp → Prop} (T : Tx K mg) (hp : H p = some (.ins (aDocument K) dx (fs_Document v0 v1 v2))) (q : N (upd H p (.ins (aDocument K) dx (fs_Document v0 v1 y)))) : ∃ a C dx fs, V.ref p = .ref a ∧ H a = some (.ins C dx fs) ∧ Cls K C ∧ NoAttr K C "uppers" ∧ fs.length < 1000 ∧ N (upd H a (.ins C dx (putF "uppers" y fs))) := ⟨p, _, _, _, rfl, hp, T.c_Document, T.n_Document_uppers, fs_Document_len, by rw [fs_Document_put_uppers]; exact q⟩
theorem in_Document_parts {v0 : V} {N : Hp → Prop} (T : Tx K mg) (hp : H p = some (.ins (aDocument K) dx [])) (q : N (upd H p (.ins (aDocument K) dx (fs_Document_1 v0)))) : ∃ a C dx fs, V.ref p = .ref a ∧ H a = some (.ins C dx fs) ∧ Cls K C ∧ NoAttr K C "parts" ∧ fs.length < 1000 ∧ N (upd H a (.ins C dx (putF "parts" v0 fs))) := ⟨p, _, _, _, rfl, hp, T.c_Document, T.n_Document_parts, (by show 0 < 1000; decide), by rw [fs_Document_1_new]; exact q⟩
theorem in_Document_ends {v0 v1 : V} {N : Hp → Prop} (T : Tx K mg) (hp : H p = some (.ins (aDocument K) dx (fs_Document_1 v0))) (q : N (upd H p (.ins (aDocument K) dx (fs_Document_2 v0 v1)))) : ∃ a C dx fs, V.ref p = .ref a ∧ H a = some (.ins C dx fs) ∧ Cls K C ∧ NoAttr K C "ends" ∧ fs.length < 1000 ∧ N (upd H a (.ins C dx (putF "ends" v1 fs))) := ⟨p, _, _, _, rfl, hp, T.c_Document, T.n_Document_ends, fs_Document_1_len, by rw [fs_Document_2_new]; exact q⟩
theorem in_Document_uppers {v0 v1 v2 : V} {N : Hp → Prop} (T : Tx K mg) (hp : H p = some (.ins (aDocument K) dx (fs_Document_2 v0 v1))) (q : N (upd H p (.ins (aDocument K) dx (fs_Document v0 v1 v2)))) : ∃ a C dx fs, V.ref p = .ref a ∧ H a = some (.ins C dx fs) ∧ Cls K C ∧ NoAttr K C "uppers" ∧ fs.length < 1000 ∧ N (upd H a (.ins C dx (putF "uppers" v2 fs))) := ⟨p, _, _, _, rfl, hp, T.c_Document, T.n_Document_uppers, fs_Document_2_len, by rw [fs_Document_new]; exact q⟩
theorem mt_Document_need_part {v0 v1 v2 : V} {R : Prop} (hp : H p = some (.ins (aDocument K) dx (fs_Document v0 v1 v2))) (q : R) : ∃ a dx fs, V.ref p = .ref a ∧ H a = some (.ins (aDocument K) dx fs) ∧ fs.lookup ("need_part" : Str) = none ∧ R := ⟨p, _, _, rfl, hp, fs_Document_no_need_part, q⟩
theorem mt_Document_many {v0 v1 v2 : V} {R : Prop} (hp : H p = some (.ins (aDocument K) dx (fs_Document v0 v1 v2))) (q : R) : ∃ a dx fs, V.ref p = .ref a ∧ H a = some (.ins (aDocument K) dx fs) ∧ fs.lookup ("many" : Str) = none ∧ R := ⟨p, _, _, rfl, hp, fs_Document_no_many, q⟩
theorem mt_Document_label_of {v0 v1 v2 : V} {R : Prop} (hp : H p = some (.ins (aDocument K) dx (fs_Document v0 v1 v2))) (q : R) : ∃ a dx fs, V.ref p = .ref a ∧ H a = some (.ins (aDocument K) dx fs) ∧ fs.lookup ("label_of" : Str) = none ∧ R := ⟨p, _, _, rfl, hp, fs_Document_no_label_of, q⟩
theorem mt_Document_depth_of {v0 v1 v2 : V} {R : Prop} (hp : H p = some (.ins (aDocument K) dx (fs_Document v0 v1 v2))) (q : R) : ∃ a dx fs, V.ref p = .ref a ∧ H a = some (.ins (aDocument K) dx fs) ∧ fs.lookup ("depth_of" : Str) = none ∧ R := ⟨p, _, _, rfl, hp, fs_Document_no_depth_of, q⟩
theorem mt_Document_end_of {v0 v1 v2 : V} {R : Prop} (hp : H p = some (.ins (aDocument K) dx (fs_Document v0 v1 v2))) (q : R) : ∃ a dx fs, V.ref p = .ref a ∧ H a = some (.ins (aDocument K) dx fs) ∧ fs.lookup ("end_of" : Str) = none ∧ R := ⟨p, _, _, rfl, hp, fs_Document_no_end_of, q⟩
theorem mt_Document_upper_of {v0 v1 v2 : V} {R : Prop} (hp : H p = some (.ins (aDocument K) dx (fs_Document v0 v1 v2))) (q : R) : ∃ a dx fs, V.ref p = .ref a ∧ H a = some (.ins (aDocument K) dx fs) ∧ fs.lookup ("upper_of" : Str) = none ∧ R := ⟨p, _, _, rfl, hp, fs_Document_no_upper_of, q⟩
theorem mt_Document_lowers_of {v0 v1 v2 : V} {R : Prop} (hp : H p = some (.ins (aDocument K) dx (fs_Document v0 v1 v2))) (q : R) : ∃ a dx fs, V.ref p = .ref a ∧ H a = some (.ins (aDocument K) dx fs) ∧ fs.lookup ("lowers_of" : Str) = none ∧ R := ⟨p, _, _, rfl, hp, fs_Document_no_lowers_of, q⟩
theorem mt_Document_parts_of {v0 v1 v2 : V} {R : Prop} (hp : H p = some (.ins (aDocument K) dx (fs_Document v0 v1 v2))) (q : R) : ∃ a dx fs, V.ref p = .ref a ∧ H a = some (.ins (aDocument K) dx fs) ∧ fs.lookup ("parts_of" : Str) = none ∧ R := ⟨p, _, _, rfl, hp, fs_Document_no_parts_of, q⟩
theorem mt_Document_rows {v0 v1 v2 : V} {R : Prop} (hp : H p = some (.ins (aDocument K) dx (fs_Document v0 v1 v2))) (q : R) : ∃ a dx fs, V.ref p = .ref a ∧ H a = some (.ins (aDocument K) dx fs) ∧ fs.lookup ("rows" : Str) = none ∧ R := ⟨p, _, _, rfl, hp, fs_Document_no_rows, q⟩
theorem rd_Plant_label {v0 v1 v2 : V} {Q : V → Prop} (T : Tx K mg) (hp : H p = some (.ins (aPlant K) dx (fs_Plant v0 v1 v2))) (q : Q v0) : ∃ a C dx fs v, V.ref p = .ref a ∧ H a = some (.ins C dx fs) ∧ Cls K C ∧ NoAttr K C "label" ∧ fs.lookup ("label" : Str) = some v ∧ Q v := ⟨p, _, _, _, _, rfl, hp, T.c_Plant, T.n_Plant_label, fs_Plant_label, q⟩
theorem wr_Plant_label {v0 v1 v2 y : V} {N : Hp → Prop} (T : Tx K mg) (hp : H p = some (.ins (aPlant K) dx (fs_Plant v0 v1 v2))) (q : N (upd H p (.ins (aPlant K) dx (fs_Plant y v1 v2)))) : ∃ a C dx fs, V.ref p = .ref a ∧ H a = some (.ins C dx fs) ∧ Cls K C ∧ NoAttr K C "label" ∧ fs.length < 1000 ∧ N (upd H a (.ins C dx (putF "label" y fs))) := ⟨p, _, _, _, rfl, hp, T.c_Plant, T.n_Plant_label, fs_Plant_len, by rw [fs_Plant_put_label]; exact q⟩
theorem rd_Plant_over {v0 v1 v2 : V} {Q : V → Prop} (T : Tx K mg) (hp : H p = some (.ins (aPlant K) dx (fs_Plant v0 v1 v2))) (q : Q v1) : ∃ a C dx fs v, V.ref p = .ref a ∧ H a = some (.ins C dx fs) ∧ Cls K C ∧ NoAttr K C "over" ∧ fs.lookup ("over" : Str) = some v ∧ Q v := ⟨p, _, _, _, _, rfl, hp, T.c_Plant, T.n_Plant_over, fs_Plant_over, q⟩
theorem wr_Plant_over {v0 v1 v2 y : V} {N : Hp → Prop} (T : Tx K mg) (hp : H p = some (.ins (aPlant K) dx (fs_Plant v0 v1 v2))) (q : N (upd H p (.ins (aPlant K) dx (fs_Plant v0 y v2)))) : ∃ a C dx fs, V.ref p = .ref a ∧ H a = some (.ins C dx fs) ∧ Cls K C ∧ NoAttr K C "over" ∧ fs.length < 1000 ∧ N (upd H a (.ins C dx (putF "over" y fs))) := ⟨p, _, _, _, rfl, hp, T.c_Plant, T.n_Plant_over, fs_Plant_len, by rw [fs_Plant_put_over]; exact q⟩
theorem rd_Plant_under {v0 v1 v2 : V} {Q : V → Prop} (T : Tx K mg) (hp : H p = some (.ins (aPlant K) dx (fs_Plant v0 v1 v2))) (q : Q v2) : ∃ a C dx fs v, V.ref p = .ref a ∧ H a = some (.ins C dx fs) ∧ Cls K C ∧ NoAttr K C "under" ∧ fs.lookup ("under" : Str) = some v ∧ Q v := ⟨p, _, _, _, _, rfl, hp, T.c_Plant, T.n_Plant_under, fs_Plant_under, q⟩
theorem wr_Plant_under {v0 v1 v2 y : V} {N : Hp → Prop} (T : Tx K mg) (hp : H p = some (.ins (aPlant K) dx (fs_Plant v0 v1 v2))) (q : N (upd H p (.ins (aPlant K) dx (fs_Plant v0 v1 y)))) : ∃ a C dx fs, V.ref p = .ref a ∧ H a = some (.ins C dx fs) ∧ Cls K C ∧ NoAttr K C "under" ∧ fs.length < 1000 ∧ N (upd H a (.ins C dx (putF "under" y fs))) := ⟨p, _, _, _, rfl, hp, T.c_Plant, T.n_Plant_under, fs_Plant_len, by rw [fs_Plant_put_under]; exact q⟩
theorem in_Plant_label {v0 : V} {N : Hp → Prop} (T : Tx K mg) (hp : H p = some (.ins (aPlant K) dx [])) (q : N (upd H p (.ins (aPlant K) dx (fs_Plant_1 v0)))) : ∃ a C dx fs, V.ref p = .ref a ∧ H a = some (.ins C dx fs) ∧ Cls K C ∧ NoAttr K C "label" ∧ fs.length < 1000 ∧ N (upd H a (.ins C dx (putF "label" v0 fs))) := ⟨p, _, _, _, rfl, hp, T.c_Plant, T.n_Plant_label, (by show 0 < 1000; decide), by rw [fs_Plant_1_new]; exact q⟩
theorem in_Plant_over {v0 v1 : V} {N : Hp → Prop} (T : Tx K mg) (hp : H p = some (.ins (aPlant K) dx (fs_Plant_1 v0))) (q : N (upd H p (.ins (aPlant K) dx (fs_Plant_2 v0 v1)))) : ∃ a C dx fs, V.ref p = .ref a ∧ H a = some (.ins C dx fs) ∧ Cls K C ∧ NoAttr K C "over" ∧ fs.length < 1000 ∧ N (upd H a (.ins C dx (putF "over" v1 fs))) := ⟨p, _, _, _, rfl, hp, T.c_Plant, T.n_Plant_over, fs_Plant_1_len, by rw [fs_Plant_2_new]; exact q⟩
theorem in_Plant_under {v0 v1 v2 : V} {N : Hp → Prop} (T : Tx K mg) (hp : H p = some (.ins (aPlant K) dx (fs_Plant_2 v0 v1))) (q : N (upd H p (.ins (aPlant K) dx (fs_Plant v0 v1 v2)))) : ∃ a C dx fs, V.ref p = .ref a ∧ H a = some (.ins C dx fs) ∧ Cls K C ∧ NoAttr K C "under" ∧ fs.length < 1000 ∧ N (upd H a (.ins C dx (putF "under" v2 fs))) := ⟨p, _, _, _, rfl, hp, T.c_Plant, T.n_Plant_under, fs_Plant_2_len, by rw [fs_Plant_new]; exact q⟩
theorem rd_Keeping_steps_by {v0 v1 v2 v3 v4 v5 v6 v7 v8 v9 : V} {Q : V → Prop} (T : Tx K mg) (hp : H p = some (.ins (aKeeping K) dx (fs_Keeping v0 v1 v2 v3 v4 v5 v6 v7 v8 v9))) (q : Q v0) : ∃ a C dx fs v, V.ref p = .ref a ∧ H a = some (.ins C dx fs) ∧ Cls K C ∧ NoAttr K C "steps_by" ∧ fs.lookup ("steps_by" : Str) = some v ∧ Q v := ⟨p, _, _, _, _, rfl, hp, T.c_Keeping, T.n_Keeping_steps_by, fs_Keeping_steps_by, q⟩
theorem wr_Keeping_steps_by {v0 v1 v2 v3 v4 v5 v6 v7 v8 v9 y : V} {N : Hp → Prop} (T : Tx K mg) (hp : H p = some (.ins (aKeeping K) dx (fs_Keeping v0 v1 v2 v3 v4 v5 v6 v7 v8 v9))) (q : N (upd H p (.ins (aKeeping K) dx (fs_Keeping y v1 v2 v3 v4 v5 v6 v7 v8 v9)))) : ∃ a C dx fs, V.ref p = .ref a ∧ H a = some (.ins C dx fs) ∧ Cls K C ∧ NoAttr K C "steps_by" ∧ fs.length < 1000 ∧ N (upd H a (.ins C dx (putF "steps_by" y fs))) := ⟨p, _, _, _, rfl, hp, T.c_Keeping, T.n_Keeping_steps_by, fs_Keeping_len, by rw [fs_Keeping_put_steps_by]; exact q⟩
theorem rd_Keeping_near {v0 v1 v2 v3 v4 v5 v6 v7 v8 v9 : V} {Q : V → Prop} (T : Tx K mg) (hp : H p = some (.ins (aKeeping K) dx (fs_Keeping v0 v1 v2 v3 v4 v5 v6 v7 v8 v9))) (q : Q v1) : ∃ a C dx fs v, V.ref p = .ref a ∧ H a = some (.ins C dx fs) ∧ Cls K C ∧ NoAttr K C "near" ∧ fs.lookup ("near" : Str) = some v ∧ Q v := ⟨p, _, _, _, _, rfl, hp, T.c_Keeping, T.n_Keeping_near, fs_Keeping_near, q⟩
theorem wr_Keeping_near {v0 v1 v2 v3 v4 v5 v6 v7 v8 v9 y : V} {N : Hp → Prop} (T : Tx K mg) (hp : H p = some (.ins (aKeeping K) dx (fs_Keeping v0 v1 v2 v3 v4 v5 v6 v7 v8 v9))) (q : N (upd H p (.ins (aKeeping K) dx (fs_Keeping v0 y v2 v3 v4 v5 v6 v7 v8 v9)))) : ∃ a C dx fs, V.ref p = .ref a ∧ H a = some (.ins C dx fs) ∧ Cls K C ∧ NoAttr K C "near" ∧ fs.length < 1000 ∧ N (upd H a (.ins C dx (putF "near" y fs))) := ⟨p, _, _, _, rfl, hp, T.c_Keeping, T.n_Keeping_near, fs_Keeping_len, by rw [fs_Keeping_put_near]; exact q⟩
theorem rd_Keeping_far {v0 v1 v2 v3 v4 v5 v6 v7 v8 v9 : V} {Q : V → Prop} (T : Tx K mg) (hp : H p = some (.ins (aKeeping K) dx (fs_Keeping v0 v1 v2 v3 v4 v5 v6 v7 v8 v9))) (q : Q v2) : ∃ a C dx fs v, V.ref p = .ref a ∧ H a = some (.ins C dx fs) ∧ Cls K C ∧ NoAttr K C "far" ∧ fs.lookup ("far" : Str) = some v ∧ Q v := ⟨p, _, _, _, _, rfl, hp, T.c_Keeping, T.n_Keeping_far, fs_Keeping_far, q⟩
theorem wr_Keeping_far {v0 v1 v2 v3 v4 v5 v6 v7 v8 v9 y : V} {N : Hp → Prop} (T : Tx K mg) (hp : H p = some (.ins (aKeeping K) dx (fs_Keeping v0 v1 v2 v3 v4 v5 v6 v7 v8 v9))) (q : N (upd H p (.ins (aKeeping K) dx (fs_Keeping v0 v1 y v3 v4 v5 v6 v7 v8 v9)))) : ∃ a C dx fs, V.ref p = .ref a ∧ H a = some (.ins C dx fs) ∧ Cls K C ∧ NoAttr K C "far" ∧ fs.length < 1000 ∧ N (upd H a (.ins C dx (putF "far" y fs))) := ⟨p, _, _, _, rfl, hp, T.c_Keeping, T.n_Keeping_far, fs_Keeping_len, by rw [fs_Keeping_put_far]; exact q⟩
theorem rd_Keeping_uppers {v0 v1 v2 v3 v4 v5 v6 v7 v8 v9 : V} {Q : V → Prop} (T : Tx K mg) (hp : H p = some (.ins (aKeeping K) dx (fs_Keeping v0 v1 v2 v3 v4 v5 v6 v7 v8 v9))) (q : Q v3) : ∃ a C dx fs v, V.ref p = .ref a ∧ H a = some (.ins C dx fs) ∧ Cls K C ∧ NoAttr K C "uppers" ∧ fs.lookup ("uppers" : Str) = some v ∧ Q v := ⟨p, _, _, _, _, rfl, hp, T.c_Keeping, T.n_Keeping_uppers, fs_Keeping_uppers, q⟩
theorem wr_Keeping_uppers {v0 v1 v2 v3 v4 v5 v6 v7 v8 v9 y : V} {N : Hp → Prop} (T : Tx K mg) (hp : H p = some (.ins (aKeeping K) dx (fs_Keeping v0 v1 v2 v3 v4 v5 v6 v7 v8 v9))) (q : N (upd H p (.ins (aKeeping K) dx (fs_Keeping v0 v1 v2 y v4 v5 v6 v7 v8 v9)))) : ∃ a C dx fs, V.ref p = .ref a ∧ H a = some (.ins C dx fs) ∧ Cls K C ∧ NoAttr K C "uppers" ∧ fs.length < 1000 ∧ N (upd H a (.ins C dx (putF "uppers" y fs))) := ⟨p, _, _, _, rfl, hp, T.c_Keeping, T.n_Keeping_uppers, fs_Keeping_len, by rw [fs_Keeping_put_uppers]; exact q⟩
theorem rd_Keeping_ways {v0 v1 v2 v3 v4 v5 v6 v7 v8 v9 : V} {Q : V → Prop} (T : Tx K mg) (hp : H p = some (.ins (aKeeping K) dx (fs_Keeping v0 v1 v2 v3 v4 v5 v6 v7 v8 v9))) (q : Q v4) : ∃ a C dx fs v, V.ref p = .ref a ∧ H a = some (.ins C dx fs) ∧ Cls K C ∧ NoAttr K C "ways" ∧ fs.lookup ("ways" : Str) = some v ∧ Q v := ⟨p, _, _, _, _, rfl, hp, T.c_Keeping, T.n_Keeping_ways, fs_Keeping_ways, q⟩
theorem wr_Keeping_ways {v0 v1 v2 v3 v4 v5 v6 v7 v8 v9 y : V} {N : Hp → Prop} (T : Tx K mg) (hp : H p = some (.ins (aKeeping K) dx (fs_Keeping v0 v1 v2 v3 v4 v5 v6 v7 v8 v9))) (q : N (upd H p (.ins (aKeeping K) dx (fs_Keeping v0 v1 v2 v3 y v5 v6 v7 v8 v9)))) : ∃ a C dx fs, V.ref p = .ref a ∧ H a = some (.ins C dx fs) ∧ Cls K C ∧ NoAttr K C "ways" ∧ fs.length < 1000 ∧ N (upd H a (.ins C dx (putF "ways" y fs))) := ⟨p, _, _, _, rfl, hp, T.c_Keeping, T.n_Keeping_ways, fs_Keeping_len, by rw [fs_Keeping_put_ways]; exact q⟩
theorem rd_Keeping_goal {v0 v1 v2 v3 v4 v5 v6 v7 v8 v9 : V} {Q : V → Prop} (T : Tx K mg) (hp : H p = some (.ins (aKeeping K) dx (fs_Keeping v0 v1 v2 v3 v4 v5 v6 v7 v8 v9))) (q : Q v5) : ∃ a C dx fs v, V.ref p = .ref a ∧ H a = some (.ins C dx fs) ∧ Cls K C ∧ NoAttr K C "goal" ∧ fs.lookup ("goal" : Str) = some v ∧ Q v := ⟨p, _, _, _, _, rfl, hp, T.c_Keeping, T.n_Keeping_goal, fs_Keeping_goal, q⟩
theorem wr_Keeping_goal {v0 v1 v2 v3 v4 v5 v6 v7 v8 v9 y : V} {N : Hp → Prop} (T : Tx K mg) (hp : H p = some (.ins (aKeeping K) dx (fs_Keeping v0 v1 v2 v3 v4 v5 v6 v7 v8 v9))) (q : N (upd H p (.ins (aKeeping K) dx (fs_Keeping v0 v1 v2 v3 v4 y v6 v7 v8 v9)))) : ∃ a C dx fs, V.ref p = .ref a ∧ H a = some (.ins C dx fs) ∧ Cls K C ∧ NoAttr K C "goal" ∧ fs.length < 1000 ∧ N (upd H a (.ins C dx (putF "goal" y fs))) := ⟨p, _, _, _, rfl, hp, T.c_Keeping, T.n_Keeping_goal, fs_Keeping_len, by rw [fs_Keeping_put_goal]; exact q⟩
theorem rd_Keeping_down {v0 v1 v2 v3 v4 v5 v6 v7 v8 v9 : V} {Q : V → Prop} (T : Tx K mg) (hp : H p = some (.ins (aKeeping K) dx (fs_Keeping v0 v1 v2 v3 v4 v5 v6 v7 v8 v9))) (q : Q v6) : ∃ a C dx fs v, V.ref p = .ref a ∧ H a = some (.ins C dx fs) ∧ Cls K C ∧ NoAttr K C "down" ∧ fs.lookup ("down" : Str) = some v ∧ Q v := ⟨p, _, _, _, _, rfl, hp, T.c_Keeping, T.n_Keeping_down, fs_Keeping_down, q⟩
theorem wr_Keeping_down {v0 v1 v2 v3 v4 v5 v6 v7 v8 v9 y : V} {N : Hp → Prop} (T : Tx K mg) (hp : H p = some (.ins (aKeeping K) dx (fs_Keeping v0 v1 v2 v3 v4 v5 v6 v7 v8 v9))) (q : N (upd H p (.ins (aKeeping K) dx (fs_Keeping v0 v1 v2 v3 v4 v5 y v7 v8 v9)))) : ∃ a C dx fs, V.ref p = .ref a ∧ H a = some (.ins C dx fs) ∧ Cls K C ∧ NoAttr K C "down" ∧ fs.length < 1000 ∧ N (upd H a (.ins C dx (putF "down" y fs))) := ⟨p, _, _, _, rfl, hp, T.c_Keeping, T.n_Keeping_down, fs_Keeping_len, by rw [fs_Keeping_put_down]; exact q⟩
theorem rd_Keeping_beneath {v0 v1 v2 v3 v4 v5 v6 v7 v8 v9 : V} {Q : V → Prop} (T : Tx K mg) (hp : H p = some (.ins (aKeeping K) dx (fs_Keeping v0 v1 v2 v3 v4 v5 v6 v7 v8 v9))) (q : Q v7) : ∃ a C dx fs v, V.ref p = .ref a ∧ H a = some (.ins C dx fs) ∧ Cls K C ∧ NoAttr K C "beneath" ∧ fs.lookup ("beneath" : Str) = some v ∧ Q v := ⟨p, _, _, _, _, rfl, hp, T.c_Keeping, T.n_Keeping_beneath, fs_Keeping_beneath, q⟩
theorem wr_Keeping_beneath {v0 v1 v2 v3 v4 v5 v6 v7 v8 v9 y : V} {N : Hp → Prop} (T : Tx K mg) (hp : H p = some (.ins (aKeeping K) dx (fs_Keeping v0 v1 v2 v3 v4 v5 v6 v7 v8 v9))) (q : N (upd H p (.ins (aKeeping K) dx (fs_Keeping v0 v1 v2 v3 v4 v5 v6 y v8 v9)))) : ∃ a C dx fs, V.ref p = .ref a ∧ H a = some (.ins C dx fs) ∧ Cls K C ∧ NoAttr K C "beneath" ∧ fs.length < 1000 ∧ N (upd H a (.ins C dx (putF "beneath" y fs))) := ⟨p, _, _, _, rfl, hp, T.c_Keeping, T.n_Keeping_beneath, fs_Keeping_len, by rw [fs_Keeping_put_beneath]; exact q⟩
theorem rd_Keeping_passed {v0 v1 v2 v3 v4 v5 v6 v7 v8 v9 : V} {Q : V → Prop} (T : Tx K mg) (hp : H p = some (.ins (aKeeping K) dx (fs_Keeping v0 v1 v2 v3 v4 v5 v6 v7 v8 v9))) (q : Q v8) : ∃ a C dx fs v, V.ref p = .ref a ∧ H a = some (.ins C dx fs) ∧ Cls K C ∧ NoAttr K C "passed" ∧ fs.lookup ("passed" : Str) = some v ∧ Q v := ⟨p, _, _, _, _, rfl, hp, T.c_Keeping, T.n_Keeping_passed, fs_Keeping_passed, q⟩
theorem wr_Keeping_passed {v0 v1 v2 v3 v4 v5 v6 v7 v8 v9 y : V} {N : Hp → Prop} (T : Tx K mg) (hp : H p = some (.ins (aKeeping K) dx (fs_Keeping v0 v1 v2 v3 v4 v5 v6 v7 v8 v9))) (q : N (upd H p (.ins (aKeeping K) dx (fs_Keeping v0 v1 v2 v3 v4 v5 v6 v7 y v9)))) : ∃ a C dx fs, V.ref p = .ref a ∧ H a = some (.ins C dx fs) ∧ Cls K C ∧ NoAttr K C "passed" ∧ fs.length < 1000 ∧ N (upd H a (.ins C dx (putF "passed" y fs))) := ⟨p, _, _, _, rfl, hp, T.c_Keeping, T.n_Keeping_passed, fs_Keeping_len, by rw [fs_Keeping_put_passed]; exact q⟩
theorem rd_Keeping_seen {v0 v1 v2 v3 v4 v5 v6 v7 v8 v9 : V} {Q : V → Prop} (T : Tx K mg) (hp : H p = some (.ins (aKeeping K) dx (fs_Keeping v0 v1 v2 v3 v4 v5 v6 v7 v8 v9))) (q : Q v9) : ∃ a C dx fs v, V.ref p = .ref a ∧ H a = some (.ins C dx fs) ∧ Cls K C ∧ NoAttr K C "seen" ∧ fs.lookup ("seen" : Str) = some v ∧ Q v := ⟨p, _, _, _, _, rfl, hp, T.c_Keeping, T.n_Keeping_seen, fs_Keeping_seen, q⟩
theorem wr_Keeping_seen {v0 v1 v2 v3 v4 v5 v6 v7 v8 v9 y : V} {N : Hp → Prop} (T : Tx K mg) (hp : H p = some (.ins (aKeeping K) dx (fs_Keeping v0 v1 v2 v3 v4 v5 v6 v7 v8 v9))) (q : N (upd H p (.ins (aKeeping K) dx (fs_Keeping v0 v1 v2 v3 v4 v5 v6 v7 v8 y)))) : ∃ a C dx fs, V.ref p = .ref a ∧ H a = some (.ins C dx fs) ∧ Cls K C ∧ NoAttr K C "seen" ∧ fs.length < 1000 ∧ N (upd H a (.ins C dx (putF "seen" y fs))) := ⟨p, _, _, _, rfl, hp, T.c_Keeping, T.n_Keeping_seen, fs_Keeping_len, by rw [fs_Keeping_put_seen]; exact q⟩
theorem in_Keeping_steps_by {v0 : V} {N : Hp → Prop} (T : Tx K mg) (hp : H p = some (.ins (aKeeping K) dx [])) (q : N (upd H p (.ins (aKeeping K) dx (fs_Keeping_1 v0)))) : ∃ a C dx fs, V.ref p = .ref a ∧ H a = some (.ins C dx fs) ∧ Cls K C ∧ NoAttr K C "steps_by" ∧ fs.length < 1000 ∧ N (upd H a (.ins C dx (putF "steps_by" v0 fs))) := ⟨p, _, _, _, rfl, hp, T.c_Keeping, T.n_Keeping_steps_by, (by show 0 < 1000; decide), by rw [fs_Keeping_1_new]; exact q⟩
theorem rp_Keeping_1_steps_by {v0 : V} {Q : V → Prop} (T : Tx K mg) (hp : H p = some (.ins (aKeeping K) dx (fs_Keeping_1 v0))) (q : Q v0) : ∃ a C dx fs v, V.ref p = .ref a ∧ H a = some (.ins C dx fs) ∧ Cls K C ∧ NoAttr K C "steps_by" ∧ fs.lookup ("steps_by" : Str) = some v ∧ Q v := ⟨p, _, _, _, _, rfl, hp, T.c_Keeping, T.n_Keeping_steps_by, fs_Keeping_1_steps_by, q⟩
theorem in_Keeping_near {v0 v1 : V} {N : Hp → Prop} (T : Tx K mg) (hp : H p = some (.ins (aKeeping K) dx (fs_Keeping_1 v0))) (q : N (upd H p (.ins (aKeeping K) dx (fs_Keeping_2 v0 v1)))) : ∃ a C dx fs, V.ref p = .ref a ∧ H a = some (.ins C dx fs) ∧ Cls K C ∧ NoAttr K C "near" ∧ fs.length < 1000 ∧ N (upd H a (.ins C dx (putF "near" v1 fs))) := ⟨p, _, _, _, rfl, hp, T.c_Keeping, T.n_Keeping_near, fs_Keeping_1_len, by rw [fs_Keeping_2_new]; exact q⟩
theorem rp_Keeping_2_steps_by {v0 v1 : V} {Q : V → Prop} (T : Tx K mg) (hp : H p = some (.ins (aKeeping K) dx (fs_Keeping_2 v0 v1))) (q : Q v0) : ∃ a C dx fs v, V.ref p = .ref a ∧ H a = some (.ins C dx fs) ∧ Cls K C ∧ NoAttr K C "steps_by" ∧ fs.lookup ("steps_by" : Str) = some v ∧ Q v := ⟨p, _, _, _, _, rfl, hp, T.c_Keeping, T.n_Keeping_steps_by, fs_Keeping_2_steps_by, q⟩
theorem rp_Keeping_2_near {v0 v1 : V} {Q : V → Prop} (T : Tx K mg) (hp : H p = some (.ins (aKeeping K) dx (fs_Keeping_2 v0 v1))) (q : Q v1) : ∃ a C dx fs v, V.ref p = .ref a ∧ H a = some (.ins C dx fs) ∧ Cls K C ∧ NoAttr K C "near" ∧ fs.lookup ("near" : Str) = some v ∧ Q v := ⟨p, _, _, _, _, rfl, hp, T.c_Keeping, T.n_Keeping_near, fs_Keeping_2_near, q⟩
theorem in_Keeping_far {v0 v1 v2 : V} {N : Hp → Prop} (T : Tx K mg) (hp : H p = some (.ins (aKeeping K) dx (fs_Keeping_2 v0 v1))) (q : N (upd H p (.ins (aKeeping K) dx (fs_Keeping_3 v0 v1 v2)))) : ∃ a C dx fs, V.ref p = .ref a ∧ H a = some (.ins C dx fs) ∧ Cls K C ∧ NoAttr K C "far" ∧ fs.length < 1000 ∧ N (upd H a (.ins C dx (putF "far" v2 fs))) := ⟨p, _, _, _, rfl, hp, T.c_Keeping, T.n_Keeping_far, fs_Keeping_2_len, by rw [fs_Keeping_3_new]; exact q⟩
theorem rp_Keeping_3_steps_by {v0 v1 v2 : V} {Q : V → Prop} (T : Tx K mg) (hp : H p = some (.ins (aKeeping K) dx (fs_Keeping_3 v0 v1 v2))) (q : Q v0) : ∃ a C dx fs v, V.ref p = .ref a ∧ H a = some (.ins C dx fs) ∧ Cls K C ∧ NoAttr K C "steps_by" ∧ fs.lookup ("steps_by" : Str) = some v ∧ Q v := ⟨p, _, _, _, _, rfl, hp, T.c_Keeping, T.n_Keeping_steps_by, fs_Keeping_3_steps_by, q⟩
theorem rp_Keeping_3_near {v0 v1 v2 : V} {Q : V → Prop} (T : Tx K mg) (hp : H p = some (.ins (aKeeping K) dx (fs_Keeping_3 v0 v1 v2))) (q : Q v1) : ∃ a C dx fs v, V.ref p = .ref a ∧ H a = some (.ins C dx fs) ∧ Cls K C ∧ NoAttr K C "near" ∧ fs.lookup ("near" : Str) = some v ∧ Q v := ⟨p, _, _, _, _, rfl, hp, T.c_Keeping, T.n_Keeping_near, fs_Keeping_3_near, q⟩
theorem rp_Keeping_3_far {v0 v1 v2 : V} {Q : V → Prop} (T : Tx K mg) (hp : H p = some (.ins (aKeeping K) dx (fs_Keeping_3 v0 v1 v2))) (q : Q v2) : ∃ a C dx fs v, V.ref p = .ref a ∧ H a = some (.ins C dx fs) ∧ Cls K C ∧ NoAttr K C "far" ∧ fs.lookup ("far" : Str) = some v ∧ Q v := ⟨p, _, _, _, _, rfl, hp, T.c_Keeping, T.n_Keeping_far, fs_Keeping_3_far, q⟩
theorem in_Keeping_uppers {v0 v1 v2 v3 : V} {N : Hp → Prop} (T : Tx K mg) (hp : H p = some (.ins (aKeeping K) dx (fs_Keeping_3 v0 v1 v2))) (q : N (upd H p (.ins (aKeeping K) dx (fs_Keeping_4 v0 v1 v2 v3)))) : ∃ a C dx fs, V.ref p = .ref a ∧ H a = some (.ins C dx fs) ∧ Cls K C ∧ NoAttr K C "uppers" ∧ fs.length < 1000 ∧ N (upd H a (.ins C dx (putF "uppers" v3 fs))) := ⟨p, _, _, _, rfl, hp, T.c_Keeping, T.n_Keeping_uppers, fs_Keeping_3_len, by rw [fs_Keeping_4_new]; exact q⟩
theorem rp_Keeping_4_steps_by {v0 v1 v2 v3 : V} {Q : V → Prop} (T : Tx K mg) (hp : H p = some (.ins (aKeeping K) dx (fs_Keeping_4 v0 v1 v2 v3))) (q : Q v0) : ∃ a C dx fs v, V.ref p = .ref a ∧ H a = some (.ins C dx fs) ∧ Cls K C ∧ NoAttr K C "steps_by" ∧ fs.lookup ("steps_by" : Str) = some v ∧ Q v := ⟨p, _, _, _, _, rfl, hp, T.c_Keeping, T.n_Keeping_steps_by, fs_Keeping_4_steps_by, q⟩
theorem rp_Keeping_4_near {v0 v1 v2 v3 : V} {Q : V → Prop} (T : Tx K mg) (hp : H p = some (.ins (aKeeping K) dx (fs_Keeping_4 v0 v1 v2 v3))) (q : Q v1) : ∃ a C dx fs v, V.ref p = .ref a ∧ H a = some (.ins C dx fs) ∧ Cls K C ∧ NoAttr K C "near" ∧ fs.lookup ("near" : Str) = some v ∧ Q v := ⟨p, _, _, _, _, rfl, hp, T.c_Keeping, T.n_Keeping_near, fs_Keeping_4_near, q⟩
theorem rp_Keeping_4_far {v0 v1 v2 v3 : V} {Q : V → Prop} (T : Tx K mg) (hp : H p = some (.ins (aKeeping K) dx (fs_Keeping_4 v0 v1 v2 v3))) (q : Q v2) : ∃ a C dx fs v, V.ref p = .ref a ∧ H a = some (.ins C dx fs) ∧ Cls K C ∧ NoAttr K C "far" ∧ fs.lookup ("far" : Str) = some v ∧ Q v := ⟨p, _, _, _, _, rfl, hp, T.c_Keeping, T.n_Keeping_far, fs_Keeping_4_far, q⟩
theorem rp_Keeping_4_uppers {v0 v1 v2 v3 : V} {Q : V → Prop} (T : Tx K mg) (hp : H p = some (.ins (aKeeping K) dx (fs_Keeping_4 v0 v1 v2 v3))) (q : Q v3) : ∃ a C dx fs v, V.ref p = .ref a ∧ H a = some (.ins C dx fs) ∧ Cls K C ∧ NoAttr K C "uppers" ∧ fs.lookup ("uppers" : Str) = some v ∧ Q v := ⟨p, _, _, _, _, rfl, hp, T.c_Keeping, T.n_Keeping_uppers, fs_Keeping_4_uppers, q⟩
theorem in_Keeping_ways {v0 v1 v2 v3 v4 : V} {N : Hp → Prop} (T : Tx K mg) (hp : H p = some (.ins (aKeeping K) dx (fs_Keeping_4 v0 v1 v2 v3))) (q : N (upd H p (.ins (aKeeping K) dx (fs_Keeping_5 v0 v1 v2 v3 v4)))) : ∃ a C dx fs, V.ref p = .ref a ∧ H a = some (.ins C dx fs) ∧ Cls K C ∧ NoAttr K C "ways" ∧ fs.length < 1000 ∧ N (upd H a (.ins C dx (putF "ways" v4 fs))) := ⟨p, _, _, _, rfl, hp, T.c_Keeping, T.n_Keeping_ways, fs_Keeping_4_len, by rw [fs_Keeping_5_new]; exact q⟩
theorem rp_Keeping_5_steps_by {v0 v1 v2 v3 v4 : V} {Q : V → Prop} (T : Tx K mg) (hp : H p = some (.ins (aKeeping K) dx (fs_Keeping_5 v0 v1 v2 v3 v4))) (q : Q v0) : ∃ a C dx fs v, V.ref p = .ref a ∧ H a = some (.ins C dx fs) ∧ Cls K C ∧ NoAttr K C "steps_by" ∧ fs.lookup ("steps_by" : Str) = some v ∧ Q v := ⟨p, _, _, _, _, rfl, hp, T.c_Keeping, T.n_Keeping_steps_by, fs_Keeping_5_steps_by, q⟩
theorem rp_Keeping_5_near {v0 v1 v2 v3 v4 : V} {Q : V → Prop} (T : Tx K mg) (hp : H p = some (.ins (aKeeping K) dx (fs_Keeping_5 v0 v1 v2 v3 v4))) (q : Q v1) : ∃ a C dx fs v, V.ref p = .ref a ∧ H a = some (.ins C dx fs) ∧ Cls K C ∧ NoAttr K C "near" ∧ fs.lookup ("near" : Str) = some v ∧ Q v := ⟨p, _, _, _, _, rfl, hp, T.c_Keeping, T.n_Keeping_near, fs_Keeping_5_near, q⟩
theorem rp_Keeping_5_far {v0 v1 v2 v3 v4 : V} {Q : V → Prop} (T : Tx K mg) (hp : H p = some (.ins (aKeeping K) dx (fs_Keeping_5 v0 v1 v2 v3 v4))) (q : Q v2) : ∃ a C dx fs v, V.ref p = .ref a ∧ H a = some (.ins C dx fs) ∧ Cls K C ∧ NoAttr K C "far" ∧ fs.lookup ("far" : Str) = some v ∧ Q v := ⟨p, _, _, _, _, rfl, hp, T.c_Keeping, T.n_Keeping_far, fs_Keeping_5_far, q⟩
theorem rp_Keeping_5_uppers {v0 v1 v2 v3 v4 : V} {Q : V → Prop} (T : Tx K mg) (hp : H p = some (.ins (aKeeping K) dx (fs_Keeping_5 v0 v1 v2 v3 v4))) (q : Q v3) : ∃ a C dx fs v, V.ref p = .ref a ∧ H a = some (.ins C dx fs) ∧ Cls K C ∧ NoAttr K C "uppers" ∧ fs.lookup ("uppers" : Str) = some v ∧ Q v := ⟨p, _, _, _, _, rfl, hp, T.c_Keeping, T.n_Keeping_uppers, fs_Keeping_5_uppers, q⟩
theorem rp_Keeping_5_ways {v0 v1 v2 v3 v4 : V} {Q : V → Prop} (T : Tx K mg) (hp : H p = some (.ins (aKeeping K) dx (fs_Keeping_5 v0 v1 v2 v3 v4))) (q : Q v4) : ∃ a C dx fs v, V.ref p = .ref a ∧ H a = some (.ins C dx fs) ∧ Cls K C ∧ NoAttr K C "ways" ∧ fs.lookup ("ways" : Str) = some v ∧ Q v := ⟨p, _, _, _, _, rfl, hp, T.c_Keeping, T.n_Keeping_ways, fs_Keeping_5_ways, q⟩
theorem in_Keeping_goal {v0 v1 v2 v3 v4 v5 : V} {N : Hp → Prop} (T : Tx K mg) (hp : H p = some (.ins (aKeeping K) dx (fs_Keeping_5 v0 v1 v2 v3 v4))) (q : N (upd H p (.ins (aKeeping K) dx (fs_Keeping_6 v0 v1 v2 v3 v4 v5)))) : ∃ a C dx fs, V.ref p = .ref a ∧ H a = some (.ins C dx fs) ∧ Cls K C ∧ NoAttr K C "goal" ∧ fs.length < 1000 ∧ N (upd H a (.ins C dx (putF "goal" v5 fs))) := ⟨p, _, _, _, rfl, hp, T.c_Keeping, T.n_Keeping_goal, fs_Keeping_5_len, by rw [fs_Keeping_6_new]; exact q⟩
theorem rp_Keeping_6_steps_by {v0 v1 v2 v3 v4 v5 : V} {Q : V → Prop} (T : Tx K mg) (hp : H p = some (.ins (aKeeping K) dx (fs_Keeping_6 v0 v1 v2 v3 v4 v5))) (q : Q v0) : ∃ a C dx fs v, V.ref p = .ref a ∧ H a = some (.ins C dx fs) ∧ Cls K C ∧ NoAttr K C "steps_by" ∧ fs.lookup ("steps_by" : Str) = some v ∧ Q v := ⟨p, _, _, _, _, rfl, hp, T.c_Keeping, T.n_Keeping_steps_by, fs_Keeping_6_steps_by, q⟩
theorem rp_Keeping_6_near {v0 v1 v2 v3 v4 v5 : V} {Q : V → Prop} (T : Tx K mg) (hp : H p = some (.ins (aKeeping K) dx (fs_Keeping_6 v0 v1 v2 v3 v4 v5))) (q : Q v1) : ∃ a C dx fs v, V.ref p = .ref a ∧ H a = some (.ins C dx fs) ∧ Cls K C ∧ NoAttr K C "near" ∧ fs.lookup ("near" : Str) = some v ∧ Q v := ⟨p, _, _, _, _, rfl, hp, T.c_Keeping, T.n_Keeping_near, fs_Keeping_6_near, q⟩
theorem rp_Keeping_6_far {v0 v1 v2 v3 v4 v5 : V} {Q : V → Prop} (T : Tx K mg) (hp : H p = some (.ins (aKeeping K) dx (fs_Keeping_6 v0 v1 v2 v3 v4 v5))) (q : Q v2) : ∃ a C dx fs v, V.ref p = .ref a ∧ H a = some (.ins C dx fs) ∧ Cls K C ∧ NoAttr K C "far" ∧ fs.lookup ("far" : Str) = some v ∧ Q v := ⟨p, _, _, _, _, rfl, hp, T.c_Keeping, T.n_Keeping_far, fs_Keeping_6_far, q⟩
theorem rp_Keeping_6_uppers {v0 v1 v2 v3 v4 v5 : V} {Q : V → Prop} (T : Tx K mg) (hp : H p = some (.ins (aKeeping K) dx (fs_Keeping_6 v0 v1 v2 v3 v4 v5))) (q : Q v3) : ∃ a C dx fs v, V.ref p = .ref a ∧ H a = some (.ins C dx fs) ∧ Cls K C ∧ NoAttr K C "uppers" ∧ fs.lookup ("uppers" : Str) = some v ∧ Q v := ⟨p, _, _, _, _, rfl, hp, T.c_Keeping, T.n_Keeping_uppers, fs_Keeping_6_uppers, q⟩
theorem rp_Keeping_6_ways {v0 v1 v2 v3 v4 v5 : V} {Q : V → Prop} (T : Tx K mg) (hp : H p = some (.ins (aKeeping K) dx (fs_Keeping_6 v0 v1 v2 v3 v4 v5))) (q : Q v4) : ∃ a C dx fs v, V.ref p = .ref a ∧ H a = some (.ins C dx fs) ∧ Cls K C ∧ NoAttr K C "ways" ∧ fs.lookup ("ways" : Str) = some v ∧ Q v := ⟨p, _, _, _, _, rfl, hp, T.c_Keeping, T.n_Keeping_ways, fs_Keeping_6_ways, q⟩
theorem rp_Keeping_6_goal {v0 v1 v2 v3 v4 v5 : V} {Q : V → Prop} (T : Tx K mg) (hp : H p = some (.ins (aKeeping K) dx (fs_Keeping_6 v0 v1 v2 v3 v4 v5))) (q : Q v5) : ∃ a C dx fs v, V.ref p = .ref a ∧ H a = some (.ins C dx fs) ∧ Cls K C ∧ NoAttr K C "goal" ∧ fs.lookup ("goal" : Str) = some v ∧ Q v := ⟨p, _, _, _, _, rfl, hp, T.c_Keeping, T.n_Keeping_goal, fs_Keeping_6_goal, q⟩
theorem in_Keeping_down {v0 v1 v2 v3 v4 v5 v6 : V} {N : Hp → Prop} (T : Tx K mg) (hp : H p = some (.ins (aKeeping K) dx (fs_Keeping_6 v0 v1 v2 v3 v4 v5))) (q : N (upd H p (.ins (aKeeping K) dx (fs_Keeping_7 v0 v1 v2 v3 v4 v5 v6)))) : ∃ a C dx fs, V.ref p = .ref a ∧ H a = some (.ins C dx fs) ∧ Cls K C ∧ NoAttr K C "down" ∧ fs.length < 1000 ∧ N (upd H a (.ins C dx (putF "down" v6 fs))) := ⟨p, _, _, _, rfl, hp, T.c_Keeping, T.n_Keeping_down, fs_Keeping_6_len, by rw [fs_Keeping_7_new]; exact q⟩
theorem rp_Keeping_7_steps_by {v0 v1 v2 v3 v4 v5 v6 : V} {Q : V → Prop} (T : Tx K mg) (hp : H p = some (.ins (aKeeping K) dx (fs_Keeping_7 v0 v1 v2 v3 v4 v5 v6))) (q : Q v0) : ∃ a C dx fs v, V.ref p = .ref a ∧ H a = some (.ins C dx fs) ∧ Cls K C ∧ NoAttr K C "steps_by" ∧ fs.lookup ("steps_by" : Str) = some v ∧ Q v := ⟨p, _, _, _, _, rfl, hp, T.c_Keeping, T.n_Keeping_steps_by, fs_Keeping_7_steps_by, q⟩
theorem rp_Keeping_7_near {v0 v1 v2 v3 v4 v5 v6 : V} {Q : V → Prop} (T : Tx K mg) (hp : H p = some (.ins (aKeeping K) dx (fs_Keeping_7 v0 v1 v2 v3 v4 v5 v6))) (q : Q v1) : ∃ a C dx fs v, V.ref p = .ref a ∧ H a = some (.ins C dx fs) ∧ Cls K C ∧ NoAttr K C "near" ∧ fs.lookup ("near" : Str) = some v ∧ Q v := ⟨p, _, _, _, _, rfl, hp, T.c_Keeping, T.n_Keeping_near, fs_Keeping_7_near, q⟩
theorem rp_Keeping_7_far {v0 v1 v2 v3 v4 v5 v6 : V} {Q : V → Prop} (T : Tx K mg) (hp : H p = some (.ins (aKeeping K) dx (fs_Keeping_7 v0 v1 v2 v3 v4 v5 v6))) (q : Q v2) : ∃ a C dx fs v, V.ref p = .ref a ∧ H a = some (.ins C dx fs) ∧ Cls K C ∧ NoAttr K C "far" ∧ fs.lookup ("far" : Str) = some v ∧ Q v := ⟨p, _, _, _, _, rfl, hp, T.c_Keeping, T.n_Keeping_far, fs_Keeping_7_far, q⟩
theorem rp_Keeping_7_uppers {v0 v1 v2 v3 v4 v5 v6 : V} {Q : V → Prop} (T : Tx K mg) (hp : H p = some (.ins (aKeeping K) dx (fs_Keeping_7 v0 v1 v2 v3 v4 v5 v6))) (q : Q v3) : ∃ a C dx fs v, V.ref p = .ref a ∧ H a = some (.ins C dx fs) ∧ Cls K C ∧ NoAttr K C "uppers" ∧ fs.lookup ("uppers" : Str) = some v ∧ Q v := ⟨p, _, _, _, _, rfl, hp, T.c_Keeping, T.n_Keeping_uppers, fs_Keeping_7_uppers, q⟩
theorem rp_Keeping_7_ways {v0 v1 v2 v3 v4 v5 v6 : V} {Q : V → Prop} (T : Tx K mg) (hp : H p = some (.ins (aKeeping K) dx (fs_Keeping_7 v0 v1 v2 v3 v4 v5 v6))) (q : Q v4) : ∃ a C dx fs v, V.ref p = .ref a ∧ H a = some (.ins C dx fs) ∧ Cls K C ∧ NoAttr K C "ways" ∧ fs.lookup ("ways" : Str) = some v ∧ Q v := ⟨p, _, _, _, _, rfl, hp, T.c_Keeping, T.n_Keeping_ways, fs_Keeping_7_ways, q⟩
theorem rp_Keeping_7_goal {v0 v1 v2 v3 v4 v5 v6 : V} {Q : V → Prop} (T : Tx K mg) (hp : H p = some (.ins (aKeeping K) dx (fs_Keeping_7 v0 v1 v2 v3 v4 v5 v6))) (q : Q v5) : ∃ a C dx fs v, V.ref p = .ref a ∧ H a = some (.ins C dx fs) ∧ Cls K C ∧ NoAttr K C "goal" ∧ fs.lookup ("goal" : Str) = some v ∧ Q v := ⟨p, _, _, _, _, rfl, hp, T.c_Keeping, T.n_Keeping_goal, fs_Keeping_7_goal, q⟩
theorem rp_Keeping_7_down {v0 v1 v2 v3 v4 v5 v6 : V} {Q : V → Prop} (T : Tx K mg) (hp : H p = some (.ins (aKeeping K) dx (fs_Keeping_7 v0 v1 v2 v3 v4 v5 v6))) (q : Q v6) : ∃ a C dx fs v, V.ref p = .ref a ∧ H a = some (.ins C dx fs) ∧ Cls K C ∧ NoAttr K C "down" ∧ fs.lookup ("down" : Str) = some v ∧ Q v := ⟨p, _, _, _, _, rfl, hp, T.c_Keeping, T.n_Keeping_down, fs_Keeping_7_down, q⟩
theorem in_Keeping_beneath {v0 v1 v2 v3 v4 v5 v6 v7 : V} {N : Hp → Prop} (T : Tx K mg) (hp : H p = some (.ins (aKeeping K) dx (fs_Keeping_7 v0 v1 v2 v3 v4 v5 v6))) (q : N (upd H p (.ins (aKeeping K) dx (fs_Keeping_8 v0 v1 v2 v3 v4 v5 v6 v7)))) : ∃ a C dx fs, V.ref p = .ref a ∧ H a = some (.ins C dx fs) ∧ Cls K C ∧ NoAttr K C "beneath" ∧ fs.length < 1000 ∧ N (upd H a (.ins C dx (putF "beneath" v7 fs))) := ⟨p, _, _, _, rfl, hp, T.c_Keeping, T.n_Keeping_beneath, fs_Keeping_7_len, by rw [fs_Keeping_8_new]; exact q⟩
theorem rp_Keeping_8_steps_by {v0 v1 v2 v3 v4 v5 v6 v7 : V} {Q : V → Prop} (T : Tx K mg) (hp : H p = some (.ins (aKeeping K) dx (fs_Keeping_8 v0 v1 v2 v3 v4 v5 v6 v7))) (q : Q v0) : ∃ a C dx fs v, V.ref p = .ref a ∧ H a = some (.ins C dx fs) ∧ Cls K C ∧ NoAttr K C "steps_by" ∧ fs.lookup ("steps_by" : Str) = some v ∧ Q v := ⟨p, _, _, _, _, rfl, hp, T.c_Keeping, T.n_Keeping_steps_by, fs_Keeping_8_steps_by, q⟩
theorem rp_Keeping_8_near {v0 v1 v2 v3 v4 v5 v6 v7 : V} {Q : V → Prop} (T : Tx K mg) (hp : H p = some (.ins (aKeeping K) dx (fs_Keeping_8 v0 v1 v2 v3 v4 v5 v6 v7))) (q : Q v1) : ∃ a C dx fs v, V.ref p = .ref a ∧ H a = some (.ins C dx fs) ∧ Cls K C ∧ NoAttr K C "near" ∧ fs.lookup ("near" : Str) = some v ∧ Q v := ⟨p, _, _, _, _, rfl, hp, T.c_Keeping, T.n_Keeping_near, fs_Keeping_8_near, q⟩
theorem rp_Keeping_8_far {v0 v1 v2 v3 v4 v5 v6 v7 : V} {Q : V → Prop} (T : Tx K mg) (hp : H p = some (.ins (aKeeping K) dx (fs_Keeping_8 v0 v1 v2 v3 v4 v5 v6 v7))) (q : Q v2) : ∃ a C dx fs v, V.ref p = .ref a ∧ H a = some (.ins C dx fs) ∧ Cls K C ∧ NoAttr K C "far" ∧ fs.lookup ("far" : Str) = some v ∧ Q v := ⟨p, _, _, _, _, rfl, hp, T.c_Keeping, T.n_Keeping_far, fs_Keeping_8_far, q⟩
theorem rp_Keeping_8_uppers {v0 v1 v2 v3 v4 v5 v6 v7 : V} {Q : V → Prop} (T : Tx K mg) (hp : H p = some (.ins (aKeeping K) dx (fs_Keeping_8 v0 v1 v2 v3 v4 v5 v6 v7))) (q : Q v3) : ∃ a C dx fs v, V.ref p = .ref a ∧ H a = some (.ins C dx fs) ∧ Cls K C ∧ NoAttr K C "uppers" ∧ fs.lookup ("uppers" : Str) = some v ∧ Q v := ⟨p, _, _, _, _, rfl, hp, T.c_Keeping, T.n_Keeping_uppers, fs_Keeping_8_uppers, q⟩
theorem rp_Keeping_8_ways {v0 v1 v2 v3 v4 v5 v6 v7 : V} {Q : V → Prop} (T : Tx K mg) (hp : H p = some (.ins (aKeeping K) dx (fs_Keeping_8 v0 v1 v2 v3 v4 v5 v6 v7))) (q : Q v4) : ∃ a C dx fs v, V.ref p = .ref a ∧ H a = some (.ins C dx fs) ∧ Cls K C ∧ NoAttr K C "ways" ∧ fs.lookup ("ways" : Str) = some v ∧ Q v := ⟨p, _, _, _, _, rfl, hp, T.c_Keeping, T.n_Keeping_ways, fs_Keeping_8_ways, q⟩
theorem rp_Keeping_8_goal {v0 v1 v2 v3 v4 v5 v6 v7 : V} {Q : V → Prop} (T : Tx K mg) (hp : H p = some (.ins (aKeeping K) dx (fs_Keeping_8 v0 v1 v2 v3 v4 v5 v6 v7))) (q : Q v5) : ∃ a C dx fs v, V.ref p = .ref a ∧ H a = some (.ins C dx fs) ∧ Cls K C ∧ NoAttr K C "goal" ∧ fs.lookup ("goal" : Str) = some v ∧ Q v := ⟨p, _, _, _, _, rfl, hp, T.c_Keeping, T.n_Keeping_goal, fs_Keeping_8_goal, q⟩
theorem rp_Keeping_8_down {v0 v1 v2 v3 v4 v5 v6 v7 : V} {Q : V → Prop} (T : Tx K mg) (hp : H p = some (.ins (aKeeping K) dx (fs_Keeping_8 v0 v1 v2 v3 v4 v5 v6 v7))) (q : Q v6) : ∃ a C dx fs v, V.ref p = .ref a ∧ H a = some (.ins C dx fs) ∧ Cls K C ∧ NoAttr K C "down" ∧ fs.lookup ("down" : Str) = some v ∧ Q v := ⟨p, _, _, _, _, rfl, hp, T.c_Keeping, T.n_Keeping_down, fs_Keeping_8_down, q⟩
theorem rp_Keeping_8_beneath {v0 v1 v2 v3 v4 v5 v6 v7 : V} {Q : V → Prop} (T : Tx K mg) (hp : H p = some (.ins (aKeeping K) dx (fs_Keeping_8 v0 v1 v2 v3 v4 v5 v6 v7))) (q : Q v7) : ∃ a C dx fs v, V.ref p = .ref a ∧ H a = some (.ins C dx fs) ∧ Cls K C ∧ NoAttr K C "beneath" ∧ fs.lookup ("beneath" : Str) = some v ∧ Q v := ⟨p, _, _, _, _, rfl, hp, T.c_Keeping, T.n_Keeping_beneath, fs_Keeping_8_beneath, q⟩
theorem in_Keeping_passed {v0 v1 v2 v3 v4 v5 v6 v7 v8 : V} {N : Hp → Prop} (T : Tx K mg) (hp : H p = some (.ins (aKeeping K) dx (fs_Keeping_8 v0 v1 v2 v3 v4 v5 v6 v7))) (q : N (upd H p (.ins (aKeeping K) dx (fs_Keeping_9 v0 v1 v2 v3 v4 v5 v6 v7 v8)))) : ∃ a C dx fs, V.ref p = .ref a ∧ H a = some (.ins C dx fs) ∧ Cls K C ∧ NoAttr K C "passed" ∧ fs.length < 1000 ∧ N (upd H a (.ins C dx (putF "passed" v8 fs))) := ⟨p, _, _, _, rfl, hp, T.c_Keeping, T.n_Keeping_passed, fs_Keeping_8_len, by rw [fs_Keeping_9_new]; exact q⟩
theorem rp_Keeping_9_steps_by {v0 v1 v2 v3 v4 v5 v6 v7 v8 : V} {Q : V → Prop} (T : Tx K mg) (hp : H p = some (.ins (aKeeping K) dx (fs_Keeping_9 v0 v1 v2 v3 v4 v5 v6 v7 v8))) (q : Q v0) : ∃ a C dx fs v, V.ref p = .ref a ∧ H a = some (.ins C dx fs) ∧ Cls K C ∧ NoAttr K C "steps_by" ∧ fs.lookup ("steps_by" : Str) = some v ∧ Q v := ⟨p, _, _, _, _, rfl, hp, T.c_Keeping, T.n_Keeping_steps_by, fs_Keeping_9_steps_by, q⟩
theorem rp_Keeping_9_near {v0 v1 v2 v3 v4 v5 v6 v7 v8 : V} {Q : V → Prop} (T : Tx K mg) (hp : H p = some (.ins (aKeeping K) dx (fs_Keeping_9 v0 v1 v2 v3 v4 v5 v6 v7 v8))) (q : Q v1) : ∃ a C dx fs v, V.ref p = .ref a ∧ H a = some (.ins C dx fs) ∧ Cls K C ∧ NoAttr K C "near" ∧ fs.lookup ("near" : Str) = some v ∧ Q v := ⟨p, _, _, _, _, rfl, hp, T.c_Keeping, T.n_Keeping_near, fs_Keeping_9_near, q⟩
theorem rp_Keeping_9_far {v0 v1 v2 v3 v4 v5 v6 v7 v8 : V} {Q : V → Prop} (T : Tx K mg) (hp : H p = some (.ins (aKeeping K) dx (fs_Keeping_9 v0 v1 v2 v3 v4 v5 v6 v7 v8))) (q : Q v2) : ∃ a C dx fs v, V.ref p = .ref a ∧ H a = some (.ins C dx fs) ∧ Cls K C ∧ NoAttr K C "far" ∧ fs.lookup ("far" : Str) = some v ∧ Q v := ⟨p, _, _, _, _, rfl, hp, T.c_Keeping, T.n_Keeping_far, fs_Keeping_9_far, q⟩
theorem rp_Keeping_9_uppers {v0 v1 v2 v3 v4 v5 v6 v7 v8 : V} {Q : V → Prop} (T : Tx K mg) (hp : H p = some (.ins (aKeeping K) dx (fs_Keeping_9 v0 v1 v2 v3 v4 v5 v6 v7 v8))) (q : Q v3) : ∃ a C dx fs v, V.ref p = .ref a ∧ H a = some (.ins C dx fs) ∧ Cls K C ∧ NoAttr K C "uppers" ∧ fs.lookup ("uppers" : Str) = some v ∧ Q v := ⟨p, _, _, _, _, rfl, hp, T.c_Keeping, T.n_Keeping_uppers, fs_Keeping_9_uppers, q⟩
theorem rp_Keeping_9_ways {v0 v1 v2 v3 v4 v5 v6 v7 v8 : V} {Q : V → Prop} (T : Tx K mg) (hp : H p = some (.ins (aKeeping K) dx (fs_Keeping_9 v0 v1 v2 v3 v4 v5 v6 v7 v8))) (q : Q v4) : ∃ a C dx fs v, V.ref p = .ref a ∧ H a = some (.ins C dx fs) ∧ Cls K C ∧ NoAttr K C "ways" ∧ fs.lookup ("ways" : Str) = some v ∧ Q v := ⟨p, _, _, _, _, rfl, hp, T.c_Keeping, T.n_Keeping_ways, fs_Keeping_9_ways, q⟩
theorem rp_Keeping_9_goal {v0 v1 v2 v3 v4 v5 v6 v7 v8 : V} {Q : V → Prop} (T : Tx K mg) (hp : H p = some (.ins (aKeeping K) dx (fs_Keeping_9 v0 v1 v2 v3 v4 v5 v6 v7 v8))) (q : Q v5) : ∃ a C dx fs v, V.ref p = .ref a ∧ H a = some (.ins C dx fs) ∧ Cls K C ∧ NoAttr K C "goal" ∧ fs.lookup ("goal" : Str) = some v ∧ Q v := ⟨p, _, _, _, _, rfl, hp, T.c_Keeping, T.n_Keeping_goal, fs_Keeping_9_goal, q⟩
theorem rp_Keeping_9_down {v0 v1 v2 v3 v4 v5 v6 v7 v8 : V} {Q : V → Prop} (T : Tx K mg) (hp : H p = some (.ins (aKeeping K) dx (fs_Keeping_9 v0 v1 v2 v3 v4 v5 v6 v7 v8))) (q : Q v6) : ∃ a C dx fs v, V.ref p = .ref a ∧ H a = some (.ins C dx fs) ∧ Cls K C ∧ NoAttr K C "down" ∧ fs.lookup ("down" : Str) = some v ∧ Q v := ⟨p, _, _, _, _, rfl, hp, T.c_Keeping, T.n_Keeping_down, fs_Keeping_9_down, q⟩
theorem rp_Keeping_9_beneath {v0 v1 v2 v3 v4 v5 v6 v7 v8 : V} {Q : V → Prop} (T : Tx K mg) (hp : H p = some (.ins (aKeeping K) dx (fs_Keeping_9 v0 v1 v2 v3 v4 v5 v6 v7 v8))) (q : Q v7) : ∃ a C dx fs v, V.ref p = .ref a ∧ H a = some (.ins C dx fs) ∧ Cls K C ∧ NoAttr K C "beneath" ∧ fs.lookup ("beneath" : Str) = some v ∧ Q v := ⟨p, _, _, _, _, rfl, hp, T.c_Keeping, T.n_Keeping_beneath, fs_Keeping_9_beneath, q⟩
theorem rp_Keeping_9_passed {v0 v1 v2 v3 v4 v5 v6 v7 v8 : V} {Q : V → Prop} (T : Tx K mg) (hp : H p = some (.ins (aKeeping K) dx (fs_Keeping_9 v0 v1 v2 v3 v4 v5 v6 v7 v8))) (q : Q v8) : ∃ a C dx fs v, V.ref p = .ref a ∧ H a = some (.ins C dx fs) ∧ Cls K C ∧ NoAttr K C "passed" ∧ fs.lookup ("passed" : Str) = some v ∧ Q v := ⟨p, _, _, _, _, rfl, hp, T.c_Keeping, T.n_Keeping_passed, fs_Keeping_9_passed, q⟩
theorem in_Keeping_seen {v0 v1 v2 v3 v4 v5 v6 v7 v8 v9 : V} {N : Hp → Prop} (T : Tx K mg) (hp : H p = some (.ins (aKeeping K) dx (fs_Keeping_9 v0 v1 v2 v3 v4 v5 v6 v7 v8))) (q : N (upd H p (.ins (aKeeping K) dx (fs_Keeping v0 v1 v2 v3 v4 v5 v6 v7 v8 v9)))) : ∃ a C dx fs, V.ref p = .ref a ∧ H a = some (.ins C dx fs) ∧ Cls K C ∧ NoAttr K C "seen" ∧ fs.length < 1000 ∧ N (upd H a (.ins C dx (putF "seen" v9 fs))) := ⟨p, _, _, _, rfl, hp, T.c_Keeping, T.n_Keeping_seen, fs_Keeping_9_len, by rw [fs_Keeping_new]; exact q⟩
theorem mt_Keeping_look_up {v0 v1 v2 v3 v4 v5 v6 v7 v8 v9 : V} {R : Prop} (hp : H p = some (.ins (aKeeping K) dx (fs_Keeping v0 v1 v2 v3 v4 v5 v6 v7 v8 v9))) (q : R) : ∃ a dx fs, V.ref p = .ref a ∧ H a = some (.ins (aKeeping K) dx fs) ∧ fs.lookup ("look_up" : Str) = none ∧ R := ⟨p, _, _, rfl, hp, fs_Keeping_no_look_up, q⟩
theorem mt_Keeping_stands {v0 v1 v2 v3 v4 v5 v6 v7 v8 v9 : V} {R : Prop} (hp : H p = some (.ins (aKeeping K) dx (fs_Keeping v0 v1 v2 v3 v4 v5 v6 v7 v8 v9))) (q : R) : ∃ a dx fs, V.ref p = .ref a ∧ H a = some (.ins (aKeeping K) dx fs) ∧ fs.lookup ("stands" : Str) = none ∧ R := ⟨p, _, _, rfl, hp, fs_Keeping_no_stands, q⟩
theorem mt_Keeping_look_down {v0 v1 v2 v3 v4 v5 v6 v7 v8 v9 : V} {R : Prop} (hp : H p = some (.ins (aKeeping K) dx (fs_Keeping v0 v1 v2 v3 v4 v5 v6 v7 v8 v9))) (q : R) : ∃ a dx fs, V.ref p = .ref a ∧ H a = some (.ins (aKeeping K) dx fs) ∧ fs.lookup ("look_down" : Str) = none ∧ R := ⟨p, _, _, rfl, hp, fs_Keeping_no_look_down, q⟩
theorem mt_Keeping_mend {v0 v1 v2 v3 v4 v5 v6 v7 v8 v9 : V} {R : Prop} (hp : H p = some (.ins (aKeeping K) dx (fs_Keeping v0 v1 v2 v3 v4 v5 v6 v7 v8 v9))) (q : R) : ∃ a dx fs, V.ref p = .ref a ∧ H a = some (.ins (aKeeping K) dx fs) ∧ fs.lookup ("mend" : Str) = none ∧ R := ⟨p, _, _, rfl, hp, fs_Keeping_no_mend, q⟩
theorem mt_Keeping_forget {v0 v1 v2 v3 v4 v5 v6 v7 v8 v9 : V} {R : Prop} (hp : H p = some (.ins (aKeeping K) dx (fs_Keeping v0 v1 v2 v3 v4 v5 v6 v7 v8 v9))) (q : R) : ∃ a dx fs, V.ref p = .ref a ∧ H a = some (.ins (aKeeping K) dx fs) ∧ fs.lookup ("forget" : Str) = none ∧ R := ⟨p, _, _, rfl, hp, fs_Keeping_no_forget, q⟩
theorem rd_Garden_plants {v0 v1 v2 : V} {Q : V → Prop} (T : Tx K mg) (hp : H p = some (.ins (aGarden K) dx (fs_Garden v0 v1 v2))) (q : Q v0) : ∃ a C dx fs v, V.ref p = .ref a ∧ H a = some (.ins C dx fs) ∧ Cls K C ∧ NoAttr K C "plants" ∧ fs.lookup ("plants" : Str) = some v ∧ Q v := ⟨p, _, _, _, _, rfl, hp, T.c_Garden, T.n_Garden_plants, fs_Garden_plants, q⟩
theorem wr_Garden_plants {v0 v1 v2 y : V} {N : Hp → Prop} (T : Tx K mg) (hp : H p = some (.ins (aGarden K) dx (fs_Garden v0 v1 v2))) (q : N (upd H p (.ins (aGarden K) dx (fs_Garden y v1 v2)))) : ∃ a C dx fs, V.ref p = .ref a ∧ H a = some (.ins C dx fs) ∧ Cls K C ∧ NoAttr K C "plants" ∧ fs.length < 1000 ∧ N (upd H a (.ins C dx (putF "plants" y fs))) := ⟨p, _, _, _, rfl, hp, T.c_Garden, T.n_Garden_plants, fs_Garden_len, by rw [fs_Garden_put_plants]; exact q⟩
theorem rd_Garden_kept {v0 v1 v2 : V} {Q : V → Prop} (T : Tx K mg) (hp : H p = some (.ins (aGarden K) dx (fs_Garden v0 v1 v2))) (q : Q v1) : ∃ a C dx fs v, V.ref p = .ref a ∧ H a = some (.ins C dx fs) ∧ Cls K C ∧ NoAttr K C "kept" ∧ fs.lookup ("kept" : Str) = some v ∧ Q v := ⟨p, _, _, _, _, rfl, hp, T.c_Garden, T.n_Garden_kept, fs_Garden_kept, q⟩
theorem wr_Garden_kept {v0 v1 v2 y : V} {N : Hp → Prop} (T : Tx K mg) (hp : H p = some (.ins (aGarden K) dx (fs_Garden v0 v1 v2))) (q : N (upd H p (.ins (aGarden K) dx (fs_Garden v0 y v2)))) : ∃ a C dx fs, V.ref p = .ref a ∧ H a = some (.ins C dx fs) ∧ Cls K C ∧ NoAttr K C "kept" ∧ fs.length < 1000 ∧ N (upd H a (.ins C dx (putF "kept" y fs))) := ⟨p, _, _, _, rfl, hp, T.c_Garden, T.n_Garden_kept, fs_Garden_len, by rw [fs_Garden_put_kept]; exact q⟩
theorem rd_Garden_coming {v0 v1 v2 : V} {Q : V → Prop} (T : Tx K mg) (hp : H p = some (.ins (aGarden K) dx (fs_Garden v0 v1 v2))) (q : Q v2) : ∃ a C dx fs v, V.ref p = .ref a ∧ H a = some (.ins C dx fs) ∧ Cls K C ∧ NoAttr K C "coming" ∧ fs.lookup ("coming" : Str) = some v ∧ Q v := ⟨p, _, _, _, _, rfl, hp, T.c_Garden, T.n_Garden_coming, fs_Garden_coming, q⟩
theorem wr_Garden_coming {v0 v1 v2 y : V} {N : Hp → Prop} (T : Tx K mg) (hp : H p = some (.ins (aGarden K) dx (fs_Garden v0 v1 v2))) (q : N (upd H p (.ins (aGarden K) dx (fs_Garden v0 v1 y)))) : ∃ a C dx fs, V.ref p = .ref a ∧ H a = some (.ins C dx fs) ∧ Cls K C ∧ NoAttr K C "coming" ∧ fs.length < 1000 ∧ N (upd H a (.ins C dx (putF "coming" y fs))) := ⟨p, _, _, _, rfl, hp, T.c_Garden, T.n_Garden_coming, fs_Garden_len, by rw [fs_Garden_put_coming]; exact q⟩
theorem in_Garden_plants {v0 : V} {N : Hp → Prop} (T : Tx K mg) (hp : H p = some (.ins (aGarden K) dx [])) (q : N (upd H p (.ins (aGarden K) dx (fs_Garden_1 v0)))) : ∃ a C dx fs, V.ref p = .ref a ∧ H a = some (.ins C dx fs) ∧ Cls K C ∧ NoAttr K C "plants" ∧ fs.length < 1000 ∧ N (upd H a (.ins C dx (putF "plants" v0 fs))) := ⟨p, _, _, _, rfl, hp, T.c_Garden, T.n_Garden_plants, (by show 0 < 1000; decide), by rw [fs_Garden_1_new]; exact q⟩
theorem rp_Garden_1_plants {v0 : V} {Q : V → Prop} (T : Tx K mg) (hp : H p = some (.ins (aGarden K) dx (fs_Garden_1 v0))) (q : Q v0) : ∃ a C dx fs v, V.ref p = .ref a ∧ H a = some (.ins C dx fs) ∧ Cls K C ∧ NoAttr K C "plants" ∧ fs.lookup ("plants" : Str) = some v ∧ Q v := ⟨p, _, _, _, _, rfl, hp, T.c_Garden, T.n_Garden_plants, fs_Garden_1_plants, q⟩
theorem in_Garden_kept {v0 v1 : V} {N : Hp → Prop} (T : Tx K mg) (hp : H p = some (.ins (aGarden K) dx (fs_Garden_1 v0))) (q : N (upd H p (.ins (aGarden K) dx (fs_Garden_2 v0 v1)))) : ∃ a C dx fs, V.ref p = .ref a ∧ H a = some (.ins C dx fs) ∧ Cls K C ∧ NoAttr K C "kept" ∧ fs.length < 1000 ∧ N (upd H a (.ins C dx (putF "kept" v1 fs))) := ⟨p, _, _, _, rfl, hp, T.c_Garden, T.n_Garden_kept, fs_Garden_1_len, by rw [fs_Garden_2_new]; exact q⟩
theorem rp_Garden_2_plants {v0 v1 : V} {Q : V → Prop} (T : Tx K mg) (hp : H p = some (.ins (aGarden K) dx (fs_Garden_2 v0 v1))) (q : Q v0) : ∃ a C dx fs v, V.ref p = .ref a ∧ H a = some (.ins C dx fs) ∧ Cls K C ∧ NoAttr K C "plants" ∧ fs.lookup ("plants" : Str) = some v ∧ Q v := ⟨p, _, _, _, _, rfl, hp, T.c_Garden, T.n_Garden_plants, fs_Garden_2_plants, q⟩
theorem rp_Garden_2_kept {v0 v1 : V} {Q : V → Prop} (T : Tx K mg) (hp : H p = some (.ins (aGarden K) dx (fs_Garden_2 v0 v1))) (q : Q v1) : ∃ a C dx fs v, V.ref p = .ref a ∧ H a = some (.ins C dx fs) ∧ Cls K C ∧ NoAttr K C "kept" ∧ fs.lookup ("kept" : Str) = some v ∧ Q v := ⟨p, _, _, _, _, rfl, hp, T.c_Garden, T.n_Garden_kept, fs_Garden_2_kept, q⟩
theorem in_Garden_coming {v0 v1 v2 : V} {N : Hp → Prop} (T : Tx K mg) (hp : H p = some (.ins (aGarden K) dx (fs_Garden_2 v0 v1))) (q : N (upd H p (.ins (aGarden K) dx (fs_Garden v0 v1 v2)))) : ∃ a C dx fs, V.ref p = .ref a ∧ H a = some (.ins C dx fs) ∧ Cls K C ∧ NoAttr K C "coming" ∧ fs.length < 1000 ∧ N (upd H a (.ins C dx (putF "coming" v2 fs))) := ⟨p, _, _, _, rfl, hp, T.c_Garden, T.n_Garden_coming, fs_Garden_2_len, by rw [fs_Garden_new]; exact q⟩
theorem mt_Garden_beneath_too {v0 v1 v2 : V} {R : Prop} (hp : H p = some (.ins (aGarden K) dx (fs_Garden v0 v1 v2))) (q : R) : ∃ a dx fs, V.ref p = .ref a ∧ H a = some (.ins (aGarden K) dx fs) ∧ fs.lookup ("beneath_too" : Str) = none ∧ R := ⟨p, _, _, rfl, hp, fs_Garden_no_beneath_too, q⟩
theorem mt_Garden_marks {v0 v1 v2 : V} {R : Prop} (hp : H p = some (.ins (aGarden K) dx (fs_Garden v0 v1 v2))) (q : R) : ∃ a dx fs, V.ref p = .ref a ∧ H a = some (.ins (aGarden K) dx fs) ∧ fs.lookup ("marks" : Str) = none ∧ R := ⟨p, _, _, rfl, hp, fs_Garden_no_marks, q⟩
theorem mt_Garden_way_up {v0 v1 v2 : V} {R : Prop} (hp : H p = some (.ins (aGarden K) dx (fs_Garden v0 v1 v2))) (q : R) : ∃ a dx fs, V.ref p = .ref a ∧ H a = some (.ins (aGarden K) dx fs) ∧ fs.lookup ("way_up" : Str) = none ∧ R := ⟨p, _, _, rfl, hp, fs_Garden_no_way_up, q⟩
theorem mt_Garden_document {v0 v1 v2 : V} {R : Prop} (hp : H p = some (.ins (aGarden K) dx (fs_Garden v0 v1 v2))) (q : R) : ∃ a dx fs, V.ref p = .ref a ∧ H a = some (.ins (aGarden K) dx fs) ∧ fs.lookup ("document" : Str) = none ∧ R := ⟨p, _, _, rfl, hp, fs_Garden_no_document, q⟩
theorem mt_Garden_need_part {v0 v1 v2 : V} {R : Prop} (hp : H p = some (.ins (aGarden K) dx (fs_Garden v0 v1 v2))) (q : R) : ∃ a dx fs, V.ref p = .ref a ∧ H a = some (.ins (aGarden K) dx fs) ∧ fs.lookup ("need_part" : Str) = none ∧ R := ⟨p, _, _, rfl, hp, fs_Garden_no_need_part, q⟩
theorem mt_Garden_put {v0 v1 v2 : V} {R : Prop} (hp : H p = some (.ins (aGarden K) dx (fs_Garden v0 v1 v2))) (q : R) : ∃ a dx fs, V.ref p = .ref a ∧ H a = some (.ins (aGarden K) dx fs) ∧ fs.lookup ("put" : Str) = none ∧ R := ⟨p, _, _, rfl, hp, fs_Garden_no_put, q⟩
theorem mt_Garden_take {v0 v1 v2 : V} {R : Prop} (hp : H p = some (.ins (aGarden K) dx (fs_Garden v0 v1 v2))) (q : R) : ∃ a dx fs, V.ref p = .ref a ∧ H a = some (.ins (aGarden K) dx fs) ∧ fs.lookup ("take" : Str) = none ∧ R := ⟨p, _, _, rfl, hp, fs_Garden_no_take, q⟩
theorem mt_Garden_name {v0 v1 v2 : V} {R : Prop} (hp : H p = some (.ins (aGarden K) dx (fs_Garden v0 v1 v2))) (q : R) : ∃ a dx fs, V.ref p = .ref a ∧ H a = some (.ins (aGarden K) dx fs) ∧ fs.lookup ("name" : Str) = none ∧ R := ⟨p, _, _, rfl, hp, fs_Garden_no_name, q⟩
theorem mt_Garden_mend_all {v0 v1 v2 : V} {R : Prop} (hp : H p = some (.ins (aGarden K) dx (fs_Garden v0 v1 v2))) (q : R) : ∃ a dx fs, V.ref p = .ref a ∧ H a = some (.ins (aGarden K) dx fs) ∧ fs.lookup ("mend_all" : Str) = none ∧ R := ⟨p, _, _, rfl, hp, fs_Garden_no_mend_all, q⟩
theorem mt_Garden_keep {v0 v1 v2 : V} {R : Prop} (hp : H p = some (.ins (aGarden K) dx (fs_Garden v0 v1 v2))) (q : R) : ∃ a dx fs, V.ref p = .ref a ∧ H a = some (.ins (aGarden K) dx fs) ∧ fs.lookup ("keep" : Str) = none ∧ R := ⟨p, _, _, rfl, hp, fs_Garden_no_keep, q⟩
theorem mt_Garden_keeping_at {v0 v1 v2 : V} {R : Prop} (hp : H p = some (.ins (aGarden K) dx (fs_Garden v0 v1 v2))) (q : R) : ∃ a dx fs, V.ref p = .ref a ∧ H a = some (.ins (aGarden K) dx fs) ∧ fs.lookup ("keeping_at" : Str) = none ∧ R := ⟨p, _, _, rfl, hp, fs_Garden_no_keeping_at, q⟩
theorem mt_Garden_answer {v0 v1 v2 : V} {R : Prop} (hp : H p = some (.ins (aGarden K) dx (fs_Garden v0 v1 v2))) (q : R) : ∃ a dx fs, V.ref p = .ref a ∧ H a = some (.ins (aGarden K) dx fs) ∧ fs.lookup ("answer" : Str) = none ∧ R := ⟨p, _, _, rfl, hp, fs_Garden_no_answer, q⟩
theorem mt_Garden_tables {v0 v1 v2 : V} {R : Prop} (hp : H p = some (.ins (aGarden K) dx (fs_Garden v0 v1 v2))) (q : R) : ∃ a dx fs, V.ref p = .ref a ∧ H a = some (.ins (aGarden K) dx fs) ∧ fs.lookup ("tables" : Str) = none ∧ R := ⟨p, _, _, rfl, hp, fs_Garden_no_tables, q⟩
theorem mt_Garden_looked {v0 v1 v2 : V} {R : Prop} (hp : H p = some (.ins (aGarden K) dx (fs_Garden v0 v1 v2))) (q : R) : ∃ a dx fs, V.ref p = .ref a ∧ H a = some (.ins (aGarden K) dx fs) ∧ fs.lookup ("looked" : Str) = none ∧ R := ⟨p, _, _, rfl, hp, fs_Garden_no_looked, q⟩
theorem rd_Straight_label {v0 : V} {Q : V → Prop} (T : Tx K mg) (hp : H p = some (.ins (aStraight K) dx (fs_Straight v0))) (q : Q v0) : ∃ a C dx fs v, V.ref p = .ref a ∧ H a = some (.ins C dx fs) ∧ Cls K C ∧ NoAttr K C "label" ∧ fs.lookup ("label" : Str) = some v ∧ Q v := ⟨p, _, _, _, _, rfl, hp, T.c_Straight, T.n_Straight_label, fs_Straight_label, q⟩
theorem wr_Straight_label {v0 y : V} {N : Hp → Prop} (T : Tx K mg) (hp : H p = some (.ins (aStraight K) dx (fs_Straight v0))) (q : N (upd H p (.ins (aStraight K) dx (fs_Straight y)))) : ∃ a C dx fs, V.ref p = .ref a ∧ H a = some (.ins C dx fs) ∧ Cls K C ∧ NoAttr K C "label" ∧ fs.length < 1000 ∧ N (upd H a (.ins C dx (putF "label" y fs))) := ⟨p, _, _, _, rfl, hp, T.c_Straight, T.n_Straight_label, fs_Straight_len, by rw [fs_Straight_put_label]; exact q⟩
theorem in_Straight_label {v0 : V} {N : Hp → Prop} (T : Tx K mg) (hp : H p = some (.ins (aStraight K) dx [])) (q : N (upd H p (.ins (aStraight K) dx (fs_Straight v0)))) : ∃ a C dx fs, V.ref p = .ref a ∧ H a = some (.ins C dx fs) ∧ Cls K C ∧ NoAttr K C "label" ∧ fs.length < 1000 ∧ N (upd H a (.ins C dx (putF "label" v0 fs))) := ⟨p, _, _, _, rfl, hp, T.c_Straight, T.n_Straight_label, (by show 0 < 1000; decide), by rw [fs_Straight_new]; exact q⟩
theorem mt_Straight_way {v0 : V} {R : Prop} (hp : H p = some (.ins (aStraight K) dx (fs_Straight v0))) (q : R) : ∃ a dx fs, V.ref p = .ref a ∧ H a = some (.ins (aStraight K) dx fs) ∧ fs.lookup ("way" : Str) = none ∧ R := ⟨p, _, _, rfl, hp, fs_Straight_no_way, q⟩
theorem rd_Anywhere_label {v0 : V} {Q : V → Prop} (T : Tx K mg) (hp : H p = some (.ins (aAnywhere K) dx (fs_Anywhere v0))) (q : Q v0) : ∃ a C dx fs v, V.ref p = .ref a ∧ H a = some (.ins C dx fs) ∧ Cls K C ∧ NoAttr K C "label" ∧ fs.lookup ("label" : Str) = some v ∧ Q v := ⟨p, _, _, _, _, rfl, hp, T.c_Anywhere, T.n_Anywhere_label, fs_Anywhere_label, q⟩
theorem wr_Anywhere_label {v0 y : V} {N : Hp → Prop} (T : Tx K mg) (hp : H p = some (.ins (aAnywhere K) dx (fs_Anywhere v0))) (q : N (upd H p (.ins (aAnywhere K) dx (fs_Anywhere y)))) : ∃ a C dx fs, V.ref p = .ref a ∧ H a = some (.ins C dx fs) ∧ Cls K C ∧ NoAttr K C "label" ∧ fs.length < 1000 ∧ N (upd H a (.ins C dx (putF "label" y fs))) := ⟨p, _, _, _, rfl, hp, T.c_Anywhere, T.n_Anywhere_label, fs_Anywhere_len, by rw [fs_Anywhere_put_label]; exact q⟩
theorem in_Anywhere_label {v0 : V} {N : Hp → Prop} (T : Tx K mg) (hp : H p = some (.ins (aAnywhere K) dx [])) (q : N (upd H p (.ins (aAnywhere K) dx (fs_Anywhere v0)))) : ∃ a C dx fs, V.ref p = .ref a ∧ H a = some (.ins C dx fs) ∧ Cls K C ∧ NoAttr K C "label" ∧ fs.length < 1000 ∧ N (upd H a (.ins C dx (putF "label" v0 fs))) := ⟨p, _, _, _, rfl, hp, T.c_Anywhere, T.n_Anywhere_label, (by show 0 < 1000; decide), by rw [fs_Anywhere_new]; exact q⟩
theorem mt_Anywhere_way {v0 : V} {R : Prop} (hp : H p = some (.ins (aAnywhere K) dx (fs_Anywhere v0))) (q : R) : ∃ a dx fs, V.ref p = .ref a ∧ H a = some (.ins (aAnywhere K) dx fs) ∧ fs.lookup ("way" : Str) = none ∧ R := ⟨p, _, _, rfl, hp, fs_Anywhere_no_way, q⟩
theorem rd_Question_given_rows {v0 v1 v2 v3 v4 : V} {Q : V → Prop} (T : Tx K mg) (hp : H p = some (.ins (aQuestion K) dx (fs_Question v0 v1 v2 v3 v4))) (q : Q v0) : ∃ a C dx fs v, V.ref p = .ref a ∧ H a = some (.ins C dx fs) ∧ Cls K C ∧ NoAttr K C "given_rows" ∧ fs.lookup ("given_rows" : Str) = some v ∧ Q v := ⟨p, _, _, _, _, rfl, hp, T.c_Question, T.n_Question_given_rows, fs_Question_given_rows, q⟩
theorem wr_Question_given_rows {v0 v1 v2 v3 v4 y : V} {N : Hp → Prop} (T : Tx K mg) (hp : H p = some (.ins (aQuestion K) dx (fs_Question v0 v1 v2 v3 v4))) (q : N (upd H p (.ins (aQuestion K) dx (fs_Question y v1 v2 v3 v4)))) : ∃ a C dx fs, V.ref p = .ref a ∧ H a = some (.ins C dx fs) ∧ Cls K C ∧ NoAttr K C "given_rows" ∧ fs.length < 1000 ∧ N (upd H a (.ins C dx (putF "given_rows" y fs))) := ⟨p, _, _, _, rfl, hp, T.c_Question, T.n_Question_given_rows, fs_Question_len, by rw [fs_Question_put_given_rows]; exact q⟩
theorem rd_Question_goal {v0 v1 v2 v3 v4 : V} {Q : V → Prop} (T : Tx K mg) (hp : H p = some (.ins (aQuestion K) dx (fs_Question v0 v1 v2 v3 v4))) (q : Q v1) : ∃ a C dx fs v, V.ref p = .ref a ∧ H a = some (.ins C dx fs) ∧ Cls K C ∧ NoAttr K C "goal" ∧ fs.lookup ("goal" : Str) = some v ∧ Q v := ⟨p, _, _, _, _, rfl, hp, T.c_Question, T.n_Question_goal, fs_Question_goal, q⟩
theorem wr_Question_goal {v0 v1 v2 v3 v4 y : V} {N : Hp → Prop} (T : Tx K mg) (hp : H p = some (.ins (aQuestion K) dx (fs_Question v0 v1 v2 v3 v4))) (q : N (upd H p (.ins (aQuestion K) dx (fs_Question v0 y v2 v3 v4)))) : ∃ a C dx fs, V.ref p = .ref a ∧ H a = some (.ins C dx fs) ∧ Cls K C ∧ NoAttr K C "goal" ∧ fs.length < 1000 ∧ N (upd H a (.ins C dx (putF "goal" y fs))) := ⟨p, _, _, _, rfl, hp, T.c_Question, T.n_Question_goal, fs_Question_len, by rw [fs_Question_put_goal]; exact q⟩
theorem rd_Question_steps {v0 v1 v2 v3 v4 : V} {Q : V → Prop} (T : Tx K mg) (hp : H p = some (.ins (aQuestion K) dx (fs_Question v0 v1 v2 v3 v4))) (q : Q v2) : ∃ a C dx fs v, V.ref p = .ref a ∧ H a = some (.ins C dx fs) ∧ Cls K C ∧ NoAttr K C "steps" ∧ fs.lookup ("steps" : Str) = some v ∧ Q v := ⟨p, _, _, _, _, rfl, hp, T.c_Question, T.n_Question_steps, fs_Question_steps, q⟩
theorem wr_Question_steps {v0 v1 v2 v3 v4 y : V} {N : Hp → Prop} (T : Tx K mg) (hp : H p = some (.ins (aQuestion K) dx (fs_Question v0 v1 v2 v3 v4))) (q : N (upd H p (.ins (aQuestion K) dx (fs_Question v0 v1 y v3 v4)))) : ∃ a C dx fs, V.ref p = .ref a ∧ H a = some (.ins C dx fs) ∧ Cls K C ∧ NoAttr K C "steps" ∧ fs.length < 1000 ∧ N (upd H a (.ins C dx (putF "steps" y fs))) := ⟨p, _, _, _, rfl, hp, T.c_Question, T.n_Question_steps, fs_Question_len, by rw [fs_Question_put_steps]; exact q⟩
theorem rd_Question_ends {v0 v1 v2 v3 v4 : V} {Q : V → Prop} (T : Tx K mg) (hp : H p = some (.ins (aQuestion K) dx (fs_Question v0 v1 v2 v3 v4))) (q : Q v3) : ∃ a C dx fs v, V.ref p = .ref a ∧ H a = some (.ins C dx fs) ∧ Cls K C ∧ NoAttr K C "ends" ∧ fs.lookup ("ends" : Str) = some v ∧ Q v := ⟨p, _, _, _, _, rfl, hp, T.c_Question, T.n_Question_ends, fs_Question_ends, q⟩
theorem wr_Question_ends {v0 v1 v2 v3 v4 y : V} {N : Hp → Prop} (T : Tx K mg) (hp : H p = some (.ins (aQuestion K) dx (fs_Question v0 v1 v2 v3 v4))) (q : N (upd H p (.ins (aQuestion K) dx (fs_Question v0 v1 v2 y v4)))) : ∃ a C dx fs, V.ref p = .ref a ∧ H a = some (.ins C dx fs) ∧ Cls K C ∧ NoAttr K C "ends" ∧ fs.length < 1000 ∧ N (upd H a (.ins C dx (putF "ends" y fs))) := ⟨p, _, _, _, rfl, hp, T.c_Question, T.n_Question_ends, fs_Question_len, by rw [fs_Question_put_ends]; exact q⟩
theorem rd_Question_uppers {v0 v1 v2 v3 v4 : V} {Q : V → Prop} (T : Tx K mg) (hp : H p = some (.ins (aQuestion K) dx (fs_Question v0 v1 v2 v3 v4))) (q : Q v4) : ∃ a C dx fs v, V.ref p = .ref a ∧ H a = some (.ins C dx fs) ∧ Cls K C ∧ NoAttr K C "uppers" ∧ fs.lookup ("uppers" : Str) = some v ∧ Q v := ⟨p, _, _, _, _, rfl, hp, T.c_Question, T.n_Question_uppers, fs_Question_uppers, q⟩
theorem wr_Question_uppers {v0 v1 v2 v3 v4 y : V} {N : Hp → Prop} (T : Tx K mg) (hp : H p = some (.ins (aQuestion K) dx (fs_Question v0 v1 v2 v3 v4))) (q : N (upd H p (.ins (aQuestion K) dx (fs_Question v0 v1 v2 v3 y)))) : ∃ a C dx fs, V.ref p = .ref a ∧ H a = some (.ins C dx fs) ∧ Cls K C ∧ NoAttr K C "uppers" ∧ fs.length < 1000 ∧ N (upd H a (.ins C dx (putF "uppers" y fs))) := ⟨p, _, _, _, rfl, hp, T.c_Question, T.n_Question_uppers, fs_Question_len, by rw [fs_Question_put_uppers]; exact q⟩
theorem in_Question_given_rows {v0 : V} {N : Hp → Prop} (T : Tx K mg) (hp : H p = some (.ins (aQuestion K) dx [])) (q : N (upd H p (.ins (aQuestion K) dx (fs_Question_1 v0)))) : ∃ a C dx fs, V.ref p = .ref a ∧ H a = some (.ins C dx fs) ∧ Cls K C ∧ NoAttr K C "given_rows" ∧ fs.length < 1000 ∧ N (upd H a (.ins C dx (putF "given_rows" v0 fs))) := ⟨p, _, _, _, rfl, hp, T.c_Question, T.n_Question_given_rows, (by show 0 < 1000; decide), by rw [fs_Question_1_new]; exact q⟩
theorem in_Question_goal {v0 v1 : V} {N : Hp → Prop} (T : Tx K mg) (hp : H p = some (.ins (aQuestion K) dx (fs_Question_1 v0))) (q : N (upd H p (.ins (aQuestion K) dx (fs_Question_2 v0 v1)))) : ∃ a C dx fs, V.ref p = .ref a ∧ H a = some (.ins C dx fs) ∧ Cls K C ∧ NoAttr K C "goal" ∧ fs.length < 1000 ∧ N (upd H a (.ins C dx (putF "goal" v1 fs))) := ⟨p, _, _, _, rfl, hp, T.c_Question, T.n_Question_goal, fs_Question_1_len, by rw [fs_Question_2_new]; exact q⟩
theorem in_Question_steps {v0 v1 v2 : V} {N : Hp → Prop} (T : Tx K mg) (hp : H p = some (.ins (aQuestion K) dx (fs_Question_2 v0 v1))) (q : N (upd H p (.ins (aQuestion K) dx (fs_Question_3 v0 v1 v2)))) : ∃ a C dx fs, V.ref p = .ref a ∧ H a = some (.ins C dx fs) ∧ Cls K C ∧ NoAttr K C "steps" ∧ fs.length < 1000 ∧ N (upd H a (.ins C dx (putF "steps" v2 fs))) := ⟨p, _, _, _, rfl, hp, T.c_Question, T.n_Question_steps, fs_Question_2_len, by rw [fs_Question_3_new]; exact q⟩
theorem in_Question_ends {v0 v1 v2 v3 : V} {N : Hp → Prop} (T : Tx K mg) (hp : H p = some (.ins (aQuestion K) dx (fs_Question_3 v0 v1 v2))) (q : N (upd H p (.ins (aQuestion K) dx (fs_Question_4 v0 v1 v2 v3)))) : ∃ a C dx fs, V.ref p = .ref a ∧ H a = some (.ins C dx fs) ∧ Cls K C ∧ NoAttr K C "ends" ∧ fs.length < 1000 ∧ N (upd H a (.ins C dx (putF "ends" v3 fs))) := ⟨p, _, _, _, rfl, hp, T.c_Question, T.n_Question_ends, fs_Question_3_len, by rw [fs_Question_4_new]; exact q⟩
theorem in_Question_uppers {v0 v1 v2 v3 v4 : V} {N : Hp → Prop} (T : Tx K mg) (hp : H p = some (.ins (aQuestion K) dx (fs_Question_4 v0 v1 v2 v3))) (q : N (upd H p (.ins (aQuestion K) dx (fs_Question v0 v1 v2 v3 v4)))) : ∃ a C dx fs, V.ref p = .ref a ∧ H a = some (.ins C dx fs) ∧ Cls K C ∧ NoAttr K C "uppers" ∧ fs.length < 1000 ∧ N (upd H a (.ins C dx (putF "uppers" v4 fs))) := ⟨p, _, _, _, rfl, hp, T.c_Question, T.n_Question_uppers, fs_Question_4_len, by rw [fs_Question_new]; exact q⟩
theorem mt_Question_need_step {v0 v1 v2 v3 v4 : V} {R : Prop} (hp : H p = some (.ins (aQuestion K) dx (fs_Question v0 v1 v2 v3 v4))) (q : R) : ∃ a dx fs, V.ref p = .ref a ∧ H a = some (.ins (aQuestion K) dx fs) ∧ fs.lookup ("need_step" : Str) = none ∧ R := ⟨p, _, _, rfl, hp, fs_Question_no_need_step, q⟩
theorem mt_Question_many {v0 v1 v2 v3 v4 : V} {R : Prop} (hp : H p = some (.ins (aQuestion K) dx (fs_Question v0 v1 v2 v3 v4))) (q : R) : ∃ a dx fs, V.ref p = .ref a ∧ H a = some (.ins (aQuestion K) dx fs) ∧ fs.lookup ("many" : Str) = none ∧ R := ⟨p, _, _, rfl, hp, fs_Question_no_many, q⟩
theorem mt_Question_step_at {v0 v1 v2 v3 v4 : V} {R : Prop} (hp : H p = some (.ins (aQuestion K) dx (fs_Question v0 v1 v2 v3 v4))) (q : R) : ∃ a dx fs, V.ref p = .ref a ∧ H a = some (.ins (aQuestion K) dx fs) ∧ fs.lookup ("step_at" : Str) = none ∧ R := ⟨p, _, _, rfl, hp, fs_Question_no_step_at, q⟩
theorem mt_Question_upper_of {v0 v1 v2 v3 v4 : V} {R : Prop} (hp : H p = some (.ins (aQuestion K) dx (fs_Question v0 v1 v2 v3 v4))) (q : R) : ∃ a dx fs, V.ref p = .ref a ∧ H a = some (.ins (aQuestion K) dx fs) ∧ fs.lookup ("upper_of" : Str) = none ∧ R := ⟨p, _, _, rfl, hp, fs_Question_no_upper_of, q⟩
theorem mt_Question_lowers_of {v0 v1 v2 v3 v4 : V} {R : Prop} (hp : H p = some (.ins (aQuestion K) dx (fs_Question v0 v1 v2 v3 v4))) (q : R) : ∃ a dx fs, V.ref p = .ref a ∧ H a = some (.ins (aQuestion K) dx fs) ∧ fs.lookup ("lowers_of" : Str) = none ∧ R := ⟨p, _, _, rfl, hp, fs_Question_no_lowers_of, q⟩
theorem mt_Question_wanted {v0 v1 v2 v3 v4 : V} {R : Prop} (hp : H p = some (.ins (aQuestion K) dx (fs_Question v0 v1 v2 v3 v4))) (q : R) : ∃ a dx fs, V.ref p = .ref a ∧ H a = some (.ins (aQuestion K) dx fs) ∧ fs.lookup ("wanted" : Str) = none ∧ R := ⟨p, _, _, rfl, hp, fs_Question_no_wanted, q⟩
end
end Bg

set_option Elab.async false
set_option linter.all false
set_option maxRecDepth 100000
set_option maxHeartbeats 4000000
namespace Bg
open PySem PySem.Spec PyProof.Rows L2
/-! ### values -/
abbrev iv (l : List Int) : List V := l.map V.int
abbrev nv (l : List Nat) : List V := l.map fun n : Nat => V.int n
def onv : Option Nat → V
  | none => .non
  | some n => .int n
def oiv : Option Int → V
  | none => .non
  | some n => .int n
abbrev lets : Str := "abcdefghijklmnopqrstuvwxyz"
/-- a label -/
structure IsLab (x : Str) : Prop where
  lo : 1 ≤ x.length
  hi : x.length ≤ 8
  all : ∀ c ∈ x.cps.toList, c ∈ lets.cps.toList
/-! ### heaps -/
theorem Same.up {H : Hp} {a : Addr} {o : HO} (h : H a = none) : Same H (upd H a o) := fun b u e => by rw [upd_ne (ne_of_none e h)]; exact e
theorem Same.ne {H : Hp} {a b : Addr} {o : HO} (h : H a = none) (e : H b = some o) : b ≠ a := ne_of_none e h
theorem Same.sqt {K : PySem.W.Frag} {H H' : Hp} {a : Addr} {xs : List V} (e : Same H H') (h : SqT K H a xs) : SqT K H' a xs := by
  rcases h with (h | ⟨o, h⟩) | h
  · exact .inl (.inl (e _ _ h))
  · exact .inl (.inr ⟨o, e _ _ h⟩)
  · exact .inr h
/-! ### documents -/
abbrev DRow := Str × Nat
abbrev dsOf (rows : List DRow) : List Nat := rows.map (·.2)
/-- rows of a document: their tuples stand at ts -/
structure RowsAt (H : Hp) (ts : List Addr) (rows : List DRow) : Prop where
  len : ts.length = rows.length
  at_ : ∀ (i : Nat) (t : Addr) (r : DRow), ts[i]? = some t → rows[i]? = some r → H t = some (.tup [.str r.1, .int r.2])
theorem RowsAt.same {H H' : Hp} {ts : List Addr} {rows : List DRow} (s : Same H H') (h : RowsAt H ts rows) : RowsAt H' ts rows := ⟨h.len, fun i t r h1 h2 => s _ _ (h.at_ i t r h1 h2)⟩
theorem RowsAt.row {H : Hp} {ts : List Addr} {rows : List DRow} (h : RowsAt H ts rows) {i : Nat} {r : DRow} (e : rows[i]? = some r) : ∃ t, ts[i]? = some t ∧ H t = some (.tup [.str r.1, .int r.2]) := by
  have hl := (List.getElem?_eq_some_iff.mp e).1
  have hl2 : i < ts.length := by rw [h.len]; exact hl
  exact ⟨ts[i], List.getElem?_eq_getElem hl2, h.at_ i _ r (List.getElem?_eq_getElem hl2) e⟩
/-- rows that can stand -/
structure RowsOk (rows : List DRow) : Prop where
  v : Valid (dsOf rows)
  lab : ∀ r ∈ rows, IsLab r.1
  deep : ∀ r ∈ rows, r.2 ≤ 80
  many : rows.length ≤ 240
def endsL (ds : List Nat) : List Nat := (List.range ds.length).map (endAt ds)
theorem endsL_at {ds : List Nat} {p : Nat} (h : p < ds.length) : (endsL ds)[p]? = some (endAt ds p) := by
  unfold endsL; rw [List.getElem?_map, List.getElem?_range h]; rfl
theorem upps_at {ds : List Nat} {p : Nat} (h : p < ds.length) : (upps ds)[p]? = some (upp ds p) := by
  have hl : p < (upps ds).length := by rw [upps_length]; exact h
  unfold upp; rw [List.getElem?_eq_getElem hl]; rfl
structure DocAt (K : PySem.W.Frag) (H : Hp) (a : Addr) (rows : List DRow) : Prop where
  ok : RowsOk rows
  ex : ∃ (dx pt pe pu : Addr) (ts : List Addr), H a = some (.ins (aDocument K) dx (fs_Document (.ref pt) (.ref pe) (.ref pu))) ∧ H pt = some (.tup (ts.map V.ref)) ∧ RowsAt H ts rows ∧ H pe = some (.lst (nv (endsL (dsOf rows)))) ∧ H pu = some (.lst ((upps (dsOf rows)).map onv))
theorem DocAt.same {K : PySem.W.Frag} {H H' : Hp} {a : Addr} {rows : List DRow} (s : Same H H') (h : DocAt K H a rows) : DocAt K H' a rows := by
  obtain ⟨ok, dx, pt, pe, pu, ts, h1, h2, h3, h4, h5⟩ := h
  exact ⟨ok, dx, pt, pe, pu, ts, s _ _ h1, s _ _ h2, h3.same s, s _ _ h4, s _ _ h5⟩
/-! ### promises of words and documents -/
def sp_is_whole (_ : PySem.W.Frag) : Sp := fun vs H Q _ => ∃ i : Int, vs = [.int i] ∧ Q (.bl true) H
def sp_is_within (_ : PySem.W.Frag) : Sp := fun vs H Q _ => ∃ i lo hi : Int, vs = [.int i, .int lo, .int hi] ∧ Q (.bl (decide (lo ≤ i) && decide (i ≤ hi))) H
def sp_is_label (_ : PySem.W.Frag) : Sp := fun vs H Q _ => ∃ x : Str, vs = [.str x] ∧ IsLab x ∧ ∀ H', Same H H' → Q (.bl true) H'
def sp_is_part_row (_ : PySem.W.Frag) : Sp := fun vs H Q _ => ∃ (t : Addr) (r : DRow) (deepest : Int), vs = [.ref t, .int deepest] ∧ H t = some (.tup [.str r.1, .int r.2]) ∧ IsLab r.1 ∧ 1 ≤ r.2 ∧ (r.2 : Int) ≤ deepest ∧ ∀ H', Same H H' → Q (.bl true) H'
theorem isi_of {K : PySem.W.Frag} {x : V} {a b : String} {r : Bool} {H : Hp} {Q : Bool → Prop} (h : TyX K H x (.type a)) (e : kitB a b = some r) (q : Q r) :
    ∃ (x' c : V) (t u : Value) (b' : Bool), [x, V.ty b] = [x', c] ∧ ClsV c u ∧ TyX K H x' t ∧ PySem.W.kitOne K t u = some b' ∧ Q b' := ⟨x, .ty b, .type a, .type b, r, rfl, .ty b, h, kit_ty e, q⟩
theorem bt {p : Prop} [Decidable p] (h : p) : V.bl (decide p) = V.bl true := congrArg V.bl (decide_eq_true h)
theorem bf {p : Prop} [Decidable p] (h : ¬ p) : V.bl (decide p) = V.bl false := congrArg V.bl (decide_eq_false h)
theorem bnt {p : Prop} [Decidable p] (h : p) : V.bl (!decide p) = V.bl false := congrArg (fun b => V.bl (!b)) (decide_eq_true h)
theorem bnf {p : Prop} [Decidable p] (h : ¬ p) : V.bl (!decide p) = V.bl true := congrArg (fun b => V.bl (!b)) (decide_eq_false h)
theorem len8 {x : Str} (h : x.length ≤ 8) : x.length ≤ sizeLine := Nat.le_trans h (by decide)
section
variable {P : Program} {w : World} {K : PySem.W.Frag} {mg : Str → Option Value} {base : Heap}
theorem sc_is_whole : FnScope ["thing"] ["thing"] (defScope s_is_whole) := ⟨rfl, rfl, rfl, by decide +kernel, rfl, by decide +kernel, by decide +kernel⟩
theorem ok_is_whole (T : Tx K mg)  : Ok P w K mg base 1 at_is_whole ["thing"] (sp_is_whole K) := by
  refine mkOk T.d_is_whole sc_is_whole (fun _ _ _ _ _ _ us hl => match us, hl with | [_], _ => rfl) (fun vs H Q E h => ?_) (fun cdv A outer s H vs Q E hr h => ?_)
  · obtain ⟨i, rfl, k⟩ := h; rfl
  · obtain ⟨i, rfl, k⟩ := h
    refine ⟨_, (pss_one (ps_ret (pe_and (pe_callB (kisi (K := K)) (by rfl) T.f_isinstance (by decide +kernel) (pa_cons (pv 0) (pa_cons (pe_bltn (v := .ty "int") (u := .type "int") rfl T.f_int (by decide +kernel) rfl) pa_nil))) (pe_one (pe_not (pe_callB (kisi (K := K)) (by rfl) T.f_isinstance (by decide +kernel) (pa_cons (pv 0) (pa_cons (pe_bltn (v := .ty "bool") (u := .type "bool") rfl T.f_bool (by decide +kernel) rfl) pa_nil)))))))), ?_⟩
    refine ⟨_, rfl, isi_of (.base (.int i)) (r := true) (by decide +kernel) ⟨true, rfl, iteT ?_⟩⟩
    refine ⟨_, rfl, isi_of (.base (.int i)) (r := false) (by decide +kernel) ⟨false, rfl, k⟩⟩
theorem sc_is_within : FnScope ["thing", "low", "high"] ["thing", "low", "high"] (defScope s_is_within) := ⟨rfl, rfl, rfl, by decide +kernel, rfl, by decide +kernel, by decide +kernel⟩
theorem ok_is_within (T : Tx K mg) (O_is_whole : Ok P w K mg base 1 at_is_whole ["thing"] (sp_is_whole K)) : Ok P w K mg base 2 at_is_within ["thing", "low", "high"] (sp_is_within K) := by
  refine mkOk T.d_is_within sc_is_within (fun _ _ _ _ _ _ us hl => match us, hl with | [_, _, _], _ => rfl) (fun vs H Q E h => ?_) (fun cdv A outer s H vs Q E hr h => ?_)
  · obtain ⟨i, lo, hi, rfl, k⟩ := h; rfl
  · obtain ⟨i, lo, hi, rfl, k⟩ := h
    refine ⟨_, (pss_one (ps_ret (pe_and (kfn (K := K) O_is_whole T.g_is_whole (hr.mono (by decide)) (pa_cons (pv 0) pa_nil)) (pe_one (pe_chain op_le op_le (pv 1) (pv 0) (pv 2)))))), ?_⟩
    refine ⟨_, rfl, i, rfl, true, rfl, iteT ?_⟩
    refine ⟨_, rfl, _, rfl, lo, i, rfl, rfl, _, rfl, ?_⟩
    by_cases c : lo ≤ i
    · rw [decide_eq_true c]
      refine iteT ⟨_, rfl, i, hi, rfl, rfl, ?_⟩
      rw [decide_eq_true c, Bool.true_and] at k
      exact k
    · rw [decide_eq_false c]
      rw [decide_eq_false c, Bool.false_and] at k
      exact iteF k
theorem sc_is_label : FnScope ["thing", "sign"] ["thing"] (defScope s_is_label) := ⟨rfl, rfl, rfl, by decide +kernel, rfl, by decide +kernel, by decide +kernel⟩
theorem ok_is_label (T : Tx K mg)  : Ok P w K mg base 1 at_is_label ["thing"] (sp_is_label K) := by
  refine mkOk T.d_is_label sc_is_label (fun _ _ _ _ _ _ us hl => match us, hl with | [_], _ => rfl) (fun vs H Q E h => ?_) (fun cdv A outer s H vs Q E hr h => ?_)
  · obtain ⟨x, rfl, L, k⟩ := h; rfl
  · obtain ⟨x, rfl, L, k⟩ := h
    refine ⟨_, (pss_cons (ps_if (PW.pt (pw_or (pt_not (pt_val (pe_callB (kisi (K := K)) (by rfl) T.f_isinstance (by decide +kernel) (pa_cons (pv 0) (pa_cons (pe_bltn (v := .ty "str") (u := .type "str") rfl T.f_str (by decide +kernel) rfl) pa_nil))))) (pw_or1 (pt_not (pt_chain op_le op_le pe_int (pe_callB call_len_str (by rfl) T.f_len PySem.boot_len (pa_cons (pv 0) pa_nil)) (pgi T.i_MOST_LETTERS))))))
        (pss_one (ps_ret pe_bl))
        pss_nil)
      (pss_one (ps_ret (pe_callB (kall (K := K)) (by rfl) T.f_all (by decide +kernel) (pa_cons (pe_lc (own := [("sign", 1)]) (g := gName 1) (tt := tYes) rfl sc_is_label.nd (pi_str (pv 0)) (blkOk_by (by kernel_rfl)) (fun _ _ _ _ _ => (pg_name (i := 1) sc_is_label.nd rfl (by first | exact Or.inl rfl | exact Or.inr rfl))) (fun _ _ _ _ _ => pts_nil) (fun _ _ _ _ _ => (pe_cmpR op_in_sign (pv 1) (pgs T.t_LETTERS) (by rfl)))) pa_nil))))), ?_⟩
    refine ⟨_, rfl, isi_of (.base (.str x)) (r := true) (by decide +kernel) ⟨true, rfl, iteF ?_⟩⟩
    have l1 := L.lo
    have l2 := L.hi
    refine ⟨_, rfl, x, rfl, len8 L.hi, 1, x.length, rfl, rfl, true, bt (by omega), iteT ⟨x.length, 8, rfl, rfl, true, bt (by omega), iteF ?_⟩⟩
    refine ⟨_, rfl, x, rfl, fun D hD => ?_⟩
    refine lc_it walk_str (fun i H' => ∃ bs : List Bool, H' D = some (.lst (bs.map V.bl)) ∧ bs.length = i ∧ bs.all id = true ∧ ∀ b o, b ≠ D → H b = some o → H' b = some o)
      ⟨[], upd_same, rfl, rfl, fun b o hb e => by rw [upd_ne hb]; exact e⟩ (fun _ _ _ _ => trivial) ?_ ?_
    · rintro i v H1 H2 hi ⟨bs, e1, e2, e3, e4⟩ ⟨rfl, c, ec, rfl⟩
      have hc : c ∈ lets.cps.toList := L.all c (by rw [Array.mem_toList_iff]; exact Array.mem_of_getElem? ec)
      refine ⟨rfl, _, rfl, c, lets, rfl, rfl, bs.map V.bl, e1, ?_, bs ++ [true], ?_, ?_, ?_, ?_⟩
      · rw [List.length_map, e2]
        exact Nat.lt_of_lt_of_le hi (Nat.le_trans (show x.cps.size ≤ 8 from L.hi) (by decide))
      · rw [upd_same, decide_eq_true hc, List.map_append]; rfl
      · rw [List.length_append, e2]; rfl
      · rw [List.all_append, e3]; rfl
      · intro b o hb e
        rw [upd_ne hb]; exact e4 b o hb e
    · rintro H1 ⟨bs, e1, e2, e3, e4⟩
      refine ⟨D, bs, rfl, SqL.of e1, ?_⟩
      rw [e3]
      exact k H1 fun b o e => e4 b o (ne_of_none e hD) e
theorem sc_is_part_row : FnScope ["thing", "deepest"] ["thing", "deepest"] (defScope s_is_part_row) := ⟨rfl, rfl, rfl, by decide +kernel, rfl, by decide +kernel, by decide +kernel⟩
theorem ok_is_part_row (T : Tx K mg) (O_is_label : Ok P w K mg base 1 at_is_label ["thing"] (sp_is_label K)) (O_is_within : Ok P w K mg base 2 at_is_within ["thing", "low", "high"] (sp_is_within K)) : Ok P w K mg base 3 at_is_part_row ["thing", "deepest"] (sp_is_part_row K) := by
  refine mkOk T.d_is_part_row sc_is_part_row (fun _ _ _ _ _ _ us hl => match us, hl with | [_, _], _ => rfl) (fun vs H Q E h => ?_) (fun cdv A outer s H vs Q E hr h => ?_)
  · obtain ⟨t, r, deepest, rfl, ht, L, h1, h2, k⟩ := h; rfl
  · obtain ⟨t, r, deepest, rfl, ht, L, h1, h2, k⟩ := h
    refine ⟨_, (pss_cons (ps_if (PW.pt (pw_or (pt_not (pt_val (pe_callB (kisi (K := K)) (by rfl) T.f_isinstance (by decide +kernel) (pa_cons (pv 0) (pa_cons (pe_bltn (v := .ty "tuple") (u := .type "tuple") rfl T.f_tuple (by decide +kernel) rfl) pa_nil))))) (pw_or1 (pt_cmpR op_ne (pe_callB (klen (K := K)) (by rfl) T.f_len PySem.boot_len (pa_cons (pv 0) pa_nil)) pe_int (nomark _)))))
        (pss_one (ps_ret pe_bl))
        pss_nil)
      (pss_one (ps_ret (pe_and (kfn (K := K) O_is_label T.g_is_label (hr.mono (by decide)) (pa_cons (pe_ix (kixT (K := K)) (pv 0) pe_int (fun _ _ => rfl)) pa_nil)) (pe_one (kfn (K := K) O_is_within T.g_is_within (hr.mono (by decide)) (pa_cons (pe_ix (kixT (K := K)) (pv 0) pe_int (fun _ _ => rfl)) (pa_cons pe_int (pa_cons (pv 1) pa_nil))))))))), ?_⟩
    refine ⟨_, rfl, isi_of (.base (.tup ht)) (r := true) (by decide +kernel) ⟨true, rfl, iteF ?_⟩⟩
    refine ⟨_, rfl, t, _, rfl, .inr (SqT.of ht), rfl, _, rfl, iteF ?_⟩
    refine ⟨_, rfl, t, _, _, _, rfl, rfl, SqT.of ht, rfl, r.1, rfl, L, fun H' s' => ⟨true, rfl, iteT ?_⟩⟩
    refine ⟨_, rfl, t, _, _, _, rfl, rfl, SqT.of (s' _ _ ht), rfl, _, rfl, (r.2 : Int), 1, deepest, rfl, ?_⟩
    rw [decide_eq_true (show (1 : Int) ≤ (r.2 : Int) by omega), decide_eq_true h2]
    exact k H' s'
end
end Bg

set_option Elab.async false
set_option linter.all false
set_option maxRecDepth 100000
set_option maxHeartbeats 4000000
namespace Bg
open PySem PySem.Spec PyProof.Rows L2
/-! ### heaps that grow -/
theorem _root_.L2.Same.put {H H' : Hp} {a : Addr} {o : HO} (s : Same H H') (h : H a = none) : Same H (upd H' a o) := fun b u e => by rw [upd_ne (ne_of_none e h)]; exact s b u e
theorem _root_.L2.Same.new {H H' : Hp} {a : Addr} {o : HO} (s : Same H H') (h : H' a = none) : Same H (upd H' a o) := s.put (s.free h)
theorem upd_at {H : Hp} {a b : Addr} {o u : HO} (h : H a = none) (e : H b = some u) : upd H a o b = some u := by rw [upd_ne (ne_of_none e h)]; exact e
theorem upd_free {H : Hp} {a b : Addr} {o : HO} (h : upd H a o b = none) : b ≠ a ∧ H b = none := by
  unfold upd at h
  split at h
  · cases h
  · exact ⟨‹_›, h⟩
/-- what S shows, and what is new -/
def ext (S H H' : Hp) : Hp := fun b => if (H b).isNone = true then H' b else S b
theorem ext_new {S H H' : Hp} {b : Addr} {o : HO} (h : H b = none) (e : H' b = some o) : ext S H H' b = some o := by unfold ext; rw [if_pos (by rw [h]; rfl)]; exact e
theorem ext_old {S H H' : Hp} (s : Same S H) : Same S (ext S H H') := fun b o e => by
  unfold ext; rw [if_neg (by rw [s b o e]; simp)]; exact e
theorem ext_sub {S H H' : Hp} (s : Same S H) (s2 : Same H H') : Same (ext S H H') H' := fun b o e => by
  unfold ext at e
  by_cases h : (H b).isNone = true
  · rw [if_pos h] at e; exact e
  · rw [if_neg h] at e; exact s2 b o (s b o e)
/-- a comprehension that only lays -/
theorem lc_same {J : It} {n : Nat} {G : Hp → Prop} {Y : Nat → Hp → V → Hp → Prop} (w : Walk J n G Y) {g : TG} {tt : TT} {te : TE} {vs : List Nat} {σ : L2.St} {H1 : Hp} {D : Addr} {Qd : Hp → Prop} (f : Nat → Option V) (nD : H1 D = none)
    (hn : n ≤ sizeLine) (hG : ∀ H, Same H1 H → G H)
    (hs : ∀ (i : Nat) (x : V) (H H' : Hp) (N : V → Hp → Prop) (N0 : Hp → Prop), i < n → Same H1 H → Y i H x H' → (∀ y H4, Same H H4 → f i = some y → N y H4) → (f i = none → ∀ H4, Same H H4 → N0 H4) →
      g x (wipe σ vs) H' fun σ2 H2 => wipe σ2 vs = wipe σ vs ∧ tt σ2 H2 fun b H3 => if b = true then te σ2 H3 N else N0 H3)
    (hd : ∀ H, Same H1 H → H D = some (.lst ((List.range n).filterMap f)) → Qd H) :
    ∃ W : Nat → Nat → Hp → Prop, (∃ m, W 0 m (upd H1 D (.lst []))) ∧ ∀ i m H, W i m H →
      (J.stop i H ∧ Qd H) ∨ (J.go i H ∧ ∃ Nx : Hp → Prop, (∀ H', Nx H' → ∃ m', m' < m ∧ W (i + 1) m' H') ∧ ∀ x H', J.yld i H x H' → g x (wipe σ vs) H' fun σ2 H2 => wipe σ2 vs = wipe σ vs ∧ tt σ2 H2 fun b H3 =>
        if b = true then te σ2 H3 fun y H4 => ∃ acc, H4 D = some (.lst acc) ∧ acc.length < sizeLine ∧ Nx (upd H4 D (.lst (acc ++ [y]))) else Nx H3) := by
  refine lc_it w (fun i H => Same H1 H ∧ H D = some (.lst ((List.range i).filterMap f))) ⟨Same.up nD, upd_same⟩ (fun _ H _ h => hG H h.1) ?_ (fun H h => hd H h.1 h.2)
  rintro i x H H' hi ⟨s, e⟩ y
  refine hs i x H H' _ _ hi s y (fun y H4 s4 ef => ?_) (fun ef H4 s4 => ?_)
  · refine ⟨_, s4 _ _ e, ?_, (s.trans s4).put nD, ?_⟩
    · exact Nat.lt_of_le_of_lt (Nat.le_trans (List.length_filterMap_le _ _) (by rw [List.length_range]; exact Nat.le_refl _)) (Nat.lt_of_lt_of_le hi hn)
    · rw [upd_same, List.range_succ, List.filterMap_append]
      show _ = some (HO.lst (_ ++ List.filterMap f [i]))
      simp [ef]
  · refine ⟨s.trans s4, ?_⟩
    rw [s4 _ _ e, List.range_succ, List.filterMap_append]
    simp [ef]
theorem fm_some {α : Type} {n : Nat} (f : Nat → Option α) (g : Nat → α) (h : ∀ i, i < n → f i = some (g i)) : (List.range n).filterMap f = (List.range n).map g := by
  have : ∀ l : List Nat, (∀ i ∈ l, f i = some (g i)) → l.filterMap f = l.map g := by
    intro l
    induction l with
    | nil => intro _; rfl
    | cons a l ih => intro h; rw [List.filterMap_cons, h a (by simp), List.map_cons, ih fun i hi => h i (by simp [hi])]
  exact this _ fun i hi => h i (List.mem_range.mp hi)
theorem range_map_get {α β : Type} (l : List α) (h : α → β) (g : Nat → β) (e : ∀ i a, l[i]? = some a → g i = h a) : (List.range l.length).map g = l.map h := by
  refine List.ext_getElem? fun i => ?_
  rw [List.getElem?_map, List.getElem?_map]
  by_cases hi : i < l.length
  · rw [List.getElem?_range hi, List.getElem?_eq_getElem hi]
    exact congrArg some (e i _ (List.getElem?_eq_getElem hi))
  · rw [List.getElem?_eq_none (by rw [List.length_range]; omega), List.getElem?_eq_none (by omega)]; rfl
theorem fm_get {α β : Type} (l : List α) (h : α → β) (f : Nat → Option β) (e : ∀ i a, l[i]? = some a → f i = some (h a)) : (List.range l.length).filterMap f = l.map h := by
  cases l with
  | nil => rfl
  | cons a r =>
    rw [fm_some f (fun i => (f i).getD (h a)) fun i hi => by rw [e i _ (List.getElem?_eq_getElem hi)]; rfl]
    exact range_map_get (a :: r) h _ fun i x hx => by rw [e i x hx]; rfl
theorem nv_at {l : List Nat} {i : Nat} {n : Nat} (h : l[i]? = some n) : (nv l)[i]? = some (V.int n) := by rw [List.getElem?_map, h]; rfl
theorem at_nv {l : List Nat} {i : Nat} {v : V} (h : (nv l)[i]? = some v) : ∃ n, l[i]? = some n ∧ v = V.int n := by
  rw [List.getElem?_map] at h
  cases e : l[i]? with
  | none => rw [e] at h; cases h
  | some n => rw [e] at h; exact ⟨n, rfl, (Option.some.inj h).symm⟩
theorem nv_set {l : List Nat} {j v : Nat} {x : V} (h : x = .int v) : (nv l).set j x = nv (l.set j v) := by subst h; unfold nv; rw [List.map_set]
theorem nv_snoc {l : List Nat} {v : Nat} : nv l ++ [V.int v] = nv (l ++ [v]) := by unfold nv; rw [List.map_append]; rfl
theorem Valid.le {ds : List Nat} (V : Valid ds) : ∀ {i d : Nat}, ds[i]? = some d → d ≤ i + 1
  | 0, d, h => by rw [V.first] at h; injection h; omega
  | i + 1, d, h => by
    have hl := (List.getElem?_eq_some_iff.mp h).1
    have := V.next i ds[i] d (List.getElem?_eq_getElem (by omega)) h
    have := Valid.le V (List.getElem?_eq_getElem (show i < ds.length by omega))
    omega
theorem cut_take (xs : List V) (n : Nat) : cutV xs none (some (n : Int)) = xs.take n := by
  unfold cutV
  rw [show HT.sIx xs.length 0 none = 0 from rfl, HT.sIx_nat, List.drop_zero, Nat.sub_zero]
  by_cases h : n ≤ xs.length
  · rw [Nat.min_eq_left h]
  · rw [Nat.min_eq_right (by omega), List.take_of_length_le (Nat.le_refl _), List.take_of_length_le (by omega)]
theorem tyL {K : PySem.W.Frag} {H : Hp} {p : Addr} {xs : List V} (h : H p = some (.lst xs)) : tyV K "list" (.ref p) H := .inl ⟨rfl, _, SqL.of h⟩
theorem ixN_nat {n j : Nat} (h : j < n) : ixN n (j : Int) = some j := by unfold ixN; rw [if_pos (by omega), if_pos (by omega)]; simp
theorem line240 : 240 ≤ sizeLine := by decide
theorem up_ix (w : List Nat) : atI (nv w ++ [V.non]) (((nv w).length : Int) - 1) = some (onv w.getLast?) := by
  cases e : w with
  | nil => exact atI_last [] V.non
  | cons a r =>
    have hl : (nv (a :: r)).length = r.length + 1 := List.length_map _
    rw [hl, show (((r.length + 1 : Nat) : Int) - 1) = (r.length : Int) by omega]
    have h2 : (a :: r)[r.length]? = some ((a :: r)[r.length]'(by simp)) := List.getElem?_eq_getElem _
    refine atI_nat ?_
    rw [List.getElem?_append_left (by rw [hl]; omega), nv_at h2, List.getLast?_eq_getElem?, show (a :: r).length - 1 = r.length from rfl, h2]; rfl
/-! ### ends -/
theorem endAt_eq {ds : List Nat} {p d e : Nat} (hp : ds[p]? = some d) (h1 : p ≤ e) (h2 : ∀ j b, p < j → j ≤ e → ds[j]? = some b → d < b) (h3 : e < ds.length) (h4 : ∀ b, ds[e + 1]? = some b → b ≤ d) : endAt ds p = e := by
  have hg : ds.getD p 0 = d := by rw [List.getD_eq_getElem?_getD, hp]; rfl
  unfold endAt
  rw [hg]
  have a1 : e - p ≤ ((ds.drop (p + 1)).takeWhile fun e => decide (d < e)).length := by
    refine (le_takeWhile _ _ _).mpr ⟨by rw [List.length_drop]; omega, fun j x hj hx => ?_⟩
    rw [List.getElem?_drop] at hx
    exact decide_eq_true (h2 (p + 1 + j) x (by omega) (by omega) hx)
  have a2 : ¬ e - p + 1 ≤ ((ds.drop (p + 1)).takeWhile fun e => decide (d < e)).length := fun h => by
    obtain ⟨b1, b2⟩ := (le_takeWhile _ _ _).mp h
    rw [List.length_drop] at b1
    have hl : e + 1 < ds.length := by omega
    have := b2 (e - p) ds[e + 1] (by omega) (by rw [List.getElem?_drop, show p + 1 + (e - p) = e + 1 by omega]; exact List.getElem?_eq_getElem hl)
    have h5 := h4 _ (List.getElem?_eq_getElem hl)
    have h6 := of_decide_eq_true this
    omega
  omega
def sp_ends_by (_ : PySem.W.Frag) : Sp := fun vs H Q _ => ∃ (a : Addr) (ds : List Nat), vs = [.ref a] ∧ H a = some (.lst (nv ds)) ∧ Valid ds ∧ ds.length ≤ 240 ∧ ∀ H' e, Same H H' → H e = none → H' e = some (.lst (nv (endsL ds))) → Q (.ref e) H'
def sp_uppers_by (_ : PySem.W.Frag) : Sp := fun vs H Q _ => ∃ (a : Addr) (ds : List Nat), vs = [.ref a] ∧ H a = some (.lst (nv ds)) ∧ Valid ds ∧ ds.length ≤ 240 ∧ ∀ H' e, Same H H' → H e = none → H' e = some (.lst ((upps ds).map onv)) → Q (.ref e) H'
theorem pop_at {l : List V} {m : Nat} (w : List Nat) (h : l = nv (w.take (m + 1))) (hm : m < w.length) : l[l.length - 1]? = some (V.int w[m]) ∧ l.dropLast = nv (w.take m) := by
  subst h
  have hl : (nv (w.take (m + 1))).length = m + 1 := by rw [List.length_map, List.length_take]; omega
  constructor
  · rw [hl]; exact nv_at (by rw [List.getElem?_take, if_pos (by omega)]; exact List.getElem?_eq_getElem hm)
  · rw [List.dropLast_eq_take, hl, show m + 1 - 1 = m from rfl, ← List.map_take, List.take_take, Nat.min_eq_left (by omega)]
/-- what found holds -/
def EndsTo (ds : List Nat) (i : Nat) (op fs : List Nat) : Prop := fs.length = ds.length ∧ ∀ p, p < i → p ∉ op → fs[p]? = some (endAt ds p)
theorem EndsTo.pop {ds : List Nat} {i m : Nat} {w fs : List Nat} (W : WayAt ds i w) (h : EndsTo ds i (w.take (m + 1)) fs) (hm : m < w.length) (hi : 1 ≤ i) (hin : i ≤ ds.length) (hlow : ∀ b, ds[i]? = some b → b ≤ m + 1) :
    w[m] < fs.length ∧ EndsTo ds i (w.take m) (fs.set w[m] (i - 1)) := by
  obtain ⟨q1, q2, q3⟩ := W.at_ m w[m] (List.getElem?_eq_getElem hm)
  have hl : w[m] < ds.length := (List.getElem?_eq_some_iff.mp q2).1
  have ee : endAt ds w[m] = i - 1 := endAt_eq q2 (by omega) (fun j b h1 h2 h3 => q3 j b h1 (by omega) h3) (by omega) (fun b hb => hlow b (by rw [show i - 1 + 1 = i by omega] at hb; exact hb))
  refine ⟨by rw [h.1]; exact hl, by rw [List.length_set]; exact h.1, fun p hp ho => ?_⟩
  by_cases e : p = w[m]
  · rw [e, List.getElem?_set_self (by rw [h.1]; exact hl), ee]
  · rw [List.getElem?_set_ne (Ne.symm e)]
    refine h.2 p hp fun hm2 => ?_
    rw [List.take_add_one, List.getElem?_eq_getElem hm, List.mem_append] at hm2
    rcases hm2 with hm2 | hm2
    · exact ho hm2
    · exact e (by simpa using hm2)
section
variable {P : Program} {w : World} {K : PySem.W.Frag} {mg : Str → Option Value} {base : Heap}
theorem sc_ends_by : FnScope ["depths", "found", "open_places", "place", "depth"] ["depths"] (defScope s_ends_by) := ⟨rfl, rfl, rfl, by decide +kernel, rfl, by decide +kernel, by decide +kernel⟩
theorem ok_ends_by (T : Tx K mg)  : Ok P w K mg base 1 at_ends_by ["depths"] (sp_ends_by K) := by
  refine mkOk T.d_ends_by sc_ends_by (fun _ _ _ _ _ _ us hl => match us, hl with | [_], _ => rfl) (fun vs H Q E h => ?_) (fun cdv A outer s H vs Q E hr h => ?_)
  · obtain ⟨a, ds, rfl, ha, hV, hn, k⟩ := h; rfl
  · obtain ⟨a, ds, rfl, ha, hV, hn, k⟩ := h
    refine ⟨_, (pss_cons (ps_set (i := 1) sc_ends_by.nd rfl (by first | exact Or.inl rfl | exact Or.inr rfl) (pe_op op_rep (pe_lst (pa_cons pe_int pa_nil)) (pe_callB (klen (K := K)) (by rfl) T.f_len PySem.boot_len (pa_cons (pv 0) pa_nil))))
      (pss_cons (ps_set (i := 2) sc_ends_by.nd rfl (by first | exact Or.inl rfl | exact Or.inr rfl) (pe_lst pa_nil))
      (pss_cons (ps_for PassesOwn.never rfl (kenum (K := K) T.f_enumerate (pa_cons (pv 0) pa_nil)) (kgtup (K := K) (n := 2) (pgs_cons (pg_name (i := 3) sc_ends_by.nd rfl (by first | exact Or.inl rfl | exact Or.inr rfl)) (pgs_cons (pg_name (i := 4) sc_ends_by.nd rfl (by first | exact Or.inl rfl | exact Or.inr rfl)) pgs_nil)))
        (pss_cons (ps_while PassesOwn.never (pt_cmpR op_ge (pe_callB (klen (K := K)) (by rfl) T.f_len PySem.boot_len (pa_cons (pv 2) pa_nil)) (pv 4) (nomark _))
          (pss_one (ps_asg (pe_op op_sub (pv 3) pe_int) (pg_sub (pv 1) (kbm0 (K := K) PySem.F.plainAttrs_list PySem.F.slot_list_pop PySem.F.type_list_pop kpop (pv 2)) set_list))))
        (pss_one (ps_expr (kbm (K := K) PySem.F.plainAttrs_list PySem.F.slot_list_append PySem.F.type_list_append kappend (pv 2) (pa_cons (pv 3) pa_nil))))))
      (pss_cons (ps_while PassesOwn.never (pt_cmpR (kneE (K := K) hr.units) (pv 2) (pe_lst pa_nil) (nomark _))
        (pss_one (ps_asg (pe_op op_sub (pe_callB (klen (K := K)) (by rfl) T.f_len PySem.boot_len (pa_cons (pv 0) pa_nil)) pe_int) (pg_sub (pv 1) (kbm0 (K := K) PySem.F.plainAttrs_list PySem.F.slot_list_pop PySem.F.type_list_pop kpop (pv 2)) set_list))))
      (pss_one (ps_ret (pv 1))))))), ?_⟩
    refine ⟨by decide, fun p0 n0 => ⟨_, rfl, a, _, rfl, .inl (SqL.of ha |> (Same.up n0).seq), p0, (ds.length : Int), [.int (0 : Nat)], rfl, ?_, upd_same, by omega, by omega, ?_, fun F nF => ⟨by decide, fun O nO => ?_⟩⟩⟩
    · rw [List.length_map]
    · show 1 * _ ≤ _; rw [Int.toNat_natCast, Nat.one_mul]; exact Nat.le_trans hn line240
    have eF : (List.replicate ((ds.length : Int)).toNat [V.int (0 : Nat)]).flatten = nv (List.replicate ds.length 0) := by
      rw [Int.toNat_natCast]
      generalize ds.length = n
      induction n with
      | zero => rfl
      | succ n ih => rw [List.replicate_succ, List.flatten_cons, ih]; rfl
    rw [eF] at nO ⊢
    obtain ⟨neO, nO1⟩ := upd_free nO
    obtain ⟨neO0, nO0⟩ := upd_free nO1
    obtain ⟨neF, nF0⟩ := upd_free nF
    have hl : ds.length ≤ sizeLine := Nat.le_trans hn line240
    refine ⟨_, rfl, a, nv ds, rfl, SqL.of (by rw [upd_ne (ne_of_none ha nO0), upd_ne (ne_of_none ha nF0), upd_ne (ne_of_none ha n0)]; exact ha), ?_⟩
    refine for_it (walk_enum (xs := nv ds)) (fun i σ H' => ∃ (x3 x4 : Option V) (w fs : List Nat), σ = [some (.ref a), some (.ref F), some (.ref O), x3, x4] ∧ WayAt ds i w ∧ Same H H' ∧ H' O = some (.lst (nv w)) ∧ H' F = some (.lst (nv fs)) ∧ EndsTo ds i w fs) ?_ ?_ ?_ ?_
    · refine ⟨none, none, [], List.replicate ds.length 0, rfl, WayAt.zero ds, ((Same.up n0).put nF0).put nO0, upd_same, ?_, ?_, ?_⟩
      · rw [upd_ne neO.symm, upd_same]
      · rw [List.length_replicate]
      · intro p hp; omega
    · rintro i σ H' _ ⟨x3, x4, w, fs, rfl, W, s, e1, e2, E⟩
      exact SqL.of (s _ _ ha)
    · rintro i v σ H1 H2 hi ⟨x3, x4, w, fs, rfl, W, s, e1, e2, E⟩ ⟨T0, x, y, rfl, nT, rfl, ex, ey⟩
      rw [List.length_map] at hi
      obtain ⟨d, hd, rfl⟩ := at_nv ey
      obtain rfl := Option.some.inj ex
      refine ⟨T0, _, rfl, SqT.of upd_same, rfl, _, _, rfl, _, _, rfl, rfl, ?_⟩
      have hpos := hV.pos hd
      have hen := W.enough hV hd
      refine ⟨fun m σ H' => ∃ fs, σ = [some (.ref a), some (.ref F), some (.ref O), some (.int i), some (.int d)] ∧ d - 1 ≤ m ∧ m ≤ w.length ∧ Same H H' ∧ H' O = some (.lst (nv (w.take m))) ∧ H' F = some (.lst (nv fs)) ∧ EndsTo ds i (w.take m) fs, ⟨w.length, fs, rfl, hen, Nat.le_refl _, s.new nT, ?_, ?_, ?_⟩, ?_⟩
      · rw [List.take_length]; exact upd_at nT e1
      · exact upd_at nT e2
      · rw [List.take_length]; exact E
      rintro m σ H' ⟨fs, rfl, h1, h2, s', f1, f2, E'⟩
      have hlm : (nv (w.take m)).length = m := by rw [List.length_map, List.length_take]; omega
      refine ⟨_, rfl, O, _, rfl, .inl (SqL.of f1), _, rfl, _, _, rfl, rfl, ?_⟩
      by_cases hge : d ≤ m
      · refine ⟨true, bt (by rw [hlm]; omega), _, fun _ _ h => h, ?_⟩
        obtain ⟨m, rfl⟩ : ∃ m', m = m' + 1 := ⟨m - 1, by omega⟩
        obtain ⟨p1, p2⟩ := pop_at w rfl (show m < w.length by omega)
        have hi1 : 1 ≤ i := by
          rcases W.len with ⟨rfl, h0⟩ | ⟨j, _, rfl, _⟩
          · omega
          · omega
        obtain ⟨q1, q2⟩ := E'.pop W (by omega) hi1 (by omega) (fun b hb => by rw [hd] at hb; injection hb; omega)
        have neFO := ne_of_none (o := .lst (nv (List.replicate ds.length 0))) (H := upd (upd H p0 (HO.lst [V.int 0])) F (HO.lst (nv (List.replicate ds.length 0)))) upd_same nO
        refine ⟨_, rfl, i, 1, rfl, rfl, _, rfl, _, rfl, tyL f1, O, _, _, rfl, rfl, f1, p1, F, nv fs, _, w[m], rfl, rfl, ?_, ?_, ?_⟩
        · rw [upd_ne neFO]; exact f2
        · exact ixN_nat (by rw [List.length_map]; exact q1)
        · refine ⟨m, by omega, fs.set w[m] (i - 1), rfl, by omega, by omega, (s'.put nO0).put nF0, ?_, ?_, q2⟩
          · rw [upd_ne neFO.symm, upd_same, p2]
          · rw [upd_same]
            refine congrArg (fun l => some (HO.lst l)) ?_
            refine nv_set ?_
            show V.int _ = V.int _
            congr 1
            omega
      · refine ⟨false, bf (by rw [hlm]; omega), ?_⟩
        obtain rfl : m = d - 1 := by omega
        have neFO := ne_of_none (o := .lst (nv (List.replicate ds.length 0))) (H := upd (upd H p0 (HO.lst [V.int 0])) F (HO.lst (nv (List.replicate ds.length 0)))) upd_same nO
        refine ⟨_, rfl, tyL f1, _, rfl, O, _, _, rfl, rfl, f1, ?_, _, _, w.take (d - 1) ++ [i], fs, rfl, W.step hV hd, s'.put nO0, ?_, ?_, E'.1, ?_⟩
        · rw [hlm]; exact Nat.lt_of_le_of_lt (Nat.le_trans (show d - 1 ≤ ds.length from (by have := hV.le hd; omega)) hn) (by decide)
        · rw [upd_same, nv_snoc]
        · rw [upd_ne neFO]; exact f2
        · intro p hp ho
          rw [List.mem_append, List.mem_singleton] at ho
          exact E'.2 p (by omega) fun h => ho (.inl h)
    · rintro σ H' ⟨x3, x4, w, fs, rfl, W, s, e1, e2, E⟩
      rw [List.length_map] at W E
      have neFO := ne_of_none (o := .lst (nv (List.replicate ds.length 0))) (H := upd (upd H p0 (HO.lst [V.int 0])) F (HO.lst (nv (List.replicate ds.length 0)))) upd_same nO
      refine ⟨fun m σ H' => ∃ fs, σ = [some (.ref a), some (.ref F), some (.ref O), x3, x4] ∧ m ≤ w.length ∧ Same H H' ∧ H' O = some (.lst (nv (w.take m))) ∧ H' F = some (.lst (nv fs)) ∧ EndsTo ds ds.length (w.take m) fs, ⟨w.length, fs, rfl, Nat.le_refl _, s, by rw [List.take_length]; exact e1, e2, by rw [List.take_length]; exact E⟩, ?_⟩
      rintro m σ H' ⟨fs, rfl, h2, s', f1, f2, E'⟩
      refine ⟨_, rfl, by decide, fun p np => ⟨O, p, _, rfl, rfl, (ne_of_none f1 np), SqL.of (upd_at np f1), SqL.of upd_same, ?_⟩⟩
      cases m with
      | zero =>
        refine ⟨false, rfl, _, rfl, k _ _ (s'.new np) nF0 ?_⟩
        rw [upd_at np f2]
        refine congrArg (fun l => some (HO.lst (nv l))) ?_
        refine List.ext_getElem? fun j => ?_
        by_cases hj : j < ds.length
        · rw [E'.2 j hj (by simp), endsL_at hj]
        · rw [List.getElem?_eq_none (by rw [E'.1]; omega), List.getElem?_eq_none (by unfold endsL; rw [List.length_map, List.length_range]; omega)]
      | succ m =>
        obtain ⟨p1, p2⟩ := pop_at w rfl (show m < w.length by omega)
        have h0 : (nv (w.take (m + 1))).isEmpty = false := by
          cases e : nv (w.take (m + 1)) with
          | nil => rw [e] at p1; cases p1
          | cons _ _ => rfl
        have hd1 : 1 ≤ ds.length := by
          have := (List.getElem?_eq_some_iff.mp hV.first).1
          omega
        obtain ⟨q1, q2⟩ := E'.pop W (by omega) hd1 (Nat.le_refl _) (fun b hb => by have := (List.getElem?_eq_some_iff.mp hb).1; omega)
        refine ⟨true, by rw [h0]; rfl, _, fun _ _ h => h, ?_⟩
        refine ⟨_, rfl, a, _, rfl, .inl (SqL.of (upd_at np (s' _ _ ha))), _, 1, rfl, rfl, _, rfl, _, rfl, tyL (upd_at np f1), O, _, _, rfl, rfl, upd_at np f1, p1, F, nv fs, _, w[m], rfl, rfl, ?_, ?_, ?_⟩
        · rw [upd_ne neFO]; exact upd_at np f2
        · exact ixN_nat (by rw [List.length_map]; exact q1)
        · refine ⟨m, by omega, fs.set w[m] (ds.length - 1), rfl, by omega, ((s'.new np).put nO0).put nF0, ?_, ?_, q2⟩
          · rw [upd_ne neFO.symm, upd_same, p2]
          · rw [upd_same]
            refine congrArg (fun l => some (HO.lst l)) ?_
            refine nv_set ?_
            show V.int _ = V.int _
            congr 1
            rw [List.length_map]
            omega
theorem sc_uppers_by : FnScope ["depths", "found", "ways", "place", "depth"] ["depths"] (defScope s_uppers_by) := ⟨rfl, rfl, rfl, by decide +kernel, rfl, by decide +kernel, by decide +kernel⟩
theorem ok_uppers_by (T : Tx K mg)  : Ok P w K mg base 1 at_uppers_by ["depths"] (sp_uppers_by K) := by
  refine mkOk T.d_uppers_by sc_uppers_by (fun _ _ _ _ _ _ us hl => match us, hl with | [_], _ => rfl) (fun vs H Q E h => ?_) (fun cdv A outer s H vs Q E hr h => ?_)
  · obtain ⟨a, ds, rfl, ha, hV, hn, k⟩ := h; rfl
  · obtain ⟨a, ds, rfl, ha, hV, hn, k⟩ := h
    refine ⟨_, (pss_cons (ps_set (i := 1) sc_uppers_by.nd rfl (by first | exact Or.inl rfl | exact Or.inr rfl) (pe_lst pa_nil))
      (pss_cons (ps_set (i := 2) sc_uppers_by.nd rfl (by first | exact Or.inl rfl | exact Or.inr rfl) (pe_lst pa_nil))
      (pss_cons (ps_for PassesOwn.never rfl (kenum (K := K) T.f_enumerate (pa_cons (pv 0) pa_nil)) (kgtup (K := K) (n := 2) (pgs_cons (pg_name (i := 3) sc_uppers_by.nd rfl (by first | exact Or.inl rfl | exact Or.inr rfl)) (pgs_cons (pg_name (i := 4) sc_uppers_by.nd rfl (by first | exact Or.inl rfl | exact Or.inr rfl)) pgs_nil)))
        (pss_cons (ps_set (i := 2) sc_uppers_by.nd rfl (by first | exact Or.inl rfl | exact Or.inr rfl) (pe_slice (kslL (K := K)) (pv 2) po_none (po_some (pe_op op_sub (pv 4) pe_int))))
        (pss_cons (ps_expr (kbm (K := K) PySem.F.plainAttrs_list PySem.F.slot_list_append PySem.F.type_list_append kappend (pv 1) (pa_cons (pe_ix (kixL (K := K)) (pe_op op_cat (pv 2) (pe_lst (pa_cons pe_non pa_nil))) (pe_op op_sub (pe_callB (klen (K := K)) (by rfl) T.f_len PySem.boot_len (pa_cons (pv 2) pa_nil)) pe_int) (fun _ _ => rfl)) pa_nil)))
        (pss_one (ps_expr (kbm (K := K) PySem.F.plainAttrs_list PySem.F.slot_list_append PySem.F.type_list_append kappend (pv 2) (pa_cons (pv 3) pa_nil)))))))
      (pss_one (ps_ret (pv 1)))))), ?_⟩
    refine ⟨by decide, fun F nF => ⟨by decide, fun O nO => ?_⟩⟩
    obtain ⟨neO, nO1⟩ := upd_free nO
    have hl : ds.length ≤ sizeLine := Nat.le_trans hn line240
    refine ⟨_, rfl, a, nv ds, rfl, SqL.of (upd_at nO (upd_at nF ha)), ?_⟩
    refine for_it (walk_enum (xs := nv ds)) (fun i σ H' => ∃ (O : Addr) (x3 x4 : Option V) (w : List Nat), σ = [some (.ref a), some (.ref F), some (.ref O), x3, x4] ∧ WayAt ds i w ∧ (upps ds).drop i = upGo i w (ds.drop i) ∧ Same H H' ∧ H O = none ∧ O ≠ F ∧ H' O = some (.lst (nv w)) ∧ H' F = some (.lst (((upps ds).take i).map onv))) ?_ ?_ ?_ ?_
    · exact ⟨O, none, none, [], rfl, WayAt.zero ds, rfl, (Same.up nF).put nO1, nO1, neO, upd_same, by rw [upd_ne neO.symm]; exact upd_same⟩
    · rintro i σ H' _ ⟨O, x3, x4, w, rfl, W, eu, s, n1, ne, e1, e2⟩
      exact SqL.of (s _ _ ha)
    · rintro i v σ H1 H2 hi ⟨O, x3, x4, w, rfl, W, eu, s, n1, ne, e1, e2⟩ ⟨T0, x, y, rfl, nT, rfl, ex, ey⟩
      rw [List.length_map] at hi
      obtain ⟨d, hd, rfl⟩ := at_nv ey
      obtain rfl := Option.some.inj ex
      refine ⟨T0, _, rfl, SqT.of upd_same, rfl, _, _, rfl, _, _, rfl, rfl, ?_⟩
      have hpos := hV.pos hd
      have hen := W.enough hV hd
      have hdl := hV.le hd
      have eds : ds.drop i = d :: ds.drop (i + 1) := by
        rw [List.drop_eq_getElem_cons hi]
        rw [List.getElem?_eq_getElem hi] at hd
        rw [Option.some.inj hd]
      have hiu : i < (upps ds).length := by rw [upps_length]; exact hi
      rw [eds, List.drop_eq_getElem_cons hiu] at eu
      obtain ⟨eu1, eu2⟩ := List.cons.inj (show (upps ds)[i] :: _ = _ :: upGo (i + 1) (w.take (d - 1) ++ [i]) (ds.drop (i + 1)) from eu)
      refine ⟨_, rfl, _, rfl, d, 1, rfl, rfl, _, rfl, O, _, rfl, SqL.of (upd_at nT e1), fun p np => ?_⟩
      have ecut : cutV (nv w) none (some ((d : Int) - 1)) = nv (w.take (d - 1)) := by
        rw [show ((d : Int) - 1) = ((d - 1 : Nat) : Int) by omega, cut_take]; exact List.map_take.symm
      rw [show cutV (nv w) none (some ((fun i j : Int => i - j) (d : Int) 1)) = nv (w.take (d - 1)) from ecut]
      have np1 := (upd_free np).2
      obtain ⟨npT, np0⟩ := upd_free np
      have lw : (nv (w.take (d - 1))).length ≤ 240 := by rw [List.length_map, List.length_take]; omega
      have f2 := upd_at (o := .lst (nv (w.take (d - 1)))) np (upd_at (o := .tup [V.int i, V.int d]) nT e2)
      refine ⟨_, rfl, tyL f2, _, rfl, by decide, fun p2 np2 => ⟨p, p2, _, _, rfl, rfl, upd_at np2 upd_same, upd_same, ?_, fun p3 np3 => ?_⟩⟩
      · exact Nat.le_trans (Nat.add_le_add_right lw 1) (by decide)
      have f3 := upd_at (o := .lst (nv (w.take (d - 1)) ++ [V.non])) np3 (upd_at (o := .lst [V.non]) np2 f2)
      have g3 := upd_at (o := .lst (nv (w.take (d - 1)) ++ [V.non])) np3 (upd_at (o := .lst [V.non]) np2 (upd_same (H := upd H1 T0 (.tup [V.int i, V.int d])) (a := p) (o := .lst (nv (w.take (d - 1))))))
      have nepF : p ≠ F := (ne_of_none e2 np1).symm
      have nHp : H p = none := s.free np0
      refine ⟨_, rfl, p, _, rfl, .inl (SqL.of g3), _, 1, rfl, rfl, p3, _, _, _, rfl, rfl, SqL.of upd_same, up_ix _, F, _, _, rfl, rfl, f3, ?_, ?_⟩
      · rw [List.length_map, List.length_take]
        exact Nat.lt_of_le_of_lt (Nat.le_trans (Nat.min_le_left _ _) (Nat.le_trans (Nat.le_of_lt hi) hn)) (by decide)
      refine ⟨_, rfl, tyL (by rw [upd_ne nepF]; exact g3), _, rfl, p, _, _, rfl, rfl, by rw [upd_ne nepF]; exact g3, ?_, p, _, _, _, rfl, W.step hV hd, eu2, ?_, nHp, nepF, ?_, ?_⟩
      · exact Nat.lt_of_le_of_lt lw (by decide)
      · exact ((((((s.new nT).new np).new np2).new np3).put nF).put nHp)
      · rw [upd_same, nv_snoc]
      · rw [upd_ne nepF.symm, upd_same, List.take_add_one, List.getElem?_eq_getElem hiu, List.map_append, ← eu1]; rfl
    · rintro σ H' ⟨O, x3, x4, w, rfl, W, eu, s, n1, ne, e1, e2⟩
      rw [List.length_map, ← upps_length, List.take_length] at e2
      exact ⟨_, rfl, k _ _ s nF e2⟩
end
end Bg

set_option Elab.async false
set_option linter.all false
set_option maxRecDepth 100000
set_option maxHeartbeats 4000000
namespace Bg
open PySem PySem.Spec PyProof.Rows L2
/-! ### documents: their methods -/
def sp_Document_need_part (K : PySem.W.Frag) : Sp := fun vs H Q _ => ∃ (a : Addr) (rows : List DRow) (p : Nat), vs = [.ref a, .int p] ∧ DocAt K H a rows ∧ p < rows.length ∧ Q .non H
def sp_Document_many (K : PySem.W.Frag) : Sp := fun vs H Q _ => ∃ (a : Addr) (rows : List DRow), vs = [.ref a] ∧ DocAt K H a rows ∧ Q (.int rows.length) H
def sp_Document_label_of (K : PySem.W.Frag) : Sp := fun vs H Q _ => ∃ (a : Addr) (rows : List DRow) (p : Nat) (r : DRow), vs = [.ref a, .int p] ∧ DocAt K H a rows ∧ rows[p]? = some r ∧ Q (.str r.1) H
def sp_Document_depth_of (K : PySem.W.Frag) : Sp := fun vs H Q _ => ∃ (a : Addr) (rows : List DRow) (p : Nat) (r : DRow), vs = [.ref a, .int p] ∧ DocAt K H a rows ∧ rows[p]? = some r ∧ Q (.int r.2) H
def sp_Document_end_of (K : PySem.W.Frag) : Sp := fun vs H Q _ => ∃ (a : Addr) (rows : List DRow) (p : Nat), vs = [.ref a, .int p] ∧ DocAt K H a rows ∧ p < rows.length ∧ Q (.int (endAt (dsOf rows) p)) H
def sp_Document_upper_of (K : PySem.W.Frag) : Sp := fun vs H Q _ => ∃ (a : Addr) (rows : List DRow) (p : Nat), vs = [.ref a, .int p] ∧ DocAt K H a rows ∧ p < rows.length ∧ Q (onv (upp (dsOf rows) p)) H
/-- the kids of a place, in order -/
def lows (ds : List Nat) (p : Nat) : List Nat := (List.range ds.length).filter fun c => decide (upp ds c = some p)
def sp_Document_lowers_of (K : PySem.W.Frag) : Sp := fun vs H Q _ => ∃ (a : Addr) (rows : List DRow) (p : Nat), vs = [.ref a, .int p] ∧ DocAt K H a rows ∧ p < rows.length ∧ ∀ H' l, Same H H' → H l = none → H' l = some (.lst (nv (lows (dsOf rows) p))) → Q (.ref l) H'
def plOf (rows : List DRow) (x : Str) : List Nat := (List.range rows.length).filter fun p => decide (rows[p]?.map (·.1) = some x)
def sp_Document_parts_of (K : PySem.W.Frag) : Sp := fun vs H Q _ => ∃ (a : Addr) (rows : List DRow) (x : Str), vs = [.ref a, .str x] ∧ DocAt K H a rows ∧ ∀ H' l, Same H H' → H l = none → H' l = some (.lst (nv (plOf rows x))) → Q (.ref l) H'
def sp_Document_rows (K : PySem.W.Frag) : Sp := fun vs H Q _ => ∃ (a : Addr) (rows : List DRow) (S : Hp), vs = [.ref a] ∧ Same S H ∧ DocAt K S a rows ∧ ∀ H' l (ts : List Addr), Same H H' → H l = none → H' l = some (.lst (ts.map V.ref)) → RowsAt S ts rows → Q (.ref l) H'
def sp_Document_init (K : PySem.W.Frag) : Sp := fun vs H Q _ => ∃ (a dx l : Addr) (ts : List Addr) (rows : List DRow) (S H0 : Hp), vs = [.ref a, .ref l] ∧ H a = some (.ins (aDocument K) dx []) ∧ Same H0 H ∧ H0 a = none ∧ Same S H0 ∧ S l = some (.lst (ts.map V.ref)) ∧ RowsAt S ts rows ∧ RowsOk rows ∧
  ∀ H', Same H0 H' → DocAt K (ext S H0 H') a rows → Q .non H'
theorem fm_filter {α : Type} (P : α → Prop) [DecidablePred P] (g : α → V) (f : α → Option V) : ∀ l : List α, (∀ i ∈ l, f i = if P i then some (g i) else none) → l.filterMap f = (l.filter fun i => decide (P i)).map g
  | [], _ => rfl
  | a :: l, h => by
    have ih := fm_filter P g f l fun i hi => h i (by simp [hi])
    have ha := h a (by simp)
    by_cases c : P a
    · rw [if_pos c] at ha
      rw [List.filterMap_cons, ha, List.filter_cons_of_pos (by simpa using c), List.map_cons, ih]
    · rw [if_neg c] at ha
      rw [List.filterMap_cons, ha, List.filter_cons_of_neg (by simpa using c), ih]
theorem ref_at {ts : List Addr} {i : Nat} {t : Addr} (h : ts[i]? = some t) : (ts.map V.ref)[i]? = some (V.ref t) := by rw [List.getElem?_map, h]; rfl
theorem at_ref {ts : List Addr} {i : Nat} {v : V} (h : (ts.map V.ref)[i]? = some v) : ∃ t, ts[i]? = some t ∧ v = .ref t := by
  rw [List.getElem?_map] at h
  cases e : ts[i]? with
  | none => rw [e] at h; cases h
  | some t => rw [e] at h; exact ⟨t, rfl, (Option.some.inj h).symm⟩
theorem onv_at {l : List (Option Nat)} {i : Nat} {o : Option Nat} (h : l[i]? = some o) : (l.map onv)[i]? = some (onv o) := by rw [List.getElem?_map, h]; rfl
theorem onv_eq {o : Option Nat} {p : Nat} : onv o = .int p ↔ o = some p := by
  cases o with
  | none => exact ⟨fun h => (by cases h), fun h => (by cases h)⟩
  | some n => exact ⟨fun h => (by have h2 : (n : Int) = p := V.int.inj h; congr 1; omega), fun h => (by cases h; rfl)⟩
theorem dsOf_length (rows : List DRow) : (dsOf rows).length = rows.length := List.length_map _
theorem RowsAt.ref {H : Hp} {ts : List Addr} {rows : List DRow} (h : RowsAt H ts rows) {i : Nat} {v : V} (e : (ts.map V.ref)[i]? = some v) : ∃ t r, v = .ref t ∧ rows[i]? = some r ∧ H t = some (.tup [.str r.1, .int r.2]) := by
  obtain ⟨t, h1, rfl⟩ := at_ref e
  have hl := (List.getElem?_eq_some_iff.mp h1).1
  have hl2 : i < rows.length := by rw [← h.len]; exact hl
  exact ⟨t, rows[i], rfl, List.getElem?_eq_getElem hl2, h.at_ i t _ h1 (List.getElem?_eq_getElem hl2)⟩
theorem ds_at {rows : List DRow} {i : Nat} {r : DRow} (h : rows[i]? = some r) : (dsOf rows)[i]? = some r.2 := by rw [List.getElem?_map, h]; rfl
theorem filter_mid {n lo m : Nat} (P : Nat → Prop) [DecidablePred P] (h : lo + m ≤ n) (h1 : ∀ c, c < lo → ¬ P c) (h2 : ∀ c, lo + m ≤ c → c < n → ¬ P c) :
    ((List.range n).filter fun c => decide (P c)) = ((List.range m).filter fun i => decide (P (lo + i))).map (lo + ·) := by
  obtain ⟨r, rfl⟩ : ∃ r, n = lo + m + r := ⟨n - (lo + m), by omega⟩
  rw [List.range_add, List.range_add, List.filter_append, List.filter_append]
  have e1 : (List.range lo).filter (fun c => decide (P c)) = [] := by
    rw [List.filter_eq_nil_iff]; intro c hc; simpa using h1 c (List.mem_range.mp hc)
  have e2 : ((List.range r).map (lo + m + ·)).filter (fun c => decide (P c)) = [] := by
    rw [List.filter_eq_nil_iff]; intro c hc
    obtain ⟨x, hx, rfl⟩ := List.mem_map.mp hc
    have := List.mem_range.mp hx
    simpa using h2 (lo + m + x) (by omega) (by omega)
  rw [e1, e2, List.nil_append, List.append_nil, List.filter_map]
  rfl
theorem lows_mid {ds : List Nat} (V : Valid ds) {p : Nat} (hp : p < ds.length) : lows ds p = ((List.range (endAt ds p - p)).filter fun i => decide (upp ds (p + 1 + i) = some p)).map (p + 1 + ·) := by
  have h1 := endAt_lt hp
  have h2 := le_endAt ds p
  refine filter_mid (fun c => upp ds c = some p) (by omega) (fun c hc e => ?_) (fun c hc hn e => ?_)
  · have := upp_lt V e; omega
  · have := (anc_end V hp hn).mp (.one e)
    omega
section
variable {P : Program} {w : World} {K : PySem.W.Frag} {mg : Str → Option Value} {base : Heap}
theorem sc_Document_need_part : FnScope ["self", "part"] ["self", "part"] (defScope s_Document_need_part) := ⟨rfl, rfl, rfl, by decide +kernel, rfl, by decide +kernel, by decide +kernel⟩
theorem ok_Document_need_part (T : Tx K mg) (O_is_within : Ok P w K mg base 2 at_is_within ["thing", "low", "high"] (sp_is_within K)) : Ok P w K mg base 3 at_Document_need_part ["self", "part"] (sp_Document_need_part K) := by
  refine mkOk T.d_Document_need_part sc_Document_need_part (fun _ _ _ _ _ _ us hl => match us, hl with | [_, _], _ => rfl) (fun vs H Q E h => ?_) (fun cdv A outer s H vs Q E hr h => ?_)
  · obtain ⟨a, rows, p, rfl, ⟨ok, dx, pt, pe, pu, ts, h1, h2, h3, h4, h5⟩, hp, k⟩ := h; rfl
  · obtain ⟨a, rows, p, rfl, ⟨ok, dx, pt, pe, pu, ts, h1, h2, h3, h4, h5⟩, hp, k⟩ := h
    refine ⟨_, (pss_one (ps_if (pt_not (pt_val (kfn (K := K) O_is_within T.g_is_within (hr.mono (by decide)) (pa_cons (pv 1) (pa_cons pe_int (pa_cons (pe_op op_sub (pe_callB (klen (K := K)) (by rfl) T.f_len PySem.boot_len (pa_cons (kfld (K := K) (pv 0)) pa_nil)) pe_int) pa_nil))))))
        (pss_one ps_never)
        pss_nil)), ?_⟩
    refine ⟨_, rfl, _, rfl, rd_Document_parts T h1 ⟨pt, _, rfl, .inr (SqT.of h2), _, 1, rfl, rfl, (p : Int), 0, _, rfl, true, ?_, k⟩⟩
    have hl : (ts.map V.ref).length = rows.length := by rw [List.length_map]; exact h3.len
    rw [hl, decide_eq_true (show (0 : Int) ≤ (p : Int) by omega), decide_eq_true (show (p : Int) ≤ (fun i j : Int => i - j) (rows.length : Int) 1 by show (p : Int) ≤ (rows.length : Int) - 1; omega)]
    rfl
theorem sc_Document_many : FnScope ["self"] ["self"] (defScope s_Document_many) := ⟨rfl, rfl, rfl, by decide +kernel, rfl, by decide +kernel, by decide +kernel⟩
theorem ok_Document_many (T : Tx K mg)  : Ok P w K mg base 1 at_Document_many ["self"] (sp_Document_many K) := by
  refine mkOk T.d_Document_many sc_Document_many (fun _ _ _ _ _ _ us hl => match us, hl with | [_], _ => rfl) (fun vs H Q E h => ?_) (fun cdv A outer s H vs Q E hr h => ?_)
  · obtain ⟨a, rows, rfl, ⟨ok, dx, pt, pe, pu, ts, h1, h2, h3, h4, h5⟩, k⟩ := h; rfl
  · obtain ⟨a, rows, rfl, ⟨ok, dx, pt, pe, pu, ts, h1, h2, h3, h4, h5⟩, k⟩ := h
    refine ⟨_, (pss_one (ps_ret (pe_callB (klen (K := K)) (by rfl) T.f_len PySem.boot_len (pa_cons (kfld (K := K) (pv 0)) pa_nil)))), ?_⟩
    refine ⟨_, rfl, rd_Document_parts T h1 ⟨pt, _, rfl, .inr (SqT.of h2), ?_⟩⟩
    have hl : (ts.map V.ref).length = rows.length := by rw [List.length_map]; exact h3.len
    rw [hl]; exact k
theorem sc_Document_label_of : FnScope ["self", "part"] ["self", "part"] (defScope s_Document_label_of) := ⟨rfl, rfl, rfl, by decide +kernel, rfl, by decide +kernel, by decide +kernel⟩
theorem ok_Document_label_of (T : Tx K mg) (O_Document_need_part : Ok P w K mg base 3 at_Document_need_part ["self", "part"] (sp_Document_need_part K)) : Ok P w K mg base 4 at_Document_label_of ["self", "part"] (sp_Document_label_of K) := by
  refine mkOk T.d_Document_label_of sc_Document_label_of (fun _ _ _ _ _ _ us hl => match us, hl with | [_, _], _ => rfl) (fun vs H Q E h => ?_) (fun cdv A outer s H vs Q E hr h => ?_)
  · obtain ⟨a, rows, p, r, rfl, D, hp, k⟩ := h; rfl
  · obtain ⟨a, rows, p, r, rfl, D, hp, k⟩ := h
    refine ⟨_, (pss_cons (ps_expr (kme (K := K) (pv 0) O_Document_need_part T.c_Document T.m_Document_need_part (hr.mono (by decide)) (pa_cons (pv 1) pa_nil)))
      (pss_one (ps_ret (pe_ix (kixT (K := K)) (pe_ix (kixT (K := K)) (kfld (K := K) (pv 0)) (pv 1) (fun _ _ => rfl)) pe_int (fun _ _ => rfl))))), ?_⟩
    obtain ⟨ok, dx, pt, pe, pu, ts, h1, h2, h3, h4, h5⟩ := id D
    obtain ⟨t, e1, e2⟩ := h3.row hp
    refine ⟨_, rfl, mt_Document_need_part h1 ⟨_, rfl, a, rows, p, rfl, D, (List.getElem?_eq_some_iff.mp hp).1, ?_⟩⟩
    refine ⟨_, rfl, rd_Document_parts T h1 ⟨_, rfl, pt, _, _, _, rfl, rfl, SqT.of h2, atI_nat (ref_at e1), t, _, _, _, rfl, rfl, SqT.of e2, rfl, k⟩⟩
theorem sc_Document_depth_of : FnScope ["self", "part"] ["self", "part"] (defScope s_Document_depth_of) := ⟨rfl, rfl, rfl, by decide +kernel, rfl, by decide +kernel, by decide +kernel⟩
theorem ok_Document_depth_of (T : Tx K mg) (O_Document_need_part : Ok P w K mg base 3 at_Document_need_part ["self", "part"] (sp_Document_need_part K)) : Ok P w K mg base 4 at_Document_depth_of ["self", "part"] (sp_Document_depth_of K) := by
  refine mkOk T.d_Document_depth_of sc_Document_depth_of (fun _ _ _ _ _ _ us hl => match us, hl with | [_, _], _ => rfl) (fun vs H Q E h => ?_) (fun cdv A outer s H vs Q E hr h => ?_)
  · obtain ⟨a, rows, p, r, rfl, D, hp, k⟩ := h; rfl
  · obtain ⟨a, rows, p, r, rfl, D, hp, k⟩ := h
    refine ⟨_, (pss_cons (ps_expr (kme (K := K) (pv 0) O_Document_need_part T.c_Document T.m_Document_need_part (hr.mono (by decide)) (pa_cons (pv 1) pa_nil)))
      (pss_one (ps_ret (pe_ix (kixT (K := K)) (pe_ix (kixT (K := K)) (kfld (K := K) (pv 0)) (pv 1) (fun _ _ => rfl)) pe_int (fun _ _ => rfl))))), ?_⟩
    obtain ⟨ok, dx, pt, pe, pu, ts, h1, h2, h3, h4, h5⟩ := id D
    obtain ⟨t, e1, e2⟩ := h3.row hp
    refine ⟨_, rfl, mt_Document_need_part h1 ⟨_, rfl, a, rows, p, rfl, D, (List.getElem?_eq_some_iff.mp hp).1, ?_⟩⟩
    refine ⟨_, rfl, rd_Document_parts T h1 ⟨_, rfl, pt, _, _, _, rfl, rfl, SqT.of h2, atI_nat (ref_at e1), t, _, _, _, rfl, rfl, SqT.of e2, rfl, k⟩⟩
theorem sc_Document_end_of : FnScope ["self", "part"] ["self", "part"] (defScope s_Document_end_of) := ⟨rfl, rfl, rfl, by decide +kernel, rfl, by decide +kernel, by decide +kernel⟩
theorem ok_Document_end_of (T : Tx K mg) (O_Document_need_part : Ok P w K mg base 3 at_Document_need_part ["self", "part"] (sp_Document_need_part K)) : Ok P w K mg base 4 at_Document_end_of ["self", "part"] (sp_Document_end_of K) := by
  refine mkOk T.d_Document_end_of sc_Document_end_of (fun _ _ _ _ _ _ us hl => match us, hl with | [_, _], _ => rfl) (fun vs H Q E h => ?_) (fun cdv A outer s H vs Q E hr h => ?_)
  · obtain ⟨a, rows, p, rfl, D, hp, k⟩ := h; rfl
  · obtain ⟨a, rows, p, rfl, D, hp, k⟩ := h
    refine ⟨_, (pss_cons (ps_expr (kme (K := K) (pv 0) O_Document_need_part T.c_Document T.m_Document_need_part (hr.mono (by decide)) (pa_cons (pv 1) pa_nil)))
      (pss_one (ps_ret (pe_ix (kixL (K := K)) (kfld (K := K) (pv 0)) (pv 1) (fun _ _ => rfl))))), ?_⟩
    obtain ⟨ok, dx, pt, pe, pu, ts, h1, h2, h3, h4, h5⟩ := id D
    refine ⟨_, rfl, mt_Document_need_part h1 ⟨_, rfl, a, rows, p, rfl, D, hp, ?_⟩⟩
    refine ⟨_, rfl, rd_Document_ends T h1 ⟨_, rfl, pe, _, _, _, rfl, rfl, SqL.of h4, atI_nat (nv_at (endsL_at (by rw [dsOf_length]; exact hp))), k⟩⟩
theorem sc_Document_upper_of : FnScope ["self", "part"] ["self", "part"] (defScope s_Document_upper_of) := ⟨rfl, rfl, rfl, by decide +kernel, rfl, by decide +kernel, by decide +kernel⟩
theorem ok_Document_upper_of (T : Tx K mg) (O_Document_need_part : Ok P w K mg base 3 at_Document_need_part ["self", "part"] (sp_Document_need_part K)) : Ok P w K mg base 4 at_Document_upper_of ["self", "part"] (sp_Document_upper_of K) := by
  refine mkOk T.d_Document_upper_of sc_Document_upper_of (fun _ _ _ _ _ _ us hl => match us, hl with | [_, _], _ => rfl) (fun vs H Q E h => ?_) (fun cdv A outer s H vs Q E hr h => ?_)
  · obtain ⟨a, rows, p, rfl, D, hp, k⟩ := h; rfl
  · obtain ⟨a, rows, p, rfl, D, hp, k⟩ := h
    refine ⟨_, (pss_cons (ps_expr (kme (K := K) (pv 0) O_Document_need_part T.c_Document T.m_Document_need_part (hr.mono (by decide)) (pa_cons (pv 1) pa_nil)))
      (pss_one (ps_ret (pe_ix (kixL (K := K)) (kfld (K := K) (pv 0)) (pv 1) (fun _ _ => rfl))))), ?_⟩
    obtain ⟨ok, dx, pt, pe, pu, ts, h1, h2, h3, h4, h5⟩ := id D
    refine ⟨_, rfl, mt_Document_need_part h1 ⟨_, rfl, a, rows, p, rfl, D, hp, ?_⟩⟩
    refine ⟨_, rfl, rd_Document_uppers T h1 ⟨_, rfl, pu, _, _, _, rfl, rfl, SqL.of h5, atI_nat (onv_at (upps_at (by rw [dsOf_length]; exact hp))), k⟩⟩
theorem sc_Document_rows : FnScope ["self"] ["self"] (defScope s_Document_rows) := ⟨rfl, rfl, rfl, by decide +kernel, rfl, by decide +kernel, by decide +kernel⟩
theorem ok_Document_rows (T : Tx K mg)  : Ok P w K mg base 1 at_Document_rows ["self"] (sp_Document_rows K) := by
  refine mkOk T.d_Document_rows sc_Document_rows (fun _ _ _ _ _ _ us hl => match us, hl with | [_], _ => rfl) (fun vs H Q E h => ?_) (fun cdv A outer s H vs Q E hr h => ?_)
  · obtain ⟨a, rows, S, rfl, sS, ⟨ok, dx, pt, pe, pu, ts, h1, h2, h3, h4, h5⟩, k⟩ := h; rfl
  · obtain ⟨a, rows, S, rfl, sS, ⟨ok, dx, pt, pe, pu, ts, h1, h2, h3, h4, h5⟩, k⟩ := h
    refine ⟨_, (pss_one (ps_ret (pe_callTy (klist (K := K)) (by rfl) T.f_list (by decide +kernel) (pa_cons (kfld (K := K) (pv 0)) pa_nil)))), ?_⟩
    exact ⟨_, rfl, rd_Document_parts T (sS _ _ h1) ⟨pt, _, rfl, .inr (SqT.of (sS _ _ h2)), fun l nl => k _ l ts (Same.up nl) nl upd_same h3⟩⟩
theorem sc_Document_parts_of : FnScope ["self", "label", "part", "row"] ["self", "label"] (defScope s_Document_parts_of) := ⟨rfl, rfl, rfl, by decide +kernel, rfl, by decide +kernel, by decide +kernel⟩
theorem ok_Document_parts_of (T : Tx K mg)  : Ok P w K mg base 1 at_Document_parts_of ["self", "label"] (sp_Document_parts_of K) := by
  refine mkOk T.d_Document_parts_of sc_Document_parts_of (fun _ _ _ _ _ _ us hl => match us, hl with | [_, _], _ => rfl) (fun vs H Q E h => ?_) (fun cdv A outer s H vs Q E hr h => ?_)
  · obtain ⟨a, rows, x, rfl, ⟨ok, dx, pt, pe, pu, ts, h1, h2, h3, h4, h5⟩, k⟩ := h; rfl
  · obtain ⟨a, rows, x, rfl, ⟨ok, dx, pt, pe, pu, ts, h1, h2, h3, h4, h5⟩, k⟩ := h
    refine ⟨_, (pss_one (ps_ret (pe_lc (own := [("part", 2), ("row", 3)]) (g := _) (tt := _) rfl sc_Document_parts_of.nd (kenumT (K := K) T.f_enumerate (pa_cons (kfld (K := K) (pv 0)) pa_nil)) (blkOk_by (by kernel_rfl)) (fun _ _ _ _ _ => (kgtup (K := K) (n := 2) (pgs_cons (pg_name (i := 2) sc_Document_parts_of.nd rfl (by first | exact Or.inl rfl | exact Or.inr rfl)) (pgs_cons (pg_name (i := 3) sc_Document_parts_of.nd rfl (by first | exact Or.inl rfl | exact Or.inr rfl)) pgs_nil)))) (fun _ _ _ _ _ => (pts_one (pt_cmpR op_eq (pe_ix (kixT (K := K)) (pv 3) pe_int (fun _ _ => rfl)) (pv 1) (nomark _)))) (fun _ _ _ _ _ => (pv 2))))), ?_⟩
    have hl : (ts.map V.ref).length = rows.length := by rw [List.length_map]; exact h3.len
    refine ⟨_, rfl, rd_Document_parts T h1 ⟨pt, _, rfl, SqT.of h2, fun D nD => ?_⟩⟩
    refine lc_same (walk_enumT (xs := ts.map V.ref)) (fun p => if rows[p]?.map (·.1) = some x then some (.int p) else none) nD (by rw [hl]; exact Nat.le_trans ok.many line240) (fun H s => SqT.of (s _ _ h2)) ?_ ?_
    · rintro i v H1 H2 N N0 hi s ⟨T0, y, rfl, nT, rfl, ey⟩ ky kn
      obtain ⟨t, r, rfl, hr2, ht⟩ := h3.ref ey
      refine ⟨T0, _, rfl, SqT.of upd_same, rfl, _, _, rfl, _, _, rfl, rfl, rfl, _, rfl, t, _, _, _, rfl, rfl, SqT.of (upd_at nT (s _ _ ht)), rfl, _, rfl, ?_⟩
      by_cases c : r.1 = x
      · exact ⟨rfl, true, bt (congrArg V.str c), _, rfl, ky _ _ (Same.up nT) (if_pos (by rw [hr2, ← c]; rfl))⟩
      · exact ⟨rfl, false, bf (fun h => c (V.str.inj h)), kn (if_neg (by rw [hr2]; exact fun h => c (Option.some.inj h))) _ (Same.up nT)⟩
    · intro H' s e
      refine k H' D s nD ?_
      rw [e, hl]
      refine congrArg (fun l => some (HO.lst l)) ?_
      exact fm_filter (fun p => rows[p]?.map (·.1) = some x) (fun p : Nat => V.int p) _ _ fun i _ => rfl
theorem sc_Document_lowers_of : FnScope ["self", "part", "other"] ["self", "part"] (defScope s_Document_lowers_of) := ⟨rfl, rfl, rfl, by decide +kernel, rfl, by decide +kernel, by decide +kernel⟩
theorem ok_Document_lowers_of (T : Tx K mg) (O_Document_need_part : Ok P w K mg base 3 at_Document_need_part ["self", "part"] (sp_Document_need_part K)) : Ok P w K mg base 4 at_Document_lowers_of ["self", "part"] (sp_Document_lowers_of K) := by
  refine mkOk T.d_Document_lowers_of sc_Document_lowers_of (fun _ _ _ _ _ _ us hl => match us, hl with | [_, _], _ => rfl) (fun vs H Q E h => ?_) (fun cdv A outer s H vs Q E hr h => ?_)
  · obtain ⟨a, rows, p, rfl, D, hp, k⟩ := h; rfl
  · obtain ⟨a, rows, p, rfl, D, hp, k⟩ := h
    refine ⟨_, (pss_cons (ps_expr (kme (K := K) (pv 0) O_Document_need_part T.c_Document T.m_Document_need_part (hr.mono (by decide)) (pa_cons (pv 1) pa_nil)))
      (pss_one (ps_ret (pe_lc (own := [("other", 2)]) (g := gName 2) (tt := _) rfl sc_Document_lowers_of.nd (pi_range2 (by rfl) T.f_range (pa_cons (pe_op op_add (pv 1) pe_int) (pa_cons (pe_op op_add (pe_ix (kixL (K := K)) (kfld (K := K) (pv 0)) (pv 1) (fun _ _ => rfl)) pe_int) pa_nil))) (blkOk_by (by kernel_rfl)) (fun _ _ _ _ _ => (pg_name (i := 2) sc_Document_lowers_of.nd rfl (by first | exact Or.inl rfl | exact Or.inr rfl))) (fun _ _ _ _ _ => (pts_one (pt_cmpR op_eq (pe_ix (kixL (K := K)) (kfld (K := K) (pv 0)) (pv 2) (fun _ _ => rfl)) (pv 1) (nomark _)))) (fun _ _ _ _ _ => (pv 2)))))), ?_⟩
    obtain ⟨ok, dx, pt, pe, pu, ts, h1, h2, h3, h4, h5⟩ := id D
    refine ⟨_, rfl, mt_Document_need_part h1 ⟨_, rfl, a, rows, p, rfl, D, hp, ?_⟩⟩
    have hn := ok.many
    have hp2 : p < (dsOf rows).length := by rw [dsOf_length]; exact hp
    have he := endAt_lt hp2
    have hle := le_endAt (dsOf rows) p
    rw [dsOf_length] at he
    refine ⟨_, rfl, _, 1, rfl, rfl, _, rfl, rd_Document_ends T h1 ⟨_, rfl, pe, _, _, _, rfl, rfl, SqL.of h4, atI_nat (nv_at (endsL_at (by rw [dsOf_length]; exact hp))), _, 1, rfl, rfl, _, _, rfl, ⟨by omega, by omega, by omega, by omega⟩, fun D nD => ?_⟩⟩
    have em : (((fun i j : Int => i + j) (endAt (dsOf rows) p) 1) - ((fun i j : Int => i + j) (p : Int) 1)).toNat = endAt (dsOf rows) p - p := by
      show (((endAt (dsOf rows) p : Nat) : Int) + 1 - ((p : Int) + 1)).toNat = _
      omega
    rw [em]
    refine lc_same walk_range (fun i => if upp (dsOf rows) (p + 1 + i) = some p then some (.int ((p + 1 + i : Nat) : Int)) else none) nD (Nat.le_trans (by omega) line240) (fun H s => trivial) ?_ ?_
    · rintro i v H1 H2 N N0 hi s ⟨rfl, ev⟩ ky kn
      obtain rfl : v = V.int ((p + 1 + i : Nat) : Int) := by
        rw [ev]
        show V.int ((p : Int) + 1 + (i : Nat)) = _
        congr 1
      refine ⟨rfl, _, rfl, rd_Document_uppers T (s _ _ h1) ⟨_, rfl, pu, _, _, _, rfl, rfl, SqL.of (s _ _ h5), atI_nat (onv_at (upps_at (p := p + 1 + i) (by rw [dsOf_length]; omega))), _, rfl, ?_⟩⟩
      have hs : scal (onv (upp (dsOf rows) (p + 1 + i))) (.int p) = true := by cases upp (dsOf rows) (p + 1 + i) <;> rfl
      by_cases c : upp (dsOf rows) (p + 1 + i) = some p
      · exact ⟨hs, true, bt (onv_eq.mpr c), _, rfl, ky _ _ (Same.refl _) (if_pos c)⟩
      · exact ⟨hs, false, bf (fun h => c (onv_eq.mp h)), kn (if_neg c) _ (Same.refl _)⟩
    · intro H' s e
      refine k H' D s nD ?_
      rw [e]
      refine congrArg (fun l => some (HO.lst l)) ?_
      rw [fm_filter (fun i => upp (dsOf rows) (p + 1 + i) = some p) (fun i : Nat => V.int ((p + 1 + i : Nat) : Int)) _ _ fun i _ => rfl, lows_mid ok.v hp2]
      unfold nv
      rw [List.map_map]
      rfl
end
end Bg

set_option Elab.async false
set_option linter.all false
set_option maxRecDepth 100000
set_option maxHeartbeats 4000000
namespace Bg
open PySem PySem.Spec PyProof.Rows L2
/-- the depth a row may have at most -/
def dpAt (ds : List Nat) (i : Nat) : Nat := if i = 0 then 1 else ds.getD (i - 1) 0 + 1
theorem dpAt_ok {ds : List Nat} (V : Valid ds) {i d : Nat} (h : ds[i]? = some d) : 1 ≤ d ∧ d ≤ dpAt ds i ∧ (0 < i → d ≠ 1) ∧ dpAt ds (i + 1) = d + 1 := by
  refine ⟨V.pos h, ?_, ?_, ?_⟩
  · unfold dpAt
    by_cases h0 : i = 0
    · subst h0; rw [V.first] at h; injection h; rw [if_pos rfl]; omega
    · have hl := (List.getElem?_eq_some_iff.mp h).1
      have e : ds[i - 1]? = some ds[i - 1] := List.getElem?_eq_getElem (by omega)
      have := V.next (i - 1) _ d e (by rw [show i - 1 + 1 = i by omega]; exact h)
      rw [if_neg h0, List.getD_eq_getElem?_getD, e]
      show d ≤ ds[i - 1] + 1
      omega
  · intro h0
    have hl := (List.getElem?_eq_some_iff.mp h).1
    have e : ds[i - 1]? = some ds[i - 1] := List.getElem?_eq_getElem (by omega)
    have := V.next (i - 1) _ d e (by rw [show i - 1 + 1 = i by omega]; exact h)
    omega
  · unfold dpAt
    rw [if_neg (by omega), Nat.add_sub_cancel, List.getD_eq_getElem?_getD, h]; rfl
theorem some_map {α β : Type} (l : List α) (h : α → β) : (List.range l.length).filterMap (fun i => l[i]?.map h) = l.map h := fm_get l h _ fun i a e => by rw [e]; rfl
section
variable {P : Program} {w : World} {K : PySem.W.Frag} {mg : Str → Option Value} {base : Heap}
theorem sc_Document_init : FnScope ["self", "rows", "deepest", "number", "row"] ["self", "rows"] (defScope s_Document_init) := ⟨rfl, rfl, rfl, by decide +kernel, rfl, by decide +kernel, by decide +kernel⟩
theorem ok_Document_init (T : Tx K mg) (O_ends_by : Ok P w K mg base 1 at_ends_by ["depths"] (sp_ends_by K)) (O_is_part_row : Ok P w K mg base 3 at_is_part_row ["thing", "deepest"] (sp_is_part_row K)) (O_uppers_by : Ok P w K mg base 1 at_uppers_by ["depths"] (sp_uppers_by K)) : Ok P w K mg base 4 at_Document_init ["self", "rows"] (sp_Document_init K) := by
  refine mkOk T.d_Document_init sc_Document_init (fun _ _ _ _ _ _ us hl => match us, hl with | [_, _], _ => rfl) (fun vs H Q E h => ?_) (fun cdv A outer s H vs Q E hr h => ?_)
  · obtain ⟨a, dx, l, ts, rows, S, H0, rfl, ha, s0, n0, sS, hlS, RS, ok, k⟩ := h; rfl
  · obtain ⟨a, dx, l, ts, rows, S, H0, rfl, ha, s0, n0, sS, hlS, RS, ok, k⟩ := h
    refine ⟨_, (pss_cons (ps_if (PW.pt (pw_or (pt_not (pt_val (pe_callB (kisi (K := K)) (by rfl) T.f_isinstance (by decide +kernel) (pa_cons (pv 1) (pa_cons (pe_bltn (v := .ty "list") (u := .type "list") rfl T.f_list (by decide +kernel) rfl) pa_nil))))) (pw_or1 (pt_cmpR (keqE (K := K) hr.units) (pv 1) (pe_lst pa_nil) (nomark _)))))
        (pss_one ps_never)
        pss_nil)
      (pss_cons (ps_if (pt_cmpR op_gt (pe_callB (klen (K := K)) (by rfl) T.f_len PySem.boot_len (pa_cons (pv 1) pa_nil)) (pgi T.i_MOST_PARTS_document) (nomark _))
        (pss_one ps_never)
        pss_nil)
      (pss_cons (ps_set (i := 2) sc_Document_init.nd rfl (by first | exact Or.inl rfl | exact Or.inr rfl) pe_int)
      (pss_cons (ps_for PassesOwn.never rfl (kenum (K := K) T.f_enumerate (pa_cons (pv 1) pa_nil)) (kgtup (K := K) (n := 2) (pgs_cons (pg_name (i := 3) sc_Document_init.nd rfl (by first | exact Or.inl rfl | exact Or.inr rfl)) (pgs_cons (pg_name (i := 4) sc_Document_init.nd rfl (by first | exact Or.inl rfl | exact Or.inr rfl)) pgs_nil)))
        (pss_cons (ps_if (PW.pt (pw_or (pt_not (pt_val (kfn (K := K) O_is_part_row T.g_is_part_row (hr.mono (by decide)) (pa_cons (pv 4) (pa_cons (pe_callB (call_min2 rfl) (by rfl) T.f_min (by decide +kernel) (pa_cons (pv 2) (pa_cons (pgi T.i_MOST_DEEP_document) pa_nil))) pa_nil))))) (pw_or1 (PW.pt (pw_and (pt_cmpR op_gt (pv 3) pe_int (nomark _)) (pw_and1 (pt_cmpR op_eq (pe_ix (kixT (K := K)) (pv 4) pe_int (fun _ _ => rfl)) pe_int (nomark _))))))))
          (pss_one ps_never)
          pss_nil)
        (pss_one (ps_set (i := 2) sc_Document_init.nd rfl (by first | exact Or.inl rfl | exact Or.inr rfl) (pe_op op_add (pe_ix (kixT (K := K)) (pv 4) pe_int (fun _ _ => rfl)) pe_int)))))
      (pss_cons (kput (K := K) (pv 0) (pe_callTy (ktuple (K := K)) (by rfl) T.f_tuple (by decide +kernel) (pa_cons (pv 1) pa_nil)))
      (pss_cons (kput (K := K) (pv 0) (kfn (K := K) O_ends_by T.g_ends_by (hr.mono (by decide)) (pa_cons (pe_lc (own := [("row", 4)]) (g := gName 4) (tt := tYes) rfl sc_Document_init.nd (kpiL (K := K) (pv 1)) (blkOk_by (by kernel_rfl)) (fun _ _ _ _ _ => (pg_name (i := 4) sc_Document_init.nd rfl (by first | exact Or.inl rfl | exact Or.inr rfl))) (fun _ _ _ _ _ => pts_nil) (fun _ _ _ _ _ => (pe_ix (kixT (K := K)) (pv 4) pe_int (fun _ _ => rfl)))) pa_nil)))
      (pss_one (kput (K := K) (pv 0) (kfn (K := K) O_uppers_by T.g_uppers_by (hr.mono (by decide)) (pa_cons (pe_lc (own := [("row", 4)]) (g := gName 4) (tt := tYes) rfl sc_Document_init.nd (kpiL (K := K) (pv 1)) (blkOk_by (by kernel_rfl)) (fun _ _ _ _ _ => (pg_name (i := 4) sc_Document_init.nd rfl (by first | exact Or.inl rfl | exact Or.inr rfl))) (fun _ _ _ _ _ => pts_nil) (fun _ _ _ _ _ => (pe_ix (kixT (K := K)) (pv 4) pe_int (fun _ _ => rfl)))) pa_nil)))))))))), ?_⟩
    have hl := sS _ _ hlS
    have R := RS.same sS
    have hne : rows ≠ [] := fun h => by have := ok.v.first; rw [h] at this; cases this
    have hlen : (ts.map V.ref).length = rows.length := by rw [List.length_map]; exact R.len
    have hne2 : (ts.map V.ref).isEmpty = false := by
      cases e : ts.map V.ref with
      | nil => rw [e] at hlen; exact absurd (List.length_eq_zero_iff.mp hlen.symm) hne
      | cons _ _ => rfl
    have hmany := ok.many
    refine ⟨_, rfl, isi_of (.base (.lst (s0 _ _ hl))) (r := true) (by decide +kernel) ⟨true, rfl, _, rfl, by decide, fun p np => ⟨l, p, _, rfl, rfl, ne_of_none (s0 _ _ hl) np, SqL.of (upd_at np (s0 _ _ hl)), SqL.of upd_same, false, by rw [hne2], ?_⟩⟩⟩
    refine ⟨_, rfl, l, _, rfl, .inl (SqL.of (upd_at np (s0 _ _ hl))), _, 240, rfl, rfl, false, bf (by rw [hlen]; omega), ?_⟩
    refine ⟨_, rfl, l, ts.map V.ref, rfl, SqL.of (upd_at np (s0 _ _ hl)), ?_⟩
    refine for_it (walk_enum (xs := ts.map V.ref)) (fun i σ H' => ∃ (x3 x4 : Option V), σ = [some (.ref a), some (.ref l), some (.int (dpAt (dsOf rows) i)), x3, x4] ∧ Same H0 H' ∧ H' a = some (.ins (aDocument K) dx [])) ?_ ?_ ?_ ?_
    · exact ⟨none, none, rfl, s0.new np, upd_at np ha⟩
    · rintro i σ H' _ ⟨x3, x4, rfl, s, e⟩
      exact SqL.of (s _ _ hl)
    · rintro i v σ H1 H2 hi ⟨x3, x4, rfl, s, e⟩ ⟨T0, x, y, rfl, nT, rfl, ex, ey⟩
      rw [hlen] at hi
      obtain ⟨t, r, rfl, hr, ht⟩ := R.ref ey
      obtain rfl := Option.some.inj ex
      have ht1 : upd H1 T0 (.tup [.int i, .ref t]) t = _ := upd_at nT (s _ _ ht)
      have hmem : r ∈ rows := List.mem_of_getElem? hr
      obtain ⟨q1, q2, q3, q4⟩ := dpAt_ok ok.v (ds_at hr)
      have q5 := ok.deep r hmem
      refine ⟨T0, _, rfl, SqT.of upd_same, rfl, _, _, rfl, _, _, rfl, rfl, ?_⟩
      refine ⟨_, rfl, _, rfl, _, _, rfl, t, r, _, rfl, ht1, ok.lab r hmem, q1, ?_, fun H' s' => ⟨true, rfl, ?_⟩⟩
      · show (r.2 : Int) ≤ if (80 : Int) < (dpAt (dsOf rows) i : Int) then (80 : Int) else (dpAt (dsOf rows) i : Int)
        split <;> omega
      have fin : (gName 2) (.int ((r.2 : Int) + 1)) [some (.ref a), some (.ref l), some (.int (dpAt (dsOf rows) i)), some (.int (i : Nat)), some (.ref t)] H' fun σ H' => ∃ (x3 x4 : Option V), σ = [some (.ref a), some (.ref l), some (.int (dpAt (dsOf rows) (i + 1))), x3, x4] ∧ Same H0 H' ∧ H' a = some (.ins (aDocument K) dx []) := by
        refine ⟨some (.int (i : Nat)), some (.ref t), ?_, (s.new nT).trans s', s' _ _ (upd_at nT e)⟩
        rw [q4]; rfl
      refine ⟨_, rfl, (i : Nat), 0, rfl, rfl, ?_⟩
      by_cases h0 : 0 < i
      · refine ⟨true, bt (by omega), _, rfl, t, _, _, _, rfl, rfl, SqT.of (s' _ _ ht1), rfl, rfl, false, bf (fun h => q3 h0 ?_), ?_⟩
        · have : (r.2 : Int) = 1 := V.int.inj h
          omega
        · exact ⟨_, rfl, t, _, _, _, rfl, rfl, SqT.of (s' _ _ ht1), rfl, _, 1, rfl, rfl, fin⟩
      · refine ⟨false, bf (by omega), ?_⟩
        exact ⟨_, rfl, t, _, _, _, rfl, rfl, SqT.of (s' _ _ ht1), rfl, _, 1, rfl, rfl, fin⟩
    · rintro σ H1 ⟨x3, x4, rfl, s, e⟩
      refine ⟨_, rfl, l, _, rfl, .inl ⟨SqL.of (s _ _ hl), fun pt npt => ?_⟩⟩
      refine ⟨_, rfl, in_Document_parts T (upd_at npt e) ?_⟩
      have nept : pt ≠ a := (ne_of_none e npt).symm
      have s2 : Same H0 (upd (upd H1 pt (.tup (ts.map V.ref))) a (.ins (aDocument K) dx (fs_Document_1 (.ref pt)))) := (s.new npt).put n0
      have rdep : ∀ (i : Nat) (x : V) (H1 H2 : Hp) (N : V → Hp → Prop) (σ : L2.St), σ.length = 5 → Same H0 H1 → (H2 = H1 ∧ (ts.map V.ref)[i]? = some x) → (∀ y H4, Same H1 H4 → rows[i]?.map (fun r => V.int r.2) = some y → N y H4) →
          tOp (rIxT K) (tVar 4) (tC (.int 1)) (σ.set 4 (some x)) H2 N := by
        rintro i x H1 H2 N σ hσ s ⟨rfl, ex⟩ k
        obtain ⟨t, r, rfl, hr, ht⟩ := R.ref ex
        refine ⟨_, List.getElem?_set_self (by omega), t, _, _, _, rfl, rfl, SqT.of (s _ _ ht), rfl, k _ _ (Same.refl _) (by rw [hr]; rfl)⟩
      have dl : (List.range (ts.map V.ref).length).filterMap (fun i => rows[i]?.map fun r => V.int r.2) = nv (dsOf rows) := by
        rw [hlen, some_map]; unfold nv dsOf; rw [List.map_map]; rfl
      refine ⟨_, rfl, l, rfl, ⟨_, SqL.of (s2 _ _ hl)⟩, fun D nD => ?_⟩
      refine lc_same (walk_list (xs := ts.map V.ref)) (fun i => rows[i]?.map fun r => V.int r.2) nD (by rw [hlen]; exact Nat.le_trans hmany line240) (fun H s => SqL.of ((s2.trans s) _ _ hl)) ?_ ?_
      · rintro i x H1 H2 N N0 hi s y ky kn
        exact ⟨rfl, rdep i x H1 H2 N _ (by rfl) (s2.trans s) y ky⟩
      intro H3 s3 e3
      rw [dl] at e3
      refine ⟨_, _, rfl, e3, ok.v, by rw [dsOf_length]; exact hmany, fun H4 pe s4 npe e4 => ?_⟩
      have e5 : H4 a = some (.ins (aDocument K) dx (fs_Document_1 (.ref pt))) := s4 _ _ (s3 _ _ upd_same)
      refine ⟨_, rfl, in_Document_ends T e5 ?_⟩
      have nepe : pe ≠ a := (ne_of_none (s3 _ _ upd_same) npe).symm
      have s5 := ((s2.trans s3).trans s4).put (o := .ins (aDocument K) dx (fs_Document_2 (.ref pt) (.ref pe))) n0
      refine ⟨_, rfl, l, rfl, ⟨_, SqL.of (s5 _ _ hl)⟩, fun D nD => ?_⟩
      refine lc_same (walk_list (xs := ts.map V.ref)) (fun i => rows[i]?.map fun r => V.int r.2) nD (by rw [hlen]; exact Nat.le_trans hmany line240) (fun H s => SqL.of ((s5.trans s) _ _ hl)) ?_ ?_
      · rintro i x H1 H2 N N0 hi s y ky kn
        exact ⟨rfl, rdep i x H1 H2 N _ (by rfl) (s5.trans s) y ky⟩
      intro H6 s6 e6
      rw [dl] at e6
      refine ⟨_, _, rfl, e6, ok.v, by rw [dsOf_length]; exact hmany, fun H7 pu s7 npu e7 => ?_⟩
      have e8 : H7 a = some (.ins (aDocument K) dx (fs_Document_2 (.ref pt) (.ref pe))) := s7 _ _ (s6 _ _ upd_same)
      refine ⟨_, rfl, in_Document_uppers T e8 ?_⟩
      have nepu : pu ≠ a := (ne_of_none (s6 _ _ upd_same) npu).symm
      have s8 := ((s5.trans s6).trans s7).put (o := .ins (aDocument K) dx (fs_Document (.ref pt) (.ref pe) (.ref pu))) n0
      have npt0 := s.free npt
      have npe0 := s2.free (s3.free npe)
      have npu0 := s5.free (s6.free npu)
      refine k _ s8 ⟨ok, dx, pt, pe, pu, ts, ext_new n0 upd_same, ext_new npt0 ?_, RS.same (ext_old sS), ext_new npe0 ?_, ext_new npu0 ?_⟩
      · rw [upd_ne nept]
        exact s7 _ _ (s6 _ _ (by rw [upd_ne nept]; exact s4 _ _ (s3 _ _ (by rw [upd_ne nept]; exact upd_same))))
      · rw [upd_ne nepe]
        exact s7 _ _ (s6 _ _ (by rw [upd_ne nepe]; exact e4))
      · rw [upd_ne nepu]
        exact e7
end
end Bg

set_option Elab.async false
set_option linter.all false
set_option maxRecDepth 100000
set_option maxHeartbeats 4000000
namespace Bg
open PySem PySem.Spec PyProof.Rows L2
/-! ### steps and questions -/
abbrev wstr (b : Bool) : Str := if b = true then "/" else "//"
abbrev QRow := Bool × Str × Nat
def qtup (r : QRow) : HO := .tup [.str (wstr r.1), .str r.2.1, .int r.2.2]
abbrev aStep (K : PySem.W.Frag) (b : Bool) : Addr := if b = true then aStraight K else aAnywhere K
def StepAt (K : PySem.W.Frag) (H : Hp) (s : Addr) (r : QRow) : Prop := ∃ dx, H s = some (.ins (aStep K r.1) dx [("label", .str r.2.1)])
/-- a list of places, row by row -/
structure Each {α : Type} (P : Addr → α → Prop) (ts : List Addr) (rows : List α) : Prop where
  len : ts.length = rows.length
  at_ : ∀ (i : Nat) (t : Addr) (r : α), ts[i]? = some t → rows[i]? = some r → P t r
theorem Each.imp {α : Type} {P P' : Addr → α → Prop} {ts : List Addr} {rows : List α} (h : Each P ts rows) (i : ∀ t r, P t r → P' t r) : Each P' ts rows := ⟨h.len, fun j t r a b => i _ _ (h.at_ j t r a b)⟩
theorem Each.row {α : Type} {P : Addr → α → Prop} {ts : List Addr} {rows : List α} (h : Each P ts rows) {i : Nat} {r : α} (e : rows[i]? = some r) : ∃ t, ts[i]? = some t ∧ P t r := by
  have hl := (List.getElem?_eq_some_iff.mp e).1
  have hl2 : i < ts.length := by rw [h.len]; exact hl
  exact ⟨ts[i], List.getElem?_eq_getElem hl2, h.at_ i _ r (List.getElem?_eq_getElem hl2) e⟩
theorem Each.ref {α : Type} {P : Addr → α → Prop} {ts : List Addr} {rows : List α} (h : Each P ts rows) {i : Nat} {v : V} (e : (ts.map V.ref)[i]? = some v) : ∃ t r, v = .ref t ∧ rows[i]? = some r ∧ P t r := by
  obtain ⟨t, h1, rfl⟩ := at_ref e
  have hl := (List.getElem?_eq_some_iff.mp h1).1
  have hl2 : i < rows.length := by rw [← h.len]; exact hl
  exact ⟨t, rows[i], rfl, List.getElem?_eq_getElem hl2, h.at_ i t _ h1 (List.getElem?_eq_getElem hl2)⟩
abbrev QRowsAt (H : Hp) (ts : List Addr) (rows : List QRow) : Prop := Each (fun t r => H t = some (qtup r)) ts rows
theorem QRowsAt.same {H H' : Hp} {ts : List Addr} {rows : List QRow} (s : Same H H') (h : QRowsAt H ts rows) : QRowsAt H' ts rows := h.imp fun _ _ e => s _ _ e
structure QRowsOk (rows : List QRow) : Prop where
  v : Valid (rows.map (·.2.2))
  lab : ∀ r ∈ rows, IsLab r.2.1
  deep : ∀ r ∈ rows, r.2.2 ≤ 30
  many : rows.length ≤ 100
structure QAt (K : PySem.W.Frag) (H : Hp) (a : Addr) (q : Qs Str) : Prop where
  ok : QRowsOk q.rows
  ex : ∃ (dx pg ps pe pu : Addr) (ts ss : List Addr), H a = some (.ins (aQuestion K) dx (fs_Question (.ref pg) (.int q.goal) (.ref ps) (.ref pe) (.ref pu))) ∧ H pg = some (.tup (ts.map V.ref)) ∧ QRowsAt H ts q.rows ∧
    H ps = some (.tup (ss.map V.ref)) ∧ Each (StepAt K H) ss q.rows ∧ H pe = some (.lst (nv (endsL q.ds))) ∧ H pu = some (.lst ((upps q.ds).map onv))
theorem QAt.same {K : PySem.W.Frag} {H H' : Hp} {a : Addr} {q : Qs Str} (s : Same H H') (h : QAt K H a q) : QAt K H' a q := by
  obtain ⟨ok, dx, pg, ps, pe, pu, ts, ss, h1, h2, h3, h4, h5, h6, h7⟩ := h
  exact ⟨ok, dx, pg, ps, pe, pu, ts, ss, s _ _ h1, s _ _ h2, h3.same s, s _ _ h4, h5.imp fun _ _ ⟨dx, e⟩ => ⟨dx, s _ _ e⟩, s _ _ h6, s _ _ h7⟩
theorem rd_Step_label {K : PySem.W.Frag} {mg : Str → Option Value} {H : Hp} {p : Addr} {r : QRow} {Q : V → Prop} (T : Tx K mg) (hp : StepAt K H p r) (q : Q (.str r.2.1)) : ∃ a C dx fs v, V.ref p = .ref a ∧ H a = some (.ins C dx fs) ∧ Cls K C ∧ NoAttr K C "label" ∧ fs.lookup ("label" : Str) = some v ∧ Q v := by
  obtain ⟨dx, e⟩ := hp
  cases hb : r.1 with
  | true => rw [hb] at e; exact rd_Straight_label T (v0 := .str r.2.1) e q
  | false => rw [hb] at e; exact rd_Anywhere_label T (v0 := .str r.2.1) e q
theorem way_Step {K : PySem.W.Frag} {H : Hp} {p : Addr} {r : QRow} {Q : V → Prop} (hp : StepAt K H p r) (q : Q (.str (wstr r.1))) : ∃ (a dx : Addr) (fs : List (Str × V)) (st : Bool), V.ref p = .ref a ∧ H a = some (.ins (if st = true then aStraight K else aAnywhere K) dx fs) ∧ fs.lookup ("way" : Str) = none ∧ Q (.str (if st = true then "/" else "//")) := by
  obtain ⟨dx, e⟩ := hp
  exact ⟨p, dx, _, r.1, rfl, e, lkM ne_way_label lkN, q⟩
theorem ways_list {K : PySem.W.Frag} {mg : Str → Option Value} (T : Tx K mg) (H : Hp) : SqL K H (aWAYS K) [.str "/", .str "//"] := by
  have h := T.ex
  unfold exB at h
  simp only [Bool.and_eq_true] at h
  exact He.lstB_ok (vs := [.str "/", .str "//"]) h.1.1.1.1.1 H
def sp_is_step_row (_ : PySem.W.Frag) : Sp := fun vs H Q _ => ∃ (t : Addr) (r : QRow) (deepest : Int), vs = [.ref t, .int deepest] ∧ H t = some (qtup r) ∧ IsLab r.2.1 ∧ 1 ≤ r.2.2 ∧ (r.2.2 : Int) ≤ deepest ∧ ∀ H', Same H H' → Q (.bl true) H'
def sp_Straight_init (K : PySem.W.Frag) : Sp := fun vs H Q _ => ∃ (a dx : Addr) (x : Str), vs = [.ref a, .str x] ∧ H a = some (.ins (aStraight K) dx []) ∧ Q .non (upd H a (.ins (aStraight K) dx [("label", .str x)]))
def sp_Anywhere_init (K : PySem.W.Frag) : Sp := fun vs H Q _ => ∃ (a dx : Addr) (x : Str), vs = [.ref a, .str x] ∧ H a = some (.ins (aAnywhere K) dx []) ∧ Q .non (upd H a (.ins (aAnywhere K) dx [("label", .str x)]))
def sp_step_of (K : PySem.W.Frag) : Sp := fun vs H Q _ => ∃ (r : QRow), vs = [.str (wstr r.1), .str r.2.1] ∧ ∀ H' s, Same H H' → H s = none → StepAt K H' s r → Q (.ref s) H'
def sp_Question_need_step (K : PySem.W.Frag) : Sp := fun vs H Q _ => ∃ (a : Addr) (q : Qs Str) (p : Nat), vs = [.ref a, .int p] ∧ QAt K H a q ∧ p < q.k ∧ Q .non H
def sp_Question_many (K : PySem.W.Frag) : Sp := fun vs H Q _ => ∃ (a : Addr) (q : Qs Str), vs = [.ref a] ∧ QAt K H a q ∧ Q (.int q.k) H
def sp_Question_step_at (K : PySem.W.Frag) : Sp := fun vs H Q _ => ∃ (a : Addr) (q : Qs Str) (p : Nat) (r : QRow), vs = [.ref a, .int p] ∧ QAt K H a q ∧ q.rows[p]? = some r ∧ ∀ s, StepAt K H s r → Q (.ref s) H
def sp_Question_upper_of (K : PySem.W.Frag) : Sp := fun vs H Q _ => ∃ (a : Addr) (q : Qs Str) (p : Nat), vs = [.ref a, .int p] ∧ QAt K H a q ∧ p < q.k ∧ Q (onv (q.up p)) H
def sp_Question_lowers_of (K : PySem.W.Frag) : Sp := fun vs H Q _ => ∃ (a : Addr) (q : Qs Str) (p : Nat), vs = [.ref a, .int p] ∧ QAt K H a q ∧ p < q.k ∧ ∀ H' l, Same H H' → H l = none → H' l = some (.lst (nv (lows q.ds p))) → Q (.ref l) H'
def sp_Question_wanted (K : PySem.W.Frag) : Sp := fun vs H Q _ => ∃ (a : Addr) (q : Qs Str), vs = [.ref a] ∧ QAt K H a q ∧ Q (.int q.goal) H
def sp_Question_init (K : PySem.W.Frag) : Sp := fun vs H Q _ => ∃ (a dx l : Addr) (ts : List Addr) (q : Qs Str) (S H0 : Hp), vs = [.ref a, .ref l, .int q.goal] ∧ H a = some (.ins (aQuestion K) dx []) ∧ Same H0 H ∧ H0 a = none ∧ Same S H0 ∧ S l = some (.lst (ts.map V.ref)) ∧ QRowsAt S ts q.rows ∧ QRowsOk q.rows ∧
  ∀ H', Same H0 H' → QAt K (ext S H0 H') a q → Q .non H'
theorem qds_length (q : Qs Str) : q.ds.length = q.k := List.length_map _
theorem qds_at {rows : List QRow} {i : Nat} {r : QRow} (h : rows[i]? = some r) : (rows.map (·.2.2))[i]? = some r.2.2 := by rw [List.getElem?_map, h]; rfl
section
variable {P : Program} {w : World} {K : PySem.W.Frag} {mg : Str → Option Value} {base : Heap}
theorem sc_is_step_row : FnScope ["thing", "deepest"] ["thing", "deepest"] (defScope s_is_step_row) := ⟨rfl, rfl, rfl, by decide +kernel, rfl, by decide +kernel, by decide +kernel⟩
theorem ok_is_step_row (T : Tx K mg) (O_is_label : Ok P w K mg base 1 at_is_label ["thing"] (sp_is_label K)) (O_is_within : Ok P w K mg base 2 at_is_within ["thing", "low", "high"] (sp_is_within K)) : Ok P w K mg base 3 at_is_step_row ["thing", "deepest"] (sp_is_step_row K) := by
  refine mkOk T.d_is_step_row sc_is_step_row (fun _ _ _ _ _ _ us hl => match us, hl with | [_, _], _ => rfl) (fun vs H Q E h => ?_) (fun cdv A outer s H vs Q E hr h => ?_)
  · obtain ⟨t, r, deepest, rfl, ht, L, h1, h2, k⟩ := h; rfl
  · obtain ⟨t, r, deepest, rfl, ht, L, h1, h2, k⟩ := h
    refine ⟨_, (pss_cons (ps_if (PW.pt (pw_or (pt_not (pt_val (pe_callB (kisi (K := K)) (by rfl) T.f_isinstance (by decide +kernel) (pa_cons (pv 0) (pa_cons (pe_bltn (v := .ty "tuple") (u := .type "tuple") rfl T.f_tuple (by decide +kernel) rfl) pa_nil))))) (pw_or (pt_cmpR op_ne (pe_callB (klen (K := K)) (by rfl) T.f_len PySem.boot_len (pa_cons (pv 0) pa_nil)) pe_int (nomark _)) (pw_or (pt_not (pt_val (pe_callB (kisi (K := K)) (by rfl) T.f_isinstance (by decide +kernel) (pa_cons (pe_ix (kixT (K := K)) (pv 0) pe_int (fun _ _ => rfl)) (pa_cons (pe_bltn (v := .ty "str") (u := .type "str") rfl T.f_str (by decide +kernel) rfl) pa_nil))))) (pw_or1 (pt_cmpR (knotin (K := K)) (pe_ix (kixT (K := K)) (pv 0) pe_int (fun _ _ => rfl)) (pgr T.g_WAYS) (by with_unfolding_all rfl)))))))
        (pss_one (ps_ret pe_bl))
        pss_nil)
      (pss_one (ps_ret (pe_and (kfn (K := K) O_is_label T.g_is_label (hr.mono (by decide)) (pa_cons (pe_ix (kixT (K := K)) (pv 0) pe_int (fun _ _ => rfl)) pa_nil)) (pe_one (kfn (K := K) O_is_within T.g_is_within (hr.mono (by decide)) (pa_cons (pe_ix (kixT (K := K)) (pv 0) pe_int (fun _ _ => rfl)) (pa_cons pe_int (pa_cons (pv 1) pa_nil))))))))), ?_⟩
    refine ⟨_, rfl, isi_of (.base (.tup ht)) (r := true) (by decide +kernel) ⟨true, rfl, ?_⟩⟩
    refine ⟨_, rfl, t, _, rfl, .inr (SqT.of ht), rfl, false, rfl, ?_⟩
    refine ⟨_, rfl, t, _, _, _, rfl, rfl, SqT.of ht, rfl, isi_of (.base (.str _)) (r := true) (by decide +kernel) ⟨true, rfl, ?_⟩⟩
    refine ⟨_, rfl, t, _, _, _, rfl, rfl, SqT.of ht, rfl, _, _, rfl, .inl (ways_list T H), rfl, rfl, false, ?_, ?_⟩
    · cases r.1 <;> decide +kernel
    refine ⟨_, rfl, t, _, _, _, rfl, rfl, SqT.of ht, rfl, r.2.1, rfl, L, fun H' s' => ⟨true, rfl, ?_⟩⟩
    refine ⟨_, rfl, t, _, _, _, rfl, rfl, SqT.of (s' _ _ ht), rfl, _, rfl, (r.2.2 : Int), 1, deepest, rfl, ?_⟩
    rw [decide_eq_true (show (1 : Int) ≤ (r.2.2 : Int) by omega), decide_eq_true h2]
    exact k H' s'
theorem sc_Straight_init : FnScope ["self", "label"] ["self", "label"] (defScope s_Straight_init) := ⟨rfl, rfl, rfl, by decide +kernel, rfl, by decide +kernel, by decide +kernel⟩
theorem ok_Straight_init (T : Tx K mg)  : Ok P w K mg base 1 at_Straight_init ["self", "label"] (sp_Straight_init K) := by
  refine mkOk T.d_Straight_init sc_Straight_init (fun _ _ _ _ _ _ us hl => match us, hl with | [_, _], _ => rfl) (fun vs H Q E h => ?_) (fun cdv A outer s H vs Q E hr h => ?_)
  · obtain ⟨a, dx, x, rfl, ha, k⟩ := h; rfl
  · obtain ⟨a, dx, x, rfl, ha, k⟩ := h
    refine ⟨_, (pss_one (kput (K := K) (pv 0) (pv 1))), ?_⟩
    exact ⟨_, rfl, _, rfl, in_Straight_label T ha k⟩
theorem sc_Anywhere_init : FnScope ["self", "label"] ["self", "label"] (defScope s_Anywhere_init) := ⟨rfl, rfl, rfl, by decide +kernel, rfl, by decide +kernel, by decide +kernel⟩
theorem ok_Anywhere_init (T : Tx K mg)  : Ok P w K mg base 1 at_Anywhere_init ["self", "label"] (sp_Anywhere_init K) := by
  refine mkOk T.d_Anywhere_init sc_Anywhere_init (fun _ _ _ _ _ _ us hl => match us, hl with | [_, _], _ => rfl) (fun vs H Q E h => ?_) (fun cdv A outer s H vs Q E hr h => ?_)
  · obtain ⟨a, dx, x, rfl, ha, k⟩ := h; rfl
  · obtain ⟨a, dx, x, rfl, ha, k⟩ := h
    refine ⟨_, (pss_one (kput (K := K) (pv 0) (pv 1))), ?_⟩
    exact ⟨_, rfl, _, rfl, in_Anywhere_label T ha k⟩
theorem sc_step_of : FnScope ["way", "label"] ["way", "label"] (defScope s_step_of) := ⟨rfl, rfl, rfl, by decide +kernel, rfl, by decide +kernel, by decide +kernel⟩
theorem ok_step_of (T : Tx K mg) (O_Anywhere_init : Ok P w K mg base 1 at_Anywhere_init ["self", "label"] (sp_Anywhere_init K)) (O_Straight_init : Ok P w K mg base 1 at_Straight_init ["self", "label"] (sp_Straight_init K)) : Ok P w K mg base 3 at_step_of ["way", "label"] (sp_step_of K) := by
  refine mkOk T.d_step_of sc_step_of (fun _ _ _ _ _ _ us hl => match us, hl with | [_, _], _ => rfl) (fun vs H Q E h => ?_) (fun cdv A outer s H vs Q E hr h => ?_)
  · obtain ⟨r, rfl, k⟩ := h; rfl
  · obtain ⟨r, rfl, k⟩ := h
    refine ⟨_, (pss_cons (ps_if (pt_cmpR op_eq (pv 0) pe_str (nomark _))
        (pss_one (ps_ret (kmk (K := K) O_Straight_init T.k_Straight T.g_Straight (hr.mono (by decide)) (pa_cons (pv 1) pa_nil))))
        pss_nil)
      (pss_one (ps_ret (kmk (K := K) O_Anywhere_init T.k_Anywhere T.g_Anywhere (hr.mono (by decide)) (pa_cons (pv 1) pa_nil))))), ?_⟩
    refine ⟨_, rfl, ?_⟩
    cases hb : r.1 with
    | true =>
      refine ⟨rfl, true, rfl, _, rfl, fun s dx ns ndx ne => ⟨s, dx, r.2.1, rfl, upd_same, rfl, k _ s (((Same.up ndx).put ns).put ns) ns ⟨dx, ?_⟩⟩⟩
      rw [upd_same, hb]; rfl
    | false =>
      refine ⟨rfl, false, by decide +kernel, _, rfl, fun s dx ns ndx ne => ⟨s, dx, r.2.1, rfl, upd_same, rfl, k _ s (((Same.up ndx).put ns).put ns) ns ⟨dx, ?_⟩⟩⟩
      rw [upd_same, hb]; rfl
theorem sc_Question_need_step : FnScope ["self", "step"] ["self", "step"] (defScope s_Question_need_step) := ⟨rfl, rfl, rfl, by decide +kernel, rfl, by decide +kernel, by decide +kernel⟩
theorem ok_Question_need_step (T : Tx K mg) (O_is_within : Ok P w K mg base 2 at_is_within ["thing", "low", "high"] (sp_is_within K)) : Ok P w K mg base 3 at_Question_need_step ["self", "step"] (sp_Question_need_step K) := by
  refine mkOk T.d_Question_need_step sc_Question_need_step (fun _ _ _ _ _ _ us hl => match us, hl with | [_, _], _ => rfl) (fun vs H Q E h => ?_) (fun cdv A outer s H vs Q E hr h => ?_)
  · obtain ⟨a, q, p, rfl, ⟨ok, dx, pg, ps, pe, pu, ts, ss, h1, h2, h3, h4, h5, h6, h7⟩, hp, k⟩ := h; rfl
  · obtain ⟨a, q, p, rfl, ⟨ok, dx, pg, ps, pe, pu, ts, ss, h1, h2, h3, h4, h5, h6, h7⟩, hp, k⟩ := h
    refine ⟨_, (pss_one (ps_if (pt_not (pt_val (kfn (K := K) O_is_within T.g_is_within (hr.mono (by decide)) (pa_cons (pv 1) (pa_cons pe_int (pa_cons (pe_op op_sub (pe_callB (klen (K := K)) (by rfl) T.f_len PySem.boot_len (pa_cons (kfld (K := K) (pv 0)) pa_nil)) pe_int) pa_nil))))))
        (pss_one ps_never)
        pss_nil)), ?_⟩
    refine ⟨_, rfl, _, rfl, rd_Question_given_rows T h1 ⟨pg, _, rfl, .inr (SqT.of h2), _, 1, rfl, rfl, (p : Int), 0, _, rfl, true, ?_, k⟩⟩
    have hl : (ts.map V.ref).length = q.k := by rw [List.length_map]; exact h3.len
    rw [hl, decide_eq_true (show (0 : Int) ≤ (p : Int) by omega), decide_eq_true (show (p : Int) ≤ (fun i j : Int => i - j) (q.k : Int) 1 by show (p : Int) ≤ (q.k : Int) - 1; omega)]
    rfl
theorem sc_Question_many : FnScope ["self"] ["self"] (defScope s_Question_many) := ⟨rfl, rfl, rfl, by decide +kernel, rfl, by decide +kernel, by decide +kernel⟩
theorem ok_Question_many (T : Tx K mg)  : Ok P w K mg base 1 at_Question_many ["self"] (sp_Question_many K) := by
  refine mkOk T.d_Question_many sc_Question_many (fun _ _ _ _ _ _ us hl => match us, hl with | [_], _ => rfl) (fun vs H Q E h => ?_) (fun cdv A outer s H vs Q E hr h => ?_)
  · obtain ⟨a, q, rfl, ⟨ok, dx, pg, ps, pe, pu, ts, ss, h1, h2, h3, h4, h5, h6, h7⟩, k⟩ := h; rfl
  · obtain ⟨a, q, rfl, ⟨ok, dx, pg, ps, pe, pu, ts, ss, h1, h2, h3, h4, h5, h6, h7⟩, k⟩ := h
    refine ⟨_, (pss_one (ps_ret (pe_callB (klen (K := K)) (by rfl) T.f_len PySem.boot_len (pa_cons (kfld (K := K) (pv 0)) pa_nil)))), ?_⟩
    refine ⟨_, rfl, rd_Question_given_rows T h1 ⟨pg, _, rfl, .inr (SqT.of h2), ?_⟩⟩
    have hl : (ts.map V.ref).length = q.k := by rw [List.length_map]; exact h3.len
    rw [hl]; exact k
theorem sc_Question_step_at : FnScope ["self", "step"] ["self", "step"] (defScope s_Question_step_at) := ⟨rfl, rfl, rfl, by decide +kernel, rfl, by decide +kernel, by decide +kernel⟩
theorem ok_Question_step_at (T : Tx K mg) (O_Question_need_step : Ok P w K mg base 3 at_Question_need_step ["self", "step"] (sp_Question_need_step K)) : Ok P w K mg base 4 at_Question_step_at ["self", "step"] (sp_Question_step_at K) := by
  refine mkOk T.d_Question_step_at sc_Question_step_at (fun _ _ _ _ _ _ us hl => match us, hl with | [_, _], _ => rfl) (fun vs H Q E h => ?_) (fun cdv A outer s H vs Q E hr h => ?_)
  · obtain ⟨a, q, p, r, rfl, D, hp, k⟩ := h; rfl
  · obtain ⟨a, q, p, r, rfl, D, hp, k⟩ := h
    refine ⟨_, (pss_cons (ps_expr (kme (K := K) (pv 0) O_Question_need_step T.c_Question T.m_Question_need_step (hr.mono (by decide)) (pa_cons (pv 1) pa_nil)))
      (pss_one (ps_ret (pe_ix (kixT (K := K)) (kfld (K := K) (pv 0)) (pv 1) (fun _ _ => rfl))))), ?_⟩
    obtain ⟨ok, dx, pg, ps, pe, pu, ts, ss, h1, h2, h3, h4, h5, h6, h7⟩ := id D
    obtain ⟨t, e1, e2⟩ := h5.row hp
    refine ⟨_, rfl, mt_Question_need_step h1 ⟨_, rfl, a, q, p, rfl, D, (List.getElem?_eq_some_iff.mp hp).1, ?_⟩⟩
    refine ⟨_, rfl, rd_Question_steps T h1 ⟨_, rfl, ps, _, _, _, rfl, rfl, SqT.of h4, atI_nat (ref_at e1), k t e2⟩⟩
theorem sc_Question_wanted : FnScope ["self"] ["self"] (defScope s_Question_wanted) := ⟨rfl, rfl, rfl, by decide +kernel, rfl, by decide +kernel, by decide +kernel⟩
theorem ok_Question_wanted (T : Tx K mg)  : Ok P w K mg base 1 at_Question_wanted ["self"] (sp_Question_wanted K) := by
  refine mkOk T.d_Question_wanted sc_Question_wanted (fun _ _ _ _ _ _ us hl => match us, hl with | [_], _ => rfl) (fun vs H Q E h => ?_) (fun cdv A outer s H vs Q E hr h => ?_)
  · obtain ⟨a, q, rfl, ⟨ok, dx, pg, ps, pe, pu, ts, ss, h1, h2, h3, h4, h5, h6, h7⟩, k⟩ := h; rfl
  · obtain ⟨a, q, rfl, ⟨ok, dx, pg, ps, pe, pu, ts, ss, h1, h2, h3, h4, h5, h6, h7⟩, k⟩ := h
    refine ⟨_, (pss_one (ps_ret (kfld (K := K) (pv 0)))), ?_⟩
    exact ⟨_, rfl, rd_Question_goal T h1 k⟩
theorem sc_Question_upper_of : FnScope ["self", "step"] ["self", "step"] (defScope s_Question_upper_of) := ⟨rfl, rfl, rfl, by decide +kernel, rfl, by decide +kernel, by decide +kernel⟩
theorem ok_Question_upper_of (T : Tx K mg) (O_Question_need_step : Ok P w K mg base 3 at_Question_need_step ["self", "step"] (sp_Question_need_step K)) : Ok P w K mg base 4 at_Question_upper_of ["self", "step"] (sp_Question_upper_of K) := by
  refine mkOk T.d_Question_upper_of sc_Question_upper_of (fun _ _ _ _ _ _ us hl => match us, hl with | [_, _], _ => rfl) (fun vs H Q E h => ?_) (fun cdv A outer s H vs Q E hr h => ?_)
  · obtain ⟨a, q, p, rfl, D, hp, k⟩ := h; rfl
  · obtain ⟨a, q, p, rfl, D, hp, k⟩ := h
    refine ⟨_, (pss_cons (ps_expr (kme (K := K) (pv 0) O_Question_need_step T.c_Question T.m_Question_need_step (hr.mono (by decide)) (pa_cons (pv 1) pa_nil)))
      (pss_one (ps_ret (pe_ix (kixL (K := K)) (kfld (K := K) (pv 0)) (pv 1) (fun _ _ => rfl))))), ?_⟩
    obtain ⟨ok, dx, pg, ps, pe, pu, ts, ss, h1, h2, h3, h4, h5, h6, h7⟩ := id D
    refine ⟨_, rfl, mt_Question_need_step h1 ⟨_, rfl, a, q, p, rfl, D, hp, ?_⟩⟩
    refine ⟨_, rfl, rd_Question_uppers T h1 ⟨_, rfl, pu, _, _, _, rfl, rfl, SqL.of h7, atI_nat (onv_at (upps_at (by rw [qds_length]; exact hp))), k⟩⟩
theorem sc_Question_lowers_of : FnScope ["self", "step", "other"] ["self", "step"] (defScope s_Question_lowers_of) := ⟨rfl, rfl, rfl, by decide +kernel, rfl, by decide +kernel, by decide +kernel⟩
theorem ok_Question_lowers_of (T : Tx K mg) (O_Question_need_step : Ok P w K mg base 3 at_Question_need_step ["self", "step"] (sp_Question_need_step K)) : Ok P w K mg base 4 at_Question_lowers_of ["self", "step"] (sp_Question_lowers_of K) := by
  refine mkOk T.d_Question_lowers_of sc_Question_lowers_of (fun _ _ _ _ _ _ us hl => match us, hl with | [_, _], _ => rfl) (fun vs H Q E h => ?_) (fun cdv A outer s H vs Q E hr h => ?_)
  · obtain ⟨a, q, p, rfl, D, hp, k⟩ := h; rfl
  · obtain ⟨a, q, p, rfl, D, hp, k⟩ := h
    refine ⟨_, (pss_cons (ps_expr (kme (K := K) (pv 0) O_Question_need_step T.c_Question T.m_Question_need_step (hr.mono (by decide)) (pa_cons (pv 1) pa_nil)))
      (pss_one (ps_ret (pe_lc (own := [("other", 2)]) (g := gName 2) (tt := _) rfl sc_Question_lowers_of.nd (pi_range2 (by rfl) T.f_range (pa_cons (pe_op op_add (pv 1) pe_int) (pa_cons (pe_op op_add (pe_ix (kixL (K := K)) (kfld (K := K) (pv 0)) (pv 1) (fun _ _ => rfl)) pe_int) pa_nil))) (blkOk_by (by kernel_rfl)) (fun _ _ _ _ _ => (pg_name (i := 2) sc_Question_lowers_of.nd rfl (by first | exact Or.inl rfl | exact Or.inr rfl))) (fun _ _ _ _ _ => (pts_one (pt_cmpR op_eq (pe_ix (kixL (K := K)) (kfld (K := K) (pv 0)) (pv 2) (fun _ _ => rfl)) (pv 1) (nomark _)))) (fun _ _ _ _ _ => (pv 2)))))), ?_⟩
    obtain ⟨ok, dx, pg, ps, pe, pu, ts, ss, h1, h2, h3, h4, h5, h6, h7⟩ := id D
    refine ⟨_, rfl, mt_Question_need_step h1 ⟨_, rfl, a, q, p, rfl, D, hp, ?_⟩⟩
    have hn : q.k ≤ 240 := Nat.le_trans ok.many (by decide)
    have hp2 : p < q.ds.length := by rw [qds_length]; exact hp
    have he := endAt_lt hp2
    have hle := le_endAt q.ds p
    rw [qds_length] at he
    refine ⟨_, rfl, _, 1, rfl, rfl, _, rfl, rd_Question_ends T h1 ⟨_, rfl, pe, _, _, _, rfl, rfl, SqL.of h6, atI_nat (nv_at (endsL_at (by rw [qds_length]; exact hp))), _, 1, rfl, rfl, _, _, rfl, ⟨by omega, by omega, by omega, by omega⟩, fun D nD => ?_⟩⟩
    have em : (((fun i j : Int => i + j) (endAt q.ds p) 1) - ((fun i j : Int => i + j) (p : Int) 1)).toNat = endAt q.ds p - p := by
      show (((endAt q.ds p : Nat) : Int) + 1 - ((p : Int) + 1)).toNat = _
      omega
    rw [em]
    refine lc_same walk_range (fun i => if upp q.ds (p + 1 + i) = some p then some (.int ((p + 1 + i : Nat) : Int)) else none) nD (Nat.le_trans (by omega) line240) (fun H s => trivial) ?_ ?_
    · rintro i v H1 H2 N N0 hi s ⟨rfl, ev⟩ ky kn
      obtain rfl : v = V.int ((p + 1 + i : Nat) : Int) := by
        rw [ev]
        show V.int ((p : Int) + 1 + (i : Nat)) = _
        congr 1
      refine ⟨rfl, _, rfl, rd_Question_uppers T (s _ _ h1) ⟨_, rfl, pu, _, _, _, rfl, rfl, SqL.of (s _ _ h7), atI_nat (onv_at (upps_at (p := p + 1 + i) (by rw [qds_length]; omega))), _, rfl, ?_⟩⟩
      have hs : scal (onv (upp q.ds (p + 1 + i))) (.int p) = true := by cases upp q.ds (p + 1 + i) <;> rfl
      by_cases c : upp q.ds (p + 1 + i) = some p
      · exact ⟨hs, true, bt (onv_eq.mpr c), _, rfl, ky _ _ (Same.refl _) (if_pos c)⟩
      · exact ⟨hs, false, bf (fun h => c (onv_eq.mp h)), kn (if_neg c) _ (Same.refl _)⟩
    · intro H' s e
      refine k H' D s nD ?_
      rw [e]
      refine congrArg (fun l => some (HO.lst l)) ?_
      rw [fm_filter (fun i => upp q.ds (p + 1 + i) = some p) (fun i : Nat => V.int ((p + 1 + i : Nat) : Int)) _ _ fun i _ => rfl, lows_mid q.ok hp2]
      unfold nv
      rw [List.map_map]
      rfl
end
end Bg

set_option Elab.async false
set_option linter.all false
set_option maxRecDepth 100000
set_option maxHeartbeats 4000000
namespace Bg
open PySem PySem.Spec PyProof.Rows L2
/-- a comprehension that lays, its items told by a relation that stays -/
theorem lc_each {J : It} {n : Nat} {G : Hp → Prop} {Y : Nat → Hp → V → Hp → Prop} (w : Walk J n G Y) {g : TG} {te : TE} {vs : List Nat} {σ : L2.St} {H1 : Hp} {D : Addr} {Qd : Hp → Prop} {α : Type} (rows : List α) (P : Hp → Addr → α → Prop) (nD : H1 D = none)
    (hP : ∀ H H' t r, Same H H' → P H t r → P H' t r) (hD : ∀ H t r acc acc', H D = some (.lst acc) → P H t r → P (upd H D (.lst acc')) t r) (hl : rows.length = n) (hn : n ≤ sizeLine) (hG : ∀ H, Same H1 H → G H)
    (hs : ∀ (i : Nat) (r : α) (x : V) (H H' : Hp) (N : V → Hp → Prop), rows[i]? = some r → H D ≠ none → Same H1 H → Y i H x H' → (∀ t H4, Same H H4 → P H4 t r → N (.ref t) H4) →
      g x (wipe σ vs) H' fun σ2 H2 => wipe σ2 vs = wipe σ vs ∧ te σ2 H2 N)
    (hd : ∀ H ts, Same H1 H → H D = some (.lst (ts.map V.ref)) → Each (P H) ts rows → Qd H) :
    ∃ W : Nat → Nat → Hp → Prop, (∃ m, W 0 m (upd H1 D (.lst []))) ∧ ∀ i m H, W i m H →
      (J.stop i H ∧ Qd H) ∨ (J.go i H ∧ ∃ Nx : Hp → Prop, (∀ H', Nx H' → ∃ m', m' < m ∧ W (i + 1) m' H') ∧ ∀ x H', J.yld i H x H' → g x (wipe σ vs) H' fun σ2 H2 => wipe σ2 vs = wipe σ vs ∧ tYes σ2 H2 fun b H3 =>
        if b = true then te σ2 H3 fun y H4 => ∃ acc, H4 D = some (.lst acc) ∧ acc.length < sizeLine ∧ Nx (upd H4 D (.lst (acc ++ [y]))) else Nx H3) := by
  refine lc_it w (fun i H => Same H1 H ∧ ∃ ts : List Addr, H D = some (.lst (ts.map V.ref)) ∧ ts.length = i ∧ ∀ (j : Nat) (t : Addr) (r : α), ts[j]? = some t → rows[j]? = some r → P H t r) ⟨Same.up nD, [], upd_same, rfl, fun _ _ _ h => by simp at h⟩ (fun _ H _ h => hG H h.1) ?_ ?_
  · rintro i x H H' hi ⟨s, ts, e, el, p⟩ y
    have hr : rows[i]? = some (rows[i]'(by omega)) := List.getElem?_eq_getElem (by omega)
    refine hs i _ x H H' _ hr (by rw [e]; exact fun z => by cases z) s y fun t H4 s4 pt => ?_
    refine ⟨_, s4 _ _ e, by rw [List.length_map, el]; exact Nat.lt_of_lt_of_le hi hn, (s.trans s4).put nD, ts ++ [t], ?_, by rw [List.length_append, el]; rfl, fun j t' r' h1 h2 => ?_⟩
    · rw [upd_same, List.map_append]; rfl
    · by_cases hj : j < ts.length
      · rw [List.getElem?_append_left hj] at h1
        exact hD _ _ _ _ _ (s4 _ _ e) (hP _ _ _ _ s4 (p j t' r' h1 h2))
      · rw [List.getElem?_append_right (by omega)] at h1
        have h0 : j - ts.length = 0 := by
          have := (List.getElem?_eq_some_iff.mp h1).1
          simp at this; omega
        rw [h0] at h1
        obtain rfl : t = t' := by simpa using h1
        obtain rfl : j = i := by omega
        rw [hr] at h2
        obtain rfl := Option.some.inj h2
        exact hD _ _ _ _ _ (s4 _ _ e) pt
  · rintro H ⟨s, ts, e, el, p⟩
    exact hd H ts s e ⟨by omega, p⟩
section
variable {P : Program} {w : World} {K : PySem.W.Frag} {mg : Str → Option Value} {base : Heap}
theorem sc_Question_init : FnScope ["self", "rows", "wanted", "deepest", "number", "row"] ["self", "rows", "wanted"] (defScope s_Question_init) := ⟨rfl, rfl, rfl, by decide +kernel, rfl, by decide +kernel, by decide +kernel⟩
theorem ok_Question_init (T : Tx K mg) (O_ends_by : Ok P w K mg base 1 at_ends_by ["depths"] (sp_ends_by K)) (O_is_step_row : Ok P w K mg base 3 at_is_step_row ["thing", "deepest"] (sp_is_step_row K)) (O_is_within : Ok P w K mg base 2 at_is_within ["thing", "low", "high"] (sp_is_within K)) (O_step_of : Ok P w K mg base 3 at_step_of ["way", "label"] (sp_step_of K)) (O_uppers_by : Ok P w K mg base 1 at_uppers_by ["depths"] (sp_uppers_by K)) : Ok P w K mg base 4 at_Question_init ["self", "rows", "wanted"] (sp_Question_init K) := by
  refine mkOk T.d_Question_init sc_Question_init (fun _ _ _ _ _ _ us hl => match us, hl with | [_, _, _], _ => rfl) (fun vs H Q E h => ?_) (fun cdv A outer s H vs Q E hr h => ?_)
  · obtain ⟨a, dx, l, ts, q, S, H0, rfl, ha, s0, n0, sS, hlS, RS, ok, k⟩ := h; rfl
  · obtain ⟨a, dx, l, ts, q, S, H0, rfl, ha, s0, n0, sS, hlS, RS, ok, k⟩ := h
    refine ⟨_, (pss_cons (ps_if (PW.pt (pw_or (pt_not (pt_val (pe_callB (kisi (K := K)) (by rfl) T.f_isinstance (by decide +kernel) (pa_cons (pv 1) (pa_cons (pe_bltn (v := .ty "list") (u := .type "list") rfl T.f_list (by decide +kernel) rfl) pa_nil))))) (pw_or1 (pt_cmpR (keqE (K := K) hr.units) (pv 1) (pe_lst pa_nil) (nomark _)))))
        (pss_one ps_never)
        pss_nil)
      (pss_cons (ps_if (pt_cmpR op_gt (pe_callB (klen (K := K)) (by rfl) T.f_len PySem.boot_len (pa_cons (pv 1) pa_nil)) (pgi T.i_MOST_STEPS) (nomark _))
        (pss_one ps_never)
        pss_nil)
      (pss_cons (ps_set (i := 3) sc_Question_init.nd rfl (by first | exact Or.inl rfl | exact Or.inr rfl) pe_int)
      (pss_cons (ps_for PassesOwn.never rfl (kenum (K := K) T.f_enumerate (pa_cons (pv 1) pa_nil)) (kgtup (K := K) (n := 2) (pgs_cons (pg_name (i := 4) sc_Question_init.nd rfl (by first | exact Or.inl rfl | exact Or.inr rfl)) (pgs_cons (pg_name (i := 5) sc_Question_init.nd rfl (by first | exact Or.inl rfl | exact Or.inr rfl)) pgs_nil)))
        (pss_cons (ps_if (PW.pt (pw_or (pt_not (pt_val (kfn (K := K) O_is_step_row T.g_is_step_row (hr.mono (by decide)) (pa_cons (pv 5) (pa_cons (pe_callB (call_min2 rfl) (by rfl) T.f_min (by decide +kernel) (pa_cons (pv 3) (pa_cons (pgi T.i_MOST_DEEP_question) pa_nil))) pa_nil))))) (pw_or1 (PW.pt (pw_and (pt_cmpR op_gt (pv 4) pe_int (nomark _)) (pw_and1 (pt_cmpR op_eq (pe_ix (kixT (K := K)) (pv 5) pe_int (fun _ _ => rfl)) pe_int (nomark _))))))))
          (pss_one ps_never)
          pss_nil)
        (pss_one (ps_set (i := 3) sc_Question_init.nd rfl (by first | exact Or.inl rfl | exact Or.inr rfl) (pe_op op_add (pe_ix (kixT (K := K)) (pv 5) pe_int (fun _ _ => rfl)) pe_int)))))
      (pss_cons (ps_if (pt_not (pt_val (kfn (K := K) O_is_within T.g_is_within (hr.mono (by decide)) (pa_cons (pv 2) (pa_cons pe_int (pa_cons (pe_op op_sub (pe_callB (klen (K := K)) (by rfl) T.f_len PySem.boot_len (pa_cons (pv 1) pa_nil)) pe_int) pa_nil))))))
        (pss_one ps_never)
        pss_nil)
      (pss_cons (kput (K := K) (pv 0) (pe_callTy (ktuple (K := K)) (by rfl) T.f_tuple (by decide +kernel) (pa_cons (pv 1) pa_nil)))
      (pss_cons (kput (K := K) (pv 0) (pv 2))
      (pss_cons (kput (K := K) (pv 0) (pe_callTy (ktuple (K := K)) (by rfl) T.f_tuple (by decide +kernel) (pa_cons (pe_lc (own := [("row", 5)]) (g := gName 5) (tt := tYes) rfl sc_Question_init.nd (kpiL (K := K) (pv 1)) (blkOk_by (by kernel_rfl)) (fun _ _ _ _ _ => (pg_name (i := 5) sc_Question_init.nd rfl (by first | exact Or.inl rfl | exact Or.inr rfl))) (fun _ _ _ _ _ => pts_nil) (fun _ _ _ _ _ => (kfn (K := K) O_step_of T.g_step_of (hr.mono (by decide)) (pa_cons (pe_ix (kixT (K := K)) (pv 5) pe_int (fun _ _ => rfl)) (pa_cons (pe_ix (kixT (K := K)) (pv 5) pe_int (fun _ _ => rfl)) pa_nil))))) pa_nil)))
      (pss_cons (kput (K := K) (pv 0) (kfn (K := K) O_ends_by T.g_ends_by (hr.mono (by decide)) (pa_cons (pe_lc (own := [("row", 5)]) (g := gName 5) (tt := tYes) rfl sc_Question_init.nd (kpiL (K := K) (pv 1)) (blkOk_by (by kernel_rfl)) (fun _ _ _ _ _ => (pg_name (i := 5) sc_Question_init.nd rfl (by first | exact Or.inl rfl | exact Or.inr rfl))) (fun _ _ _ _ _ => pts_nil) (fun _ _ _ _ _ => (pe_ix (kixT (K := K)) (pv 5) pe_int (fun _ _ => rfl)))) pa_nil)))
      (pss_one (kput (K := K) (pv 0) (kfn (K := K) O_uppers_by T.g_uppers_by (hr.mono (by decide)) (pa_cons (pe_lc (own := [("row", 5)]) (g := gName 5) (tt := tYes) rfl sc_Question_init.nd (kpiL (K := K) (pv 1)) (blkOk_by (by kernel_rfl)) (fun _ _ _ _ _ => (pg_name (i := 5) sc_Question_init.nd rfl (by first | exact Or.inl rfl | exact Or.inr rfl))) (fun _ _ _ _ _ => pts_nil) (fun _ _ _ _ _ => (pe_ix (kixT (K := K)) (pv 5) pe_int (fun _ _ => rfl)))) pa_nil))))))))))))), ?_⟩
    have hl := sS _ _ hlS
    have R := RS.same sS
    have hne : q.rows ≠ [] := fun h => by have := ok.v.first; rw [h] at this; cases this
    have hlen : (ts.map V.ref).length = q.rows.length := by rw [List.length_map]; exact R.len
    have hne2 : (ts.map V.ref).isEmpty = false := by
      cases e : ts.map V.ref with
      | nil => rw [e] at hlen; exact absurd (List.length_eq_zero_iff.mp hlen.symm) hne
      | cons _ _ => rfl
    have hmany := ok.many
    refine ⟨_, rfl, isi_of (.base (.lst (s0 _ _ hl))) (r := true) (by decide +kernel) ⟨true, rfl, _, rfl, by decide, fun p np => ⟨l, p, _, rfl, rfl, ne_of_none (s0 _ _ hl) np, SqL.of (upd_at np (s0 _ _ hl)), SqL.of upd_same, false, by rw [hne2], ?_⟩⟩⟩
    refine ⟨_, rfl, l, _, rfl, .inl (SqL.of (upd_at np (s0 _ _ hl))), _, 100, rfl, rfl, false, bf (by rw [hlen]; omega), ?_⟩
    refine ⟨_, rfl, l, ts.map V.ref, rfl, SqL.of (upd_at np (s0 _ _ hl)), ?_⟩
    refine for_it (walk_enum (xs := ts.map V.ref)) (fun i σ H' => ∃ (x3 x4 : Option V), σ = [some (.ref a), some (.ref l), some (.int q.goal), some (.int (dpAt q.ds i)), x3, x4] ∧ Same H0 H' ∧ H' a = some (.ins (aQuestion K) dx [])) ?_ ?_ ?_ ?_
    · exact ⟨none, none, rfl, s0.new np, upd_at np ha⟩
    · rintro i σ H' _ ⟨x3, x4, rfl, s, e⟩
      exact SqL.of (s _ _ hl)
    · rintro i v σ H1 H2 hi ⟨x3, x4, rfl, s, e⟩ ⟨T0, x, y, rfl, nT, rfl, ex, ey⟩
      rw [hlen] at hi
      obtain ⟨t, r, rfl, hr, ht⟩ := R.ref ey
      obtain rfl := Option.some.inj ex
      have ht1 : upd H1 T0 (.tup [.int i, .ref t]) t = _ := upd_at nT (s _ _ ht)
      have hmem : r ∈ q.rows := List.mem_of_getElem? hr
      obtain ⟨q1, q2, q3, q4⟩ := dpAt_ok (ds := q.ds) ok.v (qds_at hr)
      have q5 := ok.deep r hmem
      refine ⟨T0, _, rfl, SqT.of upd_same, rfl, _, _, rfl, _, _, rfl, rfl, ?_⟩
      refine ⟨_, rfl, _, rfl, _, _, rfl, t, r, _, rfl, ht1, ok.lab r hmem, q1, ?_, fun H' s' => ⟨true, rfl, ?_⟩⟩
      · show (r.2.2 : Int) ≤ if (30 : Int) < (dpAt q.ds i : Int) then (30 : Int) else (dpAt q.ds i : Int)
        split <;> omega
      have fin : (gName 3) (.int ((r.2.2 : Int) + 1)) [some (.ref a), some (.ref l), some (.int q.goal), some (.int (dpAt q.ds i)), some (.int (i : Nat)), some (.ref t)] H' fun σ H' => ∃ (x3 x4 : Option V), σ = [some (.ref a), some (.ref l), some (.int q.goal), some (.int (dpAt q.ds (i + 1))), x3, x4] ∧ Same H0 H' ∧ H' a = some (.ins (aQuestion K) dx []) := by
        refine ⟨some (.int (i : Nat)), some (.ref t), ?_, (s.new nT).trans s', s' _ _ (upd_at nT e)⟩
        rw [q4]; rfl
      refine ⟨_, rfl, (i : Nat), 0, rfl, rfl, ?_⟩
      by_cases h0 : 0 < i
      · refine ⟨true, bt (by omega), _, rfl, t, _, _, _, rfl, rfl, SqT.of (s' _ _ ht1), rfl, rfl, false, bf (fun h => q3 h0 ?_), ?_⟩
        · have : (r.2.2 : Int) = 1 := V.int.inj h
          omega
        · exact ⟨_, rfl, t, _, _, _, rfl, rfl, SqT.of (s' _ _ ht1), rfl, _, 1, rfl, rfl, fin⟩
      · refine ⟨false, bf (by omega), ?_⟩
        exact ⟨_, rfl, t, _, _, _, rfl, rfl, SqT.of (s' _ _ ht1), rfl, _, 1, rfl, rfl, fin⟩
    · rintro σ H1 ⟨x3, x4, rfl, s, e⟩
      have hg := q.lt
      refine ⟨_, rfl, _, rfl, l, _, rfl, .inl (SqL.of (s _ _ hl)), _, 1, rfl, rfl, (q.goal : Int), 0, _, rfl, true, ?_, ?_⟩
      · rw [hlen, decide_eq_true (show (0 : Int) ≤ (q.goal : Int) by omega), decide_eq_true (show (q.goal : Int) ≤ (fun i j : Int => i - j) (q.rows.length : Int) 1 by show (q.goal : Int) ≤ (q.rows.length : Int) - 1; omega)]
        rfl
      refine ⟨_, rfl, l, _, rfl, .inl ⟨SqL.of (s _ _ hl), fun pt npt => ?_⟩⟩
      refine ⟨_, rfl, in_Question_given_rows T (upd_at npt e) ?_⟩
      have nept : pt ≠ a := (ne_of_none e npt).symm
      have s1 : Same H0 (upd (upd H1 pt (.tup (ts.map V.ref))) a (.ins (aQuestion K) dx (fs_Question_1 (.ref pt)))) := (s.new npt).put n0
      refine ⟨_, rfl, _, rfl, in_Question_goal T upd_same ?_⟩
      rw [upd_upd]
      have s2 : Same H0 (upd (upd H1 pt (.tup (ts.map V.ref))) a (.ins (aQuestion K) dx (fs_Question_2 (.ref pt) (.int q.goal)))) := (s.new npt).put n0
      have g2 : (upd (upd H1 pt (.tup (ts.map V.ref))) a (.ins (aQuestion K) dx (fs_Question_2 (.ref pt) (.int q.goal)))) pt = some (.tup (ts.map V.ref)) := by rw [upd_ne nept]; exact upd_same
      generalize hH2 : (upd (upd H1 pt (.tup (ts.map V.ref))) a (.ins (aQuestion K) dx (fs_Question_2 (.ref pt) (.int q.goal)))) = H2 at s2 g2
      have a2 : H2 a = some (.ins (aQuestion K) dx (fs_Question_2 (.ref pt) (.int q.goal))) := by rw [← hH2]; exact upd_same
      clear hH2
      refine ⟨_, rfl, l, rfl, ⟨_, SqL.of (s2 _ _ hl)⟩, fun D nD => ?_⟩
      have line : q.rows.length ≤ sizeLine := Nat.le_trans hmany (by decide)
      refine lc_each (walk_list (xs := ts.map V.ref)) q.rows (fun H t r => H0 t = none ∧ StepAt K H t r) nD (fun _ _ _ _ s ⟨n0, dx, e⟩ => ⟨n0, dx, s _ _ e⟩) (fun H t r acc acc' e ⟨n0, dx, e2⟩ => ⟨n0, dx, by rw [upd_ne (fun h => by rw [h, e] at e2; cases e2)]; exact e2⟩) hlen.symm (by rw [hlen]; exact line) (fun H s => SqL.of ((s2.trans s) _ _ hl)) ?_ ?_
      · rintro i r x H1 H2 N hr _ s ⟨rfl, ex⟩ ky
        obtain ⟨t, r', rfl, hr', ht⟩ := R.ref ex
        rw [hr] at hr'
        obtain rfl := Option.some.inj hr'
        have ht' : H2 t = some (.tup [.str (wstr r.1), .str r.2.1, .int r.2.2]) := s _ _ (s2 _ _ ht)
        exact ⟨rfl, _, rfl, t, _, _, _, rfl, rfl, SqT.of ht', rfl, _, rfl, t, _, _, _, rfl, rfl, SqT.of ht', rfl, r, rfl, fun H4 t4 s4 n4 st => ky t4 H4 s4 ⟨(s2.trans s).free n4, st⟩⟩
      rintro H3 ss s3 e3 hss
      refine ⟨D, _, rfl, .inl ⟨SqL.of e3, fun ps nps => ?_⟩⟩
      refine ⟨_, rfl, in_Question_steps T (upd_at nps (s3 _ _ a2)) ?_⟩
      have neps : ps ≠ a := (ne_of_none (s3 _ _ a2) nps).symm
      have s4 : Same H0 (upd (upd H3 ps (.tup (ss.map V.ref))) a (.ins (aQuestion K) dx (fs_Question_3 (.ref pt) (.int q.goal) (.ref ps)))) := ((s2.trans s3).new nps).put n0
      have p4 : (upd (upd H3 ps (.tup (ss.map V.ref))) a (.ins (aQuestion K) dx (fs_Question_3 (.ref pt) (.int q.goal) (.ref ps)))) pt = some (.tup (ts.map V.ref)) := by rw [upd_ne nept]; exact upd_at nps (s3 _ _ g2)
      have q4 : (upd (upd H3 ps (.tup (ss.map V.ref))) a (.ins (aQuestion K) dx (fs_Question_3 (.ref pt) (.int q.goal) (.ref ps)))) ps = some (.tup (ss.map V.ref)) := by rw [upd_ne neps]; exact upd_same
      have ea3 := s3 _ _ a2
      have hne3 : ∀ t r, StepAt K H3 t r → t ≠ a := by
        rintro t r ⟨dx', e'⟩ rfl
        rw [ea3] at e'
        have e1 := congrArg (fun o : Option HO => match o with | some (.ins _ _ fs) => fs.length | _ => 0) e'
        exact absurd e1 (by show ¬ (2 = 1); decide)
      have r4n : Each (fun t r => H0 t = none ∧ StepAt K (upd (upd H3 ps (.tup (ss.map V.ref))) a (.ins (aQuestion K) dx (fs_Question_3 (.ref pt) (.int q.goal) (.ref ps)))) t r) ss q.rows := hss.imp fun t r h => by
        have hn := hne3 t r h.2
        obtain ⟨n0', dx', e'⟩ := h
        exact ⟨n0', dx', by rw [upd_ne hn]; exact upd_at nps e'⟩
      have rdep : ∀ (i : Nat) (x : V) (H1 H2 : Hp) (N : V → Hp → Prop) (σ : L2.St), σ.length = 6 → Same H0 H1 → (H2 = H1 ∧ (ts.map V.ref)[i]? = some x) → (∀ y H4, Same H1 H4 → q.rows[i]?.map (fun r => V.int r.2.2) = some y → N y H4) →
          tOp (rIxT K) (tVar 5) (tC (.int 2)) (σ.set 5 (some x)) H2 N := by
        rintro i x H1 H2 N σ hσ s ⟨rfl, ex⟩ k
        obtain ⟨t, r, rfl, hr, ht⟩ := R.ref ex
        have ht' : H2 t = some (.tup [.str (wstr r.1), .str r.2.1, .int r.2.2]) := s _ _ ht
        refine ⟨_, List.getElem?_set_self (by omega), t, _, _, _, rfl, rfl, SqT.of ht', rfl, k _ _ (Same.refl _) (by rw [hr]; rfl)⟩
      have dl : (List.range (ts.map V.ref).length).filterMap (fun i => q.rows[i]?.map fun r => V.int r.2.2) = nv q.ds := by
        rw [hlen, some_map]; unfold nv; rw [List.map_map]; rfl
      have lds : q.ds.length ≤ 240 := by rw [List.length_map]; exact Nat.le_trans hmany (by decide)
      generalize hH4 : (upd (upd H3 ps (.tup (ss.map V.ref))) a (.ins (aQuestion K) dx (fs_Question_3 (.ref pt) (.int q.goal) (.ref ps)))) = H4 at s4 p4 q4 r4n
      have a4 : H4 a = some (.ins (aQuestion K) dx (fs_Question_3 (.ref pt) (.int q.goal) (.ref ps))) := by rw [← hH4]; exact upd_same
      clear hH4
      refine ⟨_, rfl, l, rfl, ⟨_, SqL.of (s4 _ _ hl)⟩, fun D nD => ?_⟩
      refine lc_same (walk_list (xs := ts.map V.ref)) (fun i => q.rows[i]?.map fun r => V.int r.2.2) nD (by rw [hlen]; exact line) (fun H s => SqL.of ((s4.trans s) _ _ hl)) ?_ ?_
      · rintro i x H1 H2 N N0 hi s y ky kn
        exact ⟨rfl, rdep i x H1 H2 N _ (by rfl) (s4.trans s) y ky⟩
      intro H5 s5 e5
      rw [dl] at e5
      refine ⟨_, _, rfl, e5, ok.v, lds, fun H6 pe s6 npe e6 => ?_⟩
      have a6 := s6 _ _ (s5 _ _ a4)
      refine ⟨_, rfl, in_Question_ends T a6 ?_⟩
      have nepe : pe ≠ a := (ne_of_none (s5 _ _ a4) npe).symm
      have s7 := ((s4.trans s5).trans s6).put (o := .ins (aQuestion K) dx (fs_Question_4 (.ref pt) (.int q.goal) (.ref ps) (.ref pe))) n0
      have k7 : ∀ b u, b ≠ a → H4 b = some u → upd H6 a (.ins (aQuestion K) dx (fs_Question_4 (.ref pt) (.int q.goal) (.ref ps) (.ref pe))) b = some u := fun b u hb e => by rw [upd_ne hb]; exact s6 _ _ (s5 _ _ e)
      refine ⟨_, rfl, l, rfl, ⟨_, SqL.of (s7 _ _ hl)⟩, fun D nD => ?_⟩
      refine lc_same (walk_list (xs := ts.map V.ref)) (fun i => q.rows[i]?.map fun r => V.int r.2.2) nD (by rw [hlen]; exact line) (fun H s => SqL.of ((s7.trans s) _ _ hl)) ?_ ?_
      · rintro i x H1 H2 N N0 hi s y ky kn
        exact ⟨rfl, rdep i x H1 H2 N _ (by rfl) (s7.trans s) y ky⟩
      intro H8 s8 e8
      rw [dl] at e8
      refine ⟨_, _, rfl, e8, ok.v, lds, fun H9 pu s9 npu e9 => ?_⟩
      have a9 := s9 _ _ (s8 _ _ upd_same)
      refine ⟨_, rfl, in_Question_uppers T a9 ?_⟩
      have nepu : pu ≠ a := (ne_of_none (s8 _ _ upd_same) npu).symm
      have k9 : ∀ b u, b ≠ a → H4 b = some u → upd H9 a (.ins (aQuestion K) dx (fs_Question (.ref pt) (.int q.goal) (.ref ps) (.ref pe) (.ref pu))) b = some u := fun b u hb e => by
        have := s9 _ _ (s8 _ _ (k7 b u hb e))
        rw [upd_ne hb]; exact this
      have s10 := ((s7.trans s8).trans s9).put (o := .ins (aQuestion K) dx (fs_Question (.ref pt) (.int q.goal) (.ref ps) (.ref pe) (.ref pu))) n0
      have npt0 := s.free npt
      have nps0 := s2.free (s3.free nps)
      have npe0 := s4.free (s5.free npe)
      have npu0 := s7.free (s8.free npu)
      refine k _ s10 ⟨ok, dx, pt, ps, pe, pu, ts, ss, ext_new n0 upd_same, ext_new npt0 (k9 _ _ nept p4), RS.same (ext_old sS), ext_new nps0 (k9 _ _ neps q4), ?_, ext_new npe0 ?_, ext_new npu0 ?_⟩
      · refine r4n.imp fun t r ⟨n0', dx', e'⟩ => ⟨dx', ext_new n0' (k9 _ _ (fun h => ?_) e')⟩
        subst h
        rw [a4] at e'
        have e1 := congrArg (fun o : Option HO => match o with | some (.ins _ _ fs) => fs.length | _ => 0) e'
        exact absurd e1 (by show ¬ (3 = 1); decide)
      · rw [upd_ne nepe]
        exact s9 _ _ (s8 _ _ (by rw [upd_ne nepe]; exact e6))
      · rw [upd_ne nepu]
        exact e9
end
end Bg

set_option Elab.async false
set_option linter.all false
set_option maxRecDepth 100000
set_option maxHeartbeats 4000000
namespace Bg
open PySem PySem.Spec PyProof.Rows L2
/-! ### dicts by whole numbers -/
structure IntD (kvs : List (Key × V)) (dom : List Int) (f : Int → V) : Prop where
  keys : kvs.map (·.1) = dom.map Sum.inl
  nd : dom.Nodup
  val : ∀ m ∈ dom, valV kvs (.inl m) = some (f m)
theorem inl_mem {dom : List Int} {m : Int} : (Sum.inl m : Key) ∈ dom.map Sum.inl ↔ m ∈ dom := by
  rw [List.mem_map]
  exact ⟨fun ⟨x, h, e⟩ => Sum.inl.inj e ▸ h, fun h => ⟨m, h, rfl⟩⟩
namespace IntD
variable {kvs : List (Key × V)} {dom : List Int} {f : Int → V}
theorem nil (f : Int → V) : IntD [] [] f := ⟨rfl, .nil, fun _ h => by cases h⟩
theorem no (h : IntD kvs dom f) {m : Int} (hm : m ∉ dom) : valV kvs (.inl m) = none := by
  cases e : valV kvs (.inl m) with
  | none => rfl
  | some v =>
    have := valV_in e
    rw [h.keys, inl_mem] at this
    exact absurd this hm
theorem isSome (h : IntD kvs dom f) (m : Int) : (valV kvs (.inl m)).isSome = decide (m ∈ dom) := by
  by_cases hm : m ∈ dom
  · rw [h.val m hm, decide_eq_true hm]; rfl
  · rw [h.no hm, decide_eq_false hm]; rfl
theorem len (h : IntD kvs dom f) : kvs.length = dom.length := by
  have := congrArg List.length h.keys
  rwa [List.length_map, List.length_map] at this
theorem keys_put_old {kvs : List (Key × V)} {k : Key} {v : V} (h : k ∈ kvs.map (·.1)) : (putK kvs k v).map (·.1) = kvs.map (·.1) := by
  unfold putK
  rw [if_pos (by obtain ⟨x, hx, e⟩ := List.mem_map.mp h; exact List.any_eq_true.mpr ⟨x, hx, decide_eq_true e⟩), List.map_map]
  refine List.map_congr_left fun x _ => ?_
  show (if x.1 = k then (x.1, v) else x).1 = x.1
  split <;> rfl
theorem put_old (h : IntD kvs dom f) {m : Int} (hm : m ∈ dom) (v : V) : IntD (putK kvs (.inl m) v) dom (fun x => if x = m then v else f x) := by
  refine ⟨by rw [keys_put_old (by rw [h.keys, inl_mem]; exact hm)]; exact h.keys, h.nd, fun x hx => ?_⟩
  rw [valV_put]
  by_cases e : x = m
  · subst e; rw [if_pos rfl, if_pos rfl]
  · rw [if_neg (fun z => e (Sum.inl.inj z)), if_neg e]; exact h.val x hx
theorem put_new (h : IntD kvs dom f) {m : Int} (hm : m ∉ dom) (v : V) : IntD (putK kvs (.inl m) v) (dom ++ [m]) (fun x => if x = m then v else f x) := by
  refine ⟨?_, ?_, fun x hx => ?_⟩
  · rw [putK_new v (h.no hm), List.map_append, h.keys, List.map_append]; rfl
  · exact List.nodup_append.mpr ⟨h.nd, by simp, fun a ha b hb e => hm (by rw [← List.mem_singleton.mp hb, ← e]; exact ha)⟩
  · rw [valV_put]
    by_cases e : x = m
    · subst e; rw [if_pos rfl, if_pos rfl]
    · rw [if_neg (fun z => e (Sum.inl.inj z)), if_neg e]
      rw [List.mem_append, List.mem_singleton] at hx
      exact h.val x (hx.resolve_right e)
theorem drop (h : IntD kvs dom f) (m : Int) : IntD (dropK kvs (.inl m)) (dom.filter fun x => !decide (x = m)) f := by
  refine ⟨?_, h.nd.filter _, fun x hx => ?_⟩
  · unfold dropK
    have := congrArg (List.filter fun k : Key => !decide (k = .inl m)) h.keys
    rw [List.filter_map, List.filter_map] at this
    have e0 : (kvs.filter fun kv => decide (kv.1 ≠ .inl m)) = kvs.filter ((fun k : Key => !decide (k = .inl m)) ∘ fun kv => kv.1) := List.filter_congr fun kv _ => by
      show decide (kv.1 ≠ .inl m) = !decide (kv.1 = .inl m)
      by_cases z : kv.1 = .inl m <;> simp [z]
    rw [e0]
    refine Eq.trans this (congrArg (List.map Sum.inl) (List.filter_congr fun x _ => ?_))
    show (!decide ((Sum.inl x : Key) = .inl m)) = !decide (x = m)
    by_cases e : x = m
    · subst e; simp
    · rw [decide_eq_false e, decide_eq_false (fun z => e (Sum.inl.inj z))]
  · obtain ⟨h1, h2⟩ := List.mem_filter.mp hx
    have ne : ¬ x = m := fun z => by rw [decide_eq_true z] at h2; cases h2
    have e := h.val x h1
    unfold dropK valV at *
    rw [List.find?_filter, ← e]
    congr 2
    funext kv
    by_cases z : kv.1 = .inl x
    · rw [decide_eq_true z, z]
      have : ¬ (Sum.inl x : Key) = .inl m := fun w => ne (Sum.inl.inj w)
      simp [this]
    · simp [z]
theorem congr (h : IntD kvs dom f) {g : Int → V} (e : ∀ m ∈ dom, f m = g m) : IntD kvs dom g := ⟨h.keys, h.nd, fun m hm => by rw [h.val m hm, e m hm]⟩
end IntD
theorem IntD.get {kvs : List (Key × V)} {dom : List Int} {f : Int → V} (h : IntD kvs dom f) {H : Hp} {a : Addr} (e : H a = some (.dK kvs)) {m : Int} (hm : m ∈ dom) : DGet H a (.int m) (some (f m)) := by
  have := DGet.k (k := .inl m) e
  rw [h.val m hm] at this
  exact this
/-- a dict that holds the places of S -/
def DS (H : Hp) (d : Addr) (n : Nat) (S : Nat → Prop) : Prop := ∃ kvs dom, H d = some (.dK kvs) ∧ IntD kvs dom (fun _ => .bl true) ∧ (∀ m ∈ dom, ∃ i < n, m = ((i : Nat) : Int)) ∧ ∀ i : Nat, (i : Int) ∈ dom ↔ S i
theorem DS.get {H : Hp} {d : Addr} {n : Nat} {S : Nat → Prop} (h : DS H d n S) (i : Nat) : ∃ o, DGet H d (.int i) o ∧ (o.isSome = true ↔ S i) := by
  obtain ⟨kvs, dom, e, D, _, q⟩ := h
  refine ⟨_, DGet.k (k := .inl (i : Int)) e, ?_⟩
  rw [D.isSome, decide_eq_true_iff]
  exact q i
theorem DS.put {H : Hp} {d : Addr} {n : Nat} {S : Nat → Prop} (h : DS H d n S) {i : Nat} (hi : i < n) (hn : n ≤ 240) : ∃ kvs', DPut H d (.int i) (.bl true) (upd H d (.dK kvs')) ∧ DS (upd H d (.dK kvs')) d n fun x => S x ∨ x = i := by
  obtain ⟨kvs, dom, e, D, b, q⟩ := h
  have hl : dom.length ≤ n := by
    have := List.Nodup.length_le_of_subset (l₂ := (List.range n).map fun i : Nat => (i : Int)) D.nd fun m hm => by
      obtain ⟨j, hj, rfl⟩ := b m hm
      exact List.mem_map.mpr ⟨j, List.mem_range.mpr hj, rfl⟩
    rwa [List.length_map, List.length_range] at this
  refine ⟨_, DPut.k (k := .inl (i : Int)) e (by rw [D.len]; exact Nat.lt_of_le_of_lt (Nat.le_trans hl hn) (by decide)), ?_⟩
  by_cases c : (i : Int) ∈ dom
  · refine ⟨_, dom, upd_same, (D.put_old c (.bl true)).congr fun m _ => by split <;> rfl, b, fun x => ?_⟩
    rw [q x]
    exact ⟨.inl, fun h => h.elim id fun e => by subst e; exact (q _).mp c⟩
  · refine ⟨_, dom ++ [(i : Int)], upd_same, (D.put_new c (.bl true)).congr fun m _ => by split <;> rfl, fun m hm => ?_, fun x => ?_⟩
    · rw [List.mem_append, List.mem_singleton] at hm
      rcases hm with hm | rfl
      · exact b m hm
      · exact ⟨i, hi, rfl⟩
    · rw [List.mem_append, List.mem_singleton, q x]
      exact or_congr Iff.rfl ⟨fun e => by omega, fun e => by rw [e]⟩
theorem DS.same {H H' : Hp} {d : Addr} {n : Nat} {S : Nat → Prop} (s : Same H H') (h : DS H d n S) : DS H' d n S := by
  obtain ⟨kvs, dom, e, r⟩ := h
  exact ⟨kvs, dom, s _ _ e, r⟩
theorem DS.iff {H : Hp} {d : Addr} {n : Nat} {S S' : Nat → Prop} (h : DS H d n S) (e : ∀ i, S i ↔ S' i) : DS H d n S' := by
  obtain ⟨kvs, dom, a, b, c, q⟩ := h
  exact ⟨kvs, dom, a, b, c, fun i => (q i).trans (e i)⟩
theorem DS.nil {H : Hp} {d : Addr} {n : Nat} (h : H d = some (.dK [])) : DS H d n fun _ => False := ⟨[], [], h, IntD.nil _, fun _ h => (by cases h), fun i => ⟨fun h => (by cases h), False.elim⟩⟩
/-- over a place, straight or at any way -/
def Ov (ds : List Nat) (b : Bool) (u c : Nat) : Prop := if b = true then upp ds c = some u else Anc (upp ds) u c
theorem Ov.lt {ds : List Nat} (V : Valid ds) {b : Bool} {u c : Nat} (h : Ov ds b u c) : u < c ∧ c < ds.length := by
  unfold Ov at h
  cases b with
  | true => exact upp_lt V h
  | false => exact anc_lt V h
def sp_with_beneath (K : PySem.W.Frag) : Sp := fun vs H Q _ => ∃ (a l : Addr) (rows : List DRow) (ps : List Nat) (b : Bool), vs = [.ref a, .ref l, .str (wstr b)] ∧ DocAt K H a rows ∧ H l = some (.lst (nv ps)) ∧ (∀ p ∈ ps, p < rows.length) ∧
  ∀ H' d, Same H H' → H d = none → DS H' d rows.length (fun u => ∃ c ∈ ps, Ov (dsOf rows) b u c) → Q (.ref d) H'
def sp_with_above (K : PySem.W.Frag) : Sp := fun vs H Q _ => ∃ (a l : Addr) (rows : List DRow) (ps : List Nat) (b : Bool), vs = [.ref a, .ref l, .str (wstr b)] ∧ DocAt K H a rows ∧ H l = some (.lst (nv ps)) ∧ (∀ p ∈ ps, p < rows.length) ∧
  ∀ H' d, Same H H' → H d = none → DS H' d rows.length (fun c => ∃ u ∈ ps, Ov (dsOf rows) b u c) → Q (.ref d) H'
/-- still to be walked -/
def Pend (ds : List Nat) (b : Bool) : Option Nat → Nat → Prop
  | none, _ => False
  | some u, x => x = u ∨ (b = false ∧ Anc (upp ds) x u)
theorem take_mem {α : Type} {l : List α} {i : Nat} {x : α} (h : l[i]? = some x) {P : α → Prop} : (∃ c ∈ l.take (i + 1), P c) ↔ (∃ c ∈ l.take i, P c) ∨ P x := by
  rw [List.take_add_one, h]
  constructor
  · rintro ⟨c, hc, p⟩
    rcases List.mem_append.mp hc with hc | hc
    · exact .inl ⟨c, hc, p⟩
    · obtain rfl : c = x := by simpa using hc
      exact .inr p
  · rintro (⟨c, hc, p⟩ | p)
    · exact ⟨c, List.mem_append.mpr (.inl hc), p⟩
    · exact ⟨x, List.mem_append.mpr (.inr (by simp)), p⟩
theorem onv_non {o : Option Nat} : onv o = .non ↔ o = none := by
  cases o with
  | none => exact ⟨fun _ => rfl, fun _ => rfl⟩
  | some n => exact ⟨fun h => (by cases h), fun h => (by cases h)⟩
section
variable {P : Program} {w : World} {K : PySem.W.Frag} {mg : Str → Option Value} {base : Heap}
theorem sc_with_beneath : FnScope ["document", "parts", "way", "found", "part", "upper"] ["document", "parts", "way"] (defScope s_with_beneath) := ⟨rfl, rfl, rfl, by decide +kernel, rfl, by decide +kernel, by decide +kernel⟩
theorem ok_with_beneath (T : Tx K mg) (O_Document_upper_of : Ok P w K mg base 4 at_Document_upper_of ["self", "part"] (sp_Document_upper_of K)) : Ok P w K mg base 5 at_with_beneath ["document", "parts", "way"] (sp_with_beneath K) := by
  refine mkOk T.d_with_beneath sc_with_beneath (fun _ _ _ _ _ _ us hl => match us, hl with | [_, _, _], _ => rfl) (fun vs H Q E h => ?_) (fun cdv A outer s H vs Q E hr h => ?_)
  · obtain ⟨a, l, rows, ps, b, rfl, D, hl, hps, k⟩ := h; rfl
  · obtain ⟨a, l, rows, ps, b, rfl, D, hl, hps, k⟩ := h
    refine ⟨_, (pss_cons (ps_set (i := 3) sc_with_beneath.nd rfl (by first | exact Or.inl rfl | exact Or.inr rfl) pe_dnewK)
      (pss_cons (ps_for PassesOwn.never rfl (kpiL (K := K) (pv 1)) (pg_name (i := 4) sc_with_beneath.nd rfl (by first | exact Or.inl rfl | exact Or.inr rfl))
        (pss_cons (ps_set (i := 5) sc_with_beneath.nd rfl (by first | exact Or.inl rfl | exact Or.inr rfl) (kme (K := K) (pv 0) O_Document_upper_of T.c_Document T.m_Document_upper_of (hr.mono (by decide)) (pa_cons (pv 4) pa_nil)))
        (pss_one (ps_while PassesOwn.never (PW.pt (pw_and (pt_cmpR op_notN (pv 5) pe_non (nomark _)) (pw_and1 (pt_cmp (pc_dnotin (hu_of hr) (pv 5) (pv 3)) rfl))))
          (pss_cons (ps_dput (hu_of hr) (pv 3) (pv 5) pe_bl rfl)
          (pss_cons (ps_set (i := 5) sc_with_beneath.nd rfl (by first | exact Or.inl rfl | exact Or.inr rfl) (kme (K := K) (pv 0) O_Document_upper_of T.c_Document T.m_Document_upper_of (hr.mono (by decide)) (pa_cons (pv 5) pa_nil)))
          (pss_one (ps_if (pt_cmpR op_eq (pv 2) pe_str (nomark _))
            (pss_one (ps_set (i := 5) sc_with_beneath.nd rfl (by first | exact Or.inl rfl | exact Or.inr rfl) pe_non))
            pss_nil))))))))
      (pss_one (ps_ret (pv 3))))), ?_⟩
    refine fun d nd => ?_
    refine ⟨_, rfl, l, rfl, ⟨_, SqL.of (upd_at nd hl)⟩, ?_⟩
    have hV := D.ok.v
    have hn := D.ok.many
    have hlen : (dsOf rows).length = rows.length := dsOf_length rows
    refine for_it (walk_list (xs := nv ps)) (fun i σ H' => ∃ (x4 x5 : Option V), σ = [some (.ref a), some (.ref l), some (.str (wstr b)), some (.ref d), x4, x5] ∧ Same H H' ∧ DS H' d rows.length (fun u => ∃ c ∈ ps.take i, Ov (dsOf rows) b u c)) ?_ ?_ ?_ ?_
    · exact ⟨none, none, rfl, Same.up nd, (DS.nil upd_same).iff fun i => ⟨False.elim, fun ⟨c, h, _⟩ => by simp at h⟩⟩
    · rintro i σ H' _ ⟨x4, x5, rfl, s, e⟩
      exact SqL.of (s _ _ hl)
    · rintro i v σ H1 H2 hi ⟨x4, x5, rfl, s, F⟩ ⟨rfl, ev⟩
      obtain ⟨p, hp, rfl⟩ := at_nv ev
      have hpl := hps p (List.mem_of_getElem? hp)
      obtain ⟨ok, dx, pt, pe, pu, ts, h1, h2, h3, h4, h5⟩ := id (D.same s)
      refine ⟨_, rfl, mt_Document_upper_of h1 ⟨_, rfl, a, rows, p, rfl, D.same s, hpl, ?_⟩⟩
      let F0 : Nat → Prop := fun u => ∃ c ∈ ps.take i, Ov (dsOf rows) b u c
      refine ⟨fun m σ H' => ∃ (o : Option Nat) (S : Nat → Prop), m = (o.map (· + 1)).getD 0 ∧ σ = [some (.ref a), some (.ref l), some (.str (wstr b)), some (.ref d), some (.int p), some (onv o)] ∧ Same H H' ∧ DS H' d rows.length S ∧
        (∀ x, S x → F0 x ∨ (Ov (dsOf rows) b x p ∧ ∀ u, o = some u → u < x)) ∧ (∀ x, Ov (dsOf rows) b x p → S x ∨ Pend (dsOf rows) b o x) ∧ (∀ x, Pend (dsOf rows) b o x → Ov (dsOf rows) b x p) ∧ (∀ x, F0 x → S x), ⟨_, upp (dsOf rows) p, F0, rfl, rfl, s, F, fun x h => .inl h, ?_, ?_, fun x h => h⟩, ?_⟩
      · intro x h
        unfold Ov at h
        cases b with
        | true => rw [if_pos rfl] at h; rw [h]; exact .inr (.inl rfl)
        | false =>
          rw [if_neg (by decide)] at h
          obtain ⟨u, e1, e2⟩ := h.inv
          rw [e1]
          exact .inr (e2.imp id fun h => ⟨rfl, h⟩)
      · intro x h
        cases e : upp (dsOf rows) p with
        | none => rw [e] at h; exact h.elim
        | some u =>
          rw [e] at h
          unfold Ov
          rcases h with rfl | ⟨rfl, h⟩
          · cases b with
            | true => rw [if_pos rfl]; exact e
            | false => rw [if_neg (by decide)]; exact .one e
          · rw [if_neg (by decide)]; exact .more e h
      rintro m σ H' ⟨o, S, rfl, rfl, s', G, g1, g2, g3, g4⟩
      have fin : (∀ u, o = some u → S u) → DS H' d rows.length (fun u => ∃ c ∈ ps.take (i + 1), Ov (dsOf rows) b u c) := by
        intro hf
        refine G.iff fun x => ?_
        rw [take_mem hp (P := fun c => Ov (dsOf rows) b x c)]
        refine ⟨fun h => (g1 x h).imp id And.left, fun h => h.elim (g4 x) fun h => (g2 x h).elim id fun h => ?_⟩
        cases ho : o with
        | none => rw [ho] at h; exact h.elim
        | some u =>
          have hu := hf u ho
          rw [ho] at h
          rcases h with rfl | ⟨hb, h⟩
          · exact hu
          · rcases g1 u hu with ⟨c, hc, h2⟩ | ⟨_, h2⟩
            · refine g4 x ⟨c, hc, ?_⟩
              unfold Ov at h2 ⊢
              rw [hb, if_neg (by decide)] at h2 ⊢
              exact h.trans h2
            · exact absurd (h2 u ho) (Nat.lt_irrefl u)
      cases o with
      | none => exact ⟨_, rfl, rfl, false, rfl, some (.int p), some .non, rfl, s', fin fun _ h => by cases h⟩
      | some u =>
        obtain ⟨o', hg, hS⟩ := G.get u
        refine ⟨_, rfl, rfl, true, rfl, _, rfl, _, rfl, d, o', rfl, hg, ?_⟩
        by_cases hu : S u
        · exact ⟨false, by rw [hS.mpr hu]; rfl, some (.int p), _, rfl, s', fin fun v h => by cases h; exact hu⟩
        · have hf : o'.isSome = false := by
            cases ho : o'.isSome with
            | false => rfl
            | true => exact absurd (hS.mp ho) hu
          have hup : Ov (dsOf rows) b u p := g3 u (.inl rfl)
          have hul : u < rows.length := by have := hup.lt hV; omega
          obtain ⟨kvs', p1, p2⟩ := G.put hul hn
          have s2 : Same H (upd H' d (.dK kvs')) := s'.put nd
          refine ⟨true, by rw [hf]; rfl, _, fun _ _ h => h, ?_⟩
          refine ⟨_, rfl, _, rfl, d, _, rfl, p1, ?_⟩
          obtain ⟨ok, dx, pt, pe, pu, ts, h1, h2, h3, h4, h5⟩ := id (D.same s2)
          refine ⟨_, rfl, mt_Document_upper_of h1 ⟨_, rfl, a, rows, u, rfl, D.same s2, hul, ?_⟩⟩
          refine ⟨_, rfl, rfl, ?_⟩
          cases b with
          | true =>
            refine ⟨true, rfl, _, Nat.lt_succ_of_le (Nat.zero_le _), none, _, rfl, rfl, s2, p2, ?_, ?_, fun x h => h.elim, fun x h => .inl (g4 x h)⟩
            · rintro x (h | rfl)
              · exact (g1 x h).imp id fun h => ⟨h.1, fun _ z => by cases z⟩
              · exact .inr ⟨hup, fun _ z => by cases z⟩
            · intro x h
              rcases g2 x h with h | h
              · exact .inl (.inl h)
              · rcases h with rfl | ⟨z, _⟩
                · exact .inl (.inr rfl)
                · cases z
          | false =>
            refine ⟨false, by decide +kernel, (upp (dsOf rows) u).map (· + 1) |>.getD 0, ?_, upp (dsOf rows) u, _, rfl, rfl, s2, p2, ?_, ?_, ?_, fun x h => .inl (g4 x h)⟩
            · cases e : upp (dsOf rows) u with
              | none => exact Nat.succ_pos _
              | some v => have := upp_lt hV e; show v + 1 < u + 1; omega
            · rintro x (h | rfl)
              · refine (g1 x h).imp id fun h => ⟨h.1, fun v z => ?_⟩
                have := upp_lt hV z
                have := h.2 u rfl
                omega
              · exact .inr ⟨hup, fun v z => (upp_lt hV z).1⟩
            · intro x h
              rcases g2 x h with h | h
              · exact .inl (.inl h)
              · rcases h with rfl | ⟨_, h⟩
                · exact .inl (.inr rfl)
                · obtain ⟨v, e1, e2⟩ := h.inv
                  rw [e1]
                  exact .inr (e2.imp id fun h => ⟨rfl, h⟩)
            · intro x h
              refine g3 x (.inr ⟨rfl, ?_⟩)
              cases e : upp (dsOf rows) u with
              | none => rw [e] at h; exact h.elim
              | some v =>
                rw [e] at h
                rcases h with rfl | ⟨_, h⟩
                · exact .one e
                · exact .more e h
    · rintro σ H' ⟨x4, x5, rfl, s, F⟩
      refine ⟨_, rfl, k _ _ s nd (F.iff fun u => ?_)⟩
      rw [show (nv ps).length = ps.length from List.length_map _, List.take_length]
theorem sc_with_above : FnScope ["document", "parts", "way", "found", "part", "beneath", "lower"] ["document", "parts", "way"] (defScope s_with_above) := ⟨rfl, rfl, rfl, by decide +kernel, rfl, by decide +kernel, by decide +kernel⟩
theorem ok_with_above (T : Tx K mg) (O_Document_end_of : Ok P w K mg base 4 at_Document_end_of ["self", "part"] (sp_Document_end_of K)) (O_Document_lowers_of : Ok P w K mg base 4 at_Document_lowers_of ["self", "part"] (sp_Document_lowers_of K)) : Ok P w K mg base 5 at_with_above ["document", "parts", "way"] (sp_with_above K) := by
  refine mkOk T.d_with_above sc_with_above (fun _ _ _ _ _ _ us hl => match us, hl with | [_, _, _], _ => rfl) (fun vs H Q E h => ?_) (fun cdv A outer s H vs Q E hr h => ?_)
  · obtain ⟨a, l, rows, ps, b, rfl, D, hl, hps, k⟩ := h; rfl
  · obtain ⟨a, l, rows, ps, b, rfl, D, hl, hps, k⟩ := h
    refine ⟨_, (pss_cons (ps_set (i := 3) sc_with_above.nd rfl (by first | exact Or.inl rfl | exact Or.inr rfl) pe_dnewK)
      (pss_cons (ps_for PassesOwn.never rfl (kpiL (K := K) (pv 1)) (pg_name (i := 4) sc_with_above.nd rfl (by first | exact Or.inl rfl | exact Or.inr rfl))
        (pss_cons (ps_set (i := 5) sc_with_above.nd rfl (by first | exact Or.inl rfl | exact Or.inr rfl) (pe_lst pa_nil))
        (pss_cons (ps_if (pt_cmpR op_eq (pv 2) pe_str (nomark _))
          (pss_one (ps_set (i := 5) sc_with_above.nd rfl (by first | exact Or.inl rfl | exact Or.inr rfl) (kme (K := K) (pv 0) O_Document_lowers_of T.c_Document T.m_Document_lowers_of (hr.mono (by decide)) (pa_cons (pv 4) pa_nil))))
          (pss_one (ps_if (pt_cmp (pc_dnotin (hu_of hr) (pv 4) (pv 3)) rfl)
            (pss_one (ps_set (i := 5) sc_with_above.nd rfl (by first | exact Or.inl rfl | exact Or.inr rfl) (pe_listRg rfl rfl T.f_list (prg_2 rfl T.f_range (pe_op op_add (pv 4) pe_int) (pe_op op_add (kme (K := K) (pv 0) O_Document_end_of T.c_Document T.m_Document_end_of (hr.mono (by decide)) (pa_cons (pv 4) pa_nil)) pe_int)))))
            pss_nil)))
        (pss_one (ps_for PassesOwn.never rfl (kpiL (K := K) (pv 5)) (pg_name (i := 6) sc_with_above.nd rfl (by first | exact Or.inl rfl | exact Or.inr rfl))
          (pss_one (ps_dput (hu_of hr) (pv 3) (pv 6) pe_bl rfl)))))))
      (pss_one (ps_ret (pv 3))))), ?_⟩
    refine fun d nd => ?_
    refine ⟨_, rfl, l, rfl, ⟨_, SqL.of (upd_at nd hl)⟩, ?_⟩
    have hV := D.ok.v
    have hn := D.ok.many
    have hlen : (dsOf rows).length = rows.length := dsOf_length rows
    refine for_it (walk_list (xs := nv ps)) (fun i σ H' => ∃ (x4 x5 x6 : Option V), σ = [some (.ref a), some (.ref l), some (.str (wstr b)), some (.ref d), x4, x5, x6] ∧ Same H H' ∧ DS H' d rows.length (fun x => ∃ c ∈ ps.take i, Ov (dsOf rows) b c x)) ?_ ?_ ?_ ?_
    · exact ⟨none, none, none, rfl, Same.up nd, (DS.nil upd_same).iff fun i => ⟨False.elim, fun ⟨c, h, _⟩ => by simp at h⟩⟩
    · rintro i σ H' _ ⟨x4, x5, x6, rfl, s, e⟩
      exact SqL.of (s _ _ hl)
    · rintro i v σ H1 H2 hi ⟨x4, x5, x6, rfl, s, F⟩ ⟨rfl, ev⟩
      obtain ⟨p, hp, rfl⟩ := at_nv ev
      have hpl := hps p (List.mem_of_getElem? hp)
      refine ⟨by decide, fun e ne => ?_⟩
      have se : Same H (upd H2 e (.lst [])) := s.new ne
      have Fe : DS (upd H2 e (.lst [])) d rows.length (fun x => ∃ c ∈ ps.take i, Ov (dsOf rows) b c x) := F.same (Same.up ne)
      -- the inner for
      have inner : ∀ (y : Addr) (L : List Nat) (H3 : Hp) (x6 : Option V) (D0 : Ends), Same H H3 → DS H3 d rows.length (fun x => ∃ c ∈ ps.take i, Ov (dsOf rows) b c x) → H3 y = some (.lst (nv L)) → y ≠ d → (∀ x ∈ L, x < rows.length) →
          (∀ x, ((∃ c ∈ ps.take i, Ov (dsOf rows) b c x) ∨ x ∈ L) ↔ ∃ c ∈ ps.take (i + 1), Ov (dsOf rows) b c x) →
          (∀ σ H', (∃ (x4 x5 x6 : Option V), σ = [some (.ref a), some (.ref l), some (.str (wstr b)), some (.ref d), x4, x5, x6] ∧ Same H H' ∧ DS H' d rows.length (fun x => ∃ c ∈ ps.take (i + 1), Ov (dsOf rows) b c x)) → D0.nx σ H') →
          tFor (iList K (tVar 5)) (gName 6) (sDPut (tVar 3) (tVar 6) (tC (.bl true))) D0 [some (.ref a), some (.ref l), some (.str (wstr b)), some (.ref d), some (.int p), some (.ref y), x6] H3 := by
        intro y L H3 x6 D0 s3 F3 hy hyd hL hS hk
        refine ⟨_, rfl, y, rfl, ⟨_, SqL.of hy⟩, ?_⟩
        refine for_it (walk_list (xs := nv L)) (fun j σ H' => ∃ (x6 : Option V), σ = [some (.ref a), some (.ref l), some (.str (wstr b)), some (.ref d), some (.int p), some (.ref y), x6] ∧ Same H H' ∧ H' y = some (.lst (nv L)) ∧ DS H' d rows.length (fun x => (∃ c ∈ ps.take i, Ov (dsOf rows) b c x) ∨ x ∈ L.take j)) ?_ ?_ ?_ ?_
        · exact ⟨x6, rfl, s3, hy, F3.iff fun x => by simp⟩
        · rintro j σ H' _ ⟨x6, rfl, s4, hy4, F4⟩
          exact SqL.of hy4
        · rintro j v σ H4 H5 hj ⟨x6, rfl, s4, hy4, F4⟩ ⟨rfl, ev⟩
          obtain ⟨x, hx, rfl⟩ := at_nv ev
          obtain ⟨kvs', p1, p2⟩ := F4.put (hL x (List.mem_of_getElem? hx)) hn
          refine ⟨_, rfl, _, rfl, d, _, rfl, p1, _, rfl, s4.put nd, by rw [upd_ne hyd]; exact hy4, p2.iff fun z => ?_⟩
          rw [List.take_add_one, hx, List.mem_append]
          show ((_ ∨ _) ∨ z = x) ↔ (_ ∨ (_ ∨ z ∈ [x]))
          rw [List.mem_singleton, or_assoc]
        · rintro σ H' ⟨x6, rfl, s4, hy4, F4⟩
          refine hk _ _ ⟨_, _, _, rfl, s4, F4.iff fun x => ?_⟩
          rw [show (nv L).length = L.length from List.length_map _, List.take_length]
          exact hS x
      refine ⟨_, rfl, rfl, ?_⟩
      cases b with
      | true =>
        obtain ⟨ok, dx, pt, pe, pu, ts, h1, h2, h3, h4, h5⟩ := id (D.same se)
        refine ⟨true, rfl, _, rfl, mt_Document_lowers_of h1 ⟨_, rfl, a, rows, p, rfl, D.same se, hpl, fun H3 y s3 ny ey => ?_⟩⟩
        refine inner y _ H3 _ _ (se.trans s3) (Fe.same s3) ey ?_ ?_ ?_ fun _ _ h => h
        · obtain ⟨kvs, _, e1, _⟩ := Fe
          exact (ne_of_none e1 ny).symm
        · intro x hx
          have := List.mem_range.mp (List.mem_filter.mp hx).1
          omega
        · intro x
          rw [take_mem hp (P := fun c => Ov (dsOf rows) true c x)]
          refine or_congr Iff.rfl ?_
          unfold lows Ov
          rw [if_pos rfl, List.mem_filter, List.mem_range, decide_eq_true_iff]
          exact ⟨And.right, fun h => ⟨(upp_lt hV h).2, h⟩⟩
      | false =>
        obtain ⟨o', hg, hS⟩ := Fe.get p
        refine ⟨false, by decide +kernel, _, rfl, _, rfl, d, o', rfl, hg, ?_⟩
        by_cases hu : ∃ c ∈ ps.take i, Ov (dsOf rows) false c p
        · refine ⟨false, by rw [hS.mpr hu]; rfl, ?_⟩
          refine inner e [] _ _ _ se Fe upd_same ?_ (fun _ h => by cases h) ?_ fun _ _ h => h
          · obtain ⟨kvs, _, e1, _⟩ := F
            exact (ne_of_none e1 ne).symm
          · intro x
            rw [take_mem hp (P := fun c => Ov (dsOf rows) false c x)]
            refine ⟨fun h => h.elim .inl (fun h => (by cases h)), fun h => h.elim .inl (fun h2 => .inl ?_)⟩
            obtain ⟨c, hc, h3⟩ := hu
            refine ⟨c, hc, ?_⟩
            unfold Ov at h2 h3 ⊢
            rw [if_neg (by decide)] at h2 h3 ⊢
            exact h3.trans h2
        · have hf : o'.isSome = false := by
            cases ho : o'.isSome with
            | false => rfl
            | true => exact absurd (hS.mp ho) hu
          obtain ⟨ok, dx, pt, pe, pu, ts, h1, h2, h3, h4, h5⟩ := id (D.same se)
          have hp2 : p < (dsOf rows).length := by rw [hlen]; exact hpl
          have he := endAt_lt hp2
          have hle := le_endAt (dsOf rows) p
          rw [hlen] at he
          refine ⟨true, by rw [hf]; rfl, _, rfl, _, 1, rfl, rfl, _, rfl, mt_Document_end_of h1 ⟨_, rfl, a, rows, p, rfl, D.same se, hpl, _, 1, rfl, rfl, _, _, rfl, rfl, RgOk.of_le ?_ ?_ ?_ ?_, fun y ny => ?_⟩⟩
          · show (0 : Int) ≤ (p : Int) + 1; omega
          · show ((endAt (dsOf rows) p : Nat) : Int) + 1 ≤ _; omega
          · show (p : Int) + 1 ≤ _; omega
          · show (0 : Int) ≤ ((endAt (dsOf rows) p : Nat) : Int) + 1; omega
          have eL : rgV ((fun i j : Int => i + j) (p : Int) 1) ((fun i j : Int => i + j) ((endAt (dsOf rows) p : Nat) : Int) 1) = nv ((List.range (endAt (dsOf rows) p - p)).map (p + 1 + ·)) := by
            unfold rgV nv
            rw [List.map_map]
            have e0 : ((fun i j : Int => i + j) ((endAt (dsOf rows) p : Nat) : Int) 1 - (fun i j : Int => i + j) (p : Int) 1).toNat = endAt (dsOf rows) p - p := by
              show (((endAt (dsOf rows) p : Nat) : Int) + 1 - ((p : Int) + 1)).toNat = _
              omega
            rw [e0]
            refine List.map_congr_left fun i _ => ?_
            show V.int ((p : Int) + 1 + (i : Nat)) = V.int ((p + 1 + i : Nat) : Int)
            congr 1
          rw [eL]
          refine inner y _ _ _ _ (se.new ny) (Fe.same (Same.up ny)) upd_same ?_ ?_ ?_ fun _ _ h => h
          · obtain ⟨kvs, _, e1, _⟩ := Fe
            exact (ne_of_none e1 ny).symm
          · intro x hx
            obtain ⟨i, h, rfl⟩ := List.mem_map.mp hx
            have := List.mem_range.mp h
            show p + 1 + i < _
            omega
          · intro x
            rw [take_mem hp (P := fun c => Ov (dsOf rows) false c x)]
            refine or_congr Iff.rfl ?_
            unfold Ov
            rw [if_neg (by decide), List.mem_map]
            constructor
            · rintro ⟨i, h, rfl⟩
              have := List.mem_range.mp h
              exact (anc_end hV hp2 (by show p + 1 + i < _; omega)).mpr ⟨by show p < p + 1 + i; omega, by show p + 1 + i ≤ _; omega⟩
            · intro h
              have hx := (anc_lt hV h).2
              obtain ⟨q1, q2⟩ := (anc_end hV hp2 hx).mp h
              exact ⟨x - (p + 1), List.mem_range.mpr (by omega), by show p + 1 + (x - (p + 1)) = x; omega⟩
    · rintro σ H' ⟨x4, x5, x6, rfl, s, F⟩
      refine ⟨_, rfl, k _ _ s nd (F.iff fun u => ?_)⟩
      rw [show (nv ps).length = ps.length from List.length_map _, List.take_length]
end
end Bg

set_option Elab.async false
set_option linter.all false
set_option maxRecDepth 100000
set_option maxHeartbeats 4000000
namespace Bg
open PySem PySem.Spec PyProof.Rows L2
/-! ### the slow runner and the tables -/
noncomputable abbrev cd (p : Prop) : Bool := @decide p (Classical.propDecidable p)
theorem cd_iff {p : Prop} : cd p = true ↔ p := @decide_eq_true_iff p (Classical.propDecidable p)
theorem cd_true {p : Prop} (h : p) : cd p = true := cd_iff.mpr h
theorem cd_false {p : Prop} (h : ¬ p) : cd p = false := by
  cases e : cd p with
  | false => rfl
  | true => exact absurd (cd_iff.mp e) h
abbrev lbD (rows : List DRow) (p : Nat) : Option Str := rows[p]?.map (·.1)
abbrev ovD (rows : List DRow) (p : Nat) : Option Nat := upp (dsOf rows) p
noncomputable def downS (q : Qs Str) (rows : List DRow) (s : Nat) : List Nat := (List.range rows.length).filter fun p => cd (Holds q (lbD rows) (ovD rows) s p)
noncomputable def fullS (q : Qs Str) (rows : List DRow) (s : Nat) : List Nat := (List.range rows.length).filter fun p => cd (Full q (lbD rows) (ovD rows) s p)
theorem mem_downS {q : Qs Str} {rows : List DRow} {s p : Nat} : p ∈ downS q rows s ↔ p < rows.length ∧ Holds q (lbD rows) (ovD rows) s p := by
  unfold downS; rw [List.mem_filter, List.mem_range, cd_iff]
theorem mem_fullS {q : Qs Str} {rows : List DRow} {s p : Nat} : p ∈ fullS q rows s ↔ p < rows.length ∧ Full q (lbD rows) (ovD rows) s p := by
  unfold fullS; rw [List.mem_filter, List.mem_range, cd_iff]
structure TabAt (H : Hp) (l : Addr) (k : Nat) (R : Nat → List Nat → Prop) : Prop where
  ex : ∃ ts : List Addr, H l = some (.lst (ts.map V.ref)) ∧ ts.length = k ∧ ∀ (s : Nat) (t : Addr), ts[s]? = some t → t ≠ l ∧ ∃ L, H t = some (.lst (nv L)) ∧ R s L
theorem TabAt.same {H H' : Hp} {l : Addr} {k : Nat} {R : Nat → List Nat → Prop} (s : Same H H') (h : TabAt H l k R) : TabAt H' l k R := by
  obtain ⟨ts, e, el, r⟩ := h
  exact ⟨ts, s _ _ e, el, fun i t h => let ⟨ne, L, e2, q⟩ := r i t h; ⟨ne, L, s _ _ e2, q⟩⟩
theorem TabAt.imp {H : Hp} {l : Addr} {k : Nat} {R R' : Nat → List Nat → Prop} (i : ∀ s L, s < k → R s L → R' s L) (h : TabAt H l k R) : TabAt H l k R' := by
  obtain ⟨ts, e, el, r⟩ := h
  exact ⟨ts, e, el, fun j t h => let ⟨ne, L, e2, q⟩ := r j t h; ⟨ne, L, e2, i j L (by rw [← el]; exact (List.getElem?_eq_some_iff.mp h).1) q⟩⟩
theorem TabAt.at_ {H : Hp} {l : Addr} {k : Nat} {R : Nat → List Nat → Prop} (h : TabAt H l k R) {s : Nat} (hs : s < k) : ∃ (xs : List V) (t : Addr) (L : List Nat), H l = some (.lst xs) ∧ atI xs (s : Int) = some (.ref t) ∧ H t = some (.lst (nv L)) ∧ R s L := by
  obtain ⟨ts, e, el, r⟩ := h
  have hl : s < ts.length := by omega
  obtain ⟨_, L, e2, q⟩ := r s _ (List.getElem?_eq_getElem hl)
  exact ⟨_, ts[s], L, e, atI_nat (ref_at (List.getElem?_eq_getElem hl)), e2, q⟩
def sp_down_row (K : PySem.W.Frag) : Sp := fun vs H Q _ => ∃ (a qa l : Addr) (rows : List DRow) (q : Qs Str) (s : Nat), vs = [.ref a, .ref qa, .ref l, .int s] ∧ DocAt K H a rows ∧ QAt K H qa q ∧ s < q.k ∧ TabAt H l q.k (fun t L => s < t → L = downS q rows t) ∧
  ∀ H' y, Same H H' → H y = none → H' y = some (.lst (nv (downS q rows s))) → Q (.ref y) H'
def sp_full_row (K : PySem.W.Frag) : Sp := fun vs H Q _ => ∃ (a qa dl l : Addr) (rows : List DRow) (q : Qs Str) (s : Nat), vs = [.ref a, .ref qa, .ref dl, .ref l, .int s] ∧ DocAt K H a rows ∧ QAt K H qa q ∧ s < q.k ∧ TabAt H dl q.k (fun t L => L = downS q rows t) ∧
  TabAt H l s (fun t L => L = fullS q rows t) ∧ ∀ H' y, Same H H' → H y = none → H' y = some (.lst (nv (fullS q rows s))) → Q (.ref y) H'
def sp_down_table (K : PySem.W.Frag) : Sp := fun vs H Q _ => ∃ (a qa : Addr) (rows : List DRow) (q : Qs Str), vs = [.ref a, .ref qa] ∧ DocAt K H a rows ∧ QAt K H qa q ∧ ∀ H' y, Same H H' → H y = none → TabAt H' y q.k (fun t L => L = downS q rows t) → Q (.ref y) H'
def sp_full_table (K : PySem.W.Frag) : Sp := fun vs H Q _ => ∃ (a qa : Addr) (rows : List DRow) (q : Qs Str), vs = [.ref a, .ref qa] ∧ DocAt K H a rows ∧ QAt K H qa q ∧ ∀ H' y, Same H H' → H y = none → TabAt H' y q.k (fun t L => L = fullS q rows t) → Q (.ref y) H'
def sp_run_slow (K : PySem.W.Frag) : Sp := fun vs H Q _ => ∃ (a qa : Addr) (rows : List DRow) (q : Qs Str), vs = [.ref a, .ref qa] ∧ DocAt K H a rows ∧ QAt K H qa q ∧ ∀ H' y, Same H H' → H' y = some (.lst (nv (fullS q rows q.goal))) → Q (.ref y) H'
theorem qup (q : Qs Str) (t : Nat) : q.up t = upp q.ds t := rfl
theorem qway {q : Qs Str} {s : Nat} {r : QRow} (h : q.rows[s]? = some r) : q.way s = r.1 := by unfold Qs.way; rw [h]; rfl
theorem qlab {q : Qs Str} {s : Nat} {r : QRow} (h : q.rows[s]? = some r) : q.lab s = some r.2.1 := by unfold Qs.lab; rw [h]; rfl
/-- what a step needs beneath -/
def Need (q : Qs Str) (rows : List DRow) (t u : Nat) : Prop := ∃ c ∈ downS q rows t, Ov (dsOf rows) (q.way t) u c
theorem need_iff {q : Qs Str} {rows : List DRow} {t u : Nat} (V : Valid (dsOf rows)) : Need q rows t u ↔ (q.way t = true → ∃ c, ovD rows c = some u ∧ Holds q (lbD rows) (ovD rows) t c) ∧ (q.way t = false → ∃ c, Anc (ovD rows) u c ∧ Holds q (lbD rows) (ovD rows) t c) := by
  unfold Need Ov
  cases q.way t with
  | true =>
    rw [show ((true = true → _) ∧ (true = false → _)) ↔ _ from ⟨fun h => h.1 rfl, fun h => ⟨fun _ => h, fun z => by cases z⟩⟩]
    constructor
    · rintro ⟨c, h1, h2⟩; rw [if_pos rfl] at h2; exact ⟨c, h2, (mem_downS.mp h1).2⟩
    · rintro ⟨c, h1, h2⟩
      refine ⟨c, mem_downS.mpr ⟨?_, h2⟩, by rw [if_pos rfl]; exact h1⟩
      have := (upp_lt V h1).2; rwa [dsOf_length] at this
  | false =>
    rw [show ((false = true → _) ∧ (false = false → _)) ↔ _ from ⟨fun h => h.2 rfl, fun h => ⟨fun z => (by cases z), fun _ => h⟩⟩]
    constructor
    · rintro ⟨c, h1, h2⟩; rw [if_neg (by decide)] at h2; exact ⟨c, h2, (mem_downS.mp h1).2⟩
    · rintro ⟨c, h1, h2⟩
      refine ⟨c, mem_downS.mpr ⟨?_, h2⟩, by rw [if_neg (by decide)]; exact h1⟩
      have := (anc_lt V h1).2; rwa [dsOf_length] at this
theorem down_eq {q : Qs Str} {rows : List DRow} {s : Nat} {r : QRow} (V : Valid (dsOf rows)) (hr : q.rows[s]? = some r) : ((plOf rows r.2.1).filter fun p => (lows q.ds s).all fun t => cd (Need q rows t p)) = downS q rows s := by
  unfold plOf downS
  rw [List.filter_filter]
  refine List.filter_congr fun p hp => ?_
  rw [Bool.eq_iff_iff, Bool.and_eq_true, List.all_eq_true, cd_iff, decide_eq_true_iff, holds_iff, qlab hr]
  refine ⟨fun ⟨h1, h2⟩ => ⟨⟨r.2.1, h2, rfl⟩, fun t ht => (need_iff V).mp (cd_iff.mp (h1 t ?_))⟩, fun ⟨⟨l, h1, h2⟩, h3⟩ => ⟨fun t ht => cd_true ((need_iff V).mpr (h3 t ?_)), ?_⟩⟩
  · exact List.mem_filter.mpr ⟨List.mem_range.mpr (by rw [List.length_map]; exact (Qs.up_lt ht).2), decide_eq_true ht⟩
  · exact of_decide_eq_true (List.mem_filter.mp ht).2
  · obtain rfl := Option.some.inj h2
    exact h1
/-- what a step needs above -/
def Abv (q : Qs Str) (rows : List DRow) (b : Bool) (u c : Nat) : Prop := ∃ a ∈ fullS q rows u, Ov (dsOf rows) b a c
theorem full_eq0 {q : Qs Str} {rows : List DRow} {s : Nat} (V : Valid (dsOf rows)) (hu : q.up s = none) : ((downS q rows s).filter fun p => cd (q.way s = false ∨ p = 0)) = fullS q rows s := by
  unfold downS fullS
  rw [List.filter_filter]
  refine List.filter_congr fun p hp => ?_
  rw [Bool.eq_iff_iff, Bool.and_eq_true, cd_iff, cd_iff, cd_iff, full_iff]
  have hp2 : p < (dsOf rows).length := by rw [dsOf_length]; exact List.mem_range.mp hp
  have h0 : ovD rows p = none ↔ p = 0 := by
    constructor
    · intro h
      cases Nat.eq_zero_or_pos p with
      | inl h => exact h
      | inr h2 => obtain ⟨x, hx⟩ := upp_pos V h2 hp2; exact absurd (hx.symm.trans h) (fun z => by cases z)
    · intro h; subst h; exact upp_zero V
  constructor
  · rintro ⟨h1, h2⟩
    exact ⟨h2, fun _ => h1.elim .inr fun h => .inl (h0.mpr h), fun u z => by rw [hu] at z; cases z⟩
  · rintro ⟨h1, h2, _⟩
    exact ⟨(h2 hu).elim (fun h => .inr (h0.mp h)) .inl, h1⟩
theorem full_eq1 {q : Qs Str} {rows : List DRow} {s u : Nat} (V : Valid (dsOf rows)) (hu : q.up s = some u) : ((downS q rows s).filter fun p => cd (Abv q rows (q.way s) u p)) = fullS q rows s := by
  unfold downS
  show _ = (List.range rows.length).filter _
  rw [List.filter_filter]
  refine List.filter_congr fun p hp => ?_
  rw [Bool.eq_iff_iff, Bool.and_eq_true, cd_iff, cd_iff, cd_iff, full_iff (s := s)]
  constructor
  · rintro ⟨⟨a, h1, h2⟩, h3⟩
    refine ⟨h3, fun z => (by rw [hu] at z; cases z), fun u' z => ?_⟩
    rw [hu] at z
    obtain rfl := Option.some.inj z
    have hf := (mem_fullS.mp h1).2
    unfold Ov at h2
    refine ⟨fun hw => ?_, fun hw => ?_⟩
    · rw [hw, if_pos rfl] at h2; exact ⟨a, h2, hf⟩
    · rw [hw, if_neg (by decide)] at h2; exact ⟨a, h2, hf⟩
  · rintro ⟨h1, _, h3⟩
    refine ⟨?_, h1⟩
    obtain ⟨h4, h5⟩ := h3 u hu
    cases hw : q.way s with
    | true =>
      obtain ⟨a, e1, e2⟩ := h4 hw
      refine ⟨a, mem_fullS.mpr ⟨?_, e2⟩, by unfold Ov; rw [if_pos rfl]; exact e1⟩
      have := upp_lt V e1; rw [dsOf_length] at this; omega
    | false =>
      obtain ⟨a, e1, e2⟩ := h5 hw
      refine ⟨a, mem_fullS.mpr ⟨?_, e2⟩, by unfold Ov; rw [if_neg (by decide)]; exact e1⟩
      have := anc_lt V e1; rw [dsOf_length] at this; omega
theorem fm_filterb {α : Type} (P : α → Bool) (g : α → V) (f : α → Option V) : ∀ l : List α, (∀ i ∈ l, f i = if P i = true then some (g i) else none) → l.filterMap f = (l.filter P).map g
  | [], _ => rfl
  | a :: l, h => by
    have ih := fm_filterb P g f l fun i hi => h i (by simp [hi])
    have ha := h a (by simp)
    by_cases c : P a = true
    · rw [if_pos c] at ha
      rw [List.filterMap_cons, ha, List.filter_cons_of_pos c, List.map_cons, ih]
    · rw [if_neg c] at ha
      rw [List.filterMap_cons, ha, List.filter_cons_of_neg c, ih]
/-- a list filtered, place by place -/
theorem fm_list {α : Type} (l : List α) (P : α → Bool) (g : α → V) : (List.range l.length).filterMap (fun i => l[i]?.bind fun x => if P x = true then some (g x) else none) = (l.filter P).map g := by
  have e : (List.range l.length).filterMap (fun i => l[i]?.bind fun x => if P x = true then some (g x) else none) = l.filterMap fun x => if P x = true then some (g x) else none := by
    induction l with
    | nil => rfl
    | cons a r ih =>
      rw [List.length_cons, List.range_succ_eq_map, List.filterMap_cons, List.filterMap_map, List.filterMap_cons, ← ih]
      by_cases c : P a = true
      · simp only [List.getElem?_cons_zero, Option.bind_some, if_pos c]; rfl
      · simp only [List.getElem?_cons_zero, Option.bind_some, if_neg c]; rfl
  rw [e, fm_filterb P g _ l fun i _ => rfl]
theorem len_nv (l : List Nat) : (nv l).length = l.length := List.length_map _
theorem Each.snoc {α : Type} {P : Addr → α → Prop} {ts : List Addr} {rows : List α} (h : Each P ts rows) {t : Addr} {r : α} (p : P t r) : Each P (ts ++ [t]) (rows ++ [r]) := by
  refine ⟨by rw [List.length_append, List.length_append, h.len]; rfl, fun i t' r' h1 h2 => ?_⟩
  by_cases hi : i < ts.length
  · rw [List.getElem?_append_left hi] at h1
    rw [List.getElem?_append_left (by rw [← h.len]; exact hi)] at h2
    exact h.at_ i t' r' h1 h2
  · rw [List.getElem?_append_right (by omega)] at h1
    rw [List.getElem?_append_right (by rw [← h.len]; omega), ← h.len] at h2
    have h0 : i - ts.length = 0 := by
      have := (List.getElem?_eq_some_iff.mp h1).1
      simp at this; omega
    rw [h0] at h1 h2
    obtain rfl : t = t' := by simpa using h1
    obtain rfl : r = r' := by simpa using h2
    exact p
theorem DS.other {H : Hp} {d a : Addr} {n : Nat} {S : Nat → Prop} {xs : List V} {o : HO} (h : DS H d n S) (e : H a = some (.lst xs)) : DS (upd H a o) d n S := by
  obtain ⟨kvs, dom, e1, r⟩ := h
  exact ⟨kvs, dom, by rw [upd_ne (fun z => by rw [z, e] at e1; cases e1)]; exact e1, r⟩
section
variable {P : Program} {w : World} {K : PySem.W.Frag} {mg : Str → Option Value} {base : Heap}
theorem sc_down_row : FnScope ["document", "question", "table", "step", "needs", "lower", "parts", "part", "need"] ["document", "question", "table", "step"] (defScope s_down_row) := ⟨rfl, rfl, rfl, by decide +kernel, rfl, by decide +kernel, by decide +kernel⟩
theorem ok_down_row (T : Tx K mg) (O_Anywhere_way : Ok P w K mg base 1 at_Anywhere_way ["self"] (spWay "//")) (O_Document_parts_of : Ok P w K mg base 1 at_Document_parts_of ["self", "label"] (sp_Document_parts_of K)) (O_Question_lowers_of : Ok P w K mg base 4 at_Question_lowers_of ["self", "step"] (sp_Question_lowers_of K)) (O_Question_step_at : Ok P w K mg base 4 at_Question_step_at ["self", "step"] (sp_Question_step_at K)) (O_Straight_way : Ok P w K mg base 1 at_Straight_way ["self"] (spWay "/")) (O_with_beneath : Ok P w K mg base 5 at_with_beneath ["document", "parts", "way"] (sp_with_beneath K)) : Ok P w K mg base 6 at_down_row ["document", "question", "table", "step"] (sp_down_row K) := by
  refine mkOk T.d_down_row sc_down_row (fun _ _ _ _ _ _ us hl => match us, hl with | [_, _, _, _], _ => rfl) (fun vs H Q E h => ?_) (fun cdv A outer s H vs Q E hr h => ?_)
  · obtain ⟨a, qa, l, rows, q, s, rfl, D, QA, hs, TB, k⟩ := h; rfl
  · obtain ⟨a, qa, l, rows, q, s, rfl, D, QA, hs, TB, k⟩ := h
    refine ⟨_, (pss_cons (ps_set (i := 4) sc_down_row.nd rfl (by first | exact Or.inl rfl | exact Or.inr rfl) (pe_lst pa_nil))
      (pss_cons (ps_for PassesOwn.never rfl (kpiL (K := K) (kme (K := K) (pv 1) O_Question_lowers_of T.c_Question T.m_Question_lowers_of (hr.mono (by decide)) (pa_cons (pv 3) pa_nil))) (pg_name (i := 5) sc_down_row.nd rfl (by first | exact Or.inl rfl | exact Or.inr rfl))
        (pss_one (ps_expr (kbm (K := K) PySem.F.plainAttrs_list PySem.F.slot_list_append PySem.F.type_list_append kappend (pv 4) (pa_cons (kfn (K := K) O_with_beneath T.g_with_beneath (hr.mono (by decide)) (pa_cons (pv 0) (pa_cons (pe_ix (kixL (K := K)) (pv 2) (pv 5) (fun _ _ => rfl)) (pa_cons (kway (K := K) (kme (K := K) (pv 1) O_Question_step_at T.c_Question T.m_Question_step_at (hr.mono (by decide)) (pa_cons (pv 5) pa_nil)) O_Straight_way O_Anywhere_way T (hr.mono (by decide))) pa_nil)))) pa_nil)))))
      (pss_cons (ps_set (i := 6) sc_down_row.nd rfl (by first | exact Or.inl rfl | exact Or.inr rfl) (kme (K := K) (pv 0) O_Document_parts_of T.c_Document T.m_Document_parts_of (hr.mono (by decide)) (pa_cons (kfld (K := K) (kme (K := K) (pv 1) O_Question_step_at T.c_Question T.m_Question_step_at (hr.mono (by decide)) (pa_cons (pv 3) pa_nil))) pa_nil)))
      (pss_one (ps_ret (pe_lc (own := [("part", 7)]) (g := gName 7) (tt := _) rfl sc_down_row.nd (kpiL (K := K) (pv 6)) (blkOk_by (by kernel_rfl)) (fun _ _ _ _ _ => (pg_name (i := 7) sc_down_row.nd rfl (by first | exact Or.inl rfl | exact Or.inr rfl))) (fun _ _ _ _ _ => (pts_one (pt_val (pe_callB (kall (K := K)) (by rfl) T.f_all (by decide +kernel) (pa_cons (pe_lc (own := [("need", 8)]) (g := gName 8) (tt := tYes) rfl sc_down_row.nd (kpiL (K := K) (pv 4)) (blkOk_by (by kernel_rfl)) (fun _ _ _ _ _ => (pg_name (i := 8) sc_down_row.nd rfl (by first | exact Or.inl rfl | exact Or.inr rfl))) (fun _ _ _ _ _ => pts_nil) (fun _ _ _ _ _ => (pe_cmp (pc_din (hu_of hr) (pv 7) (pv 8)) rfl))) pa_nil))))) (fun _ _ _ _ _ => (pv 7)))))))), ?_⟩
    have hV := D.ok.v
    have hn := D.ok.many
    have hq : q.k ≤ 100 := QA.ok.many
    refine ⟨by decide, fun nn nnn => ?_⟩
    have s1 : Same H (upd H nn (.lst [])) := Same.up nnn
    obtain ⟨_, dxq, pg, ps, pe, pu, qts, ss, h1, h2, h3, h4, h5, h6, h7⟩ := id (QA.same s1)
    refine ⟨_, rfl, mt_Question_lowers_of h1 ⟨_, rfl, qa, q, s, rfl, QA.same s1, hs, fun H2 y s2 ny ey => ?_⟩⟩
    have llen : (lows q.ds s).length ≤ 100 := Nat.le_trans (List.length_filter_le _ _) (by rw [List.length_range, List.length_map]; exact hq)
    refine ⟨y, rfl, ⟨_, SqL.of ey⟩, ?_⟩
    have nyn : y ≠ nn := (ne_of_none upd_same ny).symm
    refine for_it (walk_list (xs := nv (lows q.ds s))) (fun i σ H' => ∃ (x5 x6 x7 x8 : Option V) (dd : List Addr), σ = [some (.ref a), some (.ref qa), some (.ref l), some (.int s), some (.ref nn), x5, x6, x7, x8] ∧ Same H H' ∧ H' y = some (.lst (nv (lows q.ds s))) ∧ H' nn = some (.lst (dd.map V.ref)) ∧ Each (fun d t => DS H' d rows.length (Need q rows t)) dd ((lows q.ds s).take i)) ?_ ?_ ?_ ?_
    · exact ⟨none, none, none, none, [], rfl, s1.trans s2, ey, s2 _ _ upd_same, rfl, fun _ _ _ h => by simp at h⟩
    · rintro i σ H' _ ⟨x5, x6, x7, x8, dd, rfl, s3, e1, e2, E3⟩
      exact SqL.of e1
    · rintro i v σ H3 H4 hi ⟨x5, x6, x7, x8, dd, rfl, s3, e1, e2, E3⟩ ⟨rfl, ev⟩
      obtain ⟨t, ht, rfl⟩ := at_nv ev
      have htm : t ∈ lows q.ds s := List.mem_of_getElem? ht
      have htu : q.up t = some s := of_decide_eq_true (List.mem_filter.mp htm).2
      obtain ⟨t1, t2⟩ := Qs.up_lt htu
      obtain ⟨xs, ta, L, b1, b2, b3, b4⟩ := (TB.same s3).at_ t2
      obtain rfl := b4 t1
      have hr : q.rows[t]? = some (q.rows[t]'t2) := List.getElem?_eq_getElem t2
      obtain ⟨_, dxq, pg, ps, pe, pu, qts, ss, h1, h2, h3, h4, h5, h6, h7⟩ := id (QA.same s3)
      refine ⟨_, rfl, tyL e2, _, rfl, _, rfl, _, rfl, l, _, _, _, rfl, rfl, SqL.of b1, b2, _, rfl, mt_Question_step_at h1 ⟨_, rfl, qa, q, t, _, rfl, QA.same s3, hr, fun sa ⟨dxs, es⟩ => ⟨sa, dxs, _, (q.rows[t]'t2).1, rfl, es, lkM ne_way_label lkN, ?_⟩⟩⟩
      refine ⟨a, ta, rows, _, _, rfl, D.same s3, b3, fun p hp => (mem_downS.mp hp).1, fun H5 d s5 nd F => ?_⟩
      have hnn := s5 _ _ e2
      have dnn : d ≠ nn := (ne_of_none e2 nd).symm
      refine ⟨nn, _, _, rfl, rfl, hnn, ?_, _, x6, x7, x8, dd ++ [d], rfl, ?_, ?_, ?_, ?_⟩
      · rw [List.length_map, E3.len, List.length_take]; exact Nat.lt_of_le_of_lt (Nat.le_trans (Nat.min_le_right _ _) llen) (by decide)
      · exact (s3.trans s5).put nnn
      · rw [upd_ne nyn]; exact s5 _ _ e1
      · rw [upd_same, List.map_append]; rfl
      · rw [List.take_add_one, ht]
        exact (E3.imp fun d t F => (F.same s5).other hnn).snoc (DS.other (F.iff fun u => by unfold Need; rw [qway hr]) hnn)
    · rintro σ H' ⟨x5, x6, x7, x8, dd, rfl, s3, e1, e2, E3⟩
      rw [len_nv, List.take_length] at E3
      have hr : q.rows[s]? = some (q.rows[s]'hs) := List.getElem?_eq_getElem hs
      obtain ⟨_, dxq, pg, ps, pe, pu, qts, ss, h1, h2, h3, h4, h5, h6, h7⟩ := id (QA.same s3)
      obtain ⟨_, dxd, pt, pde, pdu, dts, g1, g2, g3, g4, g5⟩ := id (D.same s3)
      refine ⟨_, rfl, mt_Document_parts_of g1 ⟨_, rfl, mt_Question_step_at h1 ⟨_, rfl, qa, q, s, _, rfl, QA.same s3, hr, fun sa hsa => rd_Step_label T hsa ⟨a, rows, _, rfl, D.same s3, fun H5 l5 s5 n5 e5 => ?_⟩⟩⟩⟩
      generalize (q.rows[s]'hs) = r at hr e5
      have pll : (plOf rows r.2.1).length ≤ 240 := Nat.le_trans (List.length_filter_le _ _) (by rw [List.length_range]; exact hn)
      refine ⟨_, rfl, l5, rfl, ⟨_, SqL.of e5⟩, fun DD nDD => ?_⟩
      refine lc_same (walk_list (xs := nv (plOf rows r.2.1))) (fun i => (plOf rows r.2.1)[i]?.bind fun p => if ((lows q.ds s).all fun t => cd (Need q rows t p)) = true then some (.int p) else none) nDD (by rw [len_nv]; exact Nat.le_trans pll line240) (fun H s => SqL.of (s _ _ e5)) ?_ ?_
      · rintro i v H6 H7 N N0 hi s6 ⟨rfl, ev⟩ ky kn
        obtain ⟨p, hp, rfl⟩ := at_nv ev
        refine ⟨rfl, _, rfl, nn, rfl, ⟨_, SqL.of (s6 _ _ (s5 _ _ e2))⟩, fun DE nDE => ?_⟩
        refine lc_same (walk_list (xs := dd.map V.ref)) (fun j => (lows q.ds s)[j]?.map fun t => V.bl (cd (Need q rows t p))) nDE (by rw [List.length_map, E3.len]; exact Nat.le_trans llen (by decide)) (fun H s => SqL.of (s _ _ (s6 _ _ (s5 _ _ e2)))) ?_ ?_
        · rintro j v H8 H9 N2 N02 hj s8 ⟨rfl, ev⟩ ky2 kn2
          obtain ⟨d, t, rfl, ht, F⟩ := E3.ref ev
          obtain ⟨o, hg, ho⟩ := (F.same ((s5.trans s6).trans s8)).get p
          refine ⟨rfl, _, rfl, _, rfl, d, o, rfl, hg, ky2 _ _ (Same.refl _) ?_⟩
          rw [ht]
          refine congrArg (fun b => some (V.bl b)) ?_
          rw [Bool.eq_iff_iff, cd_iff]
          exact ho.symm
        · intro H8 s8 e8
          rw [List.length_map, E3.len, some_map] at e8
          refine ⟨DE, (lows q.ds s).map fun t => cd (Need q rows t p), rfl, SqL.of (by rw [e8, List.map_map]; rfl), _, rfl, ?_⟩
          rw [List.all_map]
          cases hb : (lows q.ds s).all (id ∘ fun t => cd (Need q rows t p)) with
          | true => exact ⟨_, rfl, ky _ _ s8 (by rw [hp]; exact if_pos hb)⟩
          | false => exact kn (by rw [hp]; exact if_neg (fun z => by rw [show ((lows q.ds s).all fun t => cd (Need q rows t p)) = _ from hb] at z; cases z)) _ s8
      · intro H6 s6 e6
        refine k _ _ ((s3.trans s5).trans s6) ((s3.trans s5).free nDD) ?_
        rw [e6, len_nv, fm_list, down_eq hV hr]
theorem sc_full_row : FnScope ["document", "question", "down", "table", "step", "kind", "upper", "above", "part"] ["document", "question", "down", "table", "step"] (defScope s_full_row) := ⟨rfl, rfl, rfl, by decide +kernel, rfl, by decide +kernel, by decide +kernel⟩
theorem ok_full_row (T : Tx K mg) (O_Anywhere_way : Ok P w K mg base 1 at_Anywhere_way ["self"] (spWay "//")) (O_Question_step_at : Ok P w K mg base 4 at_Question_step_at ["self", "step"] (sp_Question_step_at K)) (O_Question_upper_of : Ok P w K mg base 4 at_Question_upper_of ["self", "step"] (sp_Question_upper_of K)) (O_Straight_way : Ok P w K mg base 1 at_Straight_way ["self"] (spWay "/")) (O_with_above : Ok P w K mg base 5 at_with_above ["document", "parts", "way"] (sp_with_above K)) : Ok P w K mg base 6 at_full_row ["document", "question", "down", "table", "step"] (sp_full_row K) := by
  refine mkOk T.d_full_row sc_full_row (fun _ _ _ _ _ _ us hl => match us, hl with | [_, _, _, _, _], _ => rfl) (fun vs H Q E h => ?_) (fun cdv A outer s H vs Q E hr h => ?_)
  · obtain ⟨a, qa, dl, l, rows, q, s, rfl, D, QA, hs, TD, TF, k⟩ := h; rfl
  · obtain ⟨a, qa, dl, l, rows, q, s, rfl, D, QA, hs, TD, TF, k⟩ := h
    refine ⟨_, (pss_cons (ps_set (i := 5) sc_full_row.nd rfl (by first | exact Or.inl rfl | exact Or.inr rfl) (kme (K := K) (pv 1) O_Question_step_at T.c_Question T.m_Question_step_at (hr.mono (by decide)) (pa_cons (pv 4) pa_nil)))
      (pss_cons (ps_set (i := 6) sc_full_row.nd rfl (by first | exact Or.inl rfl | exact Or.inr rfl) (kme (K := K) (pv 1) O_Question_upper_of T.c_Question T.m_Question_upper_of (hr.mono (by decide)) (pa_cons (pv 4) pa_nil)))
      (pss_cons (ps_if (pt_cmpR op_isN (pv 6) pe_non (nomark _))
        (pss_one (ps_ret (pe_lc (own := [("part", 8)]) (g := gName 8) (tt := _) rfl sc_full_row.nd (kpiL (K := K) (pe_ix (kixL (K := K)) (pv 2) (pv 4) (fun _ _ => rfl))) (blkOk_by (by kernel_rfl)) (fun _ _ _ _ _ => (pg_name (i := 8) sc_full_row.nd rfl (by first | exact Or.inl rfl | exact Or.inr rfl))) (fun _ _ _ _ _ => (pts_one (PW.pt (pw_or (pt_cmpR op_eq (kway (K := K) (pv 5) O_Straight_way O_Anywhere_way T (hr.mono (by decide))) pe_str (nomark _)) (pw_or1 (pt_cmpR op_eq (pv 8) pe_int (nomark _))))))) (fun _ _ _ _ _ => (pv 8)))))
        pss_nil)
      (pss_cons (ps_set (i := 7) sc_full_row.nd rfl (by first | exact Or.inl rfl | exact Or.inr rfl) (kfn (K := K) O_with_above T.g_with_above (hr.mono (by decide)) (pa_cons (pv 0) (pa_cons (pe_ix (kixL (K := K)) (pv 3) (pv 6) (fun _ _ => rfl)) (pa_cons (kway (K := K) (pv 5) O_Straight_way O_Anywhere_way T (hr.mono (by decide))) pa_nil)))))
      (pss_one (ps_ret (pe_lc (own := [("part", 8)]) (g := gName 8) (tt := _) rfl sc_full_row.nd (kpiL (K := K) (pe_ix (kixL (K := K)) (pv 2) (pv 4) (fun _ _ => rfl))) (blkOk_by (by kernel_rfl)) (fun _ _ _ _ _ => (pg_name (i := 8) sc_full_row.nd rfl (by first | exact Or.inl rfl | exact Or.inr rfl))) (fun _ _ _ _ _ => (pts_one (pt_cmp (pc_din (hu_of hr) (pv 8) (pv 7)) rfl))) (fun _ _ _ _ _ => (pv 8))))))))), ?_⟩
    have hV := D.ok.v
    have hn := D.ok.many
    have hq : q.k ≤ 100 := QA.ok.many
    have hr : q.rows[s]? = some (q.rows[s]'hs) := List.getElem?_eq_getElem hs
    obtain ⟨_, dxq, pg, ps, pe, pu, qts, ss, h1, h2, h3, h4, h5, h6, h7⟩ := id QA
    have hw := qway hr
    refine ⟨_, rfl, mt_Question_step_at h1 ⟨_, rfl, qa, q, s, _, rfl, QA, hr, fun sa hsa => ?_⟩⟩
    refine ⟨_, rfl, mt_Question_upper_of h1 ⟨_, rfl, qa, q, s, rfl, QA, hs, ?_⟩⟩
    obtain ⟨xs, ta, L, b1, b2, b3, b4⟩ := TD.at_ hs
    subst b4
    have dll : (downS q rows s).length ≤ 240 := Nat.le_trans (List.length_filter_le _ _) (by rw [List.length_range]; exact hn)
    obtain ⟨dxs, es⟩ := hsa
    cases hu : q.up s with
    | none =>
      refine ⟨_, rfl, rfl, true, rfl, _, rfl, _, rfl, dl, _, _, _, rfl, rfl, SqL.of b1, b2, ta, rfl, ⟨_, SqL.of b3⟩, fun DD nDD => ?_⟩
      refine lc_same (walk_list (xs := nv (downS q rows s))) (fun i => (downS q rows s)[i]?.bind fun p => if cd (q.way s = false ∨ p = 0) = true then some (.int p) else none) nDD (by rw [len_nv]; exact Nat.le_trans dll line240) (fun H s => SqL.of (s _ _ b3)) ?_ ?_
      · rintro i v H6 H7 N N0 hi s6 ⟨rfl, ev⟩ ky kn
        obtain ⟨p, hp, rfl⟩ := at_nv ev
        refine ⟨rfl, _, rfl, sa, dxs, _, (q.rows[s]'hs).1, rfl, s6 _ _ es, lkM ne_way_label lkN, rfl, ?_⟩
        rw [hp] at ky kn
        rw [hw] at ky kn
        generalize (q.rows[s]'hs).1 = b at ky kn
        cases b with
        | false => exact ⟨true, bt (by rfl), _, rfl, ky _ _ (Same.refl _) (if_pos (cd_true (.inl rfl)))⟩
        | true =>
          refine ⟨false, by decide +kernel, _, rfl, rfl, ?_⟩
          by_cases h0 : p = 0
          · exact ⟨true, bt (by rw [h0]; rfl), _, rfl, ky _ _ (Same.refl _) (if_pos (cd_true (.inr h0)))⟩
          · refine ⟨false, bf (fun z => h0 ?_), kn (if_neg (fun z => ?_)) _ (Same.refl _)⟩
            · have : (p : Int) = 0 := V.int.inj z
              omega
            · exact (cd_iff.mp z).elim (fun z => by cases z) h0
      · intro H6 s6 e6
        refine k _ _ s6 nDD ?_
        rw [e6, len_nv, fm_list, full_eq0 hV hu]
    | some u =>
      obtain ⟨u1, u2⟩ := Qs.up_lt hu
      obtain ⟨xs2, ta2, L2, c1, c2, c3, c4⟩ := TF.at_ u1
      subst c4
      refine ⟨_, rfl, rfl, false, rfl, ?_⟩
      refine ⟨_, rfl, _, rfl, _, rfl, l, _, _, _, rfl, rfl, SqL.of c1, c2, _, rfl, sa, dxs, _, (q.rows[s]'hs).1, rfl, es, lkM ne_way_label lkN, a, ta2, rows, _, _, rfl, D, c3, fun p hp => (mem_fullS.mp hp).1, fun H5 d s5 nd F => ?_⟩
      refine ⟨_, rfl, _, rfl, dl, _, _, _, rfl, rfl, SqL.of (s5 _ _ b1), b2, ta, rfl, ⟨_, SqL.of (s5 _ _ b3)⟩, fun DD nDD => ?_⟩
      refine lc_same (walk_list (xs := nv (downS q rows s))) (fun i => (downS q rows s)[i]?.bind fun p => if cd (Abv q rows (q.way s) u p) = true then some (.int p) else none) nDD (by rw [len_nv]; exact Nat.le_trans dll line240) (fun H s => SqL.of (s _ _ (s5 _ _ b3))) ?_ ?_
      · rintro i v H6 H7 N N0 hi s6 ⟨rfl, ev⟩ ky kn
        obtain ⟨p, hp, rfl⟩ := at_nv ev
        obtain ⟨o, hg, ho⟩ := (F.same s6).get p
        rw [hp] at ky kn
        have hA : Abv q rows (q.way s) u p ↔ o.isSome = true := by rw [ho, hw]; rfl
        refine ⟨rfl, _, rfl, _, rfl, d, o, rfl, hg, o.isSome, rfl, ?_⟩
        cases hb : o.isSome with
        | true => exact ⟨_, rfl, ky _ _ (Same.refl _) (if_pos (cd_true (hA.mpr hb)))⟩
        | false => exact kn (if_neg (fun z => by rw [hA.mp (cd_iff.mp z)] at hb; cases hb)) _ (Same.refl _)
      · intro H6 s6 e6
        refine k _ _ (s5.trans s6) (s5.free nDD) ?_
        rw [e6, len_nv, fm_list, full_eq1 hV hu]
theorem sc_down_table : FnScope ["document", "question", "table", "step"] ["document", "question"] (defScope s_down_table) := ⟨rfl, rfl, rfl, by decide +kernel, rfl, by decide +kernel, by decide +kernel⟩
theorem ok_down_table (T : Tx K mg) (O_Question_many : Ok P w K mg base 1 at_Question_many ["self"] (sp_Question_many K)) (O_down_row : Ok P w K mg base 6 at_down_row ["document", "question", "table", "step"] (sp_down_row K)) : Ok P w K mg base 7 at_down_table ["document", "question"] (sp_down_table K) := by
  refine mkOk T.d_down_table sc_down_table (fun _ _ _ _ _ _ us hl => match us, hl with | [_, _], _ => rfl) (fun vs H Q E h => ?_) (fun cdv A outer s H vs Q E hr h => ?_)
  · obtain ⟨a, qa, rows, q, rfl, D, QA, k⟩ := h; rfl
  · obtain ⟨a, qa, rows, q, rfl, D, QA, k⟩ := h
    refine ⟨_, (pss_cons (ps_setLc (i := 2) (own := [("step", 3)]) (g := gName 3) (tt := tYes) rfl sc_down_table.nd rfl rfl (sw_true rfl rfl rfl (by decide +kernel)) (pi_range1 (by rfl) T.f_range (pa_cons (kme0 (K := K) (pv 1) O_Question_many T.c_Question T.m_Question_many (hr.mono (by decide))) pa_nil)) (blkOk_by (by kernel_rfl)) (fun _ _ _ _ _ => (pg_name (i := 3) sc_down_table.nd rfl (by first | exact Or.inl rfl | exact Or.inr rfl))) (fun _ _ _ _ _ => pts_nil) (fun _ _ _ _ _ => (pe_lst pa_nil)))
      (pss_cons (ps_for PassesOwn.never rfl (pi_revR rfl T.f_reversed (prg_1 rfl T.f_range (kme0 (K := K) (pv 1) O_Question_many T.c_Question T.m_Question_many (hr.mono (by decide))))) (pg_name (i := 3) sc_down_table.nd rfl (by first | exact Or.inl rfl | exact Or.inr rfl))
        (pss_one (ps_asg (kfn (K := K) O_down_row T.g_down_row (hr.mono (by decide)) (pa_cons (pv 0) (pa_cons (pv 1) (pa_cons (pv 2) (pa_cons (pv 3) pa_nil))))) (pg_sub (pv 2) (pv 3) set_list))))
      (pss_one (ps_ret (pv 2))))), ?_⟩
    have hq : q.k ≤ 100 := QA.ok.many
    obtain ⟨_, dxq, pg, ps, pe, pu, qts, ss, h1, h2, h3, h4, h5, h6, h7⟩ := id QA
    refine ⟨_, rfl, mt_Question_many h1 ⟨qa, q, rfl, QA, _, rfl, by omega, by omega, fun DD nDD => ?_⟩⟩
    rw [Int.toNat_natCast]
    refine lc_each walk_range (List.range q.k) (fun H t _ => t ≠ DD ∧ H t = some (.lst [])) nDD (fun _ _ _ _ s h => ⟨h.1, s _ _ h.2⟩) (fun H t r acc acc' e h => ⟨h.1, by rw [upd_ne h.1]; exact h.2⟩) List.length_range (Nat.le_trans hq (by decide)) (fun _ _ => trivial) ?_ ?_
    · rintro i r x H1 H2 N hr hD s ⟨rfl, ex⟩ ky
      exact ⟨rfl, by decide, fun p np => ky p _ (Same.up np) ⟨fun z => hD (by rw [← z]; exact np), upd_same⟩⟩
    intro H1 ts s1 e1 E1
    rw [show (List.range q.k) = List.range q.k from rfl] at E1
    have l1 : ts.length = q.k := by rw [E1.len, List.length_range]
    obtain ⟨_, dxq, pg, ps, pe, pu, qts, ss, h1, h2, h3, h4, h5, h6, h7⟩ := id (QA.same s1)
    refine ⟨_, rfl, mt_Question_many h1 ⟨qa, q, rfl, QA.same s1, _, rfl, by omega, by omega, by omega, by omega, ?_⟩⟩
    have em : ((q.k : Int) - 0).toNat = q.k := by omega
    rw [em]
    refine for_it walk_rangeC (fun i σ H' => ∃ (x3 : Option V), σ = [some (.ref a), some (.ref qa), some (.ref DD), x3] ∧ Same H H' ∧ TabAt H' DD q.k (fun t L => q.k - i ≤ t → L = downS q rows t)) ?_ (fun _ _ _ _ _ => trivial) ?_ ?_
    · refine ⟨none, rfl, s1, ts, e1, l1, fun s t ht => ?_⟩
      have hs : s < q.k := by rw [← l1]; exact (List.getElem?_eq_some_iff.mp ht).1
      obtain ⟨g1, g2⟩ := E1.at_ s t s ht (List.getElem?_range hs)
      exact ⟨g1, [], g2, fun z => by omega⟩
    · rintro i v σ H3 H4 hi ⟨x3, rfl, s3, TB⟩ ⟨rfl, ev⟩
      obtain rfl : v = V.int ((q.k - 1 - i : Nat) : Int) := by
        rw [ev]
        show V.int ((0 : Int) + ((q.k : Nat) : Int) - 1 + (i : Nat) * (-1)) = _
        congr 1; omega
      refine ⟨_, rfl, _, rfl, _, rfl, _, rfl, a, qa, DD, rows, q, q.k - 1 - i, rfl, D.same s3, QA.same s3, by omega, TB.imp fun s L _ h z => h (by omega), fun H5 z s5 nz ez => ?_⟩
      obtain ⟨us, e3, e4, e5⟩ := TB.ex
      have f1 := s5 _ _ e3
      have znf : z ≠ DD := (ne_of_none e3 nz).symm
      refine ⟨_, rfl, _, rfl, DD, _, _, q.k - 1 - i, rfl, rfl, f1, ixN_nat (by rw [List.length_map, e4]; omega), _, rfl, (s3.trans s5).put nDD, us.set (q.k - 1 - i) z, ?_, ?_, ?_⟩
      · rw [upd_same, List.map_set]
      · rw [List.length_set]; exact e4
      · intro j t ht
        by_cases hj : j = q.k - 1 - i
        · subst hj
          rw [List.getElem?_set_self (by omega)] at ht
          obtain rfl := Option.some.inj ht
          exact ⟨znf, _, by rw [upd_ne znf]; exact ez, fun _ => rfl⟩
        · rw [List.getElem?_set_ne (Ne.symm hj)] at ht
          obtain ⟨g1, L, g2, g3⟩ := e5 j t ht
          exact ⟨g1, L, by rw [upd_ne g1]; exact s5 _ _ g2, fun z => g3 (by omega)⟩
    · rintro σ H' ⟨x3, rfl, s3, TB⟩
      exact ⟨_, rfl, k _ _ s3 nDD (TB.imp fun s L _ h => h (by omega))⟩
theorem sc_full_table : FnScope ["document", "question", "down", "table", "step"] ["document", "question"] (defScope s_full_table) := ⟨rfl, rfl, rfl, by decide +kernel, rfl, by decide +kernel, by decide +kernel⟩
theorem ok_full_table (T : Tx K mg) (O_Question_many : Ok P w K mg base 1 at_Question_many ["self"] (sp_Question_many K)) (O_down_table : Ok P w K mg base 7 at_down_table ["document", "question"] (sp_down_table K)) (O_full_row : Ok P w K mg base 6 at_full_row ["document", "question", "down", "table", "step"] (sp_full_row K)) : Ok P w K mg base 8 at_full_table ["document", "question"] (sp_full_table K) := by
  refine mkOk T.d_full_table sc_full_table (fun _ _ _ _ _ _ us hl => match us, hl with | [_, _], _ => rfl) (fun vs H Q E h => ?_) (fun cdv A outer s H vs Q E hr h => ?_)
  · obtain ⟨a, qa, rows, q, rfl, D, QA, k⟩ := h; rfl
  · obtain ⟨a, qa, rows, q, rfl, D, QA, k⟩ := h
    refine ⟨_, (pss_cons (ps_set (i := 2) sc_full_table.nd rfl (by first | exact Or.inl rfl | exact Or.inr rfl) (kfn (K := K) O_down_table T.g_down_table (hr.mono (by decide)) (pa_cons (pv 0) (pa_cons (pv 1) pa_nil))))
      (pss_cons (ps_set (i := 3) sc_full_table.nd rfl (by first | exact Or.inl rfl | exact Or.inr rfl) (pe_lst pa_nil))
      (pss_cons (ps_for PassesOwn.never rfl (pi_range1 (by rfl) T.f_range (pa_cons (kme0 (K := K) (pv 1) O_Question_many T.c_Question T.m_Question_many (hr.mono (by decide))) pa_nil)) (pg_name (i := 4) sc_full_table.nd rfl (by first | exact Or.inl rfl | exact Or.inr rfl))
        (pss_one (ps_expr (kbm (K := K) PySem.F.plainAttrs_list PySem.F.slot_list_append PySem.F.type_list_append kappend (pv 3) (pa_cons (kfn (K := K) O_full_row T.g_full_row (hr.mono (by decide)) (pa_cons (pv 0) (pa_cons (pv 1) (pa_cons (pv 2) (pa_cons (pv 3) (pa_cons (pv 4) pa_nil)))))) pa_nil)))))
      (pss_one (ps_ret (pv 3)))))), ?_⟩
    have hq : q.k ≤ 100 := QA.ok.many
    refine ⟨_, rfl, _, rfl, a, qa, rows, q, rfl, D, QA, fun H1 y s1 ny TD => ?_⟩
    refine ⟨by decide, fun ft nft => ?_⟩
    have s2 : Same H (upd H1 ft (.lst [])) := s1.new nft
    obtain ⟨_, dxq, pg, ps, pe, pu, qts, ss, h1, h2, h3, h4, h5, h6, h7⟩ := id (QA.same s2)
    refine ⟨_, rfl, mt_Question_many h1 ⟨qa, q, rfl, QA.same s2, _, rfl, by omega, by omega, ?_⟩⟩
    rw [Int.toNat_natCast]
    refine for_it walk_range (fun i σ H' => ∃ (x4 : Option V), σ = [some (.ref a), some (.ref qa), some (.ref y), some (.ref ft), x4] ∧ Same H H' ∧ Same H1 H' ∧ TabAt H' ft i (fun t L => L = fullS q rows t)) ?_ (fun _ _ _ _ _ => trivial) ?_ ?_
    · exact ⟨none, rfl, s2, Same.up nft, [], upd_same, rfl, fun _ _ h => by simp at h⟩
    · rintro i v σ H3 H4 hi ⟨x4, rfl, s3, s4, TF⟩ ⟨rfl, ev⟩
      obtain rfl : v = V.int (i : Int) := by
        rw [ev]
        show V.int ((0 : Int) + (i : Nat)) = _
        congr 1; omega
      obtain ⟨ts, e1, e2, e3⟩ := TF.ex
      refine ⟨_, rfl, tyL e1, _, rfl, _, rfl, _, rfl, _, rfl, _, rfl, a, qa, y, ft, rows, q, i, rfl, D.same s3, QA.same s3, hi, TD.same s4, TF, fun H5 z s5 nz ez => ?_⟩
      have f1 := s5 _ _ e1
      have znf : z ≠ ft := (ne_of_none e1 nz).symm
      refine ⟨ft, _, _, rfl, rfl, f1, ?_, _, rfl, (s3.trans s5).put (s1.free nft), (s4.trans s5).put nft, ts ++ [z], ?_, ?_, ?_⟩
      · rw [List.length_map, e2]; exact Nat.lt_of_lt_of_le hi (Nat.le_trans hq (by decide))
      · rw [upd_same, List.map_append]; rfl
      · rw [List.length_append, e2]; rfl
      · intro j t ht
        by_cases hj : j < ts.length
        · rw [List.getElem?_append_left hj] at ht
          obtain ⟨g1, L, g2, g3⟩ := e3 j t ht
          exact ⟨g1, L, by rw [upd_ne g1]; exact s5 _ _ g2, g3⟩
        · rw [List.getElem?_append_right (by omega)] at ht
          have h0 : j - ts.length = 0 := by
            have := (List.getElem?_eq_some_iff.mp ht).1
            simp at this; omega
          rw [h0] at ht
          obtain rfl : z = t := by simpa using ht
          obtain rfl : j = i := by omega
          exact ⟨znf, _, by rw [upd_ne znf]; exact ez, rfl⟩
    · rintro σ H' ⟨x4, rfl, s3, s4, TF⟩
      exact ⟨_, rfl, k _ _ s3 (s1.free nft) TF⟩
theorem sc_run_slow : FnScope ["document", "question"] ["document", "question"] (defScope s_run_slow) := ⟨rfl, rfl, rfl, by decide +kernel, rfl, by decide +kernel, by decide +kernel⟩
theorem ok_run_slow (T : Tx K mg) (O_Question_wanted : Ok P w K mg base 1 at_Question_wanted ["self"] (sp_Question_wanted K)) (O_full_table : Ok P w K mg base 8 at_full_table ["document", "question"] (sp_full_table K)) : Ok P w K mg base 9 at_run_slow ["document", "question"] (sp_run_slow K) := by
  refine mkOk T.d_run_slow sc_run_slow (fun _ _ _ _ _ _ us hl => match us, hl with | [_, _], _ => rfl) (fun vs H Q E h => ?_) (fun cdv A outer s H vs Q E hr h => ?_)
  · obtain ⟨a, qa, rows, q, rfl, D, QA, k⟩ := h; rfl
  · obtain ⟨a, qa, rows, q, rfl, D, QA, k⟩ := h
    refine ⟨_, (pss_one (ps_ret (pe_ix (kixL (K := K)) (kfn (K := K) O_full_table T.g_full_table (hr.mono (by decide)) (pa_cons (pv 0) (pa_cons (pv 1) pa_nil))) (kme0 (K := K) (pv 1) O_Question_wanted T.c_Question T.m_Question_wanted (hr.mono (by decide))) (fun _ _ => rfl)))), ?_⟩
    refine ⟨_, rfl, _, rfl, a, qa, rows, q, rfl, D, QA, fun H1 y s1 ny TF => ?_⟩
    obtain ⟨_, dxq, pg, ps, pe, pu, qts, ss, h1, h2, h3, h4, h5, h6, h7⟩ := id (QA.same s1)
    obtain ⟨xs, ta, L, b1, b2, b3, b4⟩ := TF.at_ q.lt
    subst b4
    exact ⟨_, rfl, mt_Question_wanted h1 ⟨qa, q, rfl, QA.same s1, y, _, _, _, rfl, rfl, SqL.of b1, b2, k _ _ s1 b3⟩⟩
end
end Bg

set_option Elab.async false
set_option linter.all false
set_option maxRecDepth 100000
set_option maxHeartbeats 4000000
namespace Bg
open PySem PySem.Spec PyProof.Rows L2
/-! ### whose an object is -/
inductive Ro where
  | out | src | tmp | gar (i : Nat) | pd (i : Nat) | kl (i : Nat) | pl (i : Nat) (m : Int) | un (i : Nat) (m : Int) | kp (i j : Nat) | dn (i j : Nat) | bn (i j : Nat) | ps (i j : Nat) | sn (i j : Nat) | kq (i : Nat)
deriving DecidableEq
def Ro.gi : Ro → Option Nat
  | .gar i | .pd i | .kl i | .pl i _ | .un i _ | .kp i _ | .dn i _ | .bn i _ | .ps i _ | .sn i _ => some i
  | _ => none
abbrev Ow := Addr → Ro
def Own (H : Hp) (ow : Ow) : Prop := ∀ b, ow b ≠ .out → H b ≠ none
theorem Own.new {H : Hp} {ow : Ow} (h : Own H ow) {p : Addr} (e : H p = none) : ow p = .out := Classical.byContradiction fun z => h p z e
theorem rne {ow : Ow} {a b : Addr} {r r' : Ro} (h : ow a = r) (h' : ow b = r') (ne : r ≠ r') : a ≠ b := fun z => ne (by rw [← h, ← h', z])
def owp (ow : Ow) (p : Addr) (r : Ro) : Ow := fun b => if b = p then r else ow b
theorem owp_same {ow : Ow} {p : Addr} {r : Ro} : owp ow p r p = r := if_pos rfl
theorem owp_ne {ow : Ow} {p b : Addr} {r : Ro} (h : b ≠ p) : owp ow p r b = ow b := if_neg h
/-- one step: what is not of C stays -/
structure Step (C : Ro → Prop) (H : Hp) (ow : Ow) (H' : Hp) (ow' : Ow) : Prop where
  keep : ∀ b, H b ≠ none → ow' b = ow b
  alive : ∀ b, H b ≠ none → H' b ≠ none
  fr : ∀ b o, ¬ C (ow b) → H b = some o → H' b = some o
  own : Own H' ow'
theorem Step.refl {C : Ro → Prop} {H : Hp} {ow : Ow} (h : Own H ow) : Step C H ow H ow := ⟨fun _ _ => rfl, fun _ h => h, fun _ _ _ h => h, h⟩
theorem some_ne {H : Hp} {b : Addr} {o : HO} (e : H b = some o) : H b ≠ none := fun z => by rw [e] at z; cases z
theorem Step.trans {C : Ro → Prop} {H H1 H2 : Hp} {ow ow1 ow2 : Ow} (a : Step C H ow H1 ow1) (b : Step C H1 ow1 H2 ow2) : Step C H ow H2 ow2 :=
  ⟨fun x h => (b.keep x (a.alive x h)).trans (a.keep x h), fun x h => b.alive x (a.alive x h), fun x o c e => b.fr x o (by rw [a.keep x (some_ne e)]; exact c) (a.fr x o c e), b.own⟩
theorem Step.mono {C C' : Ro → Prop} {H H1 : Hp} {ow ow1 : Ow} (h : ∀ r, C r → C' r) (a : Step C H ow H1 ow1) : Step C' H ow H1 ow1 := ⟨a.keep, a.alive, fun x o c e => a.fr x o (fun z => c (h _ z)) e, a.own⟩
theorem alive_of_same {H H' : Hp} (s : Same H H') (b : Addr) (h : H b ≠ none) : H' b ≠ none := by
  cases e : H b with
  | none => exact absurd e h
  | some o => exact some_ne (s b o e)
theorem Step.same {C : Ro → Prop} {H H1 : Hp} {ow : Ow} (h : Own H ow) (s : Same H H1) : Step C H ow H1 ow := ⟨fun _ _ => rfl, alive_of_same s, fun x o _ e => s x o e, fun b z => alive_of_same s b (h b z)⟩
theorem Step.new {C : Ro → Prop} {H : Hp} {ow : Ow} {p : Addr} {o : HO} (h : Own H ow) (e : H p = none) (r : Ro) : Step C H ow (upd H p o) (owp ow p r) :=
  ⟨fun b z => owp_ne fun w => z (by rw [w]; exact e), alive_of_same (Same.up e), fun x u _ eq => upd_at e eq, fun b z => by
    by_cases w : b = p
    · subst w; rw [upd_same]; exact fun z => by cases z
    · rw [owp_ne w] at z; rw [upd_ne w]; exact h b z⟩
theorem Step.put {C : Ro → Prop} {H : Hp} {ow : Ow} {p : Addr} {o u : HO} (h : Own H ow) (e : H p = some u) (c : C (ow p)) : Step C H ow (upd H p o) ow :=
  ⟨fun _ _ => rfl, fun b z => by
    by_cases w : b = p
    · subst w; rw [upd_same]; exact fun z => by cases z
    · rw [upd_ne w]; exact z, fun b v n eq => by rw [upd_ne (fun w => n (by rw [w]; exact c))]; exact eq, fun b z => by
    by_cases w : b = p
    · subst w; rw [upd_same]; exact fun z => by cases z
    · rw [upd_ne w]; exact h b z⟩
/-- what nobody changes -/
def hid (ow : Ow) (H : Hp) : Hp := fun b => if ow b = .out then H b else none
theorem hid_sub {ow : Ow} {H : Hp} : Same (hid ow H) H := fun b o e => by
  unfold hid at e; split at e
  · exact e
  · cases e
theorem hid_some {ow : Ow} {H : Hp} {b : Addr} {o : HO} : hid ow H b = some o ↔ ow b = .out ∧ H b = some o := by
  unfold hid
  constructor
  · intro e; split at e
    · exact ⟨‹_›, e⟩
    · cases e
  · rintro ⟨h, e⟩; rw [if_pos h]; exact e
theorem Step.hid {C : Ro → Prop} {H H' : Hp} {ow ow' : Ow} (s : Step C H ow H' ow') (c : ¬ C .out) : Same (hid ow H) (hid ow' H') := fun b o e => by
  obtain ⟨h, e⟩ := hid_some.mp e
  exact hid_some.mpr ⟨by rw [s.keep b (some_ne e)]; exact h, s.fr b o (by rw [h]; exact c) e⟩
theorem hid_same {H H' : Hp} {ow : Ow} (s : Same H H') : Same (hid ow H) (hid ow H') := fun b o e => by
  obtain ⟨h, e⟩ := hid_some.mp e
  exact hid_some.mpr ⟨h, s b o e⟩
theorem hid_new {H H' : Hp} {ow : Ow} (h : Own H ow) {b : Addr} {o : HO} (n : H b = none) (e : H' b = some o) : hid ow H' b = some o := hid_some.mpr ⟨h.new n, e⟩
theorem ext_hid {H H' : Hp} {ow : Ow} (h : Own H ow) (s : Same H H') : Same (ext (hid ow H) H H') (hid ow H') := fun b o e => by
  unfold ext at e
  by_cases z : (H b).isNone = true
  · rw [if_pos z] at e
    exact hid_new h (Option.isNone_iff_eq_none.mp z) e
  · rw [if_neg z] at e
    exact hid_same s b o e
/-! ### dicts by marks -/
def DictAt (H : Hp) (a : Addr) (dom : Int → Prop) (val : Int → V) : Prop := ∃ kvs d, H a = some (.dK kvs) ∧ IntD kvs d val ∧ ∀ m, m ∈ d ↔ dom m
namespace DictAt
variable {H H' : Hp} {a : Addr} {dom : Int → Prop} {val : Int → V}
theorem some (h : DictAt H a dom val) : ∃ kvs, H a = .some (.dK kvs) := let ⟨kvs, _, e, _⟩ := h; ⟨kvs, e⟩
theorem isD (h : DictAt H a dom val) : IsD H a := let ⟨kvs, _, e, _⟩ := h; .inl ⟨kvs, .inl e⟩
theorem of (h : DictAt H a dom val) (e : ∀ o, H a = .some o → H' a = .some o) : DictAt H' a dom val := let ⟨kvs, d, e1, r⟩ := h; ⟨kvs, d, e _ e1, r⟩
theorem same (h : DictAt H a dom val) (s : Same H H') : DictAt H' a dom val := h.of fun o e => s _ _ e
theorem get (h : DictAt H a dom val) {m : Int} (hm : dom m) : DGet H a (.int m) (.some (val m)) := let ⟨_, _, e, D, q⟩ := h; D.get e ((q m).mpr hm)
theorem opt (h : DictAt H a dom val) (m : Int) : ∃ o, DGet H a (.int m) o ∧ (dom m → o = .some (val m)) ∧ (¬ dom m → o = none) := by
  obtain ⟨kvs, d, e, D, q⟩ := h
  exact ⟨_, DGet.k (k := .inl m) e, fun hm => D.val m ((q m).mpr hm), fun hm => D.no fun z => hm ((q m).mp z)⟩
theorem put (h : DictAt H a dom val) {M : List Int} (hM : ∀ m, dom m → m ∈ M) (hl : M.length ≤ 240) (m : Int) (v : V) : ∃ kvs', DPut H a (.int m) v (upd H a (.dK kvs')) ∧ ∀ H2, H2 a = .some (.dK kvs') → DictAt H2 a (fun x => dom x ∨ x = m) (fun x => if x = m then v else val x) := by
  obtain ⟨kvs, d, e, D, q⟩ := h
  have hd : d.length ≤ 240 := Nat.le_trans (List.Nodup.length_le_of_subset D.nd fun x hx => hM x ((q x).mp hx)) hl
  refine ⟨_, DPut.k (k := .inl m) e (by rw [D.len]; exact Nat.lt_of_le_of_lt hd (by decide)), fun H2 e2 => ?_⟩
  by_cases c : m ∈ d
  · exact ⟨_, d, e2, D.put_old c v, fun x => by rw [q x]; exact ⟨.inl, fun h => h.elim id fun z => by rw [z]; exact (q m).mp c⟩⟩
  · exact ⟨_, d ++ [m], e2, D.put_new c v, fun x => by rw [List.mem_append, List.mem_singleton, q x]⟩
theorem pop (h : DictAt H a dom val) {m : Int} (hm : dom m) : ∃ kvs, H a = .some (.dK kvs) ∧ valV kvs (.inl m) = .some (val m) ∧ ∀ H2, H2 a = .some (.dK (dropK kvs (.inl m))) → DictAt H2 a (fun x => dom x ∧ x ≠ m) val := by
  obtain ⟨kvs, d, e, D, q⟩ := h
  refine ⟨kvs, e, D.val m ((q m).mpr hm), fun H2 e2 => ⟨_, _, e2, D.drop m, fun x => ?_⟩⟩
  rw [List.mem_filter, q x]
  refine and_congr Iff.rfl ?_
  rw [Bool.not_eq_true', decide_eq_false_iff_not]
theorem nil (e : H a = .some (.dK [])) : DictAt H a (fun _ => False) val := ⟨[], [], e, IntD.nil _, fun m => ⟨fun h => (by cases h), False.elim⟩⟩
theorem iff (h : DictAt H a dom val) {dom' : Int → Prop} {val' : Int → V} (e : ∀ m, dom m ↔ dom' m) (e2 : ∀ m, dom m → val m = val' m) : DictAt H a dom' val' := by
  obtain ⟨kvs, d, e1, D, q⟩ := h
  exact ⟨kvs, d, e1, D.congr fun m hm => e2 m ((q m).mp hm), fun m => (q m).trans (e m)⟩
end DictAt
/-! ### plants -/
structure PAd where
  pd : Addr
  P : Int → Addr
  U : Int → Addr
  X : Int → Addr
structure PlantsAt (K : PySem.W.Frag) (H : Hp) (ow : Ow) (i : Nat) (A : PAd) (f : GF Str) : Prop where
  small : f.size ≤ 240
  nd : (marks f).Nodup
  pd : DictAt H A.pd (· ∈ marks f) fun m => .ref (A.P m)
  opd : ow A.pd = .pd i
  pl : ∀ x ∈ nodes none f, H (A.P x.m) = some (.ins (aPlant K) (A.X x.m) (fs_Plant (.str x.l) (oiv x.o) (.ref (A.U x.m))))
  opl : ∀ m ∈ marks f, ow (A.P m) = .pl i m
  un : ∀ x ∈ nodes none f, H (A.U x.m) = some (.lst (iv x.ks))
  oun : ∀ m ∈ marks f, ow (A.U m) = .un i m
theorem PlantsAt.step {K : PySem.W.Frag} {C : Ro → Prop} {H H' : Hp} {ow ow' : Ow} {i : Nat} {A : PAd} {f : GF Str} (h : PlantsAt K H ow i A f) (s : Step C H ow H' ow') (c1 : ¬ C (.pd i)) (c2 : ∀ m, ¬ C (.pl i m)) (c3 : ∀ m, ¬ C (.un i m)) : PlantsAt K H' ow' i A f where
  small := h.small
  nd := h.nd
  pd := h.pd.of fun o e => s.fr _ _ (by rw [h.opd]; exact c1) e
  opd := by obtain ⟨_, e⟩ := h.pd.some; rw [s.keep _ (some_ne e)]; exact h.opd
  pl := fun x hx => s.fr _ _ (by rw [h.opl _ (node_mark hx)]; exact c2 _) (h.pl x hx)
  opl := fun m hm => by obtain ⟨x, hx, rfl⟩ := mark_node none hm; rw [s.keep _ (some_ne (h.pl x hx))]; exact h.opl _ hm
  un := fun x hx => s.fr _ _ (by rw [h.oun _ (node_mark hx)]; exact c3 _) (h.un x hx)
  oun := fun m hm => by obtain ⟨x, hx, rfl⟩ := mark_node none hm; rw [s.keep _ (some_ne (h.un x hx))]; exact h.oun _ hm
theorem PlantsAt.same {K : PySem.W.Frag} {H H' : Hp} {ow : Ow} {i : Nat} {A : PAd} {f : GF Str} (h : PlantsAt K H ow i A f) (s : Same H H') : PlantsAt K H' ow i A f :=
  ⟨h.small, h.nd, h.pd.same s, h.opd, fun x hx => s _ _ (h.pl x hx), h.opl, fun x hx => s _ _ (h.un x hx), h.oun⟩
/-! ### keepings -/
structure KA where
  kp : Addr
  dx : Addr
  sb : Addr
  nr : Addr
  fr : Addr
  up : Addr
  wy : Addr
  dn : Addr
  bn : Addr
  ps : Addr
  sn : Addr
def byLab (q : Qs Str) (l : Str) : List Nat := (List.range q.k).filter fun s => decide (q.lab s = some l)
structure ImAt (S : Hp) (q : Qs Str) (A : KA) : Prop where
  sb : ∃ kvs, S A.sb = some (.dK kvs) ∧ ∀ l : Str, (valV kvs (.inr l) = none ∧ byLab q l = []) ∨ ∃ b, valV kvs (.inr l) = some (.ref b) ∧ S b = some (.lst (nv (byLab q l)))
  nr : S A.nr = some (.lst (nv ((List.range q.k).map (nearQ q))))
  fr : S A.fr = some (.lst (nv ((List.range q.k).map (farQ q))))
  up : S A.up = some (.lst ((List.range q.k).map fun s => onv (q.up s)))
  wy : S A.wy = some (.lst ((List.range q.k).map fun s => .str (wstr (q.way s))))
theorem ImAt.same {S S' : Hp} {q : Qs Str} {A : KA} (h : ImAt S q A) (s : Same S S') : ImAt S' q A := by
  obtain ⟨kvs, e, r⟩ := h.sb
  exact ⟨⟨kvs, s _ _ e, fun l => (r l).imp id fun ⟨b, x, y⟩ => ⟨b, x, s _ _ y⟩⟩, s _ _ h.nr, s _ _ h.fr, s _ _ h.up, s _ _ h.wy⟩
structure KeepAt (K : PySem.W.Frag) (H : Hp) (ow : Ow) (i j : Nat) (A : KA) (q : Qs Str) (T : Tb) (R : Int → Addr) (dD dB dP sS : Int → Prop) : Prop where
  qok : q.k ≤ 100
  obj : H A.kp = some (.ins (aKeeping K) A.dx (fs_Keeping (.ref A.sb) (.ref A.nr) (.ref A.fr) (.ref A.up) (.ref A.wy) (.int q.goal) (.ref A.dn) (.ref A.bn) (.ref A.ps) (.ref A.sn)))
  okp : ow A.kp = .kp i j
  im : ImAt (hid ow H) q A
  dn : DictAt H A.dn dD fun m => .int (T.D m)
  odn : ow A.dn = .dn i j
  bn : DictAt H A.bn dB fun m => .int (T.B m)
  obn : ow A.bn = .bn i j
  ps : DictAt H A.ps dP fun m => .ref (R m)
  ops : ow A.ps = .ps i j
  pt : ∀ m, dP m → hid ow H (R m) = some (.tup [.int (T.P m).1, .int (T.P m).2])
  sn : DictAt H A.sn sS fun _ => .bl true
  osn : ow A.sn = .sn i j
section
variable {K : PySem.W.Frag} {C : Ro → Prop} {H H' : Hp} {ow ow' : Ow} {i j : Nat} {A : KA} {q : Qs Str} {T : Tb} {R : Int → Addr} {dD dB dP sS : Int → Prop}
theorem DictAt.step {a : Addr} {dom : Int → Prop} {val : Int → V} {r : Ro} (h : DictAt H a dom val) (o : ow a = r) (s : Step C H ow H' ow') (c : ¬ C r) : DictAt H' a dom val ∧ ow' a = r :=
  ⟨h.of fun _ e => s.fr _ _ (by rw [o]; exact c) e, by obtain ⟨_, e⟩ := h.some; rw [s.keep _ (some_ne e)]; exact o⟩
theorem KeepAt.step (h : KeepAt K H ow i j A q T R dD dB dP sS) (s : Step C H ow H' ow') (c0 : ¬ C .out) (c1 : ¬ C (.kp i j)) (c2 : ¬ C (.dn i j)) (c3 : ¬ C (.bn i j)) (c4 : ¬ C (.ps i j)) (c5 : ¬ C (.sn i j)) : KeepAt K H' ow' i j A q T R dD dB dP sS where
  qok := h.qok
  obj := s.fr _ _ (by rw [h.okp]; exact c1) h.obj
  okp := by rw [s.keep _ (some_ne h.obj)]; exact h.okp
  im := h.im.same (s.hid c0)
  dn := (h.dn.step h.odn s c2).1
  odn := (h.dn.step h.odn s c2).2
  bn := (h.bn.step h.obn s c3).1
  obn := (h.bn.step h.obn s c3).2
  ps := (h.ps.step h.ops s c4).1
  ops := (h.ps.step h.ops s c4).2
  pt := fun m hm => s.hid c0 _ _ (h.pt m hm)
  sn := (h.sn.step h.osn s c5).1
  osn := (h.sn.step h.osn s c5).2
theorem KeepAt.same (h : KeepAt K H ow i j A q T R dD dB dP sS) (s : Same H H') : KeepAt K H' ow i j A q T R dD dB dP sS :=
  ⟨h.qok, s _ _ h.obj, h.okp, h.im.same (hid_same s), h.dn.same s, h.odn, h.bn.same s, h.obn, h.ps.same s, h.ops, fun m hm => hid_same s _ _ (h.pt m hm), h.sn.same s, h.osn⟩
/-- an owned place changed: what nobody changes stays -/
theorem hid_upd {a : Addr} {o : HO} (h : ow a ≠ .out) : Same (hid ow H) (hid ow (upd H a o)) := fun b u e => by
  obtain ⟨z, e⟩ := hid_some.mp e
  exact hid_some.mpr ⟨z, by rw [upd_ne (fun w => h (by rw [← w]; exact z))]; exact e⟩
theorem DictAt.upd {a b : Addr} {dom : Int → Prop} {val : Int → V} {o : HO} (h : DictAt H a dom val) (ne : a ≠ b) : DictAt (upd H b o) a dom val := h.of fun _ e => by rw [upd_ne ne]; exact e
theorem KeepAt.put_dn (h : KeepAt K H ow i j A q T R dD dB dP sS) {kvs : List (Key × V)} {dD' : Int → Prop} {D : Int → Nat} (d : DictAt (upd H A.dn (.dK kvs)) A.dn dD' fun m => .int (D m)) : KeepAt K (upd H A.dn (.dK kvs)) ow i j A q { T with D := D } R dD' dB dP sS :=
  ⟨h.qok, by rw [upd_ne (rne h.okp h.odn (by simp))]; exact h.obj, h.okp, h.im.same (hid_upd (by rw [h.odn]; simp)), d, h.odn, h.bn.upd (rne h.obn h.odn (by simp)), h.obn, h.ps.upd (rne h.ops h.odn (by simp)), h.ops,
    fun m hm => hid_upd (by rw [h.odn]; simp) _ _ (h.pt m hm), h.sn.upd (rne h.osn h.odn (by simp)), h.osn⟩
theorem KeepAt.put_bn (h : KeepAt K H ow i j A q T R dD dB dP sS) {kvs : List (Key × V)} {dB' : Int → Prop} {B : Int → Nat} (d : DictAt (upd H A.bn (.dK kvs)) A.bn dB' fun m => .int (B m)) : KeepAt K (upd H A.bn (.dK kvs)) ow i j A q { T with B := B } R dD dB' dP sS :=
  ⟨h.qok, by rw [upd_ne (rne h.okp h.obn (by simp))]; exact h.obj, h.okp, h.im.same (hid_upd (by rw [h.obn]; simp)), h.dn.upd (rne h.odn h.obn (by simp)), h.odn, d, h.obn, h.ps.upd (rne h.ops h.obn (by simp)), h.ops,
    fun m hm => hid_upd (by rw [h.obn]; simp) _ _ (h.pt m hm), h.sn.upd (rne h.osn h.obn (by simp)), h.osn⟩
theorem KeepAt.put_ps (h : KeepAt K H ow i j A q T R dD dB dP sS) {kvs : List (Key × V)} {dP' : Int → Prop} {P : Int → Nat × Nat} {R' : Int → Addr} (d : DictAt (upd H A.ps (.dK kvs)) A.ps dP' fun m => .ref (R' m)) (p : ∀ m, dP' m → hid ow H (R' m) = some (.tup [.int (P m).1, .int (P m).2])) : KeepAt K (upd H A.ps (.dK kvs)) ow i j A q { T with P := P } R' dD dB dP' sS :=
  ⟨h.qok, by rw [upd_ne (rne h.okp h.ops (by simp))]; exact h.obj, h.okp, h.im.same (hid_upd (by rw [h.ops]; simp)), h.dn.upd (rne h.odn h.ops (by simp)), h.odn, h.bn.upd (rne h.obn h.ops (by simp)), h.obn, d, h.ops,
    fun m hm => hid_upd (by rw [h.ops]; simp) _ _ (p m hm), h.sn.upd (rne h.osn h.ops (by simp)), h.osn⟩
theorem KeepAt.put_sn (h : KeepAt K H ow i j A q T R dD dB dP sS) {kvs : List (Key × V)} {sS' : Int → Prop} (d : DictAt (upd H A.sn (.dK kvs)) A.sn sS' fun _ => .bl true) : KeepAt K (upd H A.sn (.dK kvs)) ow i j A q T R dD dB dP sS' :=
  ⟨h.qok, by rw [upd_ne (rne h.okp h.osn (by simp))]; exact h.obj, h.okp, h.im.same (hid_upd (by rw [h.osn]; simp)), h.dn.upd (rne h.odn h.osn (by simp)), h.odn, h.bn.upd (rne h.obn h.osn (by simp)), h.obn, h.ps.upd (rne h.ops h.osn (by simp)), h.ops,
    fun m hm => hid_upd (by rw [h.osn]; simp) _ _ (h.pt m hm), d, h.osn⟩
end
/-! ### bits -/
theorem bor {a b : Nat} : Builtin.bitOr (a : Int) (b : Int) = ((a ||| b : Nat) : Int) := by
  rw [Bits.bitOr_pp (by omega) (by omega), Int.toNat_natCast, Int.toNat_natCast]
theorem band {a b : Nat} : Builtin.bitAnd (a : Int) (b : Int) = ((a &&& b : Nat) : Int) := by
  rw [bitAnd_pp (by omega) (by omega), Int.toNat_natCast, Int.toNat_natCast]
theorem shl1 (s : Nat) : (1 : Int) * 2 ^ ((s : Int)).toNat = ((2 ^ s : Nat) : Int) := by rw [Int.toNat_natCast, Int.one_mul]; exact (Int.natCast_pow 2 s).symm
theorem shrT (a s : Nat) : Builtin.bitAnd ((a : Int) / 2 ^ ((s : Int)).toNat) 1 = if a.testBit s = true then 1 else 0 := by
  have e : (a : Int) / 2 ^ ((s : Int)).toNat = ((a / 2 ^ s : Nat) : Int) := by
    rw [Int.toNat_natCast, Int.natCast_ediv]
    congr 1
  rw [e, show (1 : Int) = ((1 : Nat) : Int) from rfl, band, Nat.and_one_is_mod, Nat.testBit_eq_decide_div_mod_eq]
  by_cases h : a / 2 ^ s % 2 = 1
  · rw [decide_eq_true h, h]; rfl
  · have h0 : a / 2 ^ s % 2 = 0 := by omega
    rw [decide_eq_false h, h0]; rfl
end Bg

set_option Elab.async false
set_option linter.all false
set_option maxRecDepth 100000
set_option maxHeartbeats 4000000
namespace Bg
open PySem PySem.Spec PyProof.Rows L2
/-! ### plants and keepings: their methods -/
def sp_Plant_init (K : PySem.W.Frag) : Sp := fun vs H Q _ => ∃ (a dx : Addr) (x : Str) (o : Option Int), vs = [.ref a, .str x, oiv o] ∧ H a = some (.ins (aPlant K) dx []) ∧ ∀ u, H u = none → Q .non (upd (upd H u (.lst [])) a (.ins (aPlant K) dx (fs_Plant (.str x) (oiv o) (.ref u))))
def setD (T : Tb) (m : Int) (d : Nat) : Tb := { T with D := fun x => if x = m then d else T.D x }
def setB (T : Tb) (m : Int) (d : Nat) : Tb := { T with B := fun x => if x = m then d else T.B x }
def setP (T : Tb) (m : Int) (p : Nat × Nat) : Tb := { T with P := fun x => if x = m then p else T.P x }
def sp_Keeping_look_up (K : PySem.W.Frag) : Sp := fun vs H Q _ => ∃ (ow : Ow) (i j : Nat) (A : KA) (q : Qs Str) (T : Tb) (R : Int → Addr) (dD dB dP sS : Int → Prop) (L : PAd) (f : GF Str) (x : Nd Str), vs = [.ref A.kp, .ref L.pd, .int x.m] ∧
  Own H ow ∧ PlantsAt K H ow i L f ∧ x ∈ nodes none f ∧ KeepAt K H ow i j A q T R dD dB dP sS ∧ (∀ c ∈ x.ks, dD c ∧ dB c) ∧ (∀ c, dD c → c ∈ marks f) ∧ (∀ c, dB c → c ∈ marks f) ∧
  ∀ H', Step (fun r => r = .dn i j ∨ r = .bn i j) H ow H' ow → KeepAt K H' ow i j A q (setB (setD T x.m (upD q T x)) x.m (farOf T x.ks)) R (fun c => dD c ∨ c = x.m) (fun c => dB c ∨ c = x.m) dP sS → Q .non H'
def sp_Keeping_stands (K : PySem.W.Frag) : Sp := fun vs H Q _ => ∃ (ow : Ow) (i j : Nat) (A : KA) (q : Qs Str) (T : Tb) (R : Int → Addr) (dD dB dP sS : Int → Prop) (s : Nat) (b : Bool) (pa : Addr) (p : Nat × Nat), vs = [.ref A.kp, .int s, .bl b, .ref pa] ∧
  KeepAt K H ow i j A q T R dD dB dP sS ∧ s < q.k ∧ H pa = some (.tup [.int p.1, .int p.2]) ∧ Q (.bl (standsQ q s b p)) H
def sp_Keeping_look_down (K : PySem.W.Frag) : Sp := fun vs H Q _ => ∃ (ow : Ow) (i j : Nat) (A : KA) (q : Qs Str) (T : Tb) (R : Int → Addr) (dD dB dP sS : Int → Prop) (L : PAd) (f : GF Str) (x : Nd Str), vs = [.ref A.kp, .ref L.pd, .int x.m] ∧
  Own H ow ∧ PlantsAt K H ow i L f ∧ x ∈ nodes none f ∧ KeepAt K H ow i j A q T R dD dB dP sS ∧ dD x.m ∧ (∀ u, x.o = some u → dP u) ∧ (∀ c, dP c → c ∈ marks f) ∧
  ∀ H' R' ch, Step (fun r => r = .ps i j) H ow H' ow → KeepAt K H' ow i j A q (setP T x.m (dnP q T x)) R' dD dB (fun c => dP c ∨ c = x.m) sS → (ch = false → dP x.m ∧ T.P x.m = dnP q T x) → Q (.bl ch) H'
theorem lbl {q : Qs Str} {H : Hp} {ow : Ow} {A : KA} (im : ImAt (hid ow H) q A) (l : Str) : ∃ kvs o, H A.sb = some (.dK kvs) ∧ o = valV kvs (.inr l) ∧ ∀ z, H z = some (.lst []) → ∃ a, o.getD (.ref z) = .ref a ∧ H a = some (.lst (nv (byLab q l))) := by
  obtain ⟨kvs, e, r⟩ := im.sb
  refine ⟨kvs, _, hid_sub _ _ e, rfl, fun z hz => ?_⟩
  rcases r l with ⟨h1, h2⟩ | ⟨b, h1, h2⟩
  · exact ⟨z, by rw [h1]; rfl, by rw [h2]; exact hz⟩
  · exact ⟨b, by rw [h1]; rfl, hid_sub _ _ h2⟩
theorem mem_byLab {q : Qs Str} {l : Str} {s : Nat} : s ∈ byLab q l ↔ s < q.k ∧ q.lab s = some l := by
  unfold byLab; rw [List.mem_filter, List.mem_range, decide_eq_true_iff]
theorem rng_at {n s : Nat} {g : Nat → V} (h : s < n) : ((List.range n).map g)[s]? = some (g s) := by rw [List.getElem?_map, List.getElem?_range h]; rfl
theorem nrng_at {n s : Nat} {g : Nat → Nat} (h : s < n) : (nv ((List.range n).map g))[s]? = some (V.int (g s)) := by
  refine nv_at ?_; rw [List.getElem?_map, List.getElem?_range h]; rfl
theorem iv_at' {l : List Int} {i : Nat} {v : V} (h : (iv l)[i]? = some v) : ∃ n, l[i]? = some n ∧ v = V.int n := by
  rw [List.getElem?_map] at h
  cases e : l[i]? with
  | none => rw [e] at h; cases h
  | some n => rw [e] at h; exact ⟨n, rfl, (Option.some.inj h).symm⟩
theorem len_iv (l : List Int) : (iv l).length = l.length := List.length_map _
theorem foldl_take {α β : Type} (g : β → α → β) (b : β) {l : List α} {i : Nat} {x : α} (h : l[i]? = some x) : (l.take (i + 1)).foldl g b = g ((l.take i).foldl g b) x := by
  rw [List.take_add_one, h, List.foldl_append]; rfl
theorem vint {a b : Nat} : V.int (a : Int) = V.int (b : Int) ↔ a = b := ⟨fun h => by have := V.int.inj h; omega, fun h => by rw [h]⟩
theorem band_eq {a b c : Nat} : decide ((fun i j : Int => V.int (Builtin.bitAnd i j)) (a : Int) (b : Int) = V.int (c : Int)) = decide (a &&& b = c) := by
  show decide (V.int (Builtin.bitAnd (a : Int) (b : Int)) = V.int (c : Int)) = _
  rw [band]
  exact decide_eq_decide.mpr vint
theorem if_set {v w : V} {te : TE} {n i : Nat} {D : Ends} {σ : L2.St} {H : Hp} (h : σ[n]? = some (some v)) (h1 : v ≠ .non → ∀ Q : VK, Q w H → te σ H Q) (h2 : v = .non → σ.set i (some w) = σ) (hn : D.nx (σ.set i (some w)) H) :
    tIfS (tTest (tOp (fun x y H Q => y = V.non ∧ Q (V.bl !decide (x = V.non)) H) (tVar n) (tC .non))) (tAsg te (gName i)) tNext D σ H := by
  refine ⟨v, h, rfl, _, rfl, ?_⟩
  by_cases c : v = .non
  · rw [decide_eq_true c]
    show D.nx σ H
    rw [h2 c] at hn; exact hn
  · rw [decide_eq_false c]
    exact h1 c _ hn
section
variable {P : Program} {w : World} {K : PySem.W.Frag} {mg : Str → Option Value} {base : Heap}
theorem sc_Plant_init : FnScope ["self", "label", "upper"] ["self", "label", "upper"] (defScope s_Plant_init) := ⟨rfl, rfl, rfl, by decide +kernel, rfl, by decide +kernel, by decide +kernel⟩
theorem ok_Plant_init (T : Tx K mg)  : Ok P w K mg base 1 at_Plant_init ["self", "label", "upper"] (sp_Plant_init K) := by
  refine mkOk T.d_Plant_init sc_Plant_init (fun _ _ _ _ _ _ us hl => match us, hl with | [_, _, _], _ => rfl) (fun vs H Q E h => ?_) (fun cdv A outer s H vs Q E hr h => ?_)
  · obtain ⟨a, dx, x, o, rfl, ha, k⟩ := h; rfl
  · obtain ⟨a, dx, x, o, rfl, ha, k⟩ := h
    refine ⟨_, (pss_cons (kput (K := K) (pv 0) (pv 1))
      (pss_cons (kput (K := K) (pv 0) (pv 2))
      (pss_one (kput (K := K) (pv 0) (pe_lst pa_nil))))), ?_⟩
    refine ⟨_, rfl, _, rfl, in_Plant_label T ha ?_⟩
    refine ⟨_, rfl, _, rfl, in_Plant_over T upd_same ?_⟩
    rw [upd_upd]
    refine ⟨by decide, fun u nu => ⟨_, rfl, in_Plant_under T (upd_at nu upd_same) ?_⟩⟩
    have nu2 := upd_free nu
    have ea : upd (upd (upd H a (.ins (aPlant K) dx (fs_Plant_2 (.str x) (oiv o)))) u (.lst [])) a (.ins (aPlant K) dx (fs_Plant (.str x) (oiv o) (.ref u))) = upd (upd H u (.lst [])) a (.ins (aPlant K) dx (fs_Plant (.str x) (oiv o) (.ref u))) := by
      funext b
      by_cases e : b = a
      · subst e; rw [upd_same, upd_same]
      · rw [upd_ne e, upd_ne e]
        by_cases e2 : b = u
        · subst e2; rw [upd_same, upd_same]
        · rw [upd_ne e2, upd_ne e2, upd_ne e]
    rw [ea]
    exact k u nu2.2
theorem sc_Keeping_stands : FnScope ["self", "step", "first", "passed", "upper"] ["self", "step", "first", "passed"] (defScope s_Keeping_stands) := ⟨rfl, rfl, rfl, by decide +kernel, rfl, by decide +kernel, by decide +kernel⟩
theorem ok_Keeping_stands (T : Tx K mg)  : Ok P w K mg base 1 at_Keeping_stands ["self", "step", "first", "passed"] (sp_Keeping_stands K) := by
  refine mkOk T.d_Keeping_stands sc_Keeping_stands (fun _ _ _ _ _ _ us hl => match us, hl with | [_, _, _, _], _ => rfl) (fun vs H Q E h => ?_) (fun cdv A outer s H vs Q E hr h => ?_)
  · obtain ⟨ow, i, j, A, q, T0, R, dD, dB, dP, sS, s, b, pa, p, rfl, KK, hs, hp, k⟩ := h; rfl
  · obtain ⟨ow, i, j, A, q, T0, R, dD, dB, dP, sS, s, b, pa, p, rfl, KK, hs, hp, k⟩ := h
    refine ⟨_, (pss_cons (ps_set (i := 4) sc_Keeping_stands.nd rfl (by first | exact Or.inl rfl | exact Or.inr rfl) (pe_ix (kixL (K := K)) (kfld (K := K) (pv 0)) (pv 1) (fun _ _ => rfl)))
      (pss_cons (ps_if (pt_cmpR op_isN (pv 4) pe_non (nomark _))
        (pss_one (ps_ret (pe_or (pv 2) (pe_one (pe_cmpR op_eq (pe_ix (kixL (K := K)) (kfld (K := K) (pv 0)) (pv 1) (fun _ _ => rfl)) pe_str (nomark _))))))
        pss_nil)
      (pss_cons (ps_if (pt_cmpR op_eq (pe_ix (kixL (K := K)) (kfld (K := K) (pv 0)) (pv 1) (fun _ _ => rfl)) pe_str (nomark _))
        (pss_one (ps_ret (pe_cmpR op_eq (pe_op op_and (pe_op op_shr (pe_ix (kixT (K := K)) (pv 3) pe_int (fun _ _ => rfl)) (pv 4)) pe_int) pe_int (nomark _))))
        pss_nil)
      (pss_one (ps_ret (pe_cmpR op_eq (pe_op op_and (pe_op op_shr (pe_ix (kixT (K := K)) (pv 3) pe_int (fun _ _ => rfl)) (pv 4)) pe_int) pe_int (nomark _))))))), ?_⟩
    have hup := hid_sub _ _ KK.im.up
    have hwy := hid_sub _ _ KK.im.wy
    refine ⟨_, rfl, rd_Keeping_uppers T KK.obj ⟨_, rfl, A.up, _, _, _, rfl, rfl, SqL.of hup, atI_nat (rng_at hs), ?_⟩⟩
    unfold standsQ at k
    cases hu : q.up s with
    | none =>
      rw [hu] at k
      refine ⟨_, rfl, rfl, true, rfl, _, rfl, ?_⟩
      cases b with
      | true => exact ⟨true, rfl, k⟩
      | false =>
        refine ⟨false, rfl, _, rfl, rd_Keeping_ways T KK.obj ⟨_, rfl, A.wy, _, _, _, rfl, rfl, SqL.of hwy, atI_nat (rng_at hs), rfl, ?_⟩⟩
        generalize q.way s = w at k
        cases w with
        | true => exact k
        | false => exact k
    | some u =>
      rw [hu] at k
      refine ⟨_, rfl, rfl, false, rfl, ?_⟩
      refine ⟨_, rfl, rd_Keeping_ways T KK.obj ⟨_, rfl, A.wy, _, _, _, rfl, rfl, SqL.of hwy, atI_nat (rng_at hs), rfl, ?_⟩⟩
      generalize q.way s = w at k
      cases w with
      | true =>
        refine ⟨true, rfl, _, rfl, pa, _, _, _, rfl, rfl, SqT.of hp, rfl, _, rfl, _, _, rfl, rfl, by omega, _, 1, rfl, rfl, rfl, ?_⟩
        show Q (V.bl (decide (V.int (Builtin.bitAnd ((p.1 : Int) / 2 ^ ((u : Int)).toNat) 1) = V.int 1))) H
        rw [shrT]
        have k' : Q (V.bl (p.1.testBit u)) H := k
        cases ht : p.1.testBit u with
        | true => rw [ht] at k'; exact k'
        | false => rw [ht] at k'; exact k'
      | false =>
        refine ⟨false, by decide +kernel, _, rfl, pa, _, _, _, rfl, rfl, SqT.of hp, rfl, _, rfl, _, _, rfl, rfl, by omega, _, 1, rfl, rfl, rfl, ?_⟩
        show Q (V.bl (decide (V.int (Builtin.bitAnd ((p.2 : Int) / 2 ^ ((u : Int)).toNat) 1) = V.int 1))) H
        rw [shrT]
        have k' : Q (V.bl (p.2.testBit u)) H := k
        cases ht : p.2.testBit u with
        | true => rw [ht] at k'; exact k'
        | false => rw [ht] at k'; exact k'
theorem sc_Keeping_look_up : FnScope ["self", "plants", "mark", "near", "far", "lower", "bits", "step"] ["self", "plants", "mark"] (defScope s_Keeping_look_up) := ⟨rfl, rfl, rfl, by decide +kernel, rfl, by decide +kernel, by decide +kernel⟩
theorem ok_Keeping_look_up (T : Tx K mg)  : Ok P w K mg base 1 at_Keeping_look_up ["self", "plants", "mark"] (sp_Keeping_look_up K) := by
  refine mkOk T.d_Keeping_look_up sc_Keeping_look_up (fun _ _ _ _ _ _ us hl => match us, hl with | [_, _, _], _ => rfl) (fun vs H Q E h => ?_) (fun cdv A outer s H vs Q E hr h => ?_)
  · obtain ⟨ow, i, j, A, q, T0, R, dD, dB, dP, sS, L, f, x, rfl, O, PL, hx, KK, hks, hd1, hd2, k⟩ := h; rfl
  · obtain ⟨ow, i, j, A, q, T0, R, dD, dB, dP, sS, L, f, x, rfl, O, PL, hx, KK, hks, hd1, hd2, k⟩ := h
    refine ⟨_, (pss_cons (ps_set (i := 3) sc_Keeping_look_up.nd rfl (by first | exact Or.inl rfl | exact Or.inr rfl) pe_int)
      (pss_cons (ps_set (i := 4) sc_Keeping_look_up.nd rfl (by first | exact Or.inl rfl | exact Or.inr rfl) pe_int)
      (pss_cons (ps_for PassesOwn.never rfl (kpiL (K := K) (kfld (K := K) (pe_dget (hu_of hr) (pv 1) (pv 2) (fun _ _ => rfl)))) (pg_name (i := 5) sc_Keeping_look_up.nd rfl (by first | exact Or.inl rfl | exact Or.inr rfl))
        (pss_cons (ps_aug (i := 3) sc_Keeping_look_up.nd rfl (by first | exact Or.inl rfl | exact Or.inr rfl) (pe_dget (hu_of hr) (kfld (K := K) (pv 0)) (pv 5) (fun _ _ => rfl)) iop_or)
        (pss_one (ps_aug (i := 4) sc_Keeping_look_up.nd rfl (by first | exact Or.inl rfl | exact Or.inr rfl) (pe_op op_or (pe_dget (hu_of hr) (kfld (K := K) (pv 0)) (pv 5) (fun _ _ => rfl)) (pe_dget (hu_of hr) (kfld (K := K) (pv 0)) (pv 5) (fun _ _ => rfl))) iop_or))))
      (pss_cons (ps_set (i := 6) sc_Keeping_look_up.nd rfl (by first | exact Or.inl rfl | exact Or.inr rfl) pe_int)
      (pss_cons (ps_for PassesOwn.never rfl (kpiL (K := K) (pe_dget2 (hu_of hr) (kfld (K := K) (pv 0)) (kfld (K := K) (pe_dget (hu_of hr) (pv 1) (pv 2) (fun _ _ => rfl))) (pe_lst pa_nil) ⟨rfl, rfl, rfl, rfl⟩)) (pg_name (i := 7) sc_Keeping_look_up.nd rfl (by first | exact Or.inl rfl | exact Or.inr rfl))
        (pss_one (ps_if (PW.pt (pw_and (pt_cmpR op_eq (pe_op op_and (pe_ix (kixL (K := K)) (kfld (K := K) (pv 0)) (pv 7) (fun _ _ => rfl)) (pv 3)) (pe_ix (kixL (K := K)) (kfld (K := K) (pv 0)) (pv 7) (fun _ _ => rfl)) (nomark _)) (pw_and1 (pt_cmpR op_eq (pe_op op_and (pe_ix (kixL (K := K)) (kfld (K := K) (pv 0)) (pv 7) (fun _ _ => rfl)) (pv 4)) (pe_ix (kixL (K := K)) (kfld (K := K) (pv 0)) (pv 7) (fun _ _ => rfl)) (nomark _)))))
          (pss_one (ps_aug (i := 6) sc_Keeping_look_up.nd rfl (by first | exact Or.inl rfl | exact Or.inr rfl) (pe_op op_shl pe_int (pv 7)) iop_or))
          pss_nil)))
      (pss_cons (ps_dput (hu_of hr) (kfld (K := K) (pv 0)) (pv 2) (pv 6) rfl)
      (pss_one (ps_dput (hu_of hr) (kfld (K := K) (pv 0)) (pv 2) (pv 4) rfl)))))))), ?_⟩
    have hm := node_mark hx
    refine ⟨_, rfl, _, rfl, L.pd, _, rfl, PL.pd.get hm, rd_Plant_under T (PL.pl x hx) ⟨_, rfl, ⟨_, SqL.of (PL.un x hx)⟩, ?_⟩⟩
    refine for_it (walk_list (xs := iv x.ks)) (fun n σ H' => ∃ x5, σ = [some (.ref A.kp), some (.ref L.pd), some (.int x.m), some (.int ((x.ks.take n).foldl (fun a c => a ||| T0.D c) 0 : Nat)), some (.int ((x.ks.take n).foldl (fun a c => a ||| (T0.D c ||| T0.B c)) 0 : Nat)), x5, none, none] ∧ H' = H) ?_ ?_ ?_ ?_
    · exact ⟨none, rfl, rfl⟩
    · rintro n σ H' _ ⟨x5, rfl, rfl⟩
      exact SqL.of (PL.un x hx)
    · rintro n v σ H1 H2 hn ⟨x5, rfl, rfl⟩ ⟨rfl, ev⟩
      obtain ⟨c, hc, rfl⟩ := iv_at' ev
      obtain ⟨c1, c2⟩ := hks c (List.mem_of_getElem? hc)
      refine ⟨_, rfl, _, rfl, rd_Keeping_down T KK.obj ⟨_, rfl, A.dn, _, rfl, KK.dn.get c1, _, _, rfl, rfl, ?_⟩⟩
      refine ⟨_, rfl, _, rfl, rd_Keeping_down T KK.obj ⟨_, rfl, A.dn, _, rfl, KK.dn.get c1, _, rfl, rd_Keeping_beneath T KK.obj ⟨_, rfl, A.bn, _, rfl, KK.bn.get c2, _, _, rfl, rfl, _, _, rfl, rfl, some (.int c), ?_, rfl⟩⟩⟩
      show [some (V.ref A.kp), some (V.ref L.pd), some (V.int x.m), some (V.int (Builtin.bitOr _ _)), some (V.int (Builtin.bitOr _ (Builtin.bitOr _ _))), some (V.int c), none, none] = _
      rw [bor, bor, bor, foldl_take _ _ hc, foldl_take _ _ hc]
    · rintro σ H1 ⟨x5, rfl, rfl⟩
      rw [len_iv, List.take_length]
      have e1 : x.ks.foldl (fun a c => a ||| T0.D c) 0 = nearOf T0 x.ks := rfl
      have e2 : x.ks.foldl (fun a c => a ||| (T0.D c ||| T0.B c)) 0 = farOf T0 x.ks := rfl
      rw [e1, e2]
      obtain ⟨kvs, o, hsb, ho, hz⟩ := lbl KK.im x.l
      refine ⟨_, rfl, rd_Keeping_steps_by T KK.obj ⟨A.sb, rfl, .inl ⟨kvs, .inl hsb⟩, _, rfl, _, rfl, L.pd, _, rfl, PL.pd.get hm, rd_Plant_label T (PL.pl x hx) ⟨by decide, fun z nz => ⟨o, ?_, ?_⟩⟩⟩⟩
      · rw [ho]; exact DGet.k (k := .inr x.l) (upd_at nz hsb)
      have s1 : Same H1 (upd H1 z (.lst [])) := Same.up nz
      have hz2 := hz
      obtain ⟨sa, esa, hsa⟩ : ∃ sa, o.getD (.ref z) = .ref sa ∧ (upd H1 z (.lst [])) sa = some (.lst (nv (byLab q x.l))) := by
        obtain ⟨kvs', e', r'⟩ := KK.im.sb
        have ee := hid_sub _ _ e'
        rw [hsb] at ee
        cases ee
        rw [ho]
        rcases r' x.l with ⟨h1, h2⟩ | ⟨b, h1, h2⟩
        · exact ⟨z, by rw [h1]; rfl, by rw [h2]; exact upd_same⟩
        · exact ⟨b, by rw [h1]; rfl, s1 _ _ (hid_sub _ _ h2)⟩
      generalize upd H1 z (.lst []) = H2 at s1 hsa
      have K2 := KK.same s1
      have P2 := PL.same s1
      have hnr := hid_sub _ _ K2.im.nr
      have hfr := hid_sub _ _ K2.im.fr
      refine ⟨sa, esa, ⟨_, SqL.of hsa⟩, ?_⟩
      let cc : Nat → Bool := fun s => decide (nearQ q s &&& nearOf T0 x.ks = nearQ q s) && decide (farQ q s &&& farOf T0 x.ks = farQ q s)
      let bt2 : Nat → Nat := fun n => ((byLab q x.l).take n).foldl (fun a s => if cc s = true then a ||| 2 ^ s else a) 0
      refine for_it (walk_list (xs := nv (byLab q x.l))) (fun n σ H' => ∃ x7, σ = [some (.ref A.kp), some (.ref L.pd), some (.int x.m), some (.int (nearOf T0 x.ks)), some (.int (farOf T0 x.ks)), x5, some (.int (bt2 n)), x7] ∧ H' = H2) ?_ ?_ ?_ ?_
      · exact ⟨none, rfl, rfl⟩
      · rintro n σ H' _ ⟨x7, rfl, rfl⟩
        exact SqL.of hsa
      · rintro n v σ H3 H4 hn ⟨x7, rfl, rfl⟩ ⟨rfl, ev⟩
        obtain ⟨s, hs, rfl⟩ := at_nv ev
        have hsk := (mem_byLab.mp (List.mem_of_getElem? hs)).1
        have hb : bt2 (n + 1) = if cc s = true then bt2 n ||| 2 ^ s else bt2 n := foldl_take _ _ hs
        have hq := KK.qok
        refine ⟨_, rfl, rd_Keeping_near T K2.obj ⟨_, rfl, A.nr, _, _, _, rfl, rfl, SqL.of hnr, atI_nat (nrng_at hsk), _, rfl, _, _, rfl, rfl, _, rfl, rd_Keeping_near T K2.obj ⟨_, rfl, A.nr, _, _, _, rfl, rfl, SqL.of hnr, atI_nat (nrng_at hsk), rfl, decide (nearQ q s &&& nearOf T0 x.ks = nearQ q s), ?_, ?_⟩⟩⟩
        · exact congrArg V.bl band_eq
        by_cases c1 : nearQ q s &&& nearOf T0 x.ks = nearQ q s
        · rw [decide_eq_true c1]
          refine ⟨_, rfl, rd_Keeping_far T K2.obj ⟨_, rfl, A.fr, _, _, _, rfl, rfl, SqL.of hfr, atI_nat (nrng_at hsk), _, rfl, _, _, rfl, rfl, _, rfl, rd_Keeping_far T K2.obj ⟨_, rfl, A.fr, _, _, _, rfl, rfl, SqL.of hfr, atI_nat (nrng_at hsk), rfl, decide (farQ q s &&& farOf T0 x.ks = farQ q s), ?_, ?_⟩⟩⟩
          · exact congrArg V.bl band_eq
          by_cases c2 : farQ q s &&& farOf T0 x.ks = farQ q s
          · rw [decide_eq_true c2]
            refine ⟨_, rfl, _, rfl, 1, _, rfl, rfl, ⟨by omega, by omega, by decide⟩, _, _, rfl, rfl, some (.int (s : Nat)), ?_, rfl⟩
            show [_, _, _, _, _, _, some (V.int (Builtin.bitOr _ (1 * 2 ^ ((s : Int)).toNat))), _] = _
            rw [shl1, bor, hb, if_pos (by show (_ && _) = true; rw [decide_eq_true c1, decide_eq_true c2]; rfl)]
          · rw [decide_eq_false c2]
            refine ⟨some (.int (s : Nat)), ?_, rfl⟩
            rw [hb, if_neg (by show ¬ (_ && _) = true; rw [decide_eq_false c2, Bool.and_false]; simp)]; rfl
        · rw [decide_eq_false c1]
          refine ⟨some (.int (s : Nat)), ?_, rfl⟩
          rw [hb, if_neg (by show ¬ (_ && _) = true; rw [decide_eq_false c1, Bool.false_and]; simp)]; rfl
      · rintro σ H3 ⟨x7, rfl, rfl⟩
        have eb : bt2 (nv (byLab q x.l)).length = upD q T0 x := by
          show ((byLab q x.l).take _).foldl _ 0 = _
          rw [len_nv, List.take_length]
          exact bitsOf_fold (fun s => decide (q.lab s = some x.l)) cc q.k
        rw [eb]
        have hsz : (marks f).length ≤ 240 := by rw [List.length_map, Fo.pre_length]; exact PL.small
        obtain ⟨kv1, p1, p2⟩ := K2.dn.put hd1 hsz x.m (.int (upD q T0 x))
        refine ⟨_, rfl, _, rfl, rd_Keeping_down T K2.obj ⟨_, rfl, A.dn, _, rfl, p1, ?_⟩⟩
        have K3 := K2.put_dn (D := fun c => if c = x.m then upD q T0 x else T0.D c) ((p2 _ upd_same).iff (fun _ => Iff.rfl) fun m _ => by split <;> rfl)
        obtain ⟨kv2, r1, r2⟩ := K3.bn.put hd2 hsz x.m (.int (farOf T0 x.ks))
        refine ⟨_, rfl, _, rfl, rd_Keeping_beneath T K3.obj ⟨_, rfl, A.bn, _, rfl, r1, ?_⟩⟩
        have K4 := K3.put_bn (B := fun c => if c = x.m then farOf T0 x.ks else T0.B c) ((r2 _ upd_same).iff (fun _ => Iff.rfl) fun m _ => by split <;> rfl)
        obtain ⟨_, ed⟩ := K2.dn.some
        obtain ⟨_, ebn⟩ := K3.bn.some
        have O2 : Own H3 ow := fun b z => alive_of_same s1 b (O b z)
        have S3 := Step.put (C := fun r => r = .dn i j ∨ r = .bn i j) (o := .dK kv1) O2 ed (.inl K2.odn)
        have S4 := Step.put (C := fun r => r = .dn i j ∨ r = .bn i j) (o := .dK kv2) S3.own ebn (.inr K3.obn)
        exact k _ (((Step.same O s1).trans S3).trans S4) K4
theorem sc_Keeping_look_down : FnScope ["self", "plants", "mark", "upper", "passed", "bits", "step", "old"] ["self", "plants", "mark"] (defScope s_Keeping_look_down) := ⟨rfl, rfl, rfl, by decide +kernel, rfl, by decide +kernel, by decide +kernel⟩
theorem ok_Keeping_look_down (T : Tx K mg) (O_Keeping_stands : Ok P w K mg base 1 at_Keeping_stands ["self", "step", "first", "passed"] (sp_Keeping_stands K)) : Ok P w K mg base 2 at_Keeping_look_down ["self", "plants", "mark"] (sp_Keeping_look_down K) := by
  refine mkOk T.d_Keeping_look_down sc_Keeping_look_down (fun _ _ _ _ _ _ us hl => match us, hl with | [_, _, _], _ => rfl) (fun vs H Q E h => ?_) (fun cdv A outer s H vs Q E hr h => ?_)
  · obtain ⟨ow, i, j, A, q, T0, R, dD, dB, dP, sS, L, f, x, rfl, O, PL, hx, KK, hd, hu, hdp, k⟩ := h; rfl
  · obtain ⟨ow, i, j, A, q, T0, R, dD, dB, dP, sS, L, f, x, rfl, O, PL, hx, KK, hd, hu, hdp, k⟩ := h
    refine ⟨_, (pss_cons (ps_set (i := 3) sc_Keeping_look_down.nd rfl (by first | exact Or.inl rfl | exact Or.inr rfl) (kfld (K := K) (pe_dget (hu_of hr) (pv 1) (pv 2) (fun _ _ => rfl))))
      (pss_cons (ps_set (i := 4) sc_Keeping_look_down.nd rfl (by first | exact Or.inl rfl | exact Or.inr rfl) (pe_tup (pa_cons pe_int (pa_cons pe_int pa_nil))))
      (pss_cons (ps_if (pt_cmpR op_notN (pv 3) pe_non (nomark _))
        (pss_one (ps_set (i := 4) sc_Keeping_look_down.nd rfl (by first | exact Or.inl rfl | exact Or.inr rfl) (pe_dget (hu_of hr) (kfld (K := K) (pv 0)) (pv 3) (fun _ _ => rfl))))
        pss_nil)
      (pss_cons (ps_set (i := 5) sc_Keeping_look_down.nd rfl (by first | exact Or.inl rfl | exact Or.inr rfl) pe_int)
      (pss_cons (ps_for PassesOwn.never rfl (kpiL (K := K) (pe_dget2 (hu_of hr) (kfld (K := K) (pv 0)) (kfld (K := K) (pe_dget (hu_of hr) (pv 1) (pv 2) (fun _ _ => rfl))) (pe_lst pa_nil) ⟨rfl, rfl, rfl, rfl⟩)) (pg_name (i := 6) sc_Keeping_look_down.nd rfl (by first | exact Or.inl rfl | exact Or.inr rfl))
        (pss_one (ps_if (PW.pt (pw_and (pt_cmpR op_eq (pe_op op_and (pe_op op_shr (pe_dget (hu_of hr) (kfld (K := K) (pv 0)) (pv 2) (fun _ _ => rfl)) (pv 6)) pe_int) pe_int (nomark _)) (pw_and1 (pt_val (kme (K := K) (pv 0) O_Keeping_stands T.c_Keeping T.m_Keeping_stands (hr.mono (by decide)) (pa_cons (pv 6) (pa_cons (pe_cmpR op_isN (pv 3) pe_non (nomark _)) (pa_cons (pv 4) pa_nil))))))))
          (pss_one (ps_aug (i := 5) sc_Keeping_look_down.nd rfl (by first | exact Or.inl rfl | exact Or.inr rfl) (pe_op op_shl pe_int (pv 6)) iop_or))
          pss_nil)))
      (pss_cons (ps_set (i := 7) sc_Keeping_look_down.nd rfl (by first | exact Or.inl rfl | exact Or.inr rfl) (pe_dget1 (hu_of hr) (kfld (K := K) (pv 0)) (pv 2) ⟨rfl, rfl, rfl, rfl⟩))
      (pss_cons (ps_dput (hu_of hr) (kfld (K := K) (pv 0)) (pv 2) (pe_tup (pa_cons (pv 5) (pa_cons (pe_op op_or (pv 5) (pe_ix (kixT (K := K)) (pv 4) pe_int (fun _ _ => rfl))) pa_nil))) rfl)
      (pss_one (ps_ret (pe_cmpR (kneD (K := K) hr.units) (pv 7) (pe_dget (hu_of hr) (kfld (K := K) (pv 0)) (pv 2) (fun _ _ => rfl)) (nomark _))))))))))), ?_⟩
    have hm := node_mark hx
    have hq := KK.qok
    have hsz : (marks f).length ≤ 240 := by rw [List.length_map, Fo.pre_length]; exact PL.small
    refine ⟨_, rfl, _, rfl, L.pd, _, rfl, PL.pd.get hm, rd_Plant_over T (PL.pl x hx) ?_⟩
    refine ⟨by decide, fun t0 nt0 => ?_⟩
    have s0 : Same H (upd H t0 (.tup [.int 0, .int 0])) := Same.up nt0
    obtain ⟨pa, hpa, hrd⟩ : ∃ pa, (upd H t0 (.tup [.int 0, .int 0])) pa = some (.tup [.int (pOf T0 x.o).1, .int (pOf T0 x.o).2]) ∧ (x.o = none → pa = t0) ∧ ∀ u, x.o = some u → pa = R u := by
      cases ho : x.o with
      | none => exact ⟨t0, by rw [upd_same]; rfl, fun _ => rfl, fun u z => (by cases z)⟩
      | some u => exact ⟨R u, s0 _ _ (hid_sub _ _ (KK.pt u (hu u ho))), fun z => (by cases z), fun v z => (by cases z; rfl)⟩
    have K1 := KK.same s0
    have P1 := PL.same s0
    have O1 : Own (upd H t0 (.tup [.int 0, .int 0])) ow := fun b z => alive_of_same s0 b (O b z)
    generalize upd H t0 (.tup [.int 0, .int 0]) = H1 at s0 hpa K1 P1 O1 ⊢
    refine if_set (n := 3) (i := 4) (v := oiv x.o) (w := .ref pa) rfl ?_ ?_ ?_
    · intro hne Q' hQ
      cases ho : x.o with
      | none => rw [ho] at hne; exact absurd rfl hne
      | some u =>
        have hR := hrd.2 u ho
        exact ⟨_, rfl, rd_Keeping_passed T K1.obj ⟨_, rfl, A.ps, _, rfl, K1.ps.get (hu u ho), by rw [← hR]; exact hQ⟩⟩
    · intro hnon
      cases ho : x.o with
      | none => rw [hrd.1 ho]; rfl
      | some u => rw [ho] at hnon; cases hnon
    obtain ⟨kvs, o, hsb, ho, hz⟩ := lbl K1.im x.l
    refine ⟨_, rfl, rd_Keeping_steps_by T K1.obj ⟨A.sb, rfl, .inl ⟨kvs, .inl hsb⟩, _, rfl, _, rfl, L.pd, _, rfl, P1.pd.get hm, rd_Plant_label T (P1.pl x hx) ⟨by decide, fun z nz => ⟨o, ?_, ?_⟩⟩⟩⟩
    · rw [ho]; exact DGet.k (k := .inr x.l) (upd_at nz hsb)
    have s1 : Same H1 (upd H1 z (.lst [])) := Same.up nz
    obtain ⟨sa, esa, hsa⟩ : ∃ sa, o.getD (.ref z) = .ref sa ∧ (upd H1 z (.lst [])) sa = some (.lst (nv (byLab q x.l))) := by
      obtain ⟨kvs', e', r'⟩ := K1.im.sb
      have ee := hid_sub _ _ e'
      rw [hsb] at ee
      cases ee
      rw [ho]
      rcases r' x.l with ⟨h1, h2⟩ | ⟨b, h1, h2⟩
      · exact ⟨z, by rw [h1]; rfl, by rw [h2]; exact upd_same⟩
      · exact ⟨b, by rw [h1]; rfl, s1 _ _ (hid_sub _ _ h2)⟩
    generalize upd H1 z (.lst []) = H2 at s1 hsa
    have K2 := K1.same s1
    have P2 := P1.same s1
    have hpa2 := s1 _ _ hpa
    refine ⟨sa, esa, ⟨_, SqL.of hsa⟩, ?_⟩
    let cc : Nat → Bool := fun s => (T0.D x.m).testBit s && standsQ q s x.o.isNone (pOf T0 x.o)
    let bt2 : Nat → Nat := fun n => ((byLab q x.l).take n).foldl (fun a s => if cc s = true then a ||| 2 ^ s else a) 0
    refine for_it (walk_list (xs := nv (byLab q x.l))) (fun n σ H' => ∃ x6, σ = [some (.ref A.kp), some (.ref L.pd), some (.int x.m), some (oiv x.o), some (.ref pa), some (.int (bt2 n)), x6, none] ∧ H' = H2) ?_ ?_ ?_ ?_
    · exact ⟨none, rfl, rfl⟩
    · rintro n σ H' _ ⟨x6, rfl, rfl⟩
      exact SqL.of hsa
    · rintro n v σ H3 H4 hn ⟨x6, rfl, rfl⟩ ⟨rfl, ev⟩
      obtain ⟨s, hs, rfl⟩ := at_nv ev
      have hsk := (mem_byLab.mp (List.mem_of_getElem? hs)).1
      have hb : bt2 (n + 1) = if cc s = true then bt2 n ||| 2 ^ s else bt2 n := foldl_take _ _ hs
      refine ⟨_, rfl, rd_Keeping_down T K2.obj ⟨_, rfl, A.dn, _, rfl, K2.dn.get hd, _, rfl, _, _, rfl, rfl, by omega, _, 1, rfl, rfl, rfl, (T0.D x.m).testBit s, ?_, ?_⟩⟩
      · refine congrArg V.bl ?_
        show decide (V.int (Builtin.bitAnd ((T0.D x.m : Int) / 2 ^ ((s : Int)).toNat) 1) = V.int 1) = _
        rw [shrT]
        cases (T0.D x.m).testBit s <;> rfl
      cases c1 : (T0.D x.m).testBit s with
      | true =>
        have hfirst : V.bl (decide (oiv x.o = V.non)) = V.bl x.o.isNone := by cases x.o <;> rfl
        refine ⟨_, rfl, mt_Keeping_stands K2.obj ⟨_, rfl, _, rfl, rfl, _, rfl, ow, i, j, A, q, T0, R, dD, dB, dP, sS, s, x.o.isNone, pa, pOf T0 x.o, by rw [hfirst]; rfl, K2, hsk, hpa2, standsQ q s x.o.isNone (pOf T0 x.o), rfl, ?_⟩⟩
        cases c2 : standsQ q s x.o.isNone (pOf T0 x.o) with
        | true =>
          refine ⟨_, rfl, _, rfl, 1, _, rfl, rfl, ⟨by omega, by omega, by decide⟩, _, _, rfl, rfl, some (.int (s : Nat)), ?_, rfl⟩
          show [_, _, _, _, _, some (V.int (Builtin.bitOr _ (1 * 2 ^ ((s : Int)).toNat))), _, _] = _
          rw [shl1, bor, hb, if_pos (by show (_ && _) = true; rw [c1, c2]; rfl)]
        | false =>
          refine ⟨some (.int (s : Nat)), ?_, rfl⟩
          rw [hb, if_neg (by show ¬ (_ && _) = true; rw [c2, Bool.and_false]; simp)]; rfl
      | false =>
        refine ⟨some (.int (s : Nat)), ?_, rfl⟩
        rw [hb, if_neg (by show ¬ (_ && _) = true; rw [c1, Bool.false_and]; simp)]; rfl
    rintro σ H3 ⟨x6, rfl, rfl⟩
    have eb : bt2 (nv (byLab q x.l)).length = (dnP q T0 x).1 := by
      show ((byLab q x.l).take _).foldl _ 0 = _
      rw [len_nv, List.take_length]
      exact bitsOf_fold (fun s => decide (q.lab s = some x.l)) cc q.k
    rw [eb]
    obtain ⟨o2, hg2, hd1, hd2⟩ := K2.ps.opt x.m
    refine ⟨_, rfl, rd_Keeping_passed T K2.obj ⟨A.ps, rfl, K2.ps.isD, _, rfl, o2, hg2, ?_⟩⟩
    have ep2 : (dnP q T0 x).2 = (dnP q T0 x).1 ||| (pOf T0 x.o).2 := rfl
    refine ⟨_, rfl, _, rfl, _, rfl, pa, _, _, _, rfl, rfl, SqT.of hpa2, rfl, _, _, rfl, rfl, by show 2 ≤ sizeLine; decide, fun t nt => ?_⟩
    have et : V.int (Builtin.bitOr ((dnP q T0 x).1 : Int) ((pOf T0 x.o).2 : Int)) = .int ((dnP q T0 x).2 : Nat) := by rw [bor, ep2]
    rw [show ((fun i j : Int => V.int (Builtin.bitOr i j)) ((dnP q T0 x).1 : Int) ((pOf T0 x.o).2 : Int)) = .int ((dnP q T0 x).2 : Nat) from et]
    have s2 : Same H3 (upd H3 t (.tup [.int (dnP q T0 x).1, .int (dnP q T0 x).2])) := Same.up nt
    have O3 : Own H3 ow := fun b z => alive_of_same s1 b (O1 b z)
    have ht : hid ow (upd H3 t (.tup [.int (dnP q T0 x).1, .int (dnP q T0 x).2])) t = some (.tup [.int (dnP q T0 x).1, .int (dnP q T0 x).2]) := hid_new O3 nt upd_same
    have K3 := K2.same s2
    have O4 : Own (upd H3 t (.tup [.int (dnP q T0 x).1, .int (dnP q T0 x).2])) ow := fun b z => alive_of_same s2 b (O3 b z)
    generalize upd H3 t (.tup [.int (dnP q T0 x).1, .int (dnP q T0 x).2]) = H4 at s2 ht K3 O4
    obtain ⟨kv1, p1, p2⟩ := K3.ps.put hdp hsz x.m (.ref t)
    refine ⟨_, rfl, rd_Keeping_passed T K3.obj ⟨_, rfl, A.ps, _, rfl, p1, ?_⟩⟩
    have K4 := K3.put_ps (R' := fun c => if c = x.m then t else R c) (P := fun c => if c = x.m then dnP q T0 x else T0.P c) ((p2 _ upd_same).iff (fun _ => Iff.rfl) fun m _ => by split <;> rfl) (fun m h => by
      by_cases e : m = x.m
      · rw [if_pos e, if_pos e]; exact ht
      · rw [if_neg e, if_neg e]; exact K3.pt m (h.resolve_right e))
    obtain ⟨_, edp⟩ := K3.ps.some
    have S4 := Step.put (C := fun r => r = .ps i j) (o := .dK kv1) O4 edp K3.ops
    have SS := (Step.same (C := fun r => r = .ps i j) O ((s0.trans s1).trans s2)).trans S4
    have ht4 := hid_sub _ _ (K4.pt x.m (.inr rfl))
    have hd4 : Dp K (upd H4 A.ps (.dK kv1)) (.ref (if x.m = x.m then t else R x.m)) (.tuple [.int (dnP q T0 x).1, .int (dnP q T0 x).2]) := by
      rw [if_pos rfl] at ht4
      exact .tup (SqT.of (by rw [if_pos rfl]; simpa using ht4)) (.cons (.int _) (.cons (.int _) .nil))
    by_cases hdm : dP x.m
    · have hR := hid_upd (a := A.ps) (o := .dK kv1) (by rw [K3.ops]; simp) _ _ (K3.pt x.m hdm)
      refine ⟨_, rfl, _, rfl, rd_Keeping_passed T K4.obj ⟨_, rfl, A.ps, _, rfl, K4.ps.get (.inr rfl), .tuple [.int (T0.P x.m).1, .int (T0.P x.m).2], _, ?_, hd4, by rfl, by rfl, k _ _ _ SS K4 fun hch => ⟨hdm, ?_⟩⟩⟩
      · rw [hd1 hdm]; exact .tup (SqT.of (hid_sub _ _ hR)) (.cons (.int _) (.cons (.int _) .nil))
      · simp [PyData.eqv, PyData.eqvAll] at hch
        obtain ⟨h1, h2⟩ := hch
        exact Prod.ext (by omega) (by omega)
    · refine ⟨_, rfl, _, rfl, rd_Keeping_passed T K4.obj ⟨_, rfl, A.ps, _, rfl, K4.ps.get (.inr rfl), .none, _, ?_, hd4, by rfl, by rfl, k _ _ _ SS K4 fun hch => ?_⟩⟩
      · rw [hd2 hdm]; exact .non
      · simp [PyData.eqv] at hch
end
end Bg

set_option Elab.async false
set_option linter.all false
set_option maxRecDepth 100000
set_option maxHeartbeats 4000000
namespace Bg
open PySem PySem.Spec PyProof.Rows L2
/-! ### mending, in plain words -/
theorem nearOf_congr {T T' : Tb} {ks : List Int} (h : ∀ c ∈ ks, T.D c = T'.D c) : nearOf T ks = nearOf T' ks := by
  unfold nearOf
  generalize 0 = a
  induction ks generalizing a with
  | nil => rfl
  | cons c r ih =>
    rw [List.foldl_cons, List.foldl_cons, h c (by simp)]
    exact ih (fun d hd => h d (by simp [hd])) _
theorem farOf_congr {T T' : Tb} {ks : List Int} (h : ∀ c ∈ ks, T.D c = T'.D c ∧ T.B c = T'.B c) : farOf T ks = farOf T' ks := by
  unfold farOf
  generalize 0 = a
  induction ks generalizing a with
  | nil => rfl
  | cons c r ih =>
    rw [List.foldl_cons, List.foldl_cons, (h c (by simp)).1, (h c (by simp)).2]
    exact ih (fun d hd => h d (by simp [hd])) _
section
variable {q : Qs Str} {T T' : Tb} {x y : Nd Str} {f : GF Str}
def upT (q : Qs Str) (T : Tb) (x : Nd Str) : Tb := setB (setD T x.m (upD q T x)) x.m (farOf T x.ks)
theorem upT_D {c : Int} (h : c ≠ x.m) : (upT q T x).D c = T.D c := if_neg h
theorem upT_B {c : Int} (h : c ≠ x.m) : (upT q T x).B c = T.B c := if_neg h
theorem LU.congr (h : LU q T y) (h1 : T'.D y.m = T.D y.m) (h2 : T'.B y.m = T.B y.m) (h3 : ∀ c ∈ y.ks, T'.D c = T.D c ∧ T'.B c = T.B c) : LU q T' y := by
  refine ⟨?_, ?_⟩
  · rw [h1, h.d]; unfold upD
    rw [nearOf_congr fun c hc => (h3 c hc).1.symm, farOf_congr fun c hc => ⟨(h3 c hc).1.symm, (h3 c hc).2.symm⟩]
  · rw [h2, h.b]; exact farOf_congr fun c hc => ⟨(h3 c hc).1.symm, (h3 c hc).2.symm⟩
theorem LU.self (h : x.m ∉ x.ks) : LU q (upT q T x) x := by
  have e : ∀ c ∈ x.ks, (upT q T x).D c = T.D c ∧ (upT q T x).B c = T.B c := fun c hc => ⟨upT_D fun z => h (by rw [← z]; exact hc), upT_B fun z => h (by rw [← z]; exact hc)⟩
  refine ⟨?_, ?_⟩
  · show (if x.m = x.m then upD q T x else _) = _
    rw [if_pos rfl]; unfold upD
    rw [nearOf_congr fun c hc => (e c hc).1.symm, farOf_congr fun c hc => ⟨(e c hc).1.symm, (e c hc).2.symm⟩]
  · show (if x.m = x.m then farOf T x.ks else _) = _
    rw [if_pos rfl]; exact farOf_congr fun c hc => ⟨(e c hc).1.symm, (e c hc).2.symm⟩
theorem LU.other (h : LU q T y) (h1 : y.m ≠ x.m) (h2 : x.m ∉ y.ks) : LU q (upT q T x) y :=
  h.congr (upT_D h1) (upT_B h1) fun c hc => ⟨upT_D fun z => h2 (by rw [← z]; exact hc), upT_B fun z => h2 (by rw [← z]; exact hc)⟩
theorem LD.congr (h : LD q T y) (h1 : T'.D y.m = T.D y.m) (h2 : T'.P y.m = T.P y.m) (h3 : ∀ u, y.o = some u → T'.P u = T.P u) : LD q T' y := by
  have e : pOf T' y.o = pOf T y.o := by
    cases ho : y.o with
    | none => rfl
    | some u => exact h3 u ho
  unfold LD dnP at *
  rw [h2, h, h1, e]
theorem LD.up (h : LD q T y) (h1 : y.m ≠ x.m) : LD q (upT q T x) y := h.congr (upT_D h1) rfl fun _ _ => rfl
def dnT (q : Qs Str) (T : Tb) (x : Nd Str) : Tb := setP T x.m (dnP q T x)
theorem dnT_P {c : Int} (h : c ≠ x.m) : (dnT q T x).P c = T.P c := if_neg h
theorem LD.self (h : x.o ≠ some x.m) : LD q (dnT q T x) x := by
  have e : pOf (dnT q T x) x.o = pOf T x.o := by
    cases ho : x.o with
    | none => rfl
    | some u => exact dnT_P fun z => h (by rw [ho, z])
  unfold LD
  show (if x.m = x.m then dnP q T x else _) = _
  rw [if_pos rfl]; unfold dnP
  rw [e]; rfl
theorem LD.other (h : LD q T y) (h1 : y.m ≠ x.m) (h2 : y.o ≠ some x.m) : LD q (dnT q T x) y := h.congr rfl (dnT_P h1) fun u hu => dnT_P fun z => h2 (by rw [hu, z])
theorem dnT_eq (h : T.P x.m = dnP q T x) : dnT q T x = T := by
  unfold dnT setP
  have : (fun c => if c = x.m then dnP q T x else T.P c) = T.P := by
    funext c
    by_cases e : c = x.m
    · rw [if_pos e, e, h]
    · rw [if_neg e]
  rw [this]
theorem LU.dn (h : LU q T y) : LU q (dnT q T x) y := ⟨h.d, h.b⟩
theorem not_own_kid (nd : (marks f).Nodup) (hx : x ∈ nodes none f) : x.m ∉ x.ks := fun h => by
  obtain ⟨y, hy, e1, e2⟩ := kid_node hx h
  obtain rfl := node_eq nd hy hx e1
  exact irrefl nd (fun _ z => by cases z) _ hx e2
theorem not_own_over (nd : (marks f).Nodup) (hx : x ∈ nodes none f) : x.o ≠ some x.m := irrefl nd (fun _ z => by cases z) _ hx
end
/-! subtrees' sizes -/
def szT : GF Str → Int → Nat
  | .nil, _ => 0
  | .cons a k r, m => (if a.1 = m then 1 + k.size else 0) + szT k m + szT r m
theorem szT_no : ∀ {f : GF Str} {m : Int}, m ∉ marks f → szT f m = 0
  | .nil, _, _ => rfl
  | .cons a k r, m, h => by
    have h : m ∉ a.1 :: (k.pre ++ r.pre).map (·.1) := h
    rw [List.map_append, List.mem_cons, List.mem_append, not_or, not_or] at h
    show (if a.1 = m then 1 + k.size else 0) + szT k m + szT r m = 0
    rw [if_neg (fun z => h.1 z.symm), szT_no h.2.1, szT_no h.2.2]
def sumZ (f : GF Str) (l : List Int) : Nat := (l.map (szT f)).sum
theorem sumZ_congr {f g : GF Str} : ∀ {l : List Int}, (∀ c ∈ l, szT f c = szT g c) → sumZ f l = sumZ g l
  | [], _ => rfl
  | c :: l, h => by
    show szT f c + sumZ f l = szT g c + sumZ g l
    rw [h c (by simp), sumZ_congr fun d hd => h d (by simp [hd])]
theorem szT_top : ∀ {f : GF Str}, (marks f).Nodup → sumZ f (topm f) = f.size
  | .nil, _ => rfl
  | .cons a k r, nd => by
    obtain ⟨h1, h2, h3, h4, h5⟩ := nodup_cons3 nd
    show szT (.cons a k r) a.1 + sumZ (.cons a k r) (topm r) = _
    have e1 : szT (.cons a k r) a.1 = 1 + k.size := by
      show (if a.1 = a.1 then 1 + k.size else 0) + szT k a.1 + szT r a.1 = _
      rw [if_pos rfl, szT_no h1, szT_no h2]; rfl
    have e2 : sumZ (.cons a k r) (topm r) = sumZ r (topm r) := sumZ_congr fun c hc => by
      have hc2 : c ∈ marks r := by
        obtain ⟨z, hz, rfl⟩ := List.mem_map.mp hc
        exact List.mem_map.mpr ⟨z, Fo.tops_sub r z hz, rfl⟩
      show (if a.1 = c then 1 + k.size else 0) + szT k c + szT r c = _
      rw [if_neg (fun z => h2 (by rw [z]; exact hc2)), szT_no (fun z => h5 c z hc2)]
      omega
    rw [e1, e2, szT_top h4]
    show 1 + k.size + r.size = 1 + k.size + r.size
    rfl
theorem szT_node : ∀ {f : GF Str} {o : Option Int} {x : Nd Str}, (marks f).Nodup → x ∈ nodes o f → szT f x.m = 1 + sumZ f x.ks ∧ szT f x.m ≤ f.size
  | .nil, _, _, _, h => by cases h
  | .cons a k r, o, x, nd, h => by
    obtain ⟨h1, h2, h3, h4, h5⟩ := nodup_cons3 nd
    have fs : (Fo.cons a k r).size = 1 + k.size + r.size := rfl
    have un : ∀ c, szT (.cons a k r) c = (if a.1 = c then 1 + k.size else 0) + szT k c + szT r c := fun _ => rfl
    have tk : ∀ c ∈ topm k, c ∈ marks k := fun c hc => by
      obtain ⟨z, hz, rfl⟩ := List.mem_map.mp hc
      exact List.mem_map.mpr ⟨z, Fo.tops_sub k z hz, rfl⟩
    have hk : ∀ c ∈ marks k, szT (.cons a k r) c = szT k c := fun c hc => by
      rw [un, if_neg (fun z => h1 (by rw [z]; exact hc)), szT_no (h5 c hc)]; omega
    have hr : ∀ c ∈ marks r, szT (.cons a k r) c = szT r c := fun c hc => by
      rw [un, if_neg (fun z => h2 (by rw [z]; exact hc)), szT_no (fun z => h5 c z hc)]; omega
    have h : x ∈ (⟨a.1, a.2, o, topm k⟩ : Nd Str) :: (nodes (some a.1) k ++ nodes o r) := h
    rcases List.mem_cons.mp h with rfl | h
    · have e1 : szT (.cons a k r) a.1 = 1 + k.size := by rw [un, if_pos rfl, szT_no h1, szT_no h2]; rfl
      show szT _ a.1 = 1 + sumZ _ (topm k) ∧ szT _ a.1 ≤ _
      rw [e1, sumZ_congr fun c hc => hk c (tk c hc), szT_top h3, fs]
      exact ⟨rfl, by omega⟩
    · rcases List.mem_append.mp h with h | h
      · obtain ⟨q1, q2⟩ := szT_node h3 h
        have km : ∀ c ∈ x.ks, c ∈ marks k := fun c hc => by
          obtain ⟨y, hy, rfl, _⟩ := kid_node h hc
          exact node_mark hy
        rw [hk _ (node_mark h), sumZ_congr fun c hc => hk c (km c hc), fs]
        exact ⟨q1, by omega⟩
      · obtain ⟨q1, q2⟩ := szT_node h4 h
        have km : ∀ c ∈ x.ks, c ∈ marks r := fun c hc => by
          obtain ⟨y, hy, rfl, _⟩ := kid_node h hc
          exact node_mark hy
        rw [hr _ (node_mark h), sumZ_congr fun c hc => hr c (km c hc), fs]
        exact ⟨q1, by omega⟩
theorem sumZ_app (f : GF Str) (a b : List Int) : sumZ f (a ++ b) = sumZ f a + sumZ f b := by unfold sumZ; rw [List.map_append, List.sum_append]
theorem sumZ_len {f : GF Str} (nd : (marks f).Nodup) : ∀ {l : List Int}, (∀ c ∈ l, c ∈ marks f) → l.length ≤ sumZ f l
  | [], _ => Nat.le_refl 0
  | c :: l, h => by
    have := sumZ_len nd (l := l) fun d hd => h d (by simp [hd])
    obtain ⟨x, hx, e⟩ := mark_node none (h c (by simp))
    have := (szT_node nd hx).1
    show l.length + 1 ≤ szT f c + sumZ f l
    rw [← e]
    omega
theorem sumZ_sub {f : GF Str} (P : Int → Bool) : ∀ l : List Int, sumZ f (l.filter P) ≤ sumZ f l
  | [] => Nat.le_refl 0
  | c :: l => by
    have := sumZ_sub (f := f) P l
    rw [List.filter_cons]
    split
    · show szT f c + sumZ f _ ≤ szT f c + sumZ f l
      omega
    · show _ ≤ szT f c + sumZ f l
      omega
end Bg

set_option Elab.async false
set_option linter.all false
set_option maxRecDepth 100000
set_option maxHeartbeats 4000000
namespace Bg
open PySem PySem.Spec PyProof.Rows L2
def kr (i j : Nat) (r : Ro) : Prop := r = .tmp ∨ r = .kp i j ∨ r = .dn i j ∨ r = .bn i j ∨ r = .ps i j ∨ r = .sn i j
def sp_Keeping_mend (K : PySem.W.Frag) : Sp := fun vs H Q _ => ∃ (ow : Ow) (i j : Nat) (A : KA) (q : Qs Str) (T : Tb) (R : Int → Addr) (dD dB dP sS : Int → Prop) (L : PAd) (f : GF Str) (m : Int) (w : List Int) (wl : Addr), vs = [.ref A.kp, .ref L.pd, .ref wl] ∧
  Own H ow ∧ PlantsAt K H ow i L f ∧ KeepAt K H ow i j A q T R dD dB dP sS ∧ H wl = some (.lst (iv w)) ∧ ow wl = .out ∧ Way (nodes none f) m w ∧ (∀ c, dD c → c ∈ marks f) ∧ (∀ c, dB c → c ∈ marks f) ∧ (∀ c, dP c → c ∈ marks f) ∧
  (∀ x ∈ nodes none f, x.m ∉ w → dD x.m ∧ dB x.m ∧ dP x.m ∧ LU q T x ∧ LD q T x) ∧
  ∀ H' ow' A' T' R' sS', Step (kr i j) H ow H' ow' → A'.kp = A.kp → KeepAt K H' ow' i j A' q T' R' (· ∈ marks f) (· ∈ marks f) (· ∈ marks f) sS' → (∀ x ∈ nodes none f, LU q T' x) → (∀ x ∈ nodes none f, LD q T' x) → Q .non H'
def sp_Keeping_forget (K : PySem.W.Frag) : Sp := fun vs H Q _ => ∃ (ow : Ow) (i j : Nat) (A : KA) (q : Qs Str) (T : Tb) (R : Int → Addr) (d sS : Int → Prop) (gone : List Int) (gl : Addr), vs = [.ref A.kp, .ref gl] ∧
  Own H ow ∧ KeepAt K H ow i j A q T R d d d sS ∧ H gl = some (.lst (iv gone)) ∧ ow gl = .out ∧ gone.Nodup ∧ (∀ c ∈ gone, d c) ∧
  ∀ H', Step (kr i j) H ow H' ow → KeepAt K H' ow i j A q T R (fun c => d c ∧ c ∉ gone) (fun c => d c ∧ c ∉ gone) (fun c => d c ∧ c ∉ gone) sS → Q .non H'
section
variable {K : PySem.W.Frag} {H : Hp} {ow : Ow} {i j : Nat} {A : KA} {q : Qs Str} {T : Tb} {R : Int → Addr} {dD dB dP sS : Int → Prop}
theorem KeepAt.new_sn (h : KeepAt K H ow i j A q T R dD dB dP sS) {sn : Addr} (e : H sn = some (.dK [])) (o : ow sn = .sn i j) :
    KeepAt K (upd H A.kp (.ins (aKeeping K) A.dx (fs_Keeping (.ref A.sb) (.ref A.nr) (.ref A.fr) (.ref A.up) (.ref A.wy) (.int q.goal) (.ref A.dn) (.ref A.bn) (.ref A.ps) (.ref sn)))) ow i j { A with sn := sn } q T R dD dB dP fun _ => False :=
  ⟨h.qok, upd_same, h.okp, h.im.same (A := A) (hid_upd (by rw [h.okp]; simp)) |> fun z => ⟨z.sb, z.nr, z.fr, z.up, z.wy⟩, h.dn.upd (rne h.odn h.okp (by simp)), h.odn, h.bn.upd (rne h.obn h.okp (by simp)), h.obn, h.ps.upd (rne h.ops h.okp (by simp)), h.ops,
    fun m hm => hid_upd (by rw [h.okp]; simp) _ _ (h.pt m hm), DictAt.nil (by show upd H A.kp _ sn = _; rw [upd_ne (rne o h.okp (by simp))]; exact e), o⟩
end
theorem iv_last {l : List Int} {c : Int} : (iv (l ++ [c]))[(iv (l ++ [c])).length - 1]? = some (.int c) ∧ (iv (l ++ [c])).dropLast = iv l := by
  unfold iv
  rw [List.map_append, List.length_append]
  constructor
  · show _ = some (V.int c)
    rw [show (List.map V.int l).length + (List.map V.int [c]).length - 1 = (List.map V.int l).length from rfl]
    rw [List.getElem?_append_right (Nat.le_refl _), Nat.sub_self]; rfl
  · show (List.map V.int l ++ [V.int c]).dropLast = _
    rw [List.dropLast_concat]
theorem ks_marks {f : GF Str} {x : Nd Str} (hx : x ∈ nodes none f) : ∀ c ∈ x.ks, c ∈ marks f := fun c hc => by
  obtain ⟨y, hy, e, _⟩ := kid_node hx hc
  rw [← e]; exact node_mark hy
theorem mem_drop_iff {w : List Int} (nd : w.Nodup) {n : Nat} {c : Int} (h : w[n]? = some c) (d : Int) : d ∈ w.drop n ↔ d = c ∨ d ∈ w.drop (n + 1) := by
  have hl := (List.getElem?_eq_some_iff.mp h).1
  rw [List.drop_eq_getElem_cons hl, List.mem_cons]
  rw [List.getElem?_eq_getElem hl] at h
  rw [Option.some.inj h]
theorem mem_take_iff {w : List Int} {n : Nat} {c : Int} (h : w[n]? = some c) (d : Int) : d ∈ w.take (n + 1) ↔ d ∈ w.take n ∨ d = c := by
  rw [List.take_add_one, h, List.mem_append]
  exact or_congr Iff.rfl List.mem_singleton
theorem take_or_drop {w : List Int} {n : Nat} {d : Int} (h : d ∈ w) : d ∈ w.take n ∨ d ∈ w.drop n := by
  rw [← List.mem_append, List.take_append_drop]; exact h
theorem nodup_take_drop {w : List Int} (nd : w.Nodup) {n : Nat} {d : Int} (h : d ∈ w.take n) : d ∉ w.drop n := fun h2 => by
  have := nd
  rw [← List.take_append_drop n w] at this
  exact (List.nodup_append.mp this).2.2 d h d h2 rfl
section
variable {P : Program} {w : World} {K : PySem.W.Frag} {mg : Str → Option Value} {base : Heap}
theorem sc_Keeping_mend : FnScope ["self", "plants", "way", "waiting", "mark", "lower"] ["self", "plants", "way"] (defScope s_Keeping_mend) := ⟨rfl, rfl, rfl, by decide +kernel, rfl, by decide +kernel, by decide +kernel⟩
theorem ok_Keeping_mend (T : Tx K mg) (O_Keeping_look_down : Ok P w K mg base 2 at_Keeping_look_down ["self", "plants", "mark"] (sp_Keeping_look_down K)) (O_Keeping_look_up : Ok P w K mg base 1 at_Keeping_look_up ["self", "plants", "mark"] (sp_Keeping_look_up K)) : Ok P w K mg base 3 at_Keeping_mend ["self", "plants", "way"] (sp_Keeping_mend K) := by
  refine mkOk T.d_Keeping_mend sc_Keeping_mend (fun _ _ _ _ _ _ us hl => match us, hl with | [_, _, _], _ => rfl) (fun vs H Q E h => ?_) (fun cdv A outer s H vs Q E hr h => ?_)
  · obtain ⟨ow, i, j, A, q, T0, R, dD, dB, dP, sS, L, f, m0, w0, wl, rfl, O, PL, KK, hwl, owl, WY, hd1, hd2, hd3, hoff, k⟩ := h; rfl
  · obtain ⟨ow, i, j, A, q, T0, R, dD, dB, dP, sS, L, f, m0, w0, wl, rfl, O, PL, KK, hwl, owl, WY, hd1, hd2, hd3, hoff, k⟩ := h
    refine ⟨_, (pss_cons (kput (K := K) (pv 0) pe_dnewK)
      (pss_cons (ps_set (i := 3) sc_Keeping_mend.nd rfl (by first | exact Or.inl rfl | exact Or.inr rfl) (pe_lst pa_nil))
      (pss_cons (ps_for PassesOwn.never rfl (kpiL (K := K) (pv 2)) (pg_name (i := 4) sc_Keeping_mend.nd rfl (by first | exact Or.inl rfl | exact Or.inr rfl))
        (pss_cons (ps_expr (kme (K := K) (pv 0) O_Keeping_look_up T.c_Keeping T.m_Keeping_look_up (hr.mono (by decide)) (pa_cons (pv 1) (pa_cons (pv 4) pa_nil))))
        (pss_one (ps_dput (hu_of hr) (kfld (K := K) (pv 0)) (pv 4) pe_bl rfl))))
      (pss_cons (ps_for PassesOwn.never rfl (krev (K := K) T.f_reversed (pa_cons (pv 2) pa_nil)) (pg_name (i := 4) sc_Keeping_mend.nd rfl (by first | exact Or.inl rfl | exact Or.inr rfl))
        (pss_one (ps_if (pt_val (kme (K := K) (pv 0) O_Keeping_look_down T.c_Keeping T.m_Keeping_look_down (hr.mono (by decide)) (pa_cons (pv 1) (pa_cons (pv 4) pa_nil))))
          (pss_one (ps_expr (kbm (K := K) PySem.F.plainAttrs_list PySem.F.slot_list_extend PySem.F.type_list_extend kextend (pv 3) (pa_cons (pe_lc (own := [("lower", 5)]) (g := gName 5) (tt := _) rfl sc_Keeping_mend.nd (kpiL (K := K) (kfld (K := K) (pe_dget (hu_of hr) (pv 1) (pv 4) (fun _ _ => rfl)))) (blkOk_by (by kernel_rfl)) (fun _ _ _ _ _ => (pg_name (i := 5) sc_Keeping_mend.nd rfl (by first | exact Or.inl rfl | exact Or.inr rfl))) (fun _ _ _ _ _ => (pts_one (pt_cmp (pc_dnotin (hu_of hr) (pv 5) (kfld (K := K) (pv 0))) rfl))) (fun _ _ _ _ _ => (pv 5))) pa_nil))))
          pss_nil)))
      (pss_one (ps_while PassesOwn.never (pt_cmpR (kneE (K := K) hr.units) (pv 3) (pe_lst pa_nil) (nomark _))
        (pss_cons (ps_set (i := 4) sc_Keeping_mend.nd rfl (by first | exact Or.inl rfl | exact Or.inr rfl) (kbm0 (K := K) PySem.F.plainAttrs_list PySem.F.slot_list_pop PySem.F.type_list_pop kpop (pv 3)))
        (pss_cons (ps_dput (hu_of hr) (kfld (K := K) (pv 0)) (pv 4) pe_bl rfl)
        (pss_one (ps_if (pt_val (kme (K := K) (pv 0) O_Keeping_look_down T.c_Keeping T.m_Keeping_look_down (hr.mono (by decide)) (pa_cons (pv 1) (pa_cons (pv 4) pa_nil))))
          (pss_one (ps_expr (kbm (K := K) PySem.F.plainAttrs_list PySem.F.slot_list_extend PySem.F.type_list_extend kextend (pv 3) (pa_cons (kfld (K := K) (pe_dget (hu_of hr) (pv 1) (pv 4) (fun _ _ => rfl))) pa_nil))))
          pss_nil)))))))))), ?_⟩
    have nd := PL.nd
    have hsz : (marks f).length ≤ 240 := by rw [List.length_map, Fo.pre_length]; exact PL.small
    have inj : ∀ x ∈ nodes none f, ∀ y ∈ nodes none f, x.m = y.m → x = y := fun x hx y hy e => node_eq nd hx hy e
    have wnd := WY.nodup inj
    have wm : ∀ c ∈ w0, ∃ x ∈ nodes none f, x.m = c := WY.mem
    have wlen : w0.length ≤ 240 := Nat.le_trans (List.Nodup.length_le_of_subset wnd fun c hc => by obtain ⟨x, hx, rfl⟩ := wm c hc; exact node_mark hx) hsz
    have offd : ∀ c ∈ marks f, c ∉ w0 → dD c ∧ dB c ∧ dP c := fun c hc hn => by
      obtain ⟨x, hx, rfl⟩ := mark_node none hc
      obtain ⟨a, b, d, _⟩ := hoff x hx hn
      exact ⟨a, b, d⟩
    refine fun sn nsn => ?_
    have S1 := Step.new (C := kr i j) (o := .dK []) O nsn (.sn i j)
    have K1 := KK.step (C := fun _ => False) (Step.new (o := .dK []) O nsn (.sn i j)) id id id id id id
    have K1b := K1.new_sn upd_same owp_same
    refine ⟨_, rfl, wr_Keeping_seen T K1.obj ?_⟩
    have S2 := S1.trans (Step.put (C := kr i j) (o := .ins (aKeeping K) A.dx (fs_Keeping (.ref A.sb) (.ref A.nr) (.ref A.fr) (.ref A.up) (.ref A.wy) (.int q.goal) (.ref A.dn) (.ref A.bn) (.ref A.ps) (.ref sn))) S1.own K1.obj (.inr (.inl K1.okp)))
    refine ⟨by decide, fun wt nwt => ?_⟩
    have S3 := S2.trans (Step.new (C := kr i j) (o := .lst []) S2.own nwt .tmp)
    have K3 := K1b.step (C := fun _ => False) (Step.new (o := .lst []) S2.own nwt .tmp) id id id id id id
    have owt : owp (owp ow sn (.sn i j)) wt .tmp wt = .tmp := owp_same
    generalize hH3 : upd (upd (upd H sn (.dK [])) A.kp _) wt (.lst []) = H3 at S3 K3 ⊢
    have ewt : H3 wt = some (.lst []) := by rw [← hH3]; exact upd_same
    clear hH3
    generalize owp (owp ow sn (.sn i j)) wt .tmp = ow2 at S3 K3 owt
    have c1 : ¬ kr i j .out := by unfold kr; simp
    have c2 : ¬ kr i j (.pd i) := by unfold kr; simp
    have c3 : ∀ m, ¬ kr i j (.pl i m) := by unfold kr; simp
    have c4 : ∀ m, ¬ kr i j (.un i m) := by unfold kr; simp
    have P3 := PL.step S3 c2 c3 c4
    have hwl3 := S3.fr _ _ (by rw [owl]; exact c1) hwl
    have owl3 : ow2 wl = .out := by rw [S3.keep _ (some_ne hwl)]; exact owl
    have O3 := S3.own
    let A1 : KA := { A with sn := sn }
    have K3 : KeepAt K H3 ow2 i j A1 q T0 R dD dB dP fun _ => False := K3
    refine ⟨_, rfl, wl, rfl, ⟨_, SqL.of hwl3⟩, ?_⟩
    refine for_it (walk_list (xs := iv w0)) (fun n σ H' => ∃ (x4 : Option V) (T' : Tb), σ = [some (.ref A.kp), some (.ref L.pd), some (.ref wl), some (.ref wt), x4, none] ∧ Step (kr i j) H3 ow2 H' ow2 ∧
      KeepAt K H' ow2 i j A1 q T' R (fun c => dD c ∨ c ∈ w0.take n) (fun c => dB c ∨ c ∈ w0.take n) dP (fun c => c ∈ w0.take n) ∧ (∀ x ∈ nodes none f, x.m ∉ w0.drop n → LU q T' x) ∧ (∀ x ∈ nodes none f, x.m ∉ w0 → LD q T' x) ∧ H' wt = some (.lst [])) ?_ ?_ ?_ ?_
    · refine ⟨none, T0, rfl, Step.refl O3, ?_, fun x hx h => (hoff x hx (by simpa using h)).2.2.2.1, fun x hx h => (hoff x hx h).2.2.2.2, ewt⟩
      have e : ∀ d : Int → Prop, (fun c => d c ∨ c ∈ w0.take 0) = d := fun d => by funext c; simp
      have e2 : (fun c => c ∈ w0.take 0) = fun _ => False := by funext c; simp
      rw [e, e, e2]; exact K3
    · rintro n σ H' _ ⟨x4, T', rfl, S, KS, lu, ld, et⟩
      exact SqL.of (S.fr _ _ (by rw [owl3]; exact c1) hwl3)
    · rintro n v σ H4 H5 hn ⟨x4, T', rfl, S, KS, lu, ld, et⟩ ⟨rfl, ev⟩
      obtain ⟨c, hc, rfl⟩ := iv_at' ev
      obtain ⟨x, hx, rfl⟩ := wm c (List.mem_of_getElem? hc)
      have P4 := P3.step S c2 c3 c4
      have hks : ∀ c ∈ x.ks, (dD c ∨ c ∈ w0.take n) ∧ (dB c ∨ c ∈ w0.take n) := by
        intro c hcx
        by_cases hw : c ∈ w0
        · obtain ⟨y, hy, e1, e2⟩ := kid_node hx hcx
          obtain ⟨l, hl⟩ := List.getElem?_of_mem hw
          have hnext := WY.next inj hy (by rw [e1]; exact hl) e2
          have hln : l + 1 = n := by
            have h1 := (List.getElem?_eq_some_iff.mp hnext)
            have h2 := (List.getElem?_eq_some_iff.mp hc)
            exact (List.getElem_inj wnd).mp (h1.2.trans h2.2.symm)
          have : c ∈ w0.take n := List.mem_of_getElem? (i := l) (by rw [List.getElem?_take, if_pos (by omega)]; exact hl)
          exact ⟨.inr this, .inr this⟩
        · obtain ⟨a, b, _⟩ := offd c (ks_marks hx c hcx) hw
          exact ⟨.inl a, .inl b⟩
      have wtm : ∀ n c, c ∈ w0.take n → c ∈ marks f := fun n c h => by
        obtain ⟨y, hy, rfl⟩ := wm c (List.mem_of_mem_take h); exact node_mark hy
      refine ⟨_, rfl, mt_Keeping_look_up KS.obj ⟨_, rfl, _, rfl, ow2, i, j, A1, q, T', R, _, _, _, _, L, f, x, rfl, S.own, P4, hx, KS, hks, fun c h => h.elim (hd1 c) (wtm n c), fun c h => h.elim (hd2 c) (wtm n c), fun H6 S6 K6 => ?_⟩⟩
      have S7 := S.trans (S6.mono (C' := kr i j) (by rintro r (rfl | rfl) <;> unfold kr <;> simp))
      obtain ⟨kv, p1, p2⟩ := K6.sn.put (wtm n) hsz x.m (.bl true)
      refine ⟨_, rfl, rd_Keeping_seen T K6.obj ⟨_, rfl, A1.sn, _, rfl, p1, ?_⟩⟩
      have K7 := K6.put_sn ((p2 _ upd_same).iff (dom' := fun c => c ∈ w0.take n ∨ c = x.m) (val' := fun _ => .bl true) (fun _ => Iff.rfl) fun m _ => by split <;> rfl)
      obtain ⟨_, esn⟩ := K6.sn.some
      have S8 := S7.trans (Step.put (C := kr i j) (o := .dK kv) S7.own esn (by rw [K6.osn]; unfold kr; simp))
      refine ⟨_, upT q T' x, rfl, S8, ?_, ?_, ?_, ?_⟩
      · have e1 : ∀ d : Int → Prop, (fun c => d c ∨ c ∈ w0.take (n + 1)) = fun c => (d c ∨ c ∈ w0.take n) ∨ c = x.m := fun d => by
          funext c; rw [mem_take_iff hc, or_assoc]
        have e2 : (fun c => c ∈ w0.take (n + 1)) = fun c => c ∈ w0.take n ∨ c = x.m := by funext c; rw [mem_take_iff hc]
        rw [e1, e1, e2]; exact K7
      · intro y hy hyn
        by_cases e : y.m = x.m
        · obtain rfl := inj y hy x hx e
          exact LU.self (not_own_kid nd hy)
        · refine LU.other (lu y hy fun h => ?_) e fun h => ?_
          · rw [mem_drop_iff wnd hc] at h
            exact h.elim e hyn
          · -- y is over x
            obtain ⟨z, hz, e1, e2⟩ := kid_node hy h
            obtain rfl := inj z hz x hx e1
            have hnext := WY.next inj hz hc e2
            exact hyn (List.mem_of_getElem? (i := 0) (by rw [List.getElem?_drop]; exact hnext))
      · intro y hy hyn
        exact (ld y hy hyn).up fun e => hyn (by rw [e]; exact List.mem_of_getElem? hc)
      · have := S6.fr _ _ (by rw [owt]; simp) et
        rw [upd_ne (rne owt K6.osn (by simp))]; exact this
    · rintro σ H4 ⟨x4, T', rfl, S, KS, lu, ld, et⟩
      rw [len_iv] at KS lu
      rw [List.take_length] at KS
      rw [List.drop_length] at lu
      have lu : ∀ x ∈ nodes none f, LU q T' x := fun x hx => lu x hx (by simp)
      have KD : KeepAt K H4 ow2 i j A1 q T' R (· ∈ marks f) (· ∈ marks f) dP (· ∈ w0) := by
        have e1 : ∀ d : Int → Prop, (∀ c, d c → c ∈ marks f) → (∀ c ∈ marks f, c ∉ w0 → d c) → (fun c => d c ∨ c ∈ w0) = (· ∈ marks f) := fun d h1 h2 => by
          funext c
          refine propext ⟨fun h => h.elim (h1 c) fun h => by obtain ⟨y, hy, rfl⟩ := wm c h; exact node_mark hy, fun h => ?_⟩
          by_cases z : c ∈ w0
          · exact .inr z
          · exact .inl (h2 c h z)
        rw [e1 dD hd1 fun c h z => (offd c h z).1, e1 dB hd2 fun c h z => (offd c h z).2.1] at KS
        exact KS
      clear KS
      have wtake : ∀ n c, c ∈ w0.take n → c ∈ marks f := fun n c h => by
        obtain ⟨y, hy, rfl⟩ := wm c (List.mem_of_mem_take h); exact node_mark hy
      have wdrop : ∀ n c, c ∈ w0.drop n → c ∈ marks f := fun n c h => by
        obtain ⟨y, hy, rfl⟩ := wm c (List.mem_of_mem_drop h); exact node_mark hy
      have kidof : ∀ x ∈ nodes none f, ∀ y ∈ nodes none f, y.o = some x.m → y.m ∈ x.ks := fun x hx y hy e => by
        obtain ⟨z, hz, e1, e2⟩ := over_top hy e
        obtain rfl := inj z hz x hx e1
        exact e2
      refine ⟨_, rfl, wl, _, rfl, SqL.of (S.fr _ _ (by rw [owl3]; exact c1) hwl3), ?_⟩
      refine for_it (walk_rev (xs := iv w0)) (fun n σ H' => ∃ (x4 : Option V) (T' : Tb) (R' : Int → Addr) (ws : List Int), σ = [some (.ref A.kp), some (.ref L.pd), some (.ref wl), some (.ref wt), x4, none] ∧ Step (kr i j) H3 ow2 H' ow2 ∧
        KeepAt K H' ow2 i j A1 q T' R' (· ∈ marks f) (· ∈ marks f) (fun c => dP c ∨ c ∈ w0.drop (w0.length - n)) (· ∈ w0) ∧ (∀ x ∈ nodes none f, LU q T' x) ∧ (∀ x ∈ nodes none f, x.m ∉ w0.take (w0.length - n) → x.m ∉ ws → LD q T' x) ∧
        H' wt = some (.lst (iv ws)) ∧ (∀ c ∈ ws, c ∈ marks f) ∧ sumZ f ws ≤ n * 240) ?_ ?_ ?_ ?_
      · refine ⟨x4, T', R, [], rfl, S, ?_, lu, fun x hx h _ => ld x hx (by simpa using h), et, fun _ h => (by cases h), Nat.zero_le _⟩
        have e1 : (fun c => dP c ∨ c ∈ w0.drop (w0.length - 0)) = dP := by funext c; simp
        rw [e1]; exact KD
      · rintro n σ H' _ ⟨x4, T', R', ws, rfl, S, _⟩
        exact SqL.of (S.fr _ _ (by rw [owl3]; exact c1) hwl3)
      · rintro n v σ H5 H6 hn ⟨x4, T', R', ws, rfl, S, KS, lu, ld, et, hws, hz⟩ ⟨rfl, ev⟩
        rw [len_iv] at hn ev
        obtain ⟨c, hc, rfl⟩ := iv_at' ev
        obtain ⟨x, hx, rfl⟩ := wm c (List.mem_of_getElem? hc)
        have P5 := P3.step S c2 c3 c4
        have en : w0.length - n = w0.length - 1 - n + 1 := by omega
        have en2 : w0.length - (n + 1) = w0.length - 1 - n := by omega
        rw [en] at KS ld
        have hu : ∀ u, x.o = some u → dP u ∨ u ∈ w0.drop (w0.length - 1 - n + 1) := fun u hu => by
          have := WY.next inj hx hc hu
          exact .inr (List.mem_of_getElem? (i := 0) (by rw [List.getElem?_drop]; exact this))
        refine ⟨_, rfl, mt_Keeping_look_down KS.obj ⟨_, rfl, _, rfl, ow2, i, j, A1, q, T', R', _, _, _, _, L, f, x, rfl, S.own, P5, hx, KS, node_mark hx, hu, fun c h => h.elim (hd3 c) (wdrop _ c), fun H7 R7 ch S7 K7 hch => ⟨ch, rfl, ?_⟩⟩⟩
        have S8 := S.trans (S7.mono (C' := kr i j) (by rintro r rfl; unfold kr; simp))
        have P8 := P3.step S8 c2 c3 c4
        have et8 : H7 wt = some (.lst (iv ws)) := S7.fr _ _ (by rw [owt]; simp) et
        have eP : (fun c => dP c ∨ c ∈ w0.drop (w0.length - (n + 1))) = fun c => (dP c ∨ c ∈ w0.drop (w0.length - 1 - n + 1)) ∨ c = x.m := by
          funext c
          rw [en2, mem_drop_iff wnd hc, or_assoc]
          exact propext ⟨fun h => h.elim .inl fun h => h.elim (fun h => .inr (.inr h)) fun h => .inr (.inl h), fun h => h.elim .inl fun h => h.elim (fun h => .inr (.inr h)) fun h => .inr (.inl h)⟩
        have tk : ∀ d, d ∉ w0.take (w0.length - 1 - n) → d ≠ x.m → d ∉ w0.take (w0.length - 1 - n + 1) := fun d h1 h2 h3 => ((mem_take_iff hc d).mp h3).elim h1 h2
        cases ch with
        | false =>
          obtain ⟨hp1, hp2⟩ := hch rfl
          refine ⟨_, dnT q T' x, R7, ws, rfl, S8, ?_, fun y hy => (lu y hy).dn, ?_, et8, hws, by omega⟩
          · rw [eP]; exact K7
          · intro y hy h1 h2
            rw [dnT_eq hp2]
            rw [en2] at h1
            by_cases e : y.m = x.m
            · obtain rfl := inj y hy x hx e
              exact hp2
            · exact ld y hy (tk _ h1 e) h2
        | true =>
          refine ⟨_, rfl, tyL et8, _, rfl, _, rfl, L.pd, _, rfl, P8.pd.get (node_mark hx), rd_Plant_under T (P8.pl x hx) ⟨_, rfl, ⟨_, SqL.of (P8.un x hx)⟩, fun D nD => ?_⟩⟩
          have lks : (iv x.ks).length ≤ 240 := by
            have h1 := sumZ_len nd (ks_marks hx)
            have h2 := szT_node nd hx
            rw [len_iv]
            have := PL.small
            omega
          refine lc_same (walk_list (xs := iv x.ks)) (fun i => x.ks[i]?.bind fun c => if (!decide (c ∈ w0)) = true then some (.int c) else none) nD (Nat.le_trans lks line240) (fun H s => SqL.of (s _ _ (P8.un x hx))) ?_ ?_
          · rintro l v H9 H10 N N0 hl s9 ⟨rfl, ev⟩ ky kn
            obtain ⟨c, hcl, rfl⟩ := iv_at' ev
            have K9 := K7.same s9
            obtain ⟨o, hg, ho1, ho2⟩ := K9.sn.opt c
            rw [hcl] at ky kn
            refine ⟨rfl, _, rfl, _, rfl, rd_Keeping_seen T K9.obj ⟨A1.sn, o, rfl, hg, !o.isSome, rfl, ?_⟩⟩
            by_cases hcw : c ∈ w0
            · rw [ho1 hcw]
              exact kn (if_neg (by rw [decide_eq_true hcw]; simp)) _ (Same.refl _)
            · rw [ho2 hcw]
              exact ⟨_, rfl, ky _ _ (Same.refl _) (if_pos (by rw [decide_eq_false hcw]; rfl))⟩
          · intro H9 s9 e9
            rw [len_iv, fm_list] at e9
            have S9 := S8.trans (Step.same (C := kr i j) S8.own s9)
            have K9 := K7.same s9
            have lz : sumZ f (x.ks.filter fun c => !decide (c ∈ w0)) ≤ 240 := by
              have h1 := sumZ_sub (f := f) (fun c => !decide (c ∈ w0)) x.ks
              have h2 := szT_node nd hx
              have := PL.small
              omega
            have hks2 : ∀ c ∈ ws ++ x.ks.filter (fun c => !decide (c ∈ w0)), c ∈ marks f := fun c h => (List.mem_append.mp h).elim (hws c) fun h => ks_marks hx c (List.mem_filter.mp h).1
            have sz2 : sumZ f (ws ++ x.ks.filter fun c => !decide (c ∈ w0)) ≤ (n + 1) * 240 := by rw [sumZ_app]; omega
            have sl := sumZ_len nd hks2
            refine ⟨wt, D, iv ws, _, rfl, rfl, s9 _ _ et8, e9, ?_, _, dnT q T' x, R7, ws ++ x.ks.filter (fun c => !decide (c ∈ w0)), rfl, S9.trans (Step.put (C := kr i j) S9.own (s9 _ _ et8) (by rw [owt]; unfold kr; simp)), ?_, fun y hy => (lu y hy).dn, ?_, ?_, hks2, sz2⟩
            · rw [List.length_append] at sl
              rw [len_iv, List.length_map]
              exact Nat.le_trans sl (Nat.le_trans sz2 (Nat.le_trans (Nat.mul_le_mul_right 240 (show n + 1 ≤ 240 by omega)) (by decide)))
            · rw [eP]
              exact K9.step (Step.put (C := fun r => r = .tmp) S9.own (s9 _ _ et8) owt) (by simp) (by simp) (by simp) (by simp) (by simp) (by simp)
            · intro y hy h1 h2
              rw [en2] at h1
              rw [List.mem_append, not_or] at h2
              by_cases e : y.m = x.m
              · obtain rfl := inj y hy x hx e
                exact LD.self (not_own_over nd hy)
              · refine LD.other (ld y hy (tk _ h1 e) h2.1) e fun ho => ?_
                have hk := kidof x hx y hy ho
                by_cases hyw : y.m ∈ w0
                · obtain ⟨l, hl⟩ := List.getElem?_of_mem hyw
                  have hnext := WY.next inj hy hl ho
                  have g1 := (List.getElem?_eq_some_iff.mp hnext)
                  have g2 := (List.getElem?_eq_some_iff.mp hc)
                  have hln : l + 1 = w0.length - 1 - n := (List.getElem_inj wnd).mp (g1.2.trans g2.2.symm)
                  exact h1 (List.mem_of_getElem? (i := l) (by rw [List.getElem?_take, if_pos (by omega)]; exact hl))
                · exact h2.2 (List.mem_filter.mpr ⟨hk, by rw [decide_eq_false hyw]; rfl⟩)
            · rw [upd_same]
              unfold iv
              rw [List.map_append]
      · rintro σ H5 ⟨x4, T', R', ws, rfl, S, KS, lu, ld, et, hws, hz⟩
        rw [len_iv, Nat.sub_self] at ld KS
        rw [len_iv] at hz
        have ld : ∀ x ∈ nodes none f, x.m ∉ ws → LD q T' x := fun x hx h => ld x hx (by simp) h
        have KD : KeepAt K H5 ow2 i j A1 q T' R' (· ∈ marks f) (· ∈ marks f) (· ∈ marks f) (· ∈ w0) := by
          have e1 : (fun c => dP c ∨ c ∈ w0.drop 0) = (· ∈ marks f) := by
            funext c
            rw [List.drop_zero]
            refine propext ⟨fun h => h.elim (hd3 c) fun h => by obtain ⟨y, hy, rfl⟩ := wm c h; exact node_mark hy, fun h => ?_⟩
            by_cases z : c ∈ w0
            · exact .inr z
            · exact .inl (offd c h z).2.2
          rw [e1] at KS; exact KS
        clear KS
        have big : sumZ f ws ≤ 57600 := Nat.le_trans hz (Nat.le_trans (Nat.mul_le_mul_right 240 wlen) (by decide))
        refine ⟨fun m σ H' => ∃ (x4 : Option V) (T' : Tb) (R' : Int → Addr) (ws : List Int) (sS : Int → Prop), m = sumZ f ws ∧ σ = [some (.ref A.kp), some (.ref L.pd), some (.ref wl), some (.ref wt), x4, none] ∧ Step (kr i j) H3 ow2 H' ow2 ∧
          KeepAt K H' ow2 i j A1 q T' R' (· ∈ marks f) (· ∈ marks f) (· ∈ marks f) sS ∧ (∀ c, sS c → c ∈ marks f) ∧ (∀ x ∈ nodes none f, LU q T' x) ∧ (∀ x ∈ nodes none f, x.m ∉ ws → LD q T' x) ∧ H' wt = some (.lst (iv ws)) ∧ (∀ c ∈ ws, c ∈ marks f) ∧ sumZ f ws ≤ 57600,
          ⟨_, x4, T', R', ws, _, rfl, rfl, S, KD, fun c h => by obtain ⟨y, hy, rfl⟩ := wm c h; exact node_mark hy, lu, ld, et, hws, big⟩, ?_⟩
        rintro m σ H6 ⟨x4, T', R', ws, sS', rfl, rfl, S, KS, hsS, lu, ld, et, hws, big⟩
        refine ⟨_, rfl, by decide, fun p np => ⟨wt, p, _, rfl, rfl, ne_of_none et np, SqL.of (upd_at np et), SqL.of upd_same, ?_⟩⟩
        have s6 : Same H6 (upd H6 p (.lst [])) := Same.up np
        have Sp := S.trans (Step.same (C := kr i j) S.own s6)
        have Kp := KS.same s6
        have etp := s6 _ _ et
        generalize upd H6 p (.lst []) = H7 at s6 Sp Kp etp ⊢
        rcases List.eq_nil_or_concat ws with rfl | ⟨ws', c, rfl⟩
        · exact ⟨false, rfl, k _ ow2 A1 T' R' sS' (S3.trans Sp) rfl Kp lu (fun x hx => ld x hx (by simp))⟩
        · rw [List.concat_eq_append] at *
          have hne : (iv (ws' ++ [c])).isEmpty = false := by unfold iv; rw [List.map_append]; cases ws' <;> rfl
          obtain ⟨x, hx, rfl⟩ := mark_node none (hws c (by simp))
          obtain ⟨l1, l2⟩ := iv_last (l := ws') (c := x.m)
          refine ⟨true, by rw [hne]; rfl, _, fun _ _ h => h, ?_⟩
          refine ⟨_, rfl, tyL etp, wt, _, _, rfl, rfl, etp, l1, ?_⟩
          rw [l2]
          have Sq := Sp.trans (Step.put (C := kr i j) (o := .lst (iv ws')) Sp.own etp (by rw [owt]; unfold kr; simp))
          have Kq := Kp.step (Step.put (C := fun r => r = .tmp) (o := .lst (iv ws')) Sp.own etp owt) (by simp) (by simp) (by simp) (by simp) (by simp) (by simp)
          have etq : upd H7 wt (.lst (iv ws')) wt = some (.lst (iv ws')) := upd_same
          generalize upd H7 wt (.lst (iv ws')) = H8 at Sq Kq etq ⊢
          obtain ⟨kv, p1, p2⟩ := Kq.sn.put hsS hsz x.m (.bl true)
          refine ⟨_, rfl, rd_Keeping_seen T Kq.obj ⟨_, rfl, A1.sn, _, rfl, p1, ?_⟩⟩
          have Kr := Kq.put_sn ((p2 _ upd_same).iff (dom' := fun c => sS' c ∨ c = x.m) (val' := fun _ => .bl true) (fun _ => Iff.rfl) fun m _ => by split <;> rfl)
          obtain ⟨_, esn⟩ := Kq.sn.some
          have Sr := Sq.trans (Step.put (C := kr i j) (o := .dK kv) Sq.own esn (by rw [Kq.osn]; unfold kr; simp))
          have etr : upd H8 A1.sn (.dK kv) wt = some (.lst (iv ws')) := by rw [upd_ne (rne owt Kq.osn (by simp))]; exact etq
          generalize upd H8 A1.sn (.dK kv) = H9 at Sr Kr etr ⊢
          have P9 := P3.step Sr c2 c3 c4
          have hu : ∀ u, x.o = some u → u ∈ marks f := fun u hu => by
            obtain ⟨z, hz, e1, _⟩ := over_top hx hu
            rw [← e1]; exact node_mark hz
          refine ⟨_, rfl, mt_Keeping_look_down Kr.obj ⟨_, rfl, _, rfl, ow2, i, j, A1, q, T', R', _, _, _, _, L, f, x, rfl, Sr.own, P9, hx, Kr, node_mark hx, hu, fun c h => h, fun H10 R10 ch S10 K10 hch => ⟨ch, rfl, ?_⟩⟩⟩
          have S11 := Sr.trans (S10.mono (C' := kr i j) (by rintro r rfl; unfold kr; simp))
          have et10 : H10 wt = some (.lst (iv ws')) := S10.fr _ _ (by rw [owt]; simp) etr
          have hszx := szT_node nd hx
          have hsum : sumZ f (ws' ++ [x.m]) = sumZ f ws' + szT f x.m := by rw [sumZ_app]; rfl
          have eP : (fun c => c ∈ marks f ∨ c = x.m) = (· ∈ marks f) := by
            funext c; exact propext ⟨fun h => h.elim id fun h => by rw [h]; exact node_mark hx, .inl⟩
          rw [eP] at K10
          have sS2 : ∀ c, sS' c ∨ c = x.m → c ∈ marks f := fun c h => h.elim (hsS c) fun h => by rw [h]; exact node_mark hx
          cases ch with
          | false =>
            obtain ⟨_, hp2⟩ := hch rfl
            refine ⟨_, ?_, _, dnT q T' x, R10, ws', _, rfl, rfl, S11, K10, sS2, fun y hy => (lu y hy).dn, ?_, et10, fun c h => hws c (by simp [h]), by omega⟩
            · rw [hsum]; omega
            · intro y hy h
              rw [dnT_eq hp2]
              by_cases e : y.m = x.m
              · obtain rfl := inj y hy x hx e
                exact hp2
              · exact ld y hy (by simp [h, e])
          | true =>
            have P10 := P3.step S11 c2 c3 c4
            have hks2 : ∀ c ∈ ws' ++ x.ks, c ∈ marks f := fun c h => (List.mem_append.mp h).elim (fun h => hws c (by simp [h])) fun h => ks_marks hx c h
            have sz2 : sumZ f (ws' ++ x.ks) < sumZ f (ws' ++ [x.m]) := by rw [hsum, sumZ_app]; omega
            have sl := sumZ_len nd hks2
            refine ⟨_, rfl, tyL et10, _, rfl, _, rfl, L.pd, _, rfl, P10.pd.get (node_mark hx), rd_Plant_under T (P10.pl x hx) ⟨wt, _, iv ws', _, rfl, rfl, et10, P10.un x hx, ?_, _, sz2, _, dnT q T' x, R10, ws' ++ x.ks, _, rfl, rfl, S11.trans (Step.put (C := kr i j) S11.own et10 (by rw [owt]; unfold kr; simp)), ?_, sS2, fun y hy => (lu y hy).dn, ?_, ?_, hks2, by omega⟩⟩
            · rw [List.length_append] at sl
              rw [len_iv, len_iv]
              exact Nat.le_trans sl (Nat.le_trans (Nat.le_of_lt sz2) (Nat.le_trans big (by decide)))
            · exact K10.step (Step.put (C := fun r => r = .tmp) S11.own et10 owt) (by simp) (by simp) (by simp) (by simp) (by simp) (by simp)
            · intro y hy h
              rw [List.mem_append, not_or] at h
              by_cases e : y.m = x.m
              · obtain rfl := inj y hy x hx e
                exact LD.self (not_own_over nd hy)
              · exact LD.other (ld y hy (by simp [h.1, e])) e fun ho => h.2 (kidof x hx y hy ho)
            · rw [upd_same]
              unfold iv
              rw [List.map_append]
theorem sc_Keeping_forget : FnScope ["self", "marks", "mark"] ["self", "marks"] (defScope s_Keeping_forget) := ⟨rfl, rfl, rfl, by decide +kernel, rfl, by decide +kernel, by decide +kernel⟩
theorem ok_Keeping_forget (T : Tx K mg)  : Ok P w K mg base 1 at_Keeping_forget ["self", "marks"] (sp_Keeping_forget K) := by
  refine mkOk T.d_Keeping_forget sc_Keeping_forget (fun _ _ _ _ _ _ us hl => match us, hl with | [_, _], _ => rfl) (fun vs H Q E h => ?_) (fun cdv A outer s H vs Q E hr h => ?_)
  · obtain ⟨ow, i, j, A, q, T0, R, d, sS, gone, gl, rfl, O, KK, hgl, ogl, gnd, hgd, k⟩ := h; rfl
  · obtain ⟨ow, i, j, A, q, T0, R, d, sS, gone, gl, rfl, O, KK, hgl, ogl, gnd, hgd, k⟩ := h
    refine ⟨_, (pss_one (ps_for PassesOwn.never rfl (kpiL (K := K) (pv 1)) (pg_name (i := 2) sc_Keeping_forget.nd rfl (by first | exact Or.inl rfl | exact Or.inr rfl))
        (pss_cons (ps_expr (pe_dpop1 (kfld (K := K) (pv 0)) (pv 2) ⟨rfl, rfl, rfl, rfl⟩))
        (pss_cons (ps_expr (pe_dpop1 (kfld (K := K) (pv 0)) (pv 2) ⟨rfl, rfl, rfl, rfl⟩))
        (pss_one (ps_expr (pe_dpop1 (kfld (K := K) (pv 0)) (pv 2) ⟨rfl, rfl, rfl, rfl⟩))))))), ?_⟩
    refine ⟨_, rfl, gl, rfl, ⟨_, SqL.of hgl⟩, ?_⟩
    have c1 : ¬ kr i j .out := by unfold kr; simp
    refine for_it (walk_list (xs := iv gone)) (fun n σ H' => ∃ (x2 : Option V), σ = [some (.ref A.kp), some (.ref gl), x2] ∧ Step (kr i j) H ow H' ow ∧
      KeepAt K H' ow i j A q T0 R (fun c => d c ∧ c ∉ gone.take n) (fun c => d c ∧ c ∉ gone.take n) (fun c => d c ∧ c ∉ gone.take n) sS) ?_ ?_ ?_ ?_
    · refine ⟨none, rfl, Step.refl O, ?_⟩
      have e : (fun c => d c ∧ c ∉ gone.take 0) = d := by funext c; simp
      rw [e]; exact KK
    · rintro n σ H' _ ⟨x2, rfl, S, _⟩
      exact SqL.of (S.fr _ _ (by rw [ogl]; exact c1) hgl)
    · rintro n v σ H1 H2 hn ⟨x2, rfl, S, K1⟩ ⟨rfl, ev⟩
      obtain ⟨c, hc, rfl⟩ := iv_at' ev
      have hin : d c ∧ c ∉ gone.take n := ⟨hgd c (List.mem_of_getElem? hc), fun h => nodup_take_drop gnd h (by rw [mem_drop_iff gnd hc]; exact .inl rfl)⟩
      have eq1 : (fun c' => d c' ∧ c' ∉ gone.take (n + 1)) = fun c' => (d c' ∧ c' ∉ gone.take n) ∧ c' ≠ c := by
        funext c'
        rw [mem_take_iff hc, not_or, and_assoc]
      obtain ⟨kv1, a1, a2, a3⟩ := K1.dn.pop hin
      refine ⟨_, rfl, rd_Keeping_down T K1.obj ⟨A.dn, rfl, K1.dn.isD, _, rfl, kv1, .inl c, _, a1, rfl, a2, ?_⟩⟩
      have K2 := K1.put_dn (D := T0.D) (a3 _ upd_same)
      have S2 := S.trans (Step.put (C := kr i j) (o := .dK (dropK kv1 (.inl c))) S.own a1 (by rw [K1.odn]; unfold kr; simp))
      generalize upd H2 A.dn (.dK (dropK kv1 (.inl c))) = H3 at K2 S2 ⊢
      obtain ⟨kv2, b1, b2, b3⟩ := K2.bn.pop hin
      refine ⟨_, rfl, rd_Keeping_beneath T K2.obj ⟨A.bn, rfl, K2.bn.isD, _, rfl, kv2, .inl c, _, b1, rfl, b2, ?_⟩⟩
      have K3 := K2.put_bn (B := T0.B) (b3 _ upd_same)
      have S3 := S2.trans (Step.put (C := kr i j) (o := .dK (dropK kv2 (.inl c))) S2.own b1 (by rw [K2.obn]; unfold kr; simp))
      generalize upd H3 A.bn (.dK (dropK kv2 (.inl c))) = H4 at K3 S3 ⊢
      obtain ⟨kv3, d1, d2, d3⟩ := K3.ps.pop hin
      refine ⟨_, rfl, rd_Keeping_passed T K3.obj ⟨A.ps, rfl, K3.ps.isD, _, rfl, kv3, .inl c, _, d1, rfl, d2, ?_⟩⟩
      have K4 := K3.put_ps (P := T0.P) (R' := R) (d3 _ upd_same) fun m h => K3.pt m h.1
      have S4 := S3.trans (Step.put (C := kr i j) (o := .dK (dropK kv3 (.inl c))) S3.own d1 (by rw [K3.ops]; unfold kr; simp))
      refine ⟨_, rfl, S4, ?_⟩
      rw [eq1]
      exact K4
    · rintro σ H1 ⟨x2, rfl, S, K1⟩
      rw [len_iv, List.take_length] at K1
      exact k _ S K1
end
end Bg

set_option Elab.async false
set_option linter.all false
set_option maxRecDepth 100000
set_option maxHeartbeats 4000000
namespace Bg
open PySem PySem.Spec PyProof.Rows L2
/-! ### a keeping's beginning -/
theorem seq_drop {te : TE} {u : TS} {D : Ends} {σ : L2.St} {H : Hp} (M : Hp → Prop) (h : ∀ Q : VK, (∀ v H', M H' → Q v H') → te σ H Q) (hu : ∀ H', M H' → u D σ H') : tSeq (tDrop te) u D σ H := h _ fun _ H' m => hu H' m
def byN (q : Qs Str) (n : Nat) (l : Str) : List Nat := (List.range n).filter fun s => decide (q.lab s = some l)
def nearN (q : Qs Str) (n u : Nat) : Nat := bitsOf n fun t => decide (q.up t = some u) && q.way t
def farN (q : Qs Str) (n u : Nat) : Nat := bitsOf n fun t => decide (q.up t = some u) && !q.way t
structure KI (K : PySem.W.Frag) (H0 H' : Hp) (a dx : Addr) (q : Qs Str) (sb nr fr up wy : Addr) (nS nU nW nN nF : Nat) : Prop where
  s : Same H0 H'
  obj : H' a = some (.ins (aKeeping K) dx (fs_Keeping_6 (.ref sb) (.ref nr) (.ref fr) (.ref up) (.ref wy) (.int q.goal)))
  sbk : ∃ kvs, H' sb = some (.dK kvs) ∧ kvs.length ≤ nS ∧ (∀ l, (valV kvs (.inr l) = none ∧ byN q nS l = []) ∨ ∃ b, valV kvs (.inr l) = some (.ref b) ∧ H' b = some (.lst (nv (byN q nS l))) ∧ H0 b = none ∧ b ≠ nr ∧ b ≠ fr ∧ b ≠ up ∧ b ≠ wy) ∧
    (∀ l l' b, valV kvs (.inr l) = some (.ref b) → valV kvs (.inr l') = some (.ref b) → l = l')
  nrk : H' nr = some (.lst (nv ((List.range q.k).map (nearN q nN))))
  frk : H' fr = some (.lst (nv ((List.range q.k).map (farN q nF))))
  upk : H' up = some (.lst ((List.range nU).map fun s => onv (q.up s)))
  wyk : H' wy = some (.lst ((List.range nW).map fun s => .str (wstr (q.way s))))
structure KN (H0 : Hp) (a sb nr fr up wy : Addr) : Prop where
  na : H0 a = none
  nsb : H0 sb = none
  nnr : H0 nr = none
  nfr : H0 fr = none
  nup : H0 up = none
  nwy : H0 wy = none
  d1 : nr ≠ fr
  d2 : nr ≠ up
  d3 : nr ≠ wy
  d4 : fr ≠ up
  d5 : fr ≠ wy
  d6 : up ≠ wy
theorem ne_il {H : Hp} {a b C dx : Addr} {fs : List (Str × V)} {xs : List V} (h : H a = some (.ins C dx fs)) (h' : H b = some (.lst xs)) : a ≠ b := fun z => by rw [z, h'] at h; cases h
theorem ne_dl {H : Hp} {a b : Addr} {kvs : List (Key × V)} {xs : List V} (h : H a = some (.dK kvs)) (h' : H b = some (.lst xs)) : a ≠ b := fun z => by rw [z, h'] at h; cases h
theorem ne_id {H : Hp} {a b C dx : Addr} {fs : List (Str × V)} {kvs : List (Key × V)} (h : H a = some (.ins C dx fs)) (h' : H b = some (.dK kvs)) : a ≠ b := fun z => by rw [z, h'] at h; cases h
section
variable {K : PySem.W.Frag} {H0 H' H'' : Hp} {a dx : Addr} {q : Qs Str} {sb nr fr up wy : Addr} {nS nU nW nN nF : Nat}
theorem KI.grow (h : KI K H0 H' a dx q sb nr fr up wy nS nU nW nN nF) (s : Same H' H'') : KI K H0 H'' a dx q sb nr fr up wy nS nU nW nN nF := by
  obtain ⟨kvs, e, l, r, i⟩ := h.sbk
  exact ⟨h.s.trans s, s _ _ h.obj, ⟨kvs, s _ _ e, l, fun l => (r l).imp id fun ⟨b, x, y, z⟩ => ⟨b, x, s _ _ y, z⟩, i⟩, s _ _ h.nrk, s _ _ h.frk, s _ _ h.upk, s _ _ h.wyk⟩
theorem KI.sb_upd (h : KI K H0 H' a dx q sb nr fr up wy nS nU nW nN nF) {p : Addr} {xs : List V} {o : HO} (e : H' p = some (.lst xs)) (hp : p = nr ∨ p = fr ∨ p = up ∨ p = wy) :
    ∃ kvs, upd H' p o sb = some (.dK kvs) ∧ kvs.length ≤ nS ∧ (∀ l, (valV kvs (.inr l) = none ∧ byN q nS l = []) ∨ ∃ b, valV kvs (.inr l) = some (.ref b) ∧ upd H' p o b = some (.lst (nv (byN q nS l))) ∧ H0 b = none ∧ b ≠ nr ∧ b ≠ fr ∧ b ≠ up ∧ b ≠ wy) ∧
    (∀ l l' b, valV kvs (.inr l) = some (.ref b) → valV kvs (.inr l') = some (.ref b) → l = l') := by
  obtain ⟨kvs, e1, l, r, i⟩ := h.sbk
  refine ⟨kvs, by rw [upd_ne (ne_dl e1 e)]; exact e1, l, fun l => (r l).imp id fun ⟨b, x, y, n, z1, z2, z3, z4⟩ => ⟨b, x, ?_, n, z1, z2, z3, z4⟩, i⟩
  rw [upd_ne (by rcases hp with rfl | rfl | rfl | rfl <;> assumption)]; exact y
theorem KI.put_up (h : KI K H0 H' a dx q sb nr fr up wy nS nU nW nN nF) (N : KN H0 a sb nr fr up wy) {xs : List V} (e : xs = (List.range (nU + 1)).map fun s => onv (q.up s)) : KI K H0 (upd H' up (.lst xs)) a dx q sb nr fr up wy nS (nU + 1) nW nN nF :=
  ⟨h.s.put N.nup, by rw [upd_ne (ne_il h.obj h.upk)]; exact h.obj, h.sb_upd h.upk (.inr (.inr (.inl rfl))), by rw [upd_ne N.d2]; exact h.nrk, by rw [upd_ne N.d4]; exact h.frk, by rw [upd_same, e], by rw [upd_ne N.d6.symm]; exact h.wyk⟩
theorem KI.put_wy (h : KI K H0 H' a dx q sb nr fr up wy nS nU nW nN nF) (N : KN H0 a sb nr fr up wy) {xs : List V} (e : xs = (List.range (nW + 1)).map fun s => .str (wstr (q.way s))) : KI K H0 (upd H' wy (.lst xs)) a dx q sb nr fr up wy nS nU (nW + 1) nN nF :=
  ⟨h.s.put N.nwy, by rw [upd_ne (ne_il h.obj h.wyk)]; exact h.obj, h.sb_upd h.wyk (.inr (.inr (.inr rfl))), by rw [upd_ne N.d3]; exact h.nrk, by rw [upd_ne N.d5]; exact h.frk, by rw [upd_ne N.d6]; exact h.upk, by rw [upd_same, e]⟩
theorem KI.put_nr (h : KI K H0 H' a dx q sb nr fr up wy nS nU nW nN nF) (N : KN H0 a sb nr fr up wy) {xs : List V} (e : xs = nv ((List.range q.k).map (nearN q (nN + 1)))) : KI K H0 (upd H' nr (.lst xs)) a dx q sb nr fr up wy nS nU nW (nN + 1) nF :=
  ⟨h.s.put N.nnr, by rw [upd_ne (ne_il h.obj h.nrk)]; exact h.obj, h.sb_upd h.nrk (.inl rfl), by rw [upd_same, e], by rw [upd_ne N.d1.symm]; exact h.frk, by rw [upd_ne N.d2.symm]; exact h.upk, by rw [upd_ne N.d3.symm]; exact h.wyk⟩
theorem KI.put_fr (h : KI K H0 H' a dx q sb nr fr up wy nS nU nW nN nF) (N : KN H0 a sb nr fr up wy) {xs : List V} (e : xs = nv ((List.range q.k).map (farN q (nF + 1)))) : KI K H0 (upd H' fr (.lst xs)) a dx q sb nr fr up wy nS nU nW nN (nF + 1) :=
  ⟨h.s.put N.nfr, by rw [upd_ne (ne_il h.obj h.frk)]; exact h.obj, h.sb_upd h.frk (.inr (.inl rfl)), by rw [upd_ne N.d1]; exact h.nrk, by rw [upd_same, e], by rw [upd_ne N.d4.symm]; exact h.upk, by rw [upd_ne N.d5.symm]; exact h.wyk⟩
theorem KI.skip_n (h : KI K H0 H' a dx q sb nr fr up wy nS nU nW nN nF) (e : ∀ u, nearN q (nN + 1) u = nearN q nN u) : KI K H0 H' a dx q sb nr fr up wy nS nU nW (nN + 1) nF :=
  ⟨h.s, h.obj, h.sbk, by rw [show nearN q (nN + 1) = nearN q nN from funext e]; exact h.nrk, h.frk, h.upk, h.wyk⟩
theorem KI.skip_f (h : KI K H0 H' a dx q sb nr fr up wy nS nU nW nN nF) (e : ∀ u, farN q (nF + 1) u = farN q nF u) : KI K H0 H' a dx q sb nr fr up wy nS nU nW nN (nF + 1) :=
  ⟨h.s, h.obj, h.sbk, h.nrk, by rw [show farN q (nF + 1) = farN q nF from funext e]; exact h.frk, h.upk, h.wyk⟩
theorem byN_succ (q : Qs Str) (n : Nat) (l : Str) : byN q (n + 1) l = if q.lab n = some l then byN q n l ++ [n] else byN q n l := by
  unfold byN
  rw [List.range_succ, List.filter_append]
  by_cases h : q.lab n = some l
  · rw [if_pos h]
    congr 1
    rw [List.filter_cons_of_pos (by simpa using h)]; rfl
  · rw [if_neg h, List.filter_cons_of_neg (by simpa using h)]; simp
structure KB (K : PySem.W.Frag) (H0 H' : Hp) (a dx : Addr) (q : Qs Str) (sb nr fr up wy : Addr) (nU nW nN nF : Nat) : Prop where
  s : Same H0 H'
  obj : H' a = some (.ins (aKeeping K) dx (fs_Keeping_6 (.ref sb) (.ref nr) (.ref fr) (.ref up) (.ref wy) (.int q.goal)))
  nrk : H' nr = some (.lst (nv ((List.range q.k).map (nearN q nN))))
  frk : H' fr = some (.lst (nv ((List.range q.k).map (farN q nF))))
  upk : H' up = some (.lst ((List.range nU).map fun s => onv (q.up s)))
  wyk : H' wy = some (.lst ((List.range nW).map fun s => .str (wstr (q.way s))))
theorem KI.b (h : KI K H0 H' a dx q sb nr fr up wy nS nU nW nN nF) : KB K H0 H' a dx q sb nr fr up wy nU nW nN nF := ⟨h.s, h.obj, h.nrk, h.frk, h.upk, h.wyk⟩
theorem KB.dict (h : KB K H0 H' a dx q sb nr fr up wy nU nW nN nF) (n : H0 sb = none) {kvs : List (Key × V)} {o : HO} (e : H' sb = some (.dK kvs)) : KB K H0 (upd H' sb o) a dx q sb nr fr up wy nU nW nN nF :=
  ⟨h.s.put n, by rw [upd_ne (ne_id h.obj e)]; exact h.obj, by rw [upd_ne (ne_dl e h.nrk).symm]; exact h.nrk, by rw [upd_ne (ne_dl e h.frk).symm]; exact h.frk, by rw [upd_ne (ne_dl e h.upk).symm]; exact h.upk, by rw [upd_ne (ne_dl e h.wyk).symm]; exact h.wyk⟩
theorem KB.put_sb (h : KB K H0 H' a dx q sb nr fr up wy nU nW nN nF) (N : KN H0 a sb nr fr up wy) {kvs : List (Key × V)} {b : Addr} {l : Str} {xs : List V} (hl : q.lab nS = some l) (e1 : H' sb = some (.dK kvs)) (l1 : kvs.length ≤ nS + 1)
    (v : valV kvs (.inr l) = some (.ref b)) (hb : H' b = some (.lst (nv (byN q nS l)))) (nb : H0 b = none) (z1 : b ≠ nr) (z2 : b ≠ fr) (z3 : b ≠ up) (z4 : b ≠ wy)
    (r : ∀ l', l' ≠ l → (valV kvs (.inr l') = none ∧ byN q nS l' = []) ∨ ∃ b', valV kvs (.inr l') = some (.ref b') ∧ H' b' = some (.lst (nv (byN q nS l'))) ∧ H0 b' = none ∧ b' ≠ nr ∧ b' ≠ fr ∧ b' ≠ up ∧ b' ≠ wy)
    (i : ∀ l l' b, valV kvs (.inr l) = some (.ref b) → valV kvs (.inr l') = some (.ref b) → l = l') (ex : xs = nv (byN q nS l) ++ [.int nS]) : KI K H0 (upd H' b (.lst xs)) a dx q sb nr fr up wy (nS + 1) nU nW nN nF := by
  subst ex
  refine ⟨h.s.put nb, by rw [upd_ne (ne_il h.obj hb)]; exact h.obj, ⟨kvs, by rw [upd_ne (ne_dl e1 hb)]; exact e1, l1, fun l' => ?_, i⟩, by rw [upd_ne z1.symm]; exact h.nrk, by rw [upd_ne z2.symm]; exact h.frk, by rw [upd_ne z3.symm]; exact h.upk, by rw [upd_ne z4.symm]; exact h.wyk⟩
  rw [byN_succ]
  by_cases c : l' = l
  · subst c
    refine .inr ⟨b, v, ?_, nb, z1, z2, z3, z4⟩
    rw [upd_same, if_pos hl, nv_snoc]
  · rw [if_neg (fun z => c (by rw [hl] at z; exact (Option.some.inj z).symm))]
    refine (r l' c).imp id fun ⟨b', x, y, w⟩ => ⟨b', x, ?_, w⟩
    rw [upd_ne (fun z => c (i _ _ b (by rw [← z]; exact x) v))]; exact y
end
def sp_Keeping_init (K : PySem.W.Frag) : Sp := fun vs H Q _ => ∃ (a dx qa : Addr) (q : Qs Str) (H0 : Hp), vs = [.ref a, .ref qa] ∧ H a = some (.ins (aKeeping K) dx []) ∧ Same H0 H ∧ H0 a = none ∧ QAt K H0 qa q ∧
  ∀ (H' : Hp) (A : KA) (S : Hp), Same H0 H' → A.kp = a → a ≠ A.dn → a ≠ A.bn → a ≠ A.ps → a ≠ A.sn → A.dn ≠ A.bn → A.dn ≠ A.ps → A.dn ≠ A.sn → A.bn ≠ A.ps → A.bn ≠ A.sn → A.ps ≠ A.sn →
    (H0 A.dn = none ∧ H0 A.bn = none ∧ H0 A.ps = none ∧ H0 A.sn = none) → (H' A.dn = some (.dK []) ∧ H' A.bn = some (.dK []) ∧ H' A.ps = some (.dK []) ∧ H' A.sn = some (.dK [])) →
    H' A.kp = some (.ins (aKeeping K) A.dx (fs_Keeping (.ref A.sb) (.ref A.nr) (.ref A.fr) (.ref A.up) (.ref A.wy) (.int q.goal) (.ref A.dn) (.ref A.bn) (.ref A.ps) (.ref A.sn))) →
    Same S H' → (∀ b o, S b = some o → H0 b = none ∧ b ≠ a ∧ b ≠ A.dn ∧ b ≠ A.bn ∧ b ≠ A.ps ∧ b ≠ A.sn) → ImAt S q A → Q .non H'
theorem rep0 (n : Nat) : (List.replicate ((n : Int)).toNat [V.int 0]).flatten = nv (List.replicate n 0) := by
  rw [Int.toNat_natCast]
  induction n with
  | zero => rfl
  | succ n ih => rw [List.replicate_succ, List.flatten_cons, ih]; rfl
theorem rep_map (g : Nat → Nat) (h : ∀ u, g u = 0) (n : Nat) : List.replicate n 0 = (List.range n).map g := by
  rw [show g = fun _ => 0 from funext h]
  refine List.ext_getElem? fun i => ?_
  rw [List.getElem?_map]
  by_cases hi : i < n
  · rw [List.getElem?_range hi, List.getElem?_replicate, if_pos hi]; rfl
  · rw [List.getElem?_eq_none (by rw [List.length_replicate]; omega), List.getElem?_eq_none (by rw [List.length_range]; omega)]; rfl
theorem set_map {g g' : Nat → Nat} {n u v : Nat} (hu : u < n) (h : g' u = v) (h2 : ∀ x, x ≠ u → g' x = g x) : ((List.range n).map g).set u v = (List.range n).map g' := by
  refine List.ext_getElem? fun i => ?_
  by_cases hi : i = u
  · subst hi
    rw [List.getElem?_set_self (by rw [List.length_map, List.length_range]; exact hu), List.getElem?_map, List.getElem?_range hu, ← h]; rfl
  · rw [List.getElem?_set_ne (Ne.symm hi), List.getElem?_map, List.getElem?_map]
    by_cases hn : i < n
    · rw [List.getElem?_range hn]; show some (g i) = some (g' i); rw [h2 i hi]
    · rw [List.getElem?_eq_none (by rw [List.length_range]; omega)]; rfl
section
variable {P : Program} {w : World} {K : PySem.W.Frag} {mg : Str → Option Value} {base : Heap}
theorem sc_Keeping_init : FnScope ["self", "question", "step", "upper", "way"] ["self", "question"] (defScope s_Keeping_init) := ⟨rfl, rfl, rfl, by decide +kernel, rfl, by decide +kernel, by decide +kernel⟩
theorem ok_Keeping_init (T : Tx K mg) (O_Anywhere_way : Ok P w K mg base 1 at_Anywhere_way ["self"] (spWay "//")) (O_Question_many : Ok P w K mg base 1 at_Question_many ["self"] (sp_Question_many K)) (O_Question_step_at : Ok P w K mg base 4 at_Question_step_at ["self", "step"] (sp_Question_step_at K)) (O_Question_upper_of : Ok P w K mg base 4 at_Question_upper_of ["self", "step"] (sp_Question_upper_of K)) (O_Question_wanted : Ok P w K mg base 1 at_Question_wanted ["self"] (sp_Question_wanted K)) (O_Straight_way : Ok P w K mg base 1 at_Straight_way ["self"] (spWay "/")) : Ok P w K mg base 5 at_Keeping_init ["self", "question"] (sp_Keeping_init K) := by
  refine mkOk T.d_Keeping_init sc_Keeping_init (fun _ _ _ _ _ _ us hl => match us, hl with | [_, _], _ => rfl) (fun vs H Q E h => ?_) (fun cdv A outer s H vs Q E hr h => ?_)
  · obtain ⟨a, dx, qa, q, H0, rfl, ha, s0, n0, QA0, k⟩ := h; rfl
  · obtain ⟨a, dx, qa, q, H0, rfl, ha, s0, n0, QA0, k⟩ := h
    refine ⟨_, (pss_cons (kput (K := K) (pv 0) pe_dnewK)
      (pss_cons (kput (K := K) (pv 0) (pe_op op_rep (pe_lst (pa_cons pe_int pa_nil)) (kme0 (K := K) (pv 1) O_Question_many T.c_Question T.m_Question_many (hr.mono (by decide)))))
      (pss_cons (kput (K := K) (pv 0) (pe_op op_rep (pe_lst (pa_cons pe_int pa_nil)) (kme0 (K := K) (pv 1) O_Question_many T.c_Question T.m_Question_many (hr.mono (by decide)))))
      (pss_cons (kput (K := K) (pv 0) (pe_lst pa_nil))
      (pss_cons (kput (K := K) (pv 0) (pe_lst pa_nil))
      (pss_cons (kput (K := K) (pv 0) (kme0 (K := K) (pv 1) O_Question_wanted T.c_Question T.m_Question_wanted (hr.mono (by decide))))
      (pss_cons (ps_for PassesOwn.never rfl (pi_range1 (by rfl) T.f_range (pa_cons (kme0 (K := K) (pv 1) O_Question_many T.c_Question T.m_Question_many (hr.mono (by decide))) pa_nil)) (pg_name (i := 2) sc_Keeping_init.nd rfl (by first | exact Or.inl rfl | exact Or.inr rfl))
        (pss_cons (ps_set (i := 3) sc_Keeping_init.nd rfl (by first | exact Or.inl rfl | exact Or.inr rfl) (kme (K := K) (pv 1) O_Question_upper_of T.c_Question T.m_Question_upper_of (hr.mono (by decide)) (pa_cons (pv 2) pa_nil)))
        (pss_cons (ps_set (i := 4) sc_Keeping_init.nd rfl (by first | exact Or.inl rfl | exact Or.inr rfl) (kway (K := K) (kme (K := K) (pv 1) O_Question_step_at T.c_Question T.m_Question_step_at (hr.mono (by decide)) (pa_cons (pv 2) pa_nil)) O_Straight_way O_Anywhere_way T (hr.mono (by decide))))
        (pss_cons (ps_expr (kbm (K := K) PySem.F.plainAttrs_list PySem.F.slot_list_append PySem.F.type_list_append kappend (pe_dsetd (kfld (K := K) (pv 0)) (kfld (K := K) (kme (K := K) (pv 1) O_Question_step_at T.c_Question T.m_Question_step_at (hr.mono (by decide)) (pa_cons (pv 2) pa_nil))) (pe_lst pa_nil) ⟨rfl, rfl, rfl, rfl⟩) (pa_cons (pv 2) pa_nil)))
        (pss_cons (ps_expr (kbm (K := K) PySem.F.plainAttrs_list PySem.F.slot_list_append PySem.F.type_list_append kappend (kfld (K := K) (pv 0)) (pa_cons (pv 3) pa_nil)))
        (pss_cons (ps_expr (kbm (K := K) PySem.F.plainAttrs_list PySem.F.slot_list_append PySem.F.type_list_append kappend (kfld (K := K) (pv 0)) (pa_cons (pv 4) pa_nil)))
        (pss_one (ps_if (PW.pt (pw_and (pt_cmpR op_notN (pv 3) pe_non (nomark _)) (pw_and1 (pt_cmpR op_eq (pv 4) pe_str (nomark _)))))
          (pss_one (korL (K := K) (kfld (K := K) (pv 0)) (pv 3) (pe_op op_shl pe_int (pv 2))))
          (pss_one (ps_if (pt_cmpR op_notN (pv 3) pe_non (nomark _))
            (pss_one (korL (K := K) (kfld (K := K) (pv 0)) (pv 3) (pe_op op_shl pe_int (pv 2))))
            pss_nil))))))))))
      (pss_cons (kput (K := K) (pv 0) pe_dnewK)
      (pss_cons (kput (K := K) (pv 0) pe_dnewK)
      (pss_cons (kput (K := K) (pv 0) pe_dnewK)
      (pss_one (kput (K := K) (pv 0) pe_dnewK)))))))))))), ?_⟩
    have hq : q.k ≤ 100 := QA0.ok.many
    refine fun sb nsb => ?_
    refine ⟨_, rfl, in_Keeping_steps_by T (upd_at nsb ha) ?_⟩
    have sbn := s0.free nsb
    have s1 : Same H0 (upd (upd H sb (.dK [])) a (.ins (aKeeping K) dx (fs_Keeping_1 (.ref sb)))) := (s0.put sbn).put n0
    have a1 : (upd (upd H sb (.dK [])) a (.ins (aKeeping K) dx (fs_Keeping_1 (.ref sb)))) a = _ := upd_same
    have b1 : (upd (upd H sb (.dK [])) a (.ins (aKeeping K) dx (fs_Keeping_1 (.ref sb)))) sb = some (.dK []) := by rw [upd_ne (ne_of_none ha nsb).symm]; exact upd_same
    generalize (upd (upd H sb (.dK [])) a (.ins (aKeeping K) dx (fs_Keeping_1 (.ref sb)))) = H1 at s1 a1 b1 ⊢
    obtain ⟨_, dxq, pg, ps, pe, pu, qts, ss, h1, h2, h3, h4, h5, h6, h7⟩ := id QA0
    refine ⟨by decide, fun p1 np1 => ⟨_, rfl, mt_Question_many (s1.new np1 _ _ h1) ⟨qa, q, rfl, QA0.same (s1.new np1), p1, (q.k : Int), _, rfl, rfl, upd_same, by omega, by omega, ?_, fun nr nnr => ?_⟩⟩⟩
    · show 1 * _ ≤ _; rw [Int.toNat_natCast, Nat.one_mul]; exact Nat.le_trans hq (by decide)
    rw [rep0]
    have a2 := upd_at (o := .lst (nv (List.replicate q.k 0))) nnr (upd_at (o := .lst [V.int 0]) np1 a1)
    have b2 := upd_at (o := .lst (nv (List.replicate q.k 0))) nnr (upd_at (o := .lst [V.int 0]) np1 b1)
    have c2 : (upd (upd H1 p1 (.lst [V.int 0])) nr (.lst (nv (List.replicate q.k 0)))) nr = some (.lst (nv (List.replicate q.k 0))) := upd_same
    have s2 : Same H0 (upd (upd H1 p1 (.lst [V.int 0])) nr (.lst (nv (List.replicate q.k 0)))) := (s1.new np1).new nnr
    have nrn := s1.free (upd_free nnr).2
    generalize (upd (upd H1 p1 (.lst [V.int 0])) nr (.lst (nv (List.replicate q.k 0)))) = H2 at s2 a2 b2 c2 ⊢
    refine ⟨_, rfl, in_Keeping_near T a2 ?_⟩
    have s3 : Same H0 (upd H2 a (.ins (aKeeping K) dx (fs_Keeping_2 (.ref sb) (.ref nr)))) := s2.put n0
    have b3 : (upd H2 a (.ins (aKeeping K) dx (fs_Keeping_2 (.ref sb) (.ref nr)))) sb = some (.dK []) := by rw [upd_ne (ne_id a2 b2).symm]; exact b2
    have c3 : (upd H2 a (.ins (aKeeping K) dx (fs_Keeping_2 (.ref sb) (.ref nr)))) nr = some (.lst (nv (List.replicate q.k 0))) := by rw [upd_ne (ne_il a2 c2).symm]; exact c2
    have a3 : (upd H2 a (.ins (aKeeping K) dx (fs_Keeping_2 (.ref sb) (.ref nr)))) a = _ := upd_same
    generalize upd H2 a (.ins (aKeeping K) dx (fs_Keeping_2 (.ref sb) (.ref nr))) = H3 at s3 a3 b3 c3 ⊢
    -- far
    refine ⟨by decide, fun p2 np2 => ⟨_, rfl, mt_Question_many (s3.new np2 _ _ h1) ⟨qa, q, rfl, QA0.same (s3.new np2), p2, (q.k : Int), _, rfl, rfl, upd_same, by omega, by omega, ?_, fun fr nfr => ?_⟩⟩⟩
    · show 1 * _ ≤ _; rw [Int.toNat_natCast, Nat.one_mul]; exact Nat.le_trans hq (by decide)
    rw [rep0]
    have s4 : Same H3 (upd (upd H3 p2 (.lst [V.int 0])) fr (.lst (nv (List.replicate q.k 0)))) := (Same.up np2).trans (Same.up nfr)
    have d4 : (upd (upd H3 p2 (.lst [V.int 0])) fr (.lst (nv (List.replicate q.k 0)))) fr = some (.lst (nv (List.replicate q.k 0))) := upd_same
    have frn := s3.free (upd_free nfr).2
    have nrfr : nr ≠ fr := ne_of_none c3 (upd_free nfr).2
    generalize (upd (upd H3 p2 (.lst [V.int 0])) fr (.lst (nv (List.replicate q.k 0)))) = H4 at s4 d4 ⊢
    refine ⟨_, rfl, in_Keeping_far T (s4 _ _ a3) ?_⟩
    have s5 : Same H0 (upd H4 a (.ins (aKeeping K) dx (fs_Keeping_3 (.ref sb) (.ref nr) (.ref fr)))) := (s3.trans s4).put n0
    have b5 : (upd H4 a (.ins (aKeeping K) dx (fs_Keeping_3 (.ref sb) (.ref nr) (.ref fr)))) sb = some (.dK []) := by rw [upd_ne (ne_id a3 b3).symm]; exact s4 _ _ b3
    have c5 : (upd H4 a (.ins (aKeeping K) dx (fs_Keeping_3 (.ref sb) (.ref nr) (.ref fr)))) nr = some (.lst (nv (List.replicate q.k 0))) := by rw [upd_ne (ne_il a3 c3).symm]; exact s4 _ _ c3
    have d5 : (upd H4 a (.ins (aKeeping K) dx (fs_Keeping_3 (.ref sb) (.ref nr) (.ref fr)))) fr = some (.lst (nv (List.replicate q.k 0))) := by rw [upd_ne (ne_il (s4 _ _ a3) d4).symm]; exact d4
    have a5 : (upd H4 a (.ins (aKeeping K) dx (fs_Keeping_3 (.ref sb) (.ref nr) (.ref fr)))) a = _ := upd_same
    generalize upd H4 a (.ins (aKeeping K) dx (fs_Keeping_3 (.ref sb) (.ref nr) (.ref fr))) = H5 at s5 a5 b5 c5 d5 ⊢
    -- uppers
    refine ⟨by decide, fun up nup => ⟨_, rfl, in_Keeping_uppers T (upd_at nup a5) ?_⟩⟩
    have upn := s5.free nup
    have s6 : Same H0 (upd (upd H5 up (.lst [])) a (.ins (aKeeping K) dx (fs_Keeping_4 (.ref sb) (.ref nr) (.ref fr) (.ref up)))) := (s5.new nup).put n0
    have b6 : (upd (upd H5 up (.lst [])) a (.ins (aKeeping K) dx (fs_Keeping_4 (.ref sb) (.ref nr) (.ref fr) (.ref up)))) sb = some (.dK []) := by rw [upd_ne (ne_id a5 b5).symm]; exact upd_at nup b5
    have c6 : (upd (upd H5 up (.lst [])) a (.ins (aKeeping K) dx (fs_Keeping_4 (.ref sb) (.ref nr) (.ref fr) (.ref up)))) nr = some (.lst (nv (List.replicate q.k 0))) := by rw [upd_ne (ne_il a5 c5).symm]; exact upd_at nup c5
    have d6 : (upd (upd H5 up (.lst [])) a (.ins (aKeeping K) dx (fs_Keeping_4 (.ref sb) (.ref nr) (.ref fr) (.ref up)))) fr = some (.lst (nv (List.replicate q.k 0))) := by rw [upd_ne (ne_il a5 d5).symm]; exact upd_at nup d5
    have e6 : (upd (upd H5 up (.lst [])) a (.ins (aKeeping K) dx (fs_Keeping_4 (.ref sb) (.ref nr) (.ref fr) (.ref up)))) up = some (.lst []) := by rw [upd_ne (ne_of_none a5 nup).symm]; exact upd_same
    have a6 : (upd (upd H5 up (.lst [])) a (.ins (aKeeping K) dx (fs_Keeping_4 (.ref sb) (.ref nr) (.ref fr) (.ref up)))) a = _ := upd_same
    have nrup : nr ≠ up := ne_of_none c5 nup
    have frup : fr ≠ up := ne_of_none d5 nup
    generalize (upd (upd H5 up (.lst [])) a (.ins (aKeeping K) dx (fs_Keeping_4 (.ref sb) (.ref nr) (.ref fr) (.ref up)))) = H6 at s6 a6 b6 c6 d6 e6 ⊢
    -- ways
    refine ⟨by decide, fun wy nwy => ⟨_, rfl, in_Keeping_ways T (upd_at nwy a6) ?_⟩⟩
    have wyn := s6.free nwy
    have s7 : Same H0 (upd (upd H6 wy (.lst [])) a (.ins (aKeeping K) dx (fs_Keeping_5 (.ref sb) (.ref nr) (.ref fr) (.ref up) (.ref wy)))) := (s6.new nwy).put n0
    have k7 : ∀ b o, b ≠ a → H6 b = some o → (upd (upd H6 wy (.lst [])) a (.ins (aKeeping K) dx (fs_Keeping_5 (.ref sb) (.ref nr) (.ref fr) (.ref up) (.ref wy)))) b = some o := fun b o hb e => by rw [upd_ne hb]; exact upd_at nwy e
    have f7 : (upd (upd H6 wy (.lst [])) a (.ins (aKeeping K) dx (fs_Keeping_5 (.ref sb) (.ref nr) (.ref fr) (.ref up) (.ref wy)))) wy = some (.lst []) := by rw [upd_ne (ne_of_none a6 nwy).symm]; exact upd_same
    have a7 : (upd (upd H6 wy (.lst [])) a (.ins (aKeeping K) dx (fs_Keeping_5 (.ref sb) (.ref nr) (.ref fr) (.ref up) (.ref wy)))) a = _ := upd_same
    have N : KN H0 a sb nr fr up wy := ⟨n0, sbn, nrn, frn, upn, wyn, nrfr, nrup, ne_of_none c6 nwy, frup, ne_of_none d6 nwy, ne_of_none e6 nwy⟩
    generalize (upd (upd H6 wy (.lst [])) a (.ins (aKeeping K) dx (fs_Keeping_5 (.ref sb) (.ref nr) (.ref fr) (.ref up) (.ref wy)))) = H7 at s7 a7 k7 f7 ⊢
    -- goal
    refine ⟨_, rfl, mt_Question_wanted (s7 _ _ h1) ⟨qa, q, rfl, QA0.same s7, _, rfl, in_Keeping_goal T a7 ?_⟩⟩
    have I0 : KI K H0 (upd H7 a (.ins (aKeeping K) dx (fs_Keeping_6 (.ref sb) (.ref nr) (.ref fr) (.ref up) (.ref wy) (.int q.goal)))) a dx q sb nr fr up wy 0 0 0 0 0 := by
      have k8 : ∀ b o, b ≠ a → H7 b = some o → (upd H7 a (.ins (aKeeping K) dx (fs_Keeping_6 (.ref sb) (.ref nr) (.ref fr) (.ref up) (.ref wy) (.int q.goal)))) b = some o := fun b o hb e => by rw [upd_ne hb]; exact e
      refine ⟨s7.put n0, upd_same, ⟨[], k8 _ _ (ne_id a6 b6).symm (k7 _ _ (ne_id a6 b6).symm b6), Nat.le_refl 0, fun l => .inl ⟨rfl, rfl⟩, fun l l' b h => by cases h⟩, ?_, ?_, ?_, ?_⟩
      · rw [← rep_map (nearN q 0) (fun _ => rfl)]; exact k8 _ _ (ne_il a6 c6).symm (k7 _ _ (ne_il a6 c6).symm c6)
      · rw [← rep_map (farN q 0) (fun _ => rfl)]; exact k8 _ _ (ne_il a6 d6).symm (k7 _ _ (ne_il a6 d6).symm d6)
      · exact k8 _ _ (ne_il a6 e6).symm (k7 _ _ (ne_il a6 e6).symm e6)
      · exact k8 _ _ (ne_il a7 f7).symm f7
    generalize upd H7 a (.ins (aKeeping K) dx (fs_Keeping_6 (.ref sb) (.ref nr) (.ref fr) (.ref up) (.ref wy) (.int q.goal))) = H8 at I0 ⊢
    refine ⟨_, rfl, mt_Question_many (I0.s _ _ h1) ⟨qa, q, rfl, QA0.same I0.s, _, rfl, by omega, by omega, ?_⟩⟩
    rw [Int.toNat_natCast]
    refine for_it walk_range (fun n σ H' => ∃ (x2 x3 x4 : Option V), σ = [some (.ref a), some (.ref qa), x2, x3, x4] ∧ KI K H0 H' a dx q sb nr fr up wy n n n n n) ?_ (fun _ _ _ _ _ => trivial) ?_ ?_
    · exact ⟨none, none, none, rfl, I0⟩
    · rintro n v σ H9 H10 hn ⟨x2, x3, x4, rfl, I⟩ ⟨rfl, ev⟩
      obtain rfl : v = V.int (n : Int) := by
        rw [ev]
        show V.int ((0 : Int) + (n : Nat)) = _
        congr 1; omega
      have hr : q.rows[n]? = some (q.rows[n]'hn) := List.getElem?_eq_getElem hn
      have hw := qway hr
      have hlab := qlab hr
      generalize (q.rows[n]'hn) = r at hr hw hlab
      refine ⟨_, rfl, mt_Question_upper_of (I.s _ _ h1) ⟨_, rfl, qa, q, n, rfl, QA0.same I.s, hn, ?_⟩⟩
      refine ⟨_, rfl, mt_Question_step_at (I.s _ _ h1) ⟨_, rfl, qa, q, n, r, rfl, QA0.same I.s, hr, fun sa ⟨dxs, es⟩ => ⟨sa, dxs, _, r.1, rfl, es, lkM ne_way_label lkN, ?_⟩⟩⟩
      dsimp only [gName]
      refine seq_drop (fun H' => KI K H0 H' a dx q sb nr fr up wy (n + 1) n n n n) (fun Q' hQ => ?_) fun H11 I2 => ?_
      · obtain ⟨kvs, g1, g2, g3, g4⟩ := I.sbk
        refine ⟨_, rfl, rp_Keeping_6_steps_by T I.obj ⟨sb, rfl, .inl ⟨kvs, .inl g1⟩, _, rfl, mt_Question_step_at (I.s _ _ h1) ⟨_, rfl, qa, q, n, r, rfl, QA0.same I.s, hr, fun sa2 hsa2 => rd_Step_label T hsa2 ⟨by decide, fun z nz => ⟨kvs, .inr r.2.1, upd_at nz g1, rfl, ?_, fun v hv => ?_, fun hv => ?_⟩⟩⟩⟩⟩
        · exact Nat.lt_of_le_of_lt (Nat.le_trans g2 (Nat.le_of_lt (Nat.lt_of_lt_of_le hn hq))) (by decide)
        · have Iz := I.grow (Same.up (o := .lst []) nz)
          rcases g3 r.2.1 with ⟨w1, _⟩ | ⟨b, w1, w2, w3, w4, w5, w6, w7⟩
          · rw [w1] at hv; cases hv
          · rw [w1] at hv
            obtain rfl := Option.some.inj hv
            have w2' := upd_at (o := .lst []) nz w2
            refine ⟨tyL w2', _, rfl, b, _, _, rfl, rfl, w2', ?_, hQ _ _ ?_⟩
            · rw [len_nv]
              exact Nat.lt_of_le_of_lt (Nat.le_trans (List.length_filter_le _ _) (by rw [List.length_range]; exact Nat.le_trans (Nat.le_of_lt hn) hq)) (by decide)
            · exact Iz.b.put_sb N hlab (upd_at nz g1) (by omega) w1 w2' w3 w4 w5 w6 w7 (fun l' _ => (g3 l').imp id fun ⟨b', y1, y2, y3⟩ => ⟨b', y1, upd_at nz y2, y3⟩) g4 rfl
        · have Iz := I.grow (Same.up (o := .lst []) nz)
          have e0 : byN q n r.2.1 = [] := by
            rcases g3 r.2.1 with ⟨_, w2⟩ | ⟨b, w1, _⟩
            · exact w2
            · rw [w1] at hv; cases hv
          have nez : z ≠ sb := (ne_of_none g1 nz).symm
          have ez : upd (upd H10 z (.lst [])) sb (.dK (putK kvs (.inr r.2.1) (.ref z))) z = some (.lst []) := by rw [upd_ne nez]; exact upd_same
          have nz0 : H0 z = none := I.s.free nz
          have k1 : ∀ b o, b ≠ sb → (upd H10 z (.lst [])) b = some o → upd (upd H10 z (.lst [])) sb (.dK (putK kvs (.inr r.2.1) (.ref z))) b = some o := fun b o hb e => by rw [upd_ne hb]; exact e
          refine ⟨tyL ez, _, rfl, z, _, _, rfl, rfl, ez, by decide, hQ _ _ ?_⟩
          have inj2 : ∀ l l' b, valV (putK kvs (.inr r.2.1) (.ref z)) (.inr l) = some (.ref b) → valV (putK kvs (.inr r.2.1) (.ref z)) (.inr l') = some (.ref b) → l = l' := by
            intro l l' b y1 y2
            rw [valV_put] at y1 y2
            have nzz : ∀ l'', valV kvs (.inr l'') ≠ some (.ref z) := fun l'' y => by
              rcases g3 l'' with ⟨w1, _⟩ | ⟨b', w1, w2, _⟩
              · rw [w1] at y; cases y
              · rw [w1] at y
                cases y
                rw [nz] at w2; cases w2
            by_cases q1 : (Sum.inr l : Key) = .inr r.2.1
            · rw [if_pos q1] at y1
              cases y1
              by_cases q2 : (Sum.inr l' : Key) = .inr r.2.1
              · rw [Sum.inr.inj q1, Sum.inr.inj q2]
              · rw [if_neg q2] at y2; exact absurd y2 (nzz l')
            · rw [if_neg q1] at y1
              by_cases q2 : (Sum.inr l' : Key) = .inr r.2.1
              · rw [if_pos q2] at y2
                cases y2
                exact absurd y1 (nzz l)
              · rw [if_neg q2] at y2; exact g4 l l' b y1 y2
          have e1 : upd (upd H10 z (.lst [])) sb (.dK (putK kvs (.inr r.2.1) (.ref z))) sb = some (.dK (putK kvs (.inr r.2.1) (.ref z))) := upd_same
          refine (Iz.b.dict N.nsb (upd_at nz g1)).put_sb N hlab e1 (Nat.le_trans (length_putK _ _ _) (by omega)) (by rw [valV_put, if_pos rfl]) (by rw [e0]; exact ez) nz0 (fun z' => ?_) (fun z' => ?_) (fun z' => ?_) (fun z' => ?_) (fun l' hl' => ?_) inj2 (by rw [e0]; rfl)
          · rw [z', I.nrk] at nz; cases nz
          · rw [z', I.frk] at nz; cases nz
          · rw [z', I.upk] at nz; cases nz
          · rw [z', I.wyk] at nz; cases nz
          · rw [valV_put, if_neg (fun y => hl' (Sum.inr.inj y))]
            refine (g3 l').imp id fun ⟨b', y1, y2, y3⟩ => ⟨b', y1, k1 _ _ (ne_dl g1 y2).symm (upd_at nz y2), y3⟩
      refine ⟨_, rfl, rp_Keeping_6_uppers T I2.obj ⟨tyL I2.upk, _, rfl, up, _, _, rfl, rfl, I2.upk, ?_, ?_⟩⟩
      · rw [List.length_map, List.length_range]; exact Nat.lt_of_lt_of_le hn (Nat.le_trans hq (by decide))
      have I3 := I2.put_up N (xs := (List.range n).map (fun s => onv (q.up s)) ++ [onv (q.up n)]) (by rw [List.range_succ, List.map_append]; rfl)
      generalize upd H11 up _ = H12 at I3 ⊢
      refine ⟨_, rfl, rp_Keeping_6_ways T I3.obj ⟨tyL I3.wyk, _, rfl, wy, _, _, rfl, rfl, I3.wyk, ?_, ?_⟩⟩
      · rw [List.length_map, List.length_range]; exact Nat.lt_of_lt_of_le hn (Nat.le_trans hq (by decide))
      have I4 := I3.put_wy N (xs := (List.range n).map (fun s => V.str (wstr (q.way s))) ++ [V.str (if r.1 = true then "/" else "//")]) (by rw [List.range_succ, List.map_append]; show _ = _ ++ [V.str (wstr (q.way n))]; rw [hw])
      generalize upd H12 wy _ = H13 at I4 ⊢
      have nb : ∀ u, nearN q (n + 1) u = if (decide (q.up n = some u) && q.way n) = true then nearN q n u ||| 2 ^ n else nearN q n u := fun u => rfl
      have fb : ∀ u, farN q (n + 1) u = if (decide (q.up n = some u) && !q.way n) = true then farN q n u ||| 2 ^ n else farN q n u := fun u => rfl
      cases hu : q.up n with
      | none =>
        have I5 := (I4.skip_n (fun u => by rw [nb, hu]; rfl)).skip_f (fun u => by rw [fb, hu]; rfl)
        exact ⟨_, rfl, rfl, false, rfl, _, rfl, rfl, false, rfl, some (.int (n : Nat)), _, _, rfl, I5⟩
      | some u =>
        have hun : u < n := (Qs.up_lt hu).1
        have huk : u < q.k := by omega
        refine ⟨_, rfl, rfl, true, rfl, _, rfl, rfl, ?_⟩
        cases hb : r.1 with
        | true =>
          refine ⟨true, rfl, ?_⟩
          have I5 := I4.skip_f (fun u' => by rw [fb, hw, hb]; simp)
          refine ⟨_, rfl, rp_Keeping_6_near T I5.obj ⟨_, rfl, nr, _, u, _, rfl, rfl, SqL.of I5.nrk, by omega, nrng_at huk, _, rfl, 1, _, rfl, rfl, ⟨by omega, by omega, by decide⟩, _, _, rfl, rfl, nr, _, (u : Int), u, rfl, rfl, I5.nrk, ixN_nat (by rw [len_nv, List.length_map, List.length_range]; exact huk), some (.int (n : Nat)), _, _, rfl, I5.put_nr N ?_⟩⟩
          show (nv _).set u (V.int (Builtin.bitOr _ (1 * 2 ^ ((n : Int)).toNat))) = _
          rw [shl1, bor, nv_set rfl]
          refine congrArg nv (set_map huk ?_ fun x hx => ?_)
          · rw [nb, hu, hw, hb]; simp
          · rw [nb, hu]; simp [Ne.symm hx]
        | false =>
          refine ⟨false, by decide +kernel, _, rfl, rfl, true, rfl, ?_⟩
          have I5 := I4.skip_n (fun u' => by rw [nb, hw, hb]; simp)
          refine ⟨_, rfl, rp_Keeping_6_far T I5.obj ⟨_, rfl, fr, _, u, _, rfl, rfl, SqL.of I5.frk, by omega, nrng_at huk, _, rfl, 1, _, rfl, rfl, ⟨by omega, by omega, by decide⟩, _, _, rfl, rfl, fr, _, (u : Int), u, rfl, rfl, I5.frk, ixN_nat (by rw [len_nv, List.length_map, List.length_range]; exact huk), some (.int (n : Nat)), _, _, rfl, I5.put_fr N ?_⟩⟩
          show (nv _).set u (V.int (Builtin.bitOr _ (1 * 2 ^ ((n : Int)).toNat))) = _
          rw [shl1, bor, nv_set rfl]
          refine congrArg nv (set_map huk ?_ fun x hx => ?_)
          · rw [fb, hu, hw, hb]; simp
          · rw [fb, hu]; simp [Ne.symm hx]
    rintro σ H9 ⟨x2, x3, x4, rfl, I⟩
    obtain ⟨kvs, g1, g2, g3, g4⟩ := I.sbk
    refine fun dn ndn => ⟨_, rfl, in_Keeping_down T (upd_at ndn I.obj) ?_⟩
    have ta : Same H0 (upd (upd H9 dn (.dK [])) a (.ins (aKeeping K) dx (fs_Keeping_7 (.ref sb) (.ref nr) (.ref fr) (.ref up) (.ref wy) (.int q.goal) (.ref dn)))) := (I.s.new ndn).put n0
    have ka : ∀ b o, b ≠ a → H9 b = some o → (upd (upd H9 dn (.dK [])) a (.ins (aKeeping K) dx (fs_Keeping_7 (.ref sb) (.ref nr) (.ref fr) (.ref up) (.ref wy) (.int q.goal) (.ref dn)))) b = some o := fun b o hb e => by rw [upd_ne hb]; exact upd_at ndn e
    have oa : (upd (upd H9 dn (.dK [])) a (.ins (aKeeping K) dx (fs_Keeping_7 (.ref sb) (.ref nr) (.ref fr) (.ref up) (.ref wy) (.int q.goal) (.ref dn)))) a = _ := upd_same
    have nad : a ≠ dn := ne_of_none I.obj ndn
    have da : (upd (upd H9 dn (.dK [])) a (.ins (aKeeping K) dx (fs_Keeping_7 (.ref sb) (.ref nr) (.ref fr) (.ref up) (.ref wy) (.int q.goal) (.ref dn)))) dn = some (.dK []) := by rw [upd_ne nad.symm]; exact upd_same
    have dn0 := I.s.free ndn
    generalize (upd (upd H9 dn (.dK [])) a (.ins (aKeeping K) dx (fs_Keeping_7 (.ref sb) (.ref nr) (.ref fr) (.ref up) (.ref wy) (.int q.goal) (.ref dn)))) = Ha at ta ka oa da ⊢
    refine fun bn nbn => ⟨_, rfl, in_Keeping_beneath T (upd_at nbn oa) ?_⟩
    have tb : Same H0 (upd (upd Ha bn (.dK [])) a (.ins (aKeeping K) dx (fs_Keeping_8 (.ref sb) (.ref nr) (.ref fr) (.ref up) (.ref wy) (.int q.goal) (.ref dn) (.ref bn)))) := (ta.new nbn).put n0
    have kb : ∀ b o, b ≠ a → Ha b = some o → (upd (upd Ha bn (.dK [])) a (.ins (aKeeping K) dx (fs_Keeping_8 (.ref sb) (.ref nr) (.ref fr) (.ref up) (.ref wy) (.int q.goal) (.ref dn) (.ref bn)))) b = some o := fun b o hb e => by rw [upd_ne hb]; exact upd_at nbn e
    have ob : (upd (upd Ha bn (.dK [])) a (.ins (aKeeping K) dx (fs_Keeping_8 (.ref sb) (.ref nr) (.ref fr) (.ref up) (.ref wy) (.int q.goal) (.ref dn) (.ref bn)))) a = _ := upd_same
    have nab : a ≠ bn := ne_of_none oa nbn
    have db : (upd (upd Ha bn (.dK [])) a (.ins (aKeeping K) dx (fs_Keeping_8 (.ref sb) (.ref nr) (.ref fr) (.ref up) (.ref wy) (.int q.goal) (.ref dn) (.ref bn)))) bn = some (.dK []) := by rw [upd_ne nab.symm]; exact upd_same
    have bn0 := ta.free nbn
    have ndb : dn ≠ bn := ne_of_none da nbn
    generalize (upd (upd Ha bn (.dK [])) a (.ins (aKeeping K) dx (fs_Keeping_8 (.ref sb) (.ref nr) (.ref fr) (.ref up) (.ref wy) (.int q.goal) (.ref dn) (.ref bn)))) = Hb at tb kb ob db ⊢
    refine fun ps nps => ⟨_, rfl, in_Keeping_passed T (upd_at nps ob) ?_⟩
    have tc : Same H0 (upd (upd Hb ps (.dK [])) a (.ins (aKeeping K) dx (fs_Keeping_9 (.ref sb) (.ref nr) (.ref fr) (.ref up) (.ref wy) (.int q.goal) (.ref dn) (.ref bn) (.ref ps)))) := (tb.new nps).put n0
    have kc : ∀ b o, b ≠ a → Hb b = some o → (upd (upd Hb ps (.dK [])) a (.ins (aKeeping K) dx (fs_Keeping_9 (.ref sb) (.ref nr) (.ref fr) (.ref up) (.ref wy) (.int q.goal) (.ref dn) (.ref bn) (.ref ps)))) b = some o := fun b o hb e => by rw [upd_ne hb]; exact upd_at nps e
    have oc : (upd (upd Hb ps (.dK [])) a (.ins (aKeeping K) dx (fs_Keeping_9 (.ref sb) (.ref nr) (.ref fr) (.ref up) (.ref wy) (.int q.goal) (.ref dn) (.ref bn) (.ref ps)))) a = _ := upd_same
    have nap : a ≠ ps := ne_of_none ob nps
    have dc : (upd (upd Hb ps (.dK [])) a (.ins (aKeeping K) dx (fs_Keeping_9 (.ref sb) (.ref nr) (.ref fr) (.ref up) (.ref wy) (.int q.goal) (.ref dn) (.ref bn) (.ref ps)))) ps = some (.dK []) := by rw [upd_ne nap.symm]; exact upd_same
    have ps0 := tb.free nps
    have ndp : dn ≠ ps := ne_of_none (kb _ _ nad.symm da) nps
    have nbp : bn ≠ ps := ne_of_none db nps
    generalize (upd (upd Hb ps (.dK [])) a (.ins (aKeeping K) dx (fs_Keeping_9 (.ref sb) (.ref nr) (.ref fr) (.ref up) (.ref wy) (.int q.goal) (.ref dn) (.ref bn) (.ref ps)))) = Hc at tc kc oc dc ⊢
    refine fun sn nsn => ⟨_, rfl, in_Keeping_seen T (upd_at nsn oc) ?_⟩
    have td : Same H0 (upd (upd Hc sn (.dK [])) a (.ins (aKeeping K) dx (fs_Keeping (.ref sb) (.ref nr) (.ref fr) (.ref up) (.ref wy) (.int q.goal) (.ref dn) (.ref bn) (.ref ps) (.ref sn)))) := (tc.new nsn).put n0
    have kd : ∀ b o, b ≠ a → Hc b = some o → (upd (upd Hc sn (.dK [])) a (.ins (aKeeping K) dx (fs_Keeping (.ref sb) (.ref nr) (.ref fr) (.ref up) (.ref wy) (.int q.goal) (.ref dn) (.ref bn) (.ref ps) (.ref sn)))) b = some o := fun b o hb e => by rw [upd_ne hb]; exact upd_at nsn e
    have od : (upd (upd Hc sn (.dK [])) a (.ins (aKeeping K) dx (fs_Keeping (.ref sb) (.ref nr) (.ref fr) (.ref up) (.ref wy) (.int q.goal) (.ref dn) (.ref bn) (.ref ps) (.ref sn)))) a = _ := upd_same
    have nas : a ≠ sn := ne_of_none oc nsn
    have dd : (upd (upd Hc sn (.dK [])) a (.ins (aKeeping K) dx (fs_Keeping (.ref sb) (.ref nr) (.ref fr) (.ref up) (.ref wy) (.int q.goal) (.ref dn) (.ref bn) (.ref ps) (.ref sn)))) sn = some (.dK []) := by rw [upd_ne nas.symm]; exact upd_same
    have sn0 := tc.free nsn
    have nds : dn ≠ sn := ne_of_none (kc _ _ nad.symm (kb _ _ nad.symm da)) nsn
    have nbs : bn ≠ sn := ne_of_none (kc _ _ nab.symm db) nsn
    have nps2 : ps ≠ sn := ne_of_none dc nsn
    generalize (upd (upd Hc sn (.dK [])) a (.ins (aKeeping K) dx (fs_Keeping (.ref sb) (.ref nr) (.ref fr) (.ref up) (.ref wy) (.int q.goal) (.ref dn) (.ref bn) (.ref ps) (.ref sn)))) = Hd at td kd od dd ⊢
    have kall : ∀ b o, b ≠ a → H9 b = some o → Hd b = some o ∧ b ≠ dn ∧ b ≠ bn ∧ b ≠ ps ∧ b ≠ sn := fun b o hb e =>
      ⟨kd _ _ hb (kc _ _ hb (kb _ _ hb (ka _ _ hb e))), ne_of_none e ndn, ne_of_none (ka _ _ hb e) nbn, ne_of_none (kb _ _ hb (ka _ _ hb e)) nps, ne_of_none (kc _ _ hb (kb _ _ hb (ka _ _ hb e))) nsn⟩
    let S : Hp := fun b => if (H0 b).isNone = true ∧ b ≠ a ∧ b ≠ dn ∧ b ≠ bn ∧ b ≠ ps ∧ b ≠ sn then Hd b else none
    have hS : ∀ b o, H0 b = none → b ≠ a → H9 b = some o → S b = some o := fun b o h0 hb e => by
      obtain ⟨x1, x2, x3, x4, x5⟩ := kall b o hb e
      show (if _ then _ else _) = _
      rw [if_pos ⟨by rw [h0]; rfl, hb, x2, x3, x4, x5⟩]; exact x1
    have g3' : ∀ l, (valV kvs (.inr l) = none ∧ byN q q.k l = []) ∨ ∃ b, valV kvs (.inr l) = some (.ref b) ∧ S b = some (.lst (nv (byN q q.k l))) := fun l => (g3 l).imp id fun ⟨b, y1, y2, y3, _⟩ => ⟨b, y1, hS _ _ y3 (ne_il I.obj y2).symm y2⟩
    exact k Hd ⟨a, dx, sb, nr, fr, up, wy, dn, bn, ps, sn⟩ S td rfl nad nab nap nas ndb ndp nds nbp nbs nps2 ⟨dn0, bn0, ps0, sn0⟩ ⟨kd _ _ nad.symm (kc _ _ nad.symm (kb _ _ nad.symm da)), kd _ _ nab.symm (kc _ _ nab.symm db), kd _ _ nap.symm dc, dd⟩ od
      (fun b o e => by
        have e : (if (H0 b).isNone = true ∧ b ≠ a ∧ b ≠ dn ∧ b ≠ bn ∧ b ≠ ps ∧ b ≠ sn then Hd b else none) = some o := e
        split at e
        · exact e
        · cases e)
      (fun b o e => by
        have e : (if (H0 b).isNone = true ∧ b ≠ a ∧ b ≠ dn ∧ b ≠ bn ∧ b ≠ ps ∧ b ≠ sn then Hd b else none) = some o := e
        split at e
        · rename_i hh
          exact ⟨Option.isNone_iff_eq_none.mp hh.1, hh.2⟩
        · cases e)
      ⟨⟨kvs, hS _ _ sbn (ne_id I.obj g1).symm g1, g3'⟩, hS _ _ nrn (ne_il I.obj I.nrk).symm I.nrk, hS _ _ frn (ne_il I.obj I.frk).symm I.frk, hS _ _ upn (ne_il I.obj I.upk).symm I.upk, hS _ _ wyn (ne_il I.obj I.wyk).symm I.wyk⟩
end
end Bg

set_option Elab.async false
set_option linter.all false
set_option maxRecDepth 100000
set_option maxHeartbeats 4000000
namespace Bg
open PySem PySem.Spec PyProof.Rows L2
/-! ### gardens -/
structure WF (f : GF Str) (coming : Int) : Prop where
  nd : (marks f).Nodup
  root : ∃ l k, f = .cons ((0 : Int), l) k .nil
  rng : ∀ m ∈ marks f, 0 ≤ m ∧ m < coming
  lab : ∀ a ∈ f.pre, IsLab a.2
  deep : ∀ d ∈ f.dep 1, d ≤ 80
  small : f.size ≤ 240
structure GAd where
  g : Addr
  dx : Addr
  L : PAd
  kl : Addr
  ka : List KA
structure GBase (K : PySem.W.Frag) (H : Hp) (ow : Ow) (i : Nat) (G : GAd) (f : GF Str) (coming : Int) : Prop where
  own : Own H ow
  wf : WF f coming
  obj : H G.g = some (.ins (aGarden K) G.dx (fs_Garden (.ref G.L.pd) (.ref G.kl) (.int coming)))
  og : ow G.g = .gar i
  pl : PlantsAt K H ow i G.L f
  kl : H G.kl = some (.lst (G.ka.map fun a => V.ref a.kp))
  okl : ow G.kl = .kl i
def KOk (K : PySem.W.Frag) (H : Hp) (ow : Ow) (i j : Nat) (f : GF Str) (a : KA) (k : Qs Str × Bool) : Prop :=
  ∃ (T : Tb) (R : Int → Addr) (sS : Int → Prop), KeepAt K H ow i j a k.1 T R (· ∈ marks f) (· ∈ marks f) (· ∈ marks f) sS ∧ (∀ x ∈ nodes none f, LU k.1 T x) ∧ (∀ x ∈ nodes none f, LD k.1 T x) ∧ (k.2 = true → ∀ m, ¬ sS m)
structure GardenAt (K : PySem.W.Frag) (H : Hp) (ow : Ow) (i : Nat) (G : GAd) (f : GF Str) (coming : Int) (ks : List (Qs Str × Bool)) : Prop where
  b : GBase K H ow i G f coming
  len : G.ka.length = ks.length
  kps : ∀ (j : Nat) (a : KA) (k : Qs Str × Bool), G.ka[j]? = some a → ks[j]? = some k → KOk K H ow i j f a k
def gr (i : Nat) (r : Ro) : Prop := r = .tmp ∨ r.gi = some i
section
variable {K : PySem.W.Frag} {C : Ro → Prop} {H H' : Hp} {ow ow' : Ow} {i j : Nat} {G : GAd} {f : GF Str} {coming : Int} {ks : List (Qs Str × Bool)} {a : KA} {k : Qs Str × Bool}
theorem GBase.same (h : GBase K H ow i G f coming) (s : Same H H') : GBase K H' ow i G f coming :=
  ⟨fun b z => alive_of_same s b (h.own b z), h.wf, s _ _ h.obj, h.og, h.pl.same s, s _ _ h.kl, h.okl⟩
theorem GBase.step (h : GBase K H ow i G f coming) (s : Step C H ow H' ow') (c : ∀ r, C r → r.gi ≠ some i) : GBase K H' ow' i G f coming where
  own := s.own
  wf := h.wf
  obj := s.fr _ _ (by rw [h.og]; exact fun z => c _ z rfl) h.obj
  og := by rw [s.keep _ (some_ne h.obj)]; exact h.og
  pl := h.pl.step s (fun z => c _ z rfl) (fun m z => c _ z rfl) (fun m z => c _ z rfl)
  kl := s.fr _ _ (by rw [h.okl]; exact fun z => c _ z rfl) h.kl
  okl := by rw [s.keep _ (some_ne h.kl)]; exact h.okl
theorem KOk.same (h : KOk K H ow i j f a k) (s : Same H H') : KOk K H' ow i j f a k := by
  obtain ⟨T, R, sS, h1, h2⟩ := h
  exact ⟨T, R, sS, h1.same s, h2⟩
theorem KOk.step (h : KOk K H ow i j f a k) (s : Step C H ow H' ow') (c0 : ¬ C .out) (c1 : ¬ C (.kp i j)) (c2 : ¬ C (.dn i j)) (c3 : ¬ C (.bn i j)) (c4 : ¬ C (.ps i j)) (c5 : ¬ C (.sn i j)) : KOk K H' ow' i j f a k := by
  obtain ⟨T, R, sS, h1, h2⟩ := h
  exact ⟨T, R, sS, h1.step s c0 c1 c2 c3 c4 c5, h2⟩
theorem GardenAt.same (h : GardenAt K H ow i G f coming ks) (s : Same H H') : GardenAt K H' ow i G f coming ks := ⟨h.b.same s, h.len, fun j a k h1 h2 => (h.kps j a k h1 h2).same s⟩
theorem GardenAt.step (h : GardenAt K H ow i G f coming ks) (s : Step C H ow H' ow') (c0 : ¬ C .out) (c : ∀ r, C r → r.gi ≠ some i) : GardenAt K H' ow' i G f coming ks :=
  ⟨h.b.step s c, h.len, fun j a k h1 h2 => (h.kps j a k h1 h2).step s c0 (fun z => c _ z rfl) (fun z => c _ z rfl) (fun z => c _ z rfl) (fun z => c _ z rfl) (fun z => c _ z rfl)⟩
end
/-! subtrees -/
def subM : GF Str → Int → List Int
  | .nil, _ => []
  | .cons a k r, m => (if a.1 = m then a.1 :: marks k else []) ++ (subM k m ++ subM r m)
theorem subM_no : ∀ {f : GF Str} {m : Int}, m ∉ marks f → subM f m = []
  | .nil, _, _ => rfl
  | .cons a k r, m, h => by
    have h : m ∉ a.1 :: (k.pre ++ r.pre).map (·.1) := h
    rw [List.map_append, List.mem_cons, List.mem_append, not_or, not_or] at h
    show (if a.1 = m then _ else []) ++ (subM k m ++ subM r m) = []
    rw [if_neg (fun z => h.1 z.symm), subM_no h.2.1, subM_no h.2.2]; rfl
def subL (f : GF Str) (l : List Int) : List Int := l.flatMap (subM f)
theorem subL_congr {f g : GF Str} : ∀ {l : List Int}, (∀ c ∈ l, subM f c = subM g c) → subL f l = subL g l
  | [], _ => rfl
  | c :: l, h => by
    show subM f c ++ subL f l = subM g c ++ subL g l
    rw [h c (by simp), subL_congr fun d hd => h d (by simp [hd])]
theorem subL_app (f : GF Str) (a b : List Int) : subL f (a ++ b) = subL f a ++ subL f b := by unfold subL; rw [List.flatMap_append]
theorem tops_mem {k : GF Str} : ∀ c ∈ topm k, c ∈ marks k := fun c hc => by
  obtain ⟨z, hz, rfl⟩ := List.mem_map.mp hc
  exact List.mem_map.mpr ⟨z, Fo.tops_sub k z hz, rfl⟩
theorem subM_top : ∀ {f : GF Str}, (marks f).Nodup → subL f (topm f) = marks f
  | .nil, _ => rfl
  | .cons a k r, nd => by
    obtain ⟨h1, h2, h3, h4, h5⟩ := nodup_cons3 nd
    have un : ∀ c, subM (.cons a k r) c = (if a.1 = c then a.1 :: marks k else []) ++ (subM k c ++ subM r c) := fun _ => rfl
    show subM (.cons a k r) a.1 ++ subL (.cons a k r) (topm r) = _
    have e1 : subM (.cons a k r) a.1 = a.1 :: marks k := by rw [un, if_pos rfl, subM_no h1, subM_no h2, List.append_nil, List.append_nil]
    have e2 : subL (.cons a k r) (topm r) = subL r (topm r) := subL_congr fun c hc => by
      have hc2 := tops_mem c hc
      rw [un, if_neg (fun z => h2 (by rw [z]; exact hc2)), subM_no (fun z => h5 c z hc2)]; rfl
    rw [e1, e2, subM_top h4]
    show a.1 :: marks k ++ marks r = a.1 :: (k.pre ++ r.pre).map (·.1)
    rw [List.map_append]; rfl
theorem subM_node : ∀ {f : GF Str} {o : Option Int} {x : Nd Str}, (marks f).Nodup → x ∈ nodes o f → subM f x.m = x.m :: subL f x.ks
  | .nil, _, _, _, h => by cases h
  | .cons a k r, o, x, nd, h => by
    obtain ⟨h1, h2, h3, h4, h5⟩ := nodup_cons3 nd
    have un : ∀ c, subM (.cons a k r) c = (if a.1 = c then a.1 :: marks k else []) ++ (subM k c ++ subM r c) := fun _ => rfl
    have hk : ∀ c ∈ marks k, subM (.cons a k r) c = subM k c := fun c hc => by
      rw [un, if_neg (fun z => h1 (by rw [z]; exact hc)), subM_no (h5 c hc), List.append_nil]; rfl
    have hr : ∀ c ∈ marks r, subM (.cons a k r) c = subM r c := fun c hc => by
      rw [un, if_neg (fun z => h2 (by rw [z]; exact hc)), subM_no (fun z => h5 c z hc)]; rfl
    have h : x ∈ (⟨a.1, a.2, o, topm k⟩ : Nd Str) :: (nodes (some a.1) k ++ nodes o r) := h
    rcases List.mem_cons.mp h with rfl | h
    · show subM _ a.1 = a.1 :: subL _ (topm k)
      rw [un, if_pos rfl, subM_no h1, subM_no h2, subL_congr fun c hc => hk c (tops_mem c hc), subM_top h3, List.append_nil, List.append_nil]
    · rcases List.mem_append.mp h with h | h
      · rw [hk _ (node_mark h), subM_node h3 h, subL_congr fun c hc => hk c (by obtain ⟨y, hy, rfl, _⟩ := kid_node h hc; exact node_mark hy)]
      · rw [hr _ (node_mark h), subM_node h4 h, subL_congr fun c hc => hr c (by obtain ⟨y, hy, rfl, _⟩ := kid_node h hc; exact node_mark hy)]
theorem subM_root {l : Str} {k : GF Str} (nd : (marks (Fo.cons ((0 : Int), l) k .nil)).Nodup) : subM (.cons ((0 : Int), l) k .nil) 0 = marks (.cons ((0 : Int), l) k .nil) := by
  have := subM_top nd
  have e : subL (.cons ((0 : Int), l) k .nil) (topm (.cons ((0 : Int), l) k .nil)) = subM (.cons ((0 : Int), l) k .nil) 0 ++ [] := rfl
  rw [e, List.append_nil] at this
  exact this
theorem Way.over {N : List (Nd Str)} {m : Int} {w : List Int} (h : Way N m w) : ∀ {n : Nat} {c : Int}, w[n]? = some c → ∃ x ∈ N, x.m = c ∧ x.o = w[n + 1]? := by
  induction h with
  | root hx ho =>
    intro n c hc
    cases n with
    | zero => exact ⟨_, hx, by simpa using hc, by rw [ho]; rfl⟩
    | succ n => simp at hc
  | up hx ho hw ih =>
    intro n c hc
    cases n with
    | zero =>
      obtain ⟨w', rfl⟩ := hw.head
      exact ⟨_, hx, by simpa using hc, by rw [ho]; rfl⟩
    | succ n => exact ih (n := n) (by simpa using hc)
abbrev docRows (f : GF Str) : List DRow := (f.rows 1).map fun x => (x.1.2, x.2)
theorem docRows_ds (f : GF Str) : dsOf (docRows f) = f.dep 1 := by
  unfold dsOf docRows
  rw [List.map_map]
  exact Fo.rows_snd f 1
theorem docRows_len (f : GF Str) : (docRows f).length = f.size := by rw [List.length_map, Fo.rows_length]
theorem docRows_ok {f : GF Str} {c : Int} (w : WF f c) : RowsOk (docRows f) := by
  refine ⟨?_, fun r hr => ?_, fun r hr => ?_, by rw [docRows_len]; exact w.small⟩
  · rw [docRows_ds]
    obtain ⟨l, k, rfl⟩ := w.root
    exact Fo.valid _ k
  · obtain ⟨x, hx, rfl⟩ := List.mem_map.mp hr
    exact w.lab x.1 (by rw [← Fo.rows_fst f 1]; exact List.mem_map.mpr ⟨x, hx, rfl⟩)
  · obtain ⟨x, hx, rfl⟩ := List.mem_map.mp hr
    exact w.deep x.2 (by rw [← Fo.rows_snd f 1]; exact List.mem_map.mpr ⟨x, hx, rfl⟩)
def sp_Garden_need_part (K : PySem.W.Frag) : Sp := fun vs H Q _ => ∃ (ow : Ow) (i : Nat) (G : GAd) (f : GF Str) (coming m : Int), vs = [.ref G.g, .int m] ∧ GBase K H ow i G f coming ∧ m ∈ marks f ∧ Q .non H
def sp_Garden_beneath_too (K : PySem.W.Frag) : Sp := fun vs H Q _ => ∃ (ow : Ow) (i : Nat) (G : GAd) (f : GF Str) (coming m : Int), vs = [.ref G.g, .int m] ∧ GBase K H ow i G f coming ∧ m ∈ marks f ∧ ∀ H' l, Same H H' → H l = none → H' l = some (.lst (iv (subM f m))) → Q (.ref l) H'
def sp_Garden_marks (K : PySem.W.Frag) : Sp := fun vs H Q _ => ∃ (ow : Ow) (i : Nat) (G : GAd) (f : GF Str) (coming : Int), vs = [.ref G.g] ∧ GBase K H ow i G f coming ∧ ∀ H' l, Same H H' → H l = none → H' l = some (.lst (iv (marks f))) → Q (.ref l) H'
def sp_Garden_way_up (K : PySem.W.Frag) : Sp := fun vs H Q _ => ∃ (ow : Ow) (i : Nat) (G : GAd) (f : GF Str) (coming m : Int) (w : List Int), vs = [.ref G.g, .int m] ∧ GBase K H ow i G f coming ∧ Way (nodes none f) m w ∧ ∀ H' l, Same H H' → H l = none → H' l = some (.lst (iv w)) → Q (.ref l) H'
def sp_Garden_document (K : PySem.W.Frag) : Sp := fun vs H Q _ => ∃ (ow : Ow) (i : Nat) (G : GAd) (f : GF Str) (coming : Int), vs = [.ref G.g] ∧ GBase K H ow i G f coming ∧ ∀ H' d, Same H H' → H d = none → DocAt K (ext (fun _ => none) H H') d (docRows f) → Q (.ref d) H'
def sp_Garden_keeping_at (K : PySem.W.Frag) : Sp := fun vs H Q _ => ∃ (ow : Ow) (i : Nat) (G : GAd) (f : GF Str) (coming : Int) (j : Nat) (a : KA), vs = [.ref G.g, .int j] ∧ GBase K H ow i G f coming ∧ G.ka[j]? = some a ∧ Q (.ref a.kp) H
theorem garden_plants {K : PySem.W.Frag} {H : Hp} {ow : Ow} {i : Nat} {G : GAd} {f : GF Str} {coming : Int} (B : GBase K H ow i G f coming) {m : Int} (hm : m ∈ marks f) : ∃ x ∈ nodes none f, x.m = m := mark_node none hm
section
variable {P : Program} {w : World} {K : PySem.W.Frag} {mg : Str → Option Value} {base : Heap}
theorem sc_Garden_need_part : FnScope ["self", "mark"] ["self", "mark"] (defScope s_Garden_need_part) := ⟨rfl, rfl, rfl, by decide +kernel, rfl, by decide +kernel, by decide +kernel⟩
theorem ok_Garden_need_part (T : Tx K mg) (O_is_whole : Ok P w K mg base 1 at_is_whole ["thing"] (sp_is_whole K)) : Ok P w K mg base 2 at_Garden_need_part ["self", "mark"] (sp_Garden_need_part K) := by
  refine mkOk T.d_Garden_need_part sc_Garden_need_part (fun _ _ _ _ _ _ us hl => match us, hl with | [_, _], _ => rfl) (fun vs H Q E h => ?_) (fun cdv A outer s H vs Q E hr h => ?_)
  · obtain ⟨ow, i, G, f, coming, m, rfl, B, hm, k⟩ := h; rfl
  · obtain ⟨ow, i, G, f, coming, m, rfl, B, hm, k⟩ := h
    refine ⟨_, (pss_one (ps_if (PW.pt (pw_or (pt_not (pt_val (kfn (K := K) O_is_whole T.g_is_whole (hr.mono (by decide)) (pa_cons (pv 1) pa_nil)))) (pw_or1 (pt_cmp (pc_dnotin (hu_of hr) (pv 1) (kfld (K := K) (pv 0))) rfl))))
        (pss_one ps_never)
        pss_nil)), ?_⟩
    obtain ⟨o, hg, ho, _⟩ := B.pl.pd.opt m
    refine ⟨_, rfl, m, rfl, true, rfl, _, rfl, _, rfl, rd_Garden_plants T B.obj ⟨G.L.pd, o, rfl, hg, false, ?_, k⟩⟩
    rw [ho hm]; rfl
theorem sc_Garden_keeping_at : FnScope ["self", "number"] ["self", "number"] (defScope s_Garden_keeping_at) := ⟨rfl, rfl, rfl, by decide +kernel, rfl, by decide +kernel, by decide +kernel⟩
theorem ok_Garden_keeping_at (T : Tx K mg) (O_is_whole : Ok P w K mg base 1 at_is_whole ["thing"] (sp_is_whole K)) : Ok P w K mg base 2 at_Garden_keeping_at ["self", "number"] (sp_Garden_keeping_at K) := by
  refine mkOk T.d_Garden_keeping_at sc_Garden_keeping_at (fun _ _ _ _ _ _ us hl => match us, hl with | [_, _], _ => rfl) (fun vs H Q E h => ?_) (fun cdv A outer s H vs Q E hr h => ?_)
  · obtain ⟨ow, i, G, f, coming, j, a, rfl, B, ha, k⟩ := h; rfl
  · obtain ⟨ow, i, G, f, coming, j, a, rfl, B, ha, k⟩ := h
    refine ⟨_, (pss_cons (ps_if (PW.pt (pw_or (pt_not (pt_val (kfn (K := K) O_is_whole T.g_is_whole (hr.mono (by decide)) (pa_cons (pv 1) pa_nil)))) (pw_or1 (pt_not (pt_chain op_le op_lt pe_int (pv 1) (pe_callB (klen (K := K)) (by rfl) T.f_len PySem.boot_len (pa_cons (kfld (K := K) (pv 0)) pa_nil)))))))
        (pss_one ps_never)
        pss_nil)
      (pss_one (ps_ret (pe_ix (kixL (K := K)) (kfld (K := K) (pv 0)) (pv 1) (fun _ _ => rfl))))), ?_⟩
    have hj := (List.getElem?_eq_some_iff.mp ha).1
    refine ⟨_, rfl, (j : Int), rfl, true, rfl, _, rfl, 0, (j : Int), rfl, rfl, true, ?_, ?_⟩
    · exact bt (by omega)
    refine ⟨_, rfl, rd_Garden_kept T B.obj ⟨G.kl, _, rfl, .inl (SqL.of B.kl), (j : Int), _, rfl, rfl, true, ?_, ?_⟩⟩
    · exact bt (by rw [List.length_map]; omega)
    refine ⟨_, rfl, rd_Garden_kept T B.obj ⟨_, rfl, G.kl, _, _, _, rfl, rfl, SqL.of B.kl, atI_nat (by rw [List.getElem?_map, ha]; rfl), k⟩⟩
theorem sc_Garden_beneath_too : FnScope ["self", "mark", "found", "waiting", "here"] ["self", "mark"] (defScope s_Garden_beneath_too) := ⟨rfl, rfl, rfl, by decide +kernel, rfl, by decide +kernel, by decide +kernel⟩
theorem ok_Garden_beneath_too (T : Tx K mg)  : Ok P w K mg base 1 at_Garden_beneath_too ["self", "mark"] (sp_Garden_beneath_too K) := by
  refine mkOk T.d_Garden_beneath_too sc_Garden_beneath_too (fun _ _ _ _ _ _ us hl => match us, hl with | [_, _], _ => rfl) (fun vs H Q E h => ?_) (fun cdv A outer s H vs Q E hr h => ?_)
  · obtain ⟨ow, i, G, f, coming, m, rfl, B, hm, k⟩ := h; rfl
  · obtain ⟨ow, i, G, f, coming, m, rfl, B, hm, k⟩ := h
    refine ⟨_, (pss_cons (ps_set (i := 2) sc_Garden_beneath_too.nd rfl (by first | exact Or.inl rfl | exact Or.inr rfl) (pe_lst pa_nil))
      (pss_cons (ps_set (i := 3) sc_Garden_beneath_too.nd rfl (by first | exact Or.inl rfl | exact Or.inr rfl) (pe_lst (pa_cons (pv 1) pa_nil)))
      (pss_cons (ps_while PassesOwn.never (pt_cmpR (kneE (K := K) hr.units) (pv 3) (pe_lst pa_nil) (nomark _))
        (pss_cons (ps_set (i := 4) sc_Garden_beneath_too.nd rfl (by first | exact Or.inl rfl | exact Or.inr rfl) (kbm0 (K := K) PySem.F.plainAttrs_list PySem.F.slot_list_pop PySem.F.type_list_pop kpop (pv 3)))
        (pss_cons (ps_expr (kbm (K := K) PySem.F.plainAttrs_list PySem.F.slot_list_append PySem.F.type_list_append kappend (pv 2) (pa_cons (pv 4) pa_nil)))
        (pss_one (ps_expr (kbm (K := K) PySem.F.plainAttrs_list PySem.F.slot_list_extend PySem.F.type_list_extend kextend (pv 3) (pa_cons (klrev (K := K) T.f_list T.f_reversed (kfld (K := K) (pe_dget (hu_of hr) (kfld (K := K) (pv 0)) (pv 4) (fun _ _ => rfl)))) pa_nil)))))))
      (pss_one (ps_ret (pv 2)))))), ?_⟩
    have nd := B.wf.nd
    have small := B.wf.small
    refine ⟨by decide, fun fo nfo => ⟨_, rfl, by show 1 ≤ sizeLine; decide, fun wt nwt => ?_⟩⟩
    have s0 : Same H (upd (upd H fo (.lst [])) wt (.lst [.int m])) := (Same.up nfo).new nwt
    obtain ⟨x0, hx0, ex0⟩ := mark_node none hm
    have m0 := (szT_node nd hx0)
    have nefw := upd_free nwt
    refine ⟨fun mm σ H' => ∃ (x4 : Option V) (done ws : List Int), mm = sumZ f ws ∧ σ = [some (.ref G.g), some (.int m), some (.ref fo), some (.ref wt), x4] ∧ Same H H' ∧ H' fo = some (.lst (iv done)) ∧ H' wt = some (.lst (iv ws)) ∧ done ++ subL f ws.reverse = subM f m ∧ (∀ c ∈ ws, c ∈ marks f) ∧ done.length + sumZ f ws ≤ 240, ⟨_, none, [], [m], rfl, rfl, s0, ?_, upd_same, ?_, ?_, ?_⟩, ?_⟩
    · rw [upd_ne nefw.1.symm]; exact upd_same
    · show [] ++ (subM f m ++ []) = _; rw [List.append_nil]; rfl
    · intro c hc; rw [List.mem_singleton.mp hc]; exact hm
    · show 0 + (szT f m + 0) ≤ 240; rw [← ex0]; omega
    rintro mm σ H' ⟨x4, done, ws, rfl, rfl, s, e1, e2, eq, hws, hz⟩
    have B1 := B.same s
    refine ⟨_, rfl, by decide, fun p np => ⟨wt, p, _, rfl, rfl, ne_of_none e2 np, SqL.of (upd_at np e2), SqL.of upd_same, ?_⟩⟩
    rcases List.eq_nil_or_concat ws with rfl | ⟨ws', c, rfl⟩
    · refine ⟨false, rfl, _, rfl, k _ _ (s.new np) nfo ?_⟩
      rw [upd_at np e1, ← eq]
      show _ = some (HO.lst (iv (done ++ [])))
      rw [List.append_nil]
    · rw [List.concat_eq_append] at *
      have hne : (iv (ws' ++ [c])).isEmpty = false := by unfold iv; rw [List.map_append]; cases ws' <;> rfl
      obtain ⟨x, hx, rfl⟩ := mark_node none (hws c (by simp))
      obtain ⟨l1, l2⟩ := iv_last (l := ws') (c := x.m)
      have f1 := upd_at (o := .lst []) np e1
      have f2 := upd_at (o := .lst []) np e2
      have s2 : Same H (upd H' p (.lst [])) := s.new np
      generalize upd H' p (.lst []) = H2 at f1 f2 s2 ⊢
      have nfw : fo ≠ wt := nefw.1.symm
      have hzx := szT_node nd hx
      have hsum : sumZ f (ws' ++ [x.m]) = sumZ f ws' + szT f x.m := by rw [sumZ_app]; rfl
      refine ⟨true, by rw [hne]; rfl, _, fun _ _ h => h, ?_⟩
      refine ⟨_, rfl, tyL f2, wt, _, _, rfl, rfl, f2, l1, ?_⟩
      rw [l2]
      have s3 := s2.put (o := .lst (iv ws')) nefw.2
      have g1 : upd H2 wt (.lst (iv ws')) fo = some (.lst (iv done)) := by rw [upd_ne nfw]; exact f1
      have g2 : upd H2 wt (.lst (iv ws')) wt = some (.lst (iv ws')) := upd_same
      generalize upd H2 wt (.lst (iv ws')) = H3 at s3 g1 g2 ⊢
      refine ⟨_, rfl, tyL g1, _, rfl, fo, _, _, rfl, rfl, g1, ?_, ?_⟩
      · rw [len_iv]; exact Nat.lt_of_le_of_lt (show done.length ≤ 240 by omega) (by decide)
      have s4 := s3.put (o := .lst (iv done ++ [.int x.m])) nfo
      have h1 : upd H3 fo (.lst (iv done ++ [.int x.m])) fo = some (.lst (iv (done ++ [x.m]))) := by rw [upd_same]; unfold iv; rw [List.map_append]; rfl
      have h2 : upd H3 fo (.lst (iv done ++ [.int x.m])) wt = some (.lst (iv ws')) := by rw [upd_ne nfw.symm]; exact g2
      generalize upd H3 fo (.lst (iv done ++ [.int x.m])) = H4 at s4 h1 h2 ⊢
      have B4 := B.same s4
      refine ⟨_, rfl, tyL h2, _, rfl, rd_Garden_plants T B4.obj ⟨_, rfl, G.L.pd, _, rfl, B4.pl.pd.get (node_mark hx), rd_Plant_under T (B4.pl.pl x hx) ⟨_, _, rfl, SqL.of (B4.pl.un x hx), fun r nr => ?_⟩⟩⟩
      have hks2 : ∀ c ∈ ws' ++ x.ks.reverse, c ∈ marks f := fun c h => (List.mem_append.mp h).elim (fun h => hws c (by simp [h])) fun h => ks_marks hx c (List.mem_reverse.mp h)
      have hrev : sumZ f x.ks.reverse = sumZ f x.ks := by unfold sumZ; rw [List.map_reverse, List.sum_reverse]
      have sl := sumZ_len nd hks2
      rw [sumZ_app, hrev] at sl
      refine ⟨wt, r, _, _, rfl, rfl, upd_at nr h2, upd_same, ?_, _, ?_, some (.int x.m), done ++ [x.m], ws' ++ x.ks.reverse, rfl, rfl, (s4.new nr).put nefw.2, ?_, ?_, ?_, hks2, ?_⟩
      · rw [len_iv, List.length_reverse, len_iv]
        rw [List.length_append, List.length_reverse] at sl
        exact Nat.le_trans (show ws'.length + x.ks.length ≤ 240 by omega) line240
      · rw [hsum, sumZ_app, hrev]; omega
      · rw [upd_ne nfw]; exact upd_at nr h1
      · rw [upd_same]; unfold iv; rw [List.map_append, List.map_reverse]
      · rw [← eq, List.reverse_append, List.reverse_append, List.reverse_reverse, subL_app, subL_app]
        show done ++ [x.m] ++ _ = done ++ ((subM f x.m ++ []) ++ _)
        rw [subM_node nd hx, List.append_nil]
        simp
      · rw [List.length_append, sumZ_app, hrev]; show done.length + 1 + _ ≤ 240; omega
theorem sc_Garden_marks : FnScope ["self"] ["self"] (defScope s_Garden_marks) := ⟨rfl, rfl, rfl, by decide +kernel, rfl, by decide +kernel, by decide +kernel⟩
theorem ok_Garden_marks (T : Tx K mg) (O_Garden_beneath_too : Ok P w K mg base 1 at_Garden_beneath_too ["self", "mark"] (sp_Garden_beneath_too K)) : Ok P w K mg base 2 at_Garden_marks ["self"] (sp_Garden_marks K) := by
  refine mkOk T.d_Garden_marks sc_Garden_marks (fun _ _ _ _ _ _ us hl => match us, hl with | [_], _ => rfl) (fun vs H Q E h => ?_) (fun cdv A outer s H vs Q E hr h => ?_)
  · obtain ⟨ow, i, G, f, coming, rfl, B, k⟩ := h; rfl
  · obtain ⟨ow, i, G, f, coming, rfl, B, k⟩ := h
    refine ⟨_, (pss_one (ps_ret (kme (K := K) (pv 0) O_Garden_beneath_too T.c_Garden T.m_Garden_beneath_too (hr.mono (by decide)) (pa_cons pe_int pa_nil)))), ?_⟩
    obtain ⟨l, kf, rfl⟩ := B.wf.root
    refine ⟨_, rfl, mt_Garden_beneath_too B.obj ⟨ow, i, G, _, coming, 0, rfl, B, List.mem_cons_self, fun H' r s n e => k H' r s n ?_⟩⟩
    rw [subM_root B.wf.nd] at e
    exact e
theorem sc_Garden_way_up : FnScope ["self", "mark", "found"] ["self", "mark"] (defScope s_Garden_way_up) := ⟨rfl, rfl, rfl, by decide +kernel, rfl, by decide +kernel, by decide +kernel⟩
theorem ok_Garden_way_up (T : Tx K mg)  : Ok P w K mg base 1 at_Garden_way_up ["self", "mark"] (sp_Garden_way_up K) := by
  refine mkOk T.d_Garden_way_up sc_Garden_way_up (fun _ _ _ _ _ _ us hl => match us, hl with | [_, _], _ => rfl) (fun vs H Q E h => ?_) (fun cdv A outer s H vs Q E hr h => ?_)
  · obtain ⟨ow, i, G, f, coming, m, w0, rfl, B, W, k⟩ := h; rfl
  · obtain ⟨ow, i, G, f, coming, m, w0, rfl, B, W, k⟩ := h
    refine ⟨_, (pss_cons (ps_set (i := 2) sc_Garden_way_up.nd rfl (by first | exact Or.inl rfl | exact Or.inr rfl) (pe_lst pa_nil))
      (pss_cons (ps_while PassesOwn.never (pt_cmpR op_notN (pv 1) pe_non (nomark _))
        (pss_cons (ps_expr (kbm (K := K) PySem.F.plainAttrs_list PySem.F.slot_list_append PySem.F.type_list_append kappend (pv 2) (pa_cons (pv 1) pa_nil)))
        (pss_one (ps_set (i := 1) sc_Garden_way_up.nd rfl (by first | exact Or.inl rfl | exact Or.inr rfl) (kfld (K := K) (pe_dget (hu_of hr) (kfld (K := K) (pv 0)) (pv 1) (fun _ _ => rfl)))))))
      (pss_one (ps_ret (pv 2))))), ?_⟩
    have nd := B.wf.nd
    have inj : ∀ x ∈ nodes none f, ∀ y ∈ nodes none f, x.m = y.m → x = y := fun x hx y hy e => node_eq nd hx hy e
    have wnd := W.nodup inj
    have hsz : (marks f).length ≤ 240 := by rw [List.length_map, Fo.pre_length]; exact B.wf.small
    have wlen : w0.length ≤ 240 := Nat.le_trans (List.Nodup.length_le_of_subset wnd fun c hc => by obtain ⟨x, hx, rfl⟩ := W.mem c hc; exact node_mark hx) hsz
    refine ⟨by decide, fun fo nfo => ?_⟩
    refine ⟨fun mm σ H' => ∃ n, mm = w0.length - n ∧ n ≤ w0.length ∧ σ = [some (.ref G.g), some (oiv w0[n]?), some (.ref fo)] ∧ Same H H' ∧ H' fo = some (.lst (iv (w0.take n))), ⟨_, 0, rfl, Nat.zero_le _, ?_, Same.up nfo, upd_same⟩, ?_⟩
    · obtain ⟨w', rfl⟩ := W.head
      rfl
    rintro mm σ H' ⟨n, rfl, hn, rfl, s, e⟩
    have B1 := B.same s
    by_cases hlt : n < w0.length
    · have hc : w0[n]? = some w0[n] := List.getElem?_eq_getElem hlt
      obtain ⟨x, hx, ex, eo⟩ := W.over hc
      rw [hc, ← ex]
      refine ⟨_, rfl, rfl, true, rfl, _, fun _ _ h => h, ?_⟩
      refine ⟨_, rfl, tyL e, _, rfl, fo, _, _, rfl, rfl, e, ?_, ?_⟩
      · rw [len_iv, List.length_take]; exact Nat.lt_of_le_of_lt (Nat.le_trans (Nat.min_le_left _ _) (Nat.le_trans hn wlen)) (by decide)
      have s2 := s.put (o := .lst (iv (w0.take n) ++ [.int x.m])) nfo
      have B2 := B.same s2
      refine ⟨_, rfl, rd_Garden_plants T B2.obj ⟨_, rfl, G.L.pd, _, rfl, B2.pl.pd.get (node_mark hx), rd_Plant_over T (B2.pl.pl x hx) ⟨_, (show w0.length - (n + 1) < w0.length - n by omega), n + 1, rfl, hlt, ?_, s2, ?_⟩⟩⟩
      · rw [eo]; rfl
      · rw [upd_same, List.take_add_one, hc, ex]; unfold iv; rw [List.map_append]; rfl
    · have hc : w0[n]? = none := List.getElem?_eq_none (by omega)
      rw [hc]
      refine ⟨_, rfl, rfl, false, rfl, _, rfl, k _ _ s nfo ?_⟩
      rw [e, List.take_of_length_le (by omega)]
theorem sc_Garden_document : FnScope ["self", "mark"] ["self"] (defScope s_Garden_document) := ⟨rfl, rfl, rfl, by decide +kernel, rfl, by decide +kernel, by decide +kernel⟩
theorem ok_Garden_document (T : Tx K mg) (O_Document_init : Ok P w K mg base 4 at_Document_init ["self", "rows"] (sp_Document_init K)) (O_Garden_marks : Ok P w K mg base 2 at_Garden_marks ["self"] (sp_Garden_marks K)) (O_Garden_way_up : Ok P w K mg base 1 at_Garden_way_up ["self", "mark"] (sp_Garden_way_up K)) : Ok P w K mg base 6 at_Garden_document ["self"] (sp_Garden_document K) := by
  refine mkOk T.d_Garden_document sc_Garden_document (fun _ _ _ _ _ _ us hl => match us, hl with | [_], _ => rfl) (fun vs H Q E h => ?_) (fun cdv A outer s H vs Q E hr h => ?_)
  · obtain ⟨ow, i, G, f, coming, rfl, B, k⟩ := h; rfl
  · obtain ⟨ow, i, G, f, coming, rfl, B, k⟩ := h
    refine ⟨_, (pss_one (ps_ret (kmk (K := K) O_Document_init T.k_Document T.g_Document (hr.mono (by decide)) (pa_cons (pe_lc (own := [("mark", 1)]) (g := gName 1) (tt := tYes) rfl sc_Garden_document.nd (kpiL (K := K) (kme0 (K := K) (pv 0) O_Garden_marks T.c_Garden T.m_Garden_marks (hr.mono (by decide)))) (blkOk_by (by kernel_rfl)) (fun _ _ _ _ _ => (pg_name (i := 1) sc_Garden_document.nd rfl (by first | exact Or.inl rfl | exact Or.inr rfl))) (fun _ _ _ _ _ => pts_nil) (fun _ _ _ _ _ => (pe_tup (pa_cons (kfld (K := K) (pe_dget (hu_of hr) (kfld (K := K) (pv 0)) (pv 1) (fun _ _ => rfl))) (pa_cons (pe_callB (klen (K := K)) (by rfl) T.f_len PySem.boot_len (pa_cons (kme (K := K) (pv 0) O_Garden_way_up T.c_Garden T.m_Garden_way_up (hr.mono (by decide)) (pa_cons (pv 1) pa_nil)) pa_nil)) pa_nil))))) pa_nil)))), ?_⟩
    refine ⟨_, rfl, mt_Garden_marks B.obj ⟨ow, i, G, f, coming, rfl, B, fun H1 l s1 nl el => ?_⟩⟩
    have B1 := B.same s1
    have hsz : (marks f).length ≤ 240 := by rw [List.length_map, Fo.pre_length]; exact B.wf.small
    have lr : (docRows f).length = (iv (marks f)).length := by rw [docRows_len, len_iv, List.length_map, Fo.pre_length]
    refine ⟨l, rfl, ⟨_, SqL.of el⟩, fun D nD => ?_⟩
    refine lc_each (walk_list (xs := iv (marks f))) (docRows f) (fun H' t r => H t = none ∧ H' t = some (.tup [.str r.1, .int r.2])) nD (fun _ _ _ _ s h => ⟨h.1, s _ _ h.2⟩) (fun H t r acc acc' e h => ⟨h.1, by rw [upd_ne (fun z => by rw [z, e] at h; cases h.2)]; exact h.2⟩) lr (by rw [len_iv]; exact Nat.le_trans hsz line240) (fun H s => SqL.of (s _ _ el)) ?_ ?_
    · rintro n r v H2 H3 N hr _ s2 ⟨rfl, ev⟩ ky
      have hn : n < (nodes none f).length := by
        have := (List.getElem?_eq_some_iff.mp hr).1
        rw [docRows_len] at this; rw [nodes_length]; exact this
      have hx : (nodes none f)[n]? = some (nodes none f)[n] := List.getElem?_eq_getElem hn
      have hxm := List.mem_of_getElem? hx
      generalize (nodes none f)[n] = x at hx hxm
      have em : (marks f)[n]? = some x.m := by rw [← nodes_m f none, List.getElem?_map, hx]; rfl
      have evv : v = .int x.m := by
        have : (iv (marks f))[n]? = some (.int x.m) := by rw [List.getElem?_map, em]; rfl
        rw [this] at ev; exact (Option.some.inj ev).symm
      subst evv
      have hrow : ∃ y, (f.rows 1)[n]? = some y ∧ r = (y.1.2, y.2) := by
        rw [List.getElem?_map] at hr
        cases h : (f.rows 1)[n]? with
        | none => rw [h] at hr; cases hr
        | some y => rw [h] at hr; exact ⟨y, rfl, (Option.some.inj hr).symm⟩
      obtain ⟨y, hy, rfl⟩ := hrow
      have hl : y.1.2 = x.l := by
        have h1 : (f.pre.map (·.2))[n]? = some x.l := by rw [← nodes_l f none, List.getElem?_map, hx]; rfl
        rw [← Fo.rows_fst f 1, List.map_map, List.getElem?_map, hy] at h1
        exact Option.some.inj h1
      have hd : (f.dep 1)[n]? = some y.2 := by rw [← Fo.rows_snd f 1, List.getElem?_map, hy]; rfl
      obtain ⟨w0, W, wl⟩ := way_ex (N := nodes none f) f none 1 (fun _ z => by cases z) (fun _ => rfl) (fun _ h => h) n x y.2 hx hd
      have B2 := B1.same s2
      refine ⟨rfl, _, rfl, rd_Garden_plants T B2.obj ⟨_, rfl, G.L.pd, _, rfl, B2.pl.pd.get (node_mark hxm), rd_Plant_label T (B2.pl.pl x hxm) ⟨_, rfl, mt_Garden_way_up B2.obj ⟨_, rfl, ow, i, G, f, coming, x.m, w0, rfl, B2, W, fun H4 wl' s4 n4 e4 => ⟨wl', _, rfl, .inl (SqL.of e4), by show 2 ≤ sizeLine; decide, fun p np => ?_⟩⟩⟩⟩⟩
      refine ky p _ (s4.new np) ⟨s1.free (s2.free (s4.free np)), ?_⟩
      rw [upd_same, len_iv, wl, hl]
    · intro H2 ts s2 e2 E2
      have s02 := s1.trans s2
      refine fun d dx nd ndx ne => ⟨d, dx, D, ts, docRows f, ext (fun _ => none) H H2, H2, rfl, upd_same, (Same.up ndx).new (by rw [upd_ne ne.symm]; exact nd), nd, ext_sub (fun _ _ z => by cases z) s02, ext_new (s1.free nD) e2, ⟨E2.len, fun i t r h1 h2 => ext_new (E2.at_ i t r h1 h2).1 (E2.at_ i t r h1 h2).2⟩, docRows_ok B.wf, fun H3 s3 DA => ⟨rfl, k _ _ (s02.trans s3) (s02.free nd) (DA.same fun b o e => ?_)⟩⟩
      unfold ext at e ⊢
      by_cases h2 : (H2 b).isNone = true
      · rw [if_pos h2] at e
        have : (H b).isNone = true := by rw [s02.free (Option.isNone_iff_eq_none.mp h2)]; rfl
        rw [if_pos this]; exact e
      · rw [if_neg h2] at e
        by_cases h1 : (H b).isNone = true
        · rw [if_pos h1] at e ⊢; exact s3 _ _ e
        · rw [if_neg h1] at e; cases e
end
end Bg

set_option Elab.async false
set_option linter.all false
set_option maxRecDepth 100000
set_option maxHeartbeats 4000000
namespace Bg
open PySem PySem.Spec PyProof.Rows L2
/-! ### the three deeds, in plain words -/
theorem subL_sub {f : GF Str} (nd : (marks f).Nodup) : ∀ (k : GF Str) (o : Option Int), (∀ y ∈ nodes o k, y ∈ nodes none f) → subL f (topm k) = marks k
  | .nil, _, _ => rfl
  | .cons a k r, o, h => by
    have h : ∀ y ∈ (⟨a.1, a.2, o, topm k⟩ : Nd Str) :: (nodes (some a.1) k ++ nodes o r), y ∈ nodes none f := h
    have hx := h ⟨a.1, a.2, o, topm k⟩ List.mem_cons_self
    have e1 := subM_node nd hx
    have i1 := subL_sub nd k (some a.1) fun y hy => h y (by simp [hy])
    have i2 := subL_sub nd r o fun y hy => h y (by simp [hy])
    show subM f a.1 ++ subL f (topm r) = a.1 :: (k.pre ++ r.pre).map (·.1)
    rw [e1, i2, List.map_append]
    show a.1 :: subL f (topm k) ++ _ = _
    rw [i1]; rfl
theorem root_alt {u : Int} {g : Int × Str → GF Str → (Int × Str) × GF Str} (hg : ∀ a k, (g a k).1.1 = a.1) {f : GF Str} (h : ∃ l k, f = .cons ((0 : Int), l) k .nil) : ∃ l k, alt u g f = .cons ((0 : Int), l) k .nil := by
  obtain ⟨l, k, rfl⟩ := h
  show ∃ l' k', (if (0 : Int) = u then _ else _) = _
  by_cases c : (0 : Int) = u
  · rw [if_pos c]
    have := hg (0, l) k
    exact ⟨(g (0, l) k).1.2, (g (0, l) k).2, by
      show Fo.cons (g (0, l) k).1 (g (0, l) k).2 .nil = _
      rw [show (g (0, l) k).1 = ((0 : Int), (g (0, l) k).1.2) from Prod.ext this rfl]⟩
  · rw [if_neg c]
    exact ⟨l, _, rfl⟩
/-- a row's depth is its way's length -/
theorem way_len {f : GF Str} (nd : (marks f).Nodup) {x : Nd Str} {w : List Int} (W : Way (nodes none f) x.m w) {n e : Nat} (hx : (nodes none f)[n]? = some x) (he : (f.dep 1)[n]? = some e) : w.length = e := by
  obtain ⟨w0, W0, wl⟩ := way_ex (N := nodes none f) f none 1 (fun _ z => by cases z) (fun _ => rfl) (fun _ h => h) n x e hx he
  rw [W.uniq (fun x hx y hy e => node_eq nd hx hy e) W0, wl]
theorem way_of {f : GF Str} {x : Nd Str} (hx : x ∈ nodes none f) : ∃ w, Way (nodes none f) x.m w ∧ w.length ∈ f.dep 1 := by
  obtain ⟨n, hn⟩ := List.getElem?_of_mem hx
  have hl := (List.getElem?_eq_some_iff.mp hn).1
  rw [nodes_length] at hl
  have hd : (f.dep 1)[n]? = some ((f.dep 1)[n]'(by rw [Fo.dep_length]; exact hl)) := List.getElem?_eq_getElem _
  obtain ⟨w0, W0, wl⟩ := way_ex (N := nodes none f) f none 1 (fun _ z => by cases z) (fun _ => rfl) (fun _ h => h) n x _ hn hd
  exact ⟨w0, W0, by rw [wl]; exact List.mem_of_getElem? hd⟩
structure PutF (f f' : GF Str) (x : Nd Str) (at_ : Nat) (c : Int) (l : Str) : Prop where
  wf : WF f' (c + 1)
  new : (⟨c, l, some x.m, []⟩ : Nd Str) ∈ nodes none f'
  up : (⟨x.m, x.l, x.o, x.ks.take at_ ++ c :: x.ks.drop at_⟩ : Nd Str) ∈ nodes none f'
  back : ∀ y ∈ nodes none f', y = ⟨c, l, some x.m, []⟩ ∨ y = ⟨x.m, x.l, x.o, x.ks.take at_ ++ c :: x.ks.drop at_⟩ ∨ (y ∈ nodes none f ∧ y.m ≠ x.m)
  mks : ∀ m, m ∈ marks f' ↔ m ∈ marks f ∨ m = c
  size : f'.size = f.size + 1
theorem putF_ok {f : GF Str} {c : Int} (w : WF f c) {x : Nd Str} (hx : x ∈ nodes none f) {at_ : Nat} (hat : at_ ≤ x.ks.length) {l : Str} (hl : IsLab l) (hs : f.size < 240) (h0 : 0 ≤ c) {wy : List Int} (W : Way (nodes none f) x.m wy) (hd : wy.length + 1 ≤ 80) : PutF f (putF' x.m at_ (c, l) f) x at_ c l := by
  obtain ⟨A, B, RA, RB, lx, ou, k, e, e1, e2, e3, e4, e5, e6, e7⟩ := split (g := fun a k => (a, insT at_ (c, l) k)) (fun _ _ => rfl) f none 1 w.nd (node_mark hx)
  have hxe : x = ⟨x.m, lx, ou, topm k⟩ := node_eq w.nd hx (by rw [e1]; simp) rfl
  have hks : x.ks = topm k := congrArg Nd.ks hxe
  have hlx : x.l = lx := congrArg Nd.l hxe
  have hou : x.o = ou := congrArg Nd.o hxe
  obtain ⟨X, Y, RX, RY, g1, g2, g3, g4, g5, g6⟩ := insT_split (c, l) (some x.m) (e + 1) k at_ (by rw [hks] at hat; simpa using hat)
  have e6 : nodes none (putF' x.m at_ (c, l) f) = A ++ ⟨x.m, lx, ou, topm (insT at_ (c, l) k)⟩ :: (nodes (some x.m) (insT at_ (c, l) k) ++ B) := e6
  have e7 : (putF' x.m at_ (c, l) f).rows 1 = RA ++ ((x.m, lx), e) :: ((insT at_ (c, l) k).rows (e + 1) ++ RB) := e7
  rw [g1] at e1
  rw [g2, g6] at e6
  rw [g3] at e2
  rw [g4] at e7
  rw [← hks, ← hlx, ← hou] at e6 e1
  have cn : c ∉ marks f := fun z => by have := (w.rng c z).2; omega
  have mks : ∀ m, m ∈ marks (putF' x.m at_ (c, l) f) ↔ m ∈ marks f ∨ m = c := by
    intro m
    rw [← nodes_m _ none, ← nodes_m f none, e6, e1]
    simp only [List.map_append, List.map_cons, List.mem_append, List.mem_cons]
    constructor
    · rintro (h | h | ((h | h | h) | h)) <;> simp [h]
    · rintro ((h | h | ((h | h) | h)) | h) <;> simp [h]
  have size : (putF' x.m at_ (c, l) f).size = f.size + 1 := by
    rw [← nodes_length _ none, ← nodes_length f none, e6, e1]
    simp only [List.length_append, List.length_cons]
    omega
  have ee : wy.length = e := by
    refine way_len w.nd W (n := A.length) ?_ ?_
    · rw [e1, List.getElem?_append_right (Nat.le_refl _), Nat.sub_self]
      rw [List.getElem?_cons_zero]
    · rw [← Fo.rows_snd f 1, e2, List.getElem?_map, List.getElem?_append_right (by omega), show A.length - RA.length = 0 by omega]; rfl
  refine ⟨⟨?_, root_alt (fun _ _ => rfl) w.root, fun m hm => ?_, fun a ha => ?_, fun d hd' => ?_, by omega⟩, by rw [e6]; simp, by rw [e6]; simp, fun y hy => ?_, mks, size⟩
  · have nd := w.nd
    rw [← nodes_m _ none, e1] at nd
    rw [← nodes_m f none, e1] at cn
    rw [← nodes_m _ none, e6]
    simp only [List.map_append, List.map_cons] at nd cn ⊢
    have p : (A.map (·.m) ++ x.m :: (X.map (·.m) ++ c :: Y.map (·.m) ++ B.map (·.m))).Perm (c :: (A.map (·.m) ++ x.m :: (X.map (·.m) ++ Y.map (·.m) ++ B.map (·.m)))) := by
      refine List.Perm.trans ?_ List.perm_middle
      refine List.Perm.append_left _ ?_
      refine List.Perm.trans (List.Perm.cons _ ?_) (List.Perm.swap _ _ _)
      exact (List.perm_middle (l₁ := X.map (·.m)) (l₂ := Y.map (·.m)) (a := c)).append_right _
    exact p.nodup_iff.mpr (List.nodup_cons.mpr ⟨cn, nd⟩)
  · rcases (mks m).mp hm with h | rfl
    · have := w.rng m h; omega
    · omega
  · rw [← Fo.rows_fst _ 1, e7] at ha
    have wl := w.lab
    rw [← Fo.rows_fst f 1, e2] at wl
    simp only [List.map_append, List.map_cons, List.mem_append, List.mem_cons] at ha wl
    rcases ha with h | h | ((h | h | h) | h)
    · exact wl a (.inl h)
    · exact wl a (.inr (.inl h))
    · exact wl a (.inr (.inr (.inl (.inl h))))
    · rw [h]; exact hl
    · exact wl a (.inr (.inr (.inl (.inr h))))
    · exact wl a (.inr (.inr (.inr h)))
  · rw [← Fo.rows_snd _ 1, e7] at hd'
    have wl := w.deep
    rw [← Fo.rows_snd f 1, e2] at wl
    simp only [List.map_append, List.map_cons, List.mem_append, List.mem_cons] at hd' wl
    rcases hd' with h | h | ((h | h | h) | h)
    · exact wl d (.inl h)
    · exact wl d (.inr (.inl h))
    · exact wl d (.inr (.inr (.inl (.inl h))))
    · rw [h]; omega
    · exact wl d (.inr (.inr (.inl (.inr h))))
    · exact wl d (.inr (.inr (.inr h)))
  · have nd := w.nd
    rw [← nodes_m _ none, e1] at nd
    simp only [List.map_append, List.map_cons] at nd
    have nx : ∀ y ∈ A ++ (X ++ Y ++ B), y.m ≠ x.m := by
      intro y hy z
      have p := (List.perm_middle (l₁ := A.map (·.m)) (l₂ := X.map (·.m) ++ Y.map (·.m) ++ B.map (·.m)) (a := x.m)).nodup_iff.mp nd
      refine (List.nodup_cons.mp p).1 ?_
      rw [← z]
      rw [← List.map_append, ← List.map_append, ← List.map_append]
      exact List.mem_map.mpr ⟨y, hy, rfl⟩
    rw [e6] at hy
    rw [e1]
    simp only [List.mem_append, List.mem_cons] at hy nx ⊢
    rcases hy with h | h | ((h | h | h) | h)
    · exact .inr (.inr ⟨.inl h, nx y (.inl h)⟩)
    · exact .inr (.inl h)
    · exact .inr (.inr ⟨.inr (.inr (.inl (.inl h))), nx y (.inr (.inl (.inl h)))⟩)
    · exact .inl h
    · exact .inr (.inr ⟨.inr (.inr (.inl (.inr h))), nx y (.inr (.inl (.inr h)))⟩)
    · exact .inr (.inr ⟨.inr (.inr (.inr h)), nx y (.inr (.inr h))⟩)
structure CutF (f f' : GF Str) (x : Nd Str) (p : Nd Str) (c : Int) : Prop where
  wf : WF f' c
  up : (⟨p.m, p.l, p.o, p.ks.erase x.m⟩ : Nd Str) ∈ nodes none f'
  back : ∀ y ∈ nodes none f', y = ⟨p.m, p.l, p.o, p.ks.erase x.m⟩ ∨ (y ∈ nodes none f ∧ y.m ≠ p.m)
  mks : ∀ m, m ∈ marks f' ↔ m ∈ marks f ∧ m ∉ subM f x.m
  nd : (subM f x.m).Nodup
  sub : ∀ m ∈ subM f x.m, m ∈ marks f
  cut : ∃ n e, marks f = (marks f').take n ++ subM f x.m ++ (marks f').drop n ∧ n ≤ f'.size ∧ (f.dep 1)[n]? = some e ∧ (∀ j d, n < j → j < n + (subM f x.m).length → (f.dep 1)[j]? = some d → e < d) ∧ ∀ d, (f.dep 1)[n + (subM f x.m).length]? = some d → d ≤ e
theorem cutF_ok {f : GF Str} {c : Int} (w : WF f c) {x p : Nd Str} (hx : x ∈ nodes none f) (hp : p ∈ nodes none f) (ho : x.o = some p.m) : CutF f (cutF p.m x.m f) x p c := by
  obtain ⟨A, B, RA, RB, lx, ou, k, e, e1, e2, e3, e4, e5, e6, e7⟩ := split (g := fun a k => (a, delT x.m k)) (fun _ _ => rfl) f none 1 w.nd (node_mark hp)
  have hpe : p = ⟨p.m, lx, ou, topm k⟩ := node_eq w.nd hp (by rw [e1]; simp) rfl
  have hks : p.ks = topm k := congrArg Nd.ks hpe
  have hlx : p.l = lx := congrArg Nd.l hpe
  have hou : p.o = ou := congrArg Nd.o hpe
  have hxk : x.m ∈ topm k := by
    obtain ⟨z, hz, q1, q2⟩ := over_top hx ho
    obtain rfl := node_eq w.nd hz hp q1
    rw [← hks]; exact q2
  obtain ⟨X, Y, RX, RY, l, km, g1, g2, g3, g4, g5, g6, g7⟩ := delT_split x.m (some p.m) (e + 1) k hxk
  have e6 : nodes none (cutF p.m x.m f) = A ++ ⟨p.m, lx, ou, topm (delT x.m k)⟩ :: (nodes (some p.m) (delT x.m k) ++ B) := e6
  have e7 : (cutF p.m x.m f).rows 1 = RA ++ ((p.m, lx), e) :: ((delT x.m k).rows (e + 1) ++ RB) := e7
  rw [g1] at e1
  rw [g2, g6] at e6
  rw [g3] at e2
  rw [g4] at e7
  rw [← hks, ← hlx, ← hou] at e6 e1
  have hxe : x = ⟨x.m, l, some p.m, topm km⟩ := node_eq w.nd hx (by rw [e1]; simp) rfl
  have hsub : subM f x.m = x.m :: marks km := by
    rw [subM_node w.nd hx, show x.ks = topm km from congrArg Nd.ks hxe, subL_sub w.nd km (some x.m) fun y hy => by rw [e1]; simp [hy]]
  have nd := w.nd
  have hm1 : marks f = A.map (·.m) ++ p.m :: (X.map (·.m) ++ (x.m :: marks km ++ Y.map (·.m)) ++ B.map (·.m)) := by
    rw [← nodes_m f none, e1]
    simp only [List.map_append, List.map_cons, nodes_m]
    rfl
  have hm2 : marks (cutF p.m x.m f) = A.map (·.m) ++ p.m :: (X.map (·.m) ++ Y.map (·.m) ++ B.map (·.m)) := by
    rw [← nodes_m _ none, e6]
    simp only [List.map_append, List.map_cons]
  have perm : (marks f).Perm (subM f x.m ++ marks (cutF p.m x.m f)) := by
    rw [hm1, hm2, hsub]
    have q1 : (X.map (·.m) ++ (x.m :: marks km ++ Y.map (·.m)) ++ B.map (·.m)).Perm (x.m :: marks km ++ (X.map (·.m) ++ Y.map (·.m) ++ B.map (·.m))) := by
      rw [← List.append_assoc (x.m :: marks km), ← List.append_assoc (x.m :: marks km)]
      refine List.Perm.append_right _ ?_
      rw [← List.append_assoc]
      exact List.Perm.append_right _ List.perm_append_comm
    refine ((q1.cons p.m).append_left _).trans ?_
    have q2 : (p.m :: (x.m :: marks km ++ (X.map (·.m) ++ Y.map (·.m) ++ B.map (·.m)))).Perm (x.m :: marks km ++ (p.m :: (X.map (·.m) ++ Y.map (·.m) ++ B.map (·.m)))) := List.perm_middle.symm
    refine (q2.append_left _).trans ?_
    rw [← List.append_assoc, ← List.append_assoc]
    exact List.Perm.append_right _ List.perm_append_comm
  have nd2 := perm.nodup_iff.mp nd
  obtain ⟨n1, n2, n3⟩ := List.nodup_append.mp nd2
  have mks : ∀ m, m ∈ marks (cutF p.m x.m f) ↔ m ∈ marks f ∧ m ∉ subM f x.m := by
    intro m
    rw [perm.mem_iff, List.mem_append]
    exact ⟨fun h => ⟨.inr h, fun z => n3 m z m h rfl⟩, fun ⟨h, z⟩ => h.resolve_left z⟩
  have size : (cutF p.m x.m f).size + (subM f x.m).length = f.size := by
    have := perm.length_eq
    rw [List.length_append, List.length_map, List.length_map, Fo.pre_length, Fo.pre_length] at this
    omega
  refine ⟨⟨n2, root_alt (fun _ _ => rfl) w.root, fun m hm => w.rng m ((mks m).mp hm).1, fun a ha => ?_, fun d hd' => ?_, by have := w.small; omega⟩, by rw [e6]; simp, fun y hy => ?_, mks, n1, fun m hm => by rw [perm.mem_iff]; exact List.mem_append.mpr (.inl hm), ?_⟩
  · rw [← Fo.rows_fst _ 1, e7] at ha
    have wl := w.lab
    rw [← Fo.rows_fst f 1, e2] at wl
    simp only [List.map_append, List.map_cons, List.mem_append, List.mem_cons] at ha wl
    rcases ha with h | h | ((h | h) | h)
    · exact wl a (.inl h)
    · exact wl a (.inr (.inl h))
    · exact wl a (.inr (.inr (.inl (.inl h))))
    · exact wl a (.inr (.inr (.inl (.inr (.inr (.inr h))))))
    · exact wl a (.inr (.inr (.inr h)))
  · rw [← Fo.rows_snd _ 1, e7] at hd'
    have wl := w.deep
    rw [← Fo.rows_snd f 1, e2] at wl
    simp only [List.map_append, List.map_cons, List.mem_append, List.mem_cons] at hd' wl
    rcases hd' with h | h | ((h | h) | h)
    · exact wl d (.inl h)
    · exact wl d (.inr (.inl h))
    · exact wl d (.inr (.inr (.inl (.inl h))))
    · exact wl d (.inr (.inr (.inl (.inr (.inr (.inr h))))))
    · exact wl d (.inr (.inr (.inr h)))
  · have nx : ∀ y ∈ A ++ (X ++ Y ++ B), y.m ≠ p.m := by
      intro y hy z
      rw [hm2] at n2
      have p2 := List.perm_middle.nodup_iff.mp n2
      refine (List.nodup_cons.mp p2).1 ?_
      rw [← z, ← List.map_append, ← List.map_append, ← List.map_append]
      exact List.mem_map.mpr ⟨y, hy, rfl⟩
    rw [e6] at hy
    rw [e1]
    simp only [List.mem_append, List.mem_cons] at hy nx ⊢
    rcases hy with h | h | ((h | h) | h)
    · exact .inr ⟨.inl h, nx y (.inl h)⟩
    · exact .inl h
    · exact .inr ⟨.inr (.inr (.inl (.inl h))), nx y (.inr (.inl (.inl h)))⟩
    · exact .inr ⟨.inr (.inr (.inl (.inr (.inr (.inr h))))), nx y (.inr (.inl (.inr h)))⟩
    · exact .inr ⟨.inr (.inr (.inr h)), nx y (.inr (.inr h))⟩
  · have hdep : f.dep 1 = RA.map (·.2) ++ e :: (RX.map (·.2) ++ (e + 1) :: (km.dep (e + 2) ++ RY.map (·.2)) ++ RB.map (·.2)) := by
      rw [← Fo.rows_snd f 1, e2]
      simp only [List.map_append, List.map_cons, Fo.rows_snd]
    have hl0 : (RA.map (·.2) ++ e :: RX.map (·.2)).length = A.length + (1 + X.length) := by
      rw [List.length_append, List.length_cons, List.length_map, List.length_map]; omega
    have hdep2 : f.dep 1 = (RA.map (·.2) ++ e :: RX.map (·.2)) ++ ((e + 1) :: km.dep (e + 2) ++ (RY.map (·.2) ++ RB.map (·.2))) := by
      rw [hdep]; simp [List.append_assoc]
    have hsl : (subM f x.m).length = 1 + km.size := by rw [hsub, List.length_cons, List.length_map, Fo.pre_length]; omega
    refine ⟨A.length + (1 + X.length), e + 1, ?_, ?_, ?_, ?_, ?_⟩
    · have hm3 : marks (cutF p.m x.m f) = (A.map (·.m) ++ p.m :: X.map (·.m)) ++ (Y.map (·.m) ++ B.map (·.m)) := by rw [hm2]; simp [List.append_assoc]
      have hl1 : (A.map (·.m) ++ p.m :: X.map (·.m)).length = A.length + (1 + X.length) := by
        rw [List.length_append, List.length_cons, List.length_map, List.length_map]; omega
      rw [hm3, ← hl1, List.take_left, List.drop_left, hm1, hsub]
      simp [List.append_assoc]
    · have : (marks (cutF p.m x.m f)).length = (cutF p.m x.m f).size := by rw [List.length_map, Fo.pre_length]
      rw [hm2] at this
      simp only [List.length_append, List.length_cons, List.length_map] at this
      omega
    · rw [hdep2, ← hl0, List.getElem?_append_right (Nat.le_refl _), Nat.sub_self]; rfl
    · intro j d h1 h2 hd
      rw [hdep2, List.getElem?_append_right (by omega), hl0, List.getElem?_append_left (by rw [List.length_cons, Fo.dep_length]; omega)] at hd
      rw [show j - (A.length + (1 + X.length)) = (j - (A.length + (1 + X.length)) - 1) + 1 by omega, List.getElem?_cons_succ] at hd
      have := Fo.dep_ge km (e + 2) d (List.mem_of_getElem? hd)
      omega
    · intro d hd
      rw [hdep2, List.getElem?_append_right (by omega), hl0, List.getElem?_append_right (by rw [List.length_cons, Fo.dep_length]; omega), List.length_cons, Fo.dep_length] at hd
      rw [show A.length + (1 + X.length) + (subM f x.m).length - (A.length + (1 + X.length)) - (km.size + 1) = 0 by omega] at hd
      cases hRY : RY with
      | nil =>
        rw [hRY] at hd
        cases hRB : RB with
        | nil => rw [hRB] at hd; simp at hd
        | cons b r =>
          rw [hRB] at hd
          have := e5 b (by rw [hRB]; rfl)
          simp at hd
          omega
      | cons b r =>
        rw [hRY] at hd
        have := g7 b (by rw [hRY]; rfl)
        simp at hd
        omega
structure RenF (f f' : GF Str) (x : Nd Str) (l : Str) (c : Int) : Prop where
  wf : WF f' c
  up : (⟨x.m, l, x.o, x.ks⟩ : Nd Str) ∈ nodes none f'
  back : ∀ y ∈ nodes none f', y = ⟨x.m, l, x.o, x.ks⟩ ∨ (y ∈ nodes none f ∧ y.m ≠ x.m)
  mks : marks f' = marks f
theorem renF_ok {f : GF Str} {c : Int} (w : WF f c) {x : Nd Str} (hx : x ∈ nodes none f) {l : Str} (hl : IsLab l) : RenF f (renF x.m l f) x l c := by
  obtain ⟨A, B, RA, RB, lx, ou, k, e, e1, e2, e3, e4, e5, e6, e7⟩ := split (g := fun a k => ((a.1, l), k)) (fun _ _ => rfl) f none 1 w.nd (node_mark hx)
  have hxe : x = ⟨x.m, lx, ou, topm k⟩ := node_eq w.nd hx (by rw [e1]; simp) rfl
  have hks : x.ks = topm k := congrArg Nd.ks hxe
  have hou : x.o = ou := congrArg Nd.o hxe
  have e6 : nodes none (renF x.m l f) = A ++ ⟨x.m, l, ou, topm k⟩ :: (nodes (some x.m) k ++ B) := e6
  have e7 : (renF x.m l f).rows 1 = RA ++ ((x.m, l), e) :: (k.rows (e + 1) ++ RB) := e7
  rw [← hks, ← hou] at e6 e1
  have mks : marks (renF x.m l f) = marks f := by
    rw [← nodes_m _ none, ← nodes_m f none, e6, e1]
    simp only [List.map_append, List.map_cons]
  have size : (renF x.m l f).size = f.size := by
    rw [← nodes_length _ none, ← nodes_length f none, e6, e1]
    simp only [List.length_append, List.length_cons]
  refine ⟨⟨by rw [mks]; exact w.nd, root_alt (fun _ _ => rfl) w.root, fun m hm => w.rng m (by rw [← mks]; exact hm), fun a ha => ?_, fun d hd' => ?_, by rw [size]; exact w.small⟩, by rw [e6]; simp, fun y hy => ?_, mks⟩
  · rw [← Fo.rows_fst _ 1, e7] at ha
    have wl := w.lab
    rw [← Fo.rows_fst f 1, e2] at wl
    simp only [List.map_append, List.map_cons, List.mem_append, List.mem_cons] at ha wl
    rcases ha with h | h | (h | h)
    · exact wl a (.inl h)
    · rw [h]; exact hl
    · exact wl a (.inr (.inr (.inl h)))
    · exact wl a (.inr (.inr (.inr h)))
  · rw [← Fo.rows_snd _ 1, e7] at hd'
    have wl := w.deep
    rw [← Fo.rows_snd f 1, e2] at wl
    exact wl d (by simpa using hd')
  · have nd := w.nd
    rw [← nodes_m _ none, e1] at nd
    simp only [List.map_append, List.map_cons] at nd
    have nx : ∀ y ∈ A ++ (nodes (some x.m) k ++ B), y.m ≠ x.m := by
      intro y hy z
      have p2 := List.perm_middle.nodup_iff.mp nd
      refine (List.nodup_cons.mp p2).1 ?_
      rw [← List.map_append, ← List.map_append]
      exact List.mem_map.mpr ⟨y, hy, z⟩
    rw [e6] at hy
    rw [e1]
    simp only [List.mem_append, List.mem_cons] at hy nx ⊢
    rcases hy with h | h | (h | h)
    · exact .inr ⟨.inl h, nx y (.inl h)⟩
    · exact .inl h
    · exact .inr ⟨.inr (.inr (.inl h)), nx y (.inr (.inl h))⟩
    · exact .inr ⟨.inr (.inr (.inr h)), nx y (.inr (.inr h))⟩
end Bg

set_option Elab.async false
set_option linter.all false
set_option maxRecDepth 100000
set_option maxHeartbeats 4000000
namespace Bg
open PySem PySem.Spec PyProof.Rows L2
/-! ### gardens: the deeds -/
/-- a keeping ahead of mending: off the way it is right -/
def KPre (K : PySem.W.Frag) (H : Hp) (ow : Ow) (i j : Nat) (f : GF Str) (w : List Int) (a : KA) (k : Qs Str × Bool) : Prop :=
  ∃ (T : Tb) (R : Int → Addr) (d sS : Int → Prop), KeepAt K H ow i j a k.1 T R d d d sS ∧ (∀ c, d c → c ∈ marks f) ∧ ∀ x ∈ nodes none f, x.m ∉ w → d x.m ∧ LU k.1 T x ∧ LD k.1 T x
theorem KPre.step {K : PySem.W.Frag} {C : Ro → Prop} {H H' : Hp} {ow ow' : Ow} {i j : Nat} {f : GF Str} {w : List Int} {a : KA} {k : Qs Str × Bool} (h : KPre K H ow i j f w a k) (s : Step C H ow H' ow') (c0 : ¬ C .out) (c1 : ¬ C (.kp i j)) (c2 : ¬ C (.dn i j)) (c3 : ¬ C (.bn i j)) (c4 : ¬ C (.ps i j)) (c5 : ¬ C (.sn i j)) : KPre K H' ow' i j f w a k := by
  obtain ⟨T, R, d, sS, h1, h2⟩ := h
  exact ⟨T, R, d, sS, h1.step s c0 c1 c2 c3 c4 c5, h2⟩
theorem KPre.same {K : PySem.W.Frag} {H H' : Hp} {ow : Ow} {i j : Nat} {f : GF Str} {w : List Int} {a : KA} {k : Qs Str × Bool} (h : KPre K H ow i j f w a k) (s : Same H H') : KPre K H' ow i j f w a k := by
  obtain ⟨T, R, d, sS, h1, h2⟩ := h
  exact ⟨T, R, d, sS, h1.same s, h2⟩
def sp_Garden_mend_all (K : PySem.W.Frag) : Sp := fun vs H Q _ => ∃ (ow : Ow) (i : Nat) (G : GAd) (f : GF Str) (coming : Int) (ks : List (Qs Str × Bool)) (m : Int) (w : List Int), vs = [.ref G.g, .int m] ∧ GBase K H ow i G f coming ∧ Way (nodes none f) m w ∧ G.ka.length = ks.length ∧
  (∀ (j : Nat) (a : KA) (k : Qs Str × Bool), G.ka[j]? = some a → ks[j]? = some k → KPre K H ow i j f w a k) ∧
  ∀ H' ow' G', Step (gr i) H ow H' ow' → G'.g = G.g → GardenAt K H' ow' i G' f coming (ks.map fun k => (k.1, false)) → Q .non H'
def sp_Garden_name (K : PySem.W.Frag) : Sp := fun vs H Q _ => ∃ (ow : Ow) (i : Nat) (G : GAd) (f : GF Str) (coming : Int) (ks : List (Qs Str × Bool)) (x : Nd Str) (l : Str), vs = [.ref G.g, .int x.m, .str l] ∧ GardenAt K H ow i G f coming ks ∧ x ∈ nodes none f ∧ IsLab l ∧
  ∀ H' ow' G', Step (gr i) H ow H' ow' → G'.g = G.g → GardenAt K H' ow' i G' (renF x.m l f) coming (ks.map fun k => (k.1, false)) → Q .non H'
def sp_Garden_put (K : PySem.W.Frag) : Sp := fun vs H Q _ => ∃ (ow : Ow) (i : Nat) (G : GAd) (f : GF Str) (coming : Int) (ks : List (Qs Str × Bool)) (x : Nd Str) (at_ : Nat) (l : Str) (w : List Int), vs = [.ref G.g, .int x.m, .int at_, .str l] ∧ GardenAt K H ow i G f coming ks ∧ x ∈ nodes none f ∧ at_ ≤ x.ks.length ∧ IsLab l ∧
  f.size < 240 ∧ Way (nodes none f) x.m w ∧ w.length + 1 ≤ 80 ∧
  ∀ H' ow' G', Step (gr i) H ow H' ow' → G'.g = G.g → GardenAt K H' ow' i G' (putF' x.m at_ (coming, l) f) (coming + 1) (ks.map fun k => (k.1, false)) → Q (.int coming) H'
def sp_Garden_take (K : PySem.W.Frag) : Sp := fun vs H Q _ => ∃ (ow : Ow) (i : Nat) (G : GAd) (f : GF Str) (coming : Int) (ks : List (Qs Str × Bool)) (x p : Nd Str), vs = [.ref G.g, .int x.m] ∧ GardenAt K H ow i G f coming ks ∧ x ∈ nodes none f ∧ p ∈ nodes none f ∧ x.o = some p.m ∧
  ∀ H' ow' G' r, Step (gr i) H ow H' ow' → G'.g = G.g → GardenAt K H' ow' i G' (cutF p.m x.m f) coming (ks.map fun k => (k.1, false)) → hid ow' H' r = some (.lst (iv (subM f x.m))) → Q (.ref r) H'
theorem gr_of {i : Nat} {r : Ro} (h : r.gi = some i) : gr i r := .inr h
theorem kr_gr {i j : Nat} (r : Ro) (h : kr i j r) : gr i r := by
  rcases h with rfl | rfl | rfl | rfl | rfl | rfl
  · exact .inl rfl
  all_goals exact .inr rfl
theorem gr_out {i : Nat} : ¬ gr i .out := by rintro (h | h) <;> cases h
theorem erase_at (a : Int) : ∀ l : List Int, a ∈ l → ∃ j, l[j]? = some a ∧ (∀ m : Nat, m < j → l[m]? ≠ some a) ∧ l.erase a = l.eraseIdx j
  | [], h => by cases h
  | b :: r, h => by
    by_cases e : b = a
    · subst e
      exact ⟨0, rfl, fun m hm => absurd hm (Nat.not_lt_zero m), by rw [List.erase_cons_head]; rfl⟩
    · obtain ⟨j, h1, h2, h3⟩ := erase_at a r ((List.mem_cons.mp h).resolve_left (Ne.symm e))
      refine ⟨j + 1, h1, fun m hm => ?_, ?_⟩
      · cases m with
        | zero => exact fun z => e (Option.some.inj z)
        | succ m => exact h2 m (by omega)
      · rw [List.erase_cons_tail (fun z => e (beq_iff_eq.mp z)), h3]; rfl
theorem GBase.step' {K : PySem.W.Frag} {C : Ro → Prop} {H H' : Hp} {ow ow' : Ow} {i : Nat} {G : GAd} {f : GF Str} {coming : Int} (h : GBase K H ow i G f coming) (s : Step C H ow H' ow') (c1 : ¬ C (.gar i)) (c2 : ¬ C (.pd i)) (c3 : ∀ m, ¬ C (.pl i m)) (c4 : ∀ m, ¬ C (.un i m)) (c5 : ¬ C (.kl i)) : GBase K H' ow' i G f coming where
  own := s.own
  wf := h.wf
  obj := s.fr _ _ (by rw [h.og]; exact c1) h.obj
  og := by rw [s.keep _ (some_ne h.obj)]; exact h.og
  pl := h.pl.step s c2 c3 c4
  kl := s.fr _ _ (by rw [h.okl]; exact c5) h.kl
  okl := by rw [s.keep _ (some_ne h.kl)]; exact h.okl
section
variable {P : Program} {w : World} {K : PySem.W.Frag} {mg : Str → Option Value} {base : Heap}
theorem sc_Garden_mend_all : FnScope ["self", "mark", "keeping"] ["self", "mark"] (defScope s_Garden_mend_all) := ⟨rfl, rfl, rfl, by decide +kernel, rfl, by decide +kernel, by decide +kernel⟩
theorem ok_Garden_mend_all (T : Tx K mg) (O_Garden_way_up : Ok P w K mg base 1 at_Garden_way_up ["self", "mark"] (sp_Garden_way_up K)) (O_Keeping_mend : Ok P w K mg base 3 at_Keeping_mend ["self", "plants", "way"] (sp_Keeping_mend K)) : Ok P w K mg base 4 at_Garden_mend_all ["self", "mark"] (sp_Garden_mend_all K) := by
  refine mkOk T.d_Garden_mend_all sc_Garden_mend_all (fun _ _ _ _ _ _ us hl => match us, hl with | [_, _], _ => rfl) (fun vs H Q E h => ?_) (fun cdv A outer s H vs Q E hr h => ?_)
  · obtain ⟨ow, i, G, f, coming, ks, m, w0, rfl, B, W, hlen, hk, k⟩ := h; rfl
  · obtain ⟨ow, i, G, f, coming, ks, m, w0, rfl, B, W, hlen, hk, k⟩ := h
    refine ⟨_, (pss_one (ps_for PassesOwn.never rfl (kpiL (K := K) (kfld (K := K) (pv 0))) (pg_name (i := 2) sc_Garden_mend_all.nd rfl (by first | exact Or.inl rfl | exact Or.inr rfl))
        (pss_one (ps_expr (kme (K := K) (pv 2) O_Keeping_mend T.c_Keeping T.m_Keeping_mend (hr.mono (by decide)) (pa_cons (kfld (K := K) (pv 0)) (pa_cons (kme (K := K) (pv 0) O_Garden_way_up T.c_Garden T.m_Garden_way_up (hr.mono (by decide)) (pa_cons (pv 1) pa_nil)) pa_nil))))))), ?_⟩
    refine ⟨_, rfl, rd_Garden_kept T B.obj ⟨_, rfl, ⟨_, SqL.of B.kl⟩, ?_⟩⟩
    refine for_it (walk_list (xs := G.ka.map fun a => V.ref a.kp)) (fun n σ H' => ∃ (x2 : Option V) (ow' : Ow) (ka : List KA), σ = [some (.ref G.g), some (.int m), x2] ∧ Step (gr i) H ow H' ow' ∧ ka.length = G.ka.length ∧ (ka.map fun a => V.ref a.kp) = (G.ka.map fun a => V.ref a.kp) ∧
      GBase K H' ow' i { G with ka := ka } f coming ∧ (∀ (j : Nat) (a : KA) (k : Qs Str × Bool), ka[j]? = some a → ks[j]? = some k → (j < n → KOk K H' ow' i j f a (k.1, false)) ∧ (n ≤ j → KPre K H' ow' i j f w0 a k))) ?_ ?_ ?_ ?_
    · exact ⟨none, ow, G.ka, rfl, Step.refl B.own, rfl, rfl, B, fun j a k h1 h2 => ⟨fun z => absurd z (Nat.not_lt_zero j), fun _ => hk j a k h1 h2⟩⟩
    · rintro n σ H' _ ⟨x2, ow', ka, rfl, S, l1, l2, B', hk'⟩
      have := B'.kl
      exact SqL.of (by rw [← l2]; exact this)
    · rintro n v σ H1 H2 hn ⟨x2, ow', ka, rfl, S, l1, l2, B', hk'⟩ ⟨rfl, ev⟩
      rw [List.length_map] at hn
      have hka : ka[n]? = some (ka[n]'(by omega)) := List.getElem?_eq_getElem _
      have hks : ks[n]? = some (ks[n]'(by omega)) := List.getElem?_eq_getElem _
      generalize (ka[n]'(by omega)) = a at hka
      generalize (ks[n]'(by omega)) = kq at hks
      have evv : v = .ref a.kp := by
        rw [← l2, List.getElem?_map, hka] at ev
        exact (Option.some.inj ev).symm
      subst evv
      obtain ⟨T0, R, d, sS, KK, hd, hoff⟩ := (hk' n a kq hka hks).2 (Nat.le_refl n)
      refine ⟨_, rfl, mt_Keeping_mend KK.obj ⟨_, rfl, rd_Garden_plants T B'.obj ⟨_, rfl, mt_Garden_way_up B'.obj ⟨_, rfl, ow', i, { G with ka := ka }, f, coming, m, w0, rfl, B', W, fun H3 wl s3 n3 e3 => ?_⟩⟩⟩⟩
      have KK3 := KK.same s3
      have B3 := B'.same s3
      refine ⟨ow', i, n, a, kq.1, T0, R, d, d, d, sS, G.L, f, m, w0, wl, rfl, B3.own, B3.pl, KK3, e3, B'.own.new n3, W, hd, hd, hd, fun x hx h => ⟨(hoff x hx h).1, (hoff x hx h).1, (hoff x hx h).1, (hoff x hx h).2.1, (hoff x hx h).2.2⟩, fun H4 ow4 A4 T4 R4 sS4 S4 ekp K4 lu ld => ?_⟩
      have S34 : Step (kr i n) H2 ow' H4 ow4 := (Step.same B'.own s3).trans S4
      have neq : ∀ j, j ≠ n → ¬ kr i n (.kp i j) ∧ ¬ kr i n (.dn i j) ∧ ¬ kr i n (.bn i j) ∧ ¬ kr i n (.ps i j) ∧ ¬ kr i n (.sn i j) := by
        intro j hj; unfold kr; simp [hj]
      have c0 : ¬ kr i n .out := by unfold kr; simp
      refine ⟨some (.ref a.kp), ow4, ka.set n A4, rfl, S.trans (S34.mono (C' := gr i) kr_gr), by rw [List.length_set]; exact l1, ?_, ?_, fun j b kb hb hkb => ?_⟩
      · rw [List.map_set, ekp, ← l2]
        refine List.ext_getElem? fun l => ?_
        by_cases e : l = n
        · subst e
          rw [List.getElem?_set_self (by rw [List.length_map]; omega), List.getElem?_map, hka]; rfl
        · rw [List.getElem?_set_ne (Ne.symm e)]
      · have c1 : ¬ kr i n (.gar i) := by unfold kr; simp
        have c2 : ¬ kr i n (.pd i) := by unfold kr; simp
        have c3 : ∀ m, ¬ kr i n (.pl i m) := by unfold kr; simp
        have c4 : ∀ m, ¬ kr i n (.un i m) := by unfold kr; simp
        have c5 : ¬ kr i n (.kl i) := by unfold kr; simp
        have hkl : H4 G.kl = some (.lst (ka.map fun a => V.ref a.kp)) := S34.fr _ _ (by rw [B'.okl]; exact c5) B'.kl
        refine ⟨S4.own, B'.wf, S34.fr _ _ (by rw [B'.og]; exact c1) B'.obj, by rw [S34.keep _ (some_ne B'.obj)]; exact B'.og, B'.pl.step S34 c2 c3 c4, ?_, by rw [S34.keep _ (some_ne B'.kl)]; exact B'.okl⟩
        show H4 G.kl = some (.lst ((ka.set n A4).map fun a => V.ref a.kp))
        rw [hkl]
        refine congrArg (fun l => some (HO.lst l)) ?_
        rw [List.map_set, ekp]
        refine (List.ext_getElem? fun l => ?_).symm
        by_cases e : l = n
        · subst e
          rw [List.getElem?_set_self (by rw [List.length_map]; omega), List.getElem?_map, hka]; rfl
        · rw [List.getElem?_set_ne (Ne.symm e)]
      · by_cases e : j = n
        · subst e
          rw [List.getElem?_set_self (by omega)] at hb
          obtain rfl := Option.some.inj hb
          rw [hks] at hkb
          obtain rfl := Option.some.inj hkb
          exact ⟨fun _ => ⟨T4, R4, sS4, K4, lu, ld, fun z => by cases z⟩, fun z => by omega⟩
        · rw [List.getElem?_set_ne (Ne.symm e)] at hb
          obtain ⟨q1, q2⟩ := hk' j b kb hb hkb
          obtain ⟨d1, d2, d3, d4, d5⟩ := neq j e
          exact ⟨fun z => (q1 (by omega)).step S34 c0 d1 d2 d3 d4 d5, fun z => (q2 (by omega)).step S34 c0 d1 d2 d3 d4 d5⟩
    · rintro σ H1 ⟨x2, ow', ka, rfl, S, l1, l2, B', hk'⟩
      rw [List.length_map] at hk'
      refine k _ ow' { G with ka := ka } S rfl ⟨B', by rw [List.length_map]; exact l1.trans hlen, fun j a kq h1 h2 => ?_⟩
      rw [List.getElem?_map] at h2
      cases e : ks[j]? with
      | none => rw [e] at h2; cases h2
      | some k0 =>
        rw [e] at h2
        obtain rfl := Option.some.inj h2
        have hj : j < ka.length := (List.getElem?_eq_some_iff.mp h1).1
        exact (hk' j a k0 h1 e).1 (by omega)
theorem sc_Garden_name : FnScope ["self", "mark", "label"] ["self", "mark", "label"] (defScope s_Garden_name) := ⟨rfl, rfl, rfl, by decide +kernel, rfl, by decide +kernel, by decide +kernel⟩
theorem ok_Garden_name (T : Tx K mg) (O_Garden_mend_all : Ok P w K mg base 4 at_Garden_mend_all ["self", "mark"] (sp_Garden_mend_all K)) (O_Garden_need_part : Ok P w K mg base 2 at_Garden_need_part ["self", "mark"] (sp_Garden_need_part K)) (O_is_label : Ok P w K mg base 1 at_is_label ["thing"] (sp_is_label K)) : Ok P w K mg base 5 at_Garden_name ["self", "mark", "label"] (sp_Garden_name K) := by
  refine mkOk T.d_Garden_name sc_Garden_name (fun _ _ _ _ _ _ us hl => match us, hl with | [_, _, _], _ => rfl) (fun vs H Q E h => ?_) (fun cdv A outer s H vs Q E hr h => ?_)
  · obtain ⟨ow, i, G, f, coming, ks, x, l, rfl, GA, hx, hl, k⟩ := h; rfl
  · obtain ⟨ow, i, G, f, coming, ks, x, l, rfl, GA, hx, hl, k⟩ := h
    refine ⟨_, (pss_cons (ps_expr (kme (K := K) (pv 0) O_Garden_need_part T.c_Garden T.m_Garden_need_part (hr.mono (by decide)) (pa_cons (pv 1) pa_nil)))
      (pss_cons (ps_if (pt_not (pt_val (kfn (K := K) O_is_label T.g_is_label (hr.mono (by decide)) (pa_cons (pv 2) pa_nil))))
        (pss_one ps_never)
        pss_nil)
      (pss_cons (kput (K := K) (pe_dget (hu_of hr) (kfld (K := K) (pv 0)) (pv 1) (fun _ _ => rfl)) (pv 2))
      (pss_one (ps_expr (kme (K := K) (pv 0) O_Garden_mend_all T.c_Garden T.m_Garden_mend_all (hr.mono (by decide)) (pa_cons (pv 1) pa_nil))))))), ?_⟩
    have B := GA.b
    have R := renF_ok B.wf hx hl
    have hm := node_mark hx
    refine ⟨_, rfl, mt_Garden_need_part B.obj ⟨_, rfl, ow, i, G, f, coming, x.m, rfl, B, hm, ?_⟩⟩
    refine ⟨_, rfl, l, rfl, hl, fun H1 s1 => ⟨true, rfl, ?_⟩⟩
    have GA1 := GA.same s1
    have B1 := GA1.b
    refine ⟨_, rfl, _, rfl, rd_Garden_plants T B1.obj ⟨_, rfl, G.L.pd, _, rfl, B1.pl.pd.get hm, wr_Plant_label T (B1.pl.pl x hx) ?_⟩⟩
    have S1 := (Step.same (C := gr i) B.own s1).trans (Step.put (C := gr i) (o := .ins (aPlant K) (G.L.X x.m) (fs_Plant (.str l) (oiv x.o) (.ref (G.L.U x.m)))) B1.own (B1.pl.pl x hx) (by rw [B1.pl.opl _ hm]; exact .inr rfl))
    have S2 := Step.put (C := fun r => ∃ m, r = .pl i m) (o := .ins (aPlant K) (G.L.X x.m) (fs_Plant (.str l) (oiv x.o) (.ref (G.L.U x.m)))) B1.own (B1.pl.pl x hx) ⟨x.m, B1.pl.opl _ hm⟩
    have nd := B.wf.nd
    have pls : ∀ y ∈ nodes none (renF x.m l f), upd H1 (G.L.P x.m) (.ins (aPlant K) (G.L.X x.m) (fs_Plant (.str l) (oiv x.o) (.ref (G.L.U x.m)))) (G.L.P y.m) = some (.ins (aPlant K) (G.L.X y.m) (fs_Plant (.str y.l) (oiv y.o) (.ref (G.L.U y.m)))) := by
      intro y hy
      rcases R.back y hy with rfl | ⟨h1, h2⟩
      · exact upd_same
      · rw [upd_ne (rne (B1.pl.opl _ (node_mark h1)) (B1.pl.opl _ hm) (fun z => h2 (Ro.pl.inj z).2))]
        exact B1.pl.pl y h1
    have uns : ∀ y ∈ nodes none (renF x.m l f), upd H1 (G.L.P x.m) (.ins (aPlant K) (G.L.X x.m) (fs_Plant (.str l) (oiv x.o) (.ref (G.L.U x.m)))) (G.L.U y.m) = some (.lst (iv y.ks)) := by
      intro y hy
      rw [upd_ne (fun z => by
        have hym := node_mark hy
        rw [R.mks] at hym
        exact rne (B1.pl.oun _ hym) (B1.pl.opl _ hm) (by simp) z)]
      rcases R.back y hy with rfl | ⟨h1, h2⟩
      · exact B1.pl.un x hx
      · exact B1.pl.un y h1
    have P2 : PlantsAt K (upd H1 (G.L.P x.m) (.ins (aPlant K) (G.L.X x.m) (fs_Plant (.str l) (oiv x.o) (.ref (G.L.U x.m))))) ow i G.L (renF x.m l f) := by
      refine ⟨R.wf.small, R.wf.nd, ?_, B1.pl.opd, pls, ?_, uns, ?_⟩
      · rw [R.mks]; exact B1.pl.pd.upd (rne B1.pl.opd (B1.pl.opl _ hm) (by simp))
      · rw [R.mks]; exact B1.pl.opl
      · rw [R.mks]; exact B1.pl.oun
    have B2 : GBase K (upd H1 (G.L.P x.m) (.ins (aPlant K) (G.L.X x.m) (fs_Plant (.str l) (oiv x.o) (.ref (G.L.U x.m))))) ow i G (renF x.m l f) coming :=
      ⟨S2.own, R.wf, by rw [upd_ne (rne B1.og (B1.pl.opl _ hm) (by simp))]; exact B1.obj, B1.og, P2, by rw [upd_ne (rne B1.okl (B1.pl.opl _ hm) (by simp))]; exact B1.kl, B1.okl⟩
    obtain ⟨w0, W, _⟩ := way_of R.up
    refine ⟨_, rfl, mt_Garden_mend_all B2.obj ⟨_, rfl, ow, i, G, renF x.m l f, coming, ks, x.m, w0, rfl, B2, W, GA.len, fun j a kq h1 h2 => ?_, fun H4 ow4 G4 S4 eg GA4 => k _ _ _ (S1.trans S4) eg GA4⟩⟩
    obtain ⟨T0, R0, sS, KK, lu, ld, _⟩ := GA1.kps j a kq h1 h2
    refine ⟨T0, R0, _, sS, KK.step S2 (by simp) (by simp) (by simp) (by simp) (by simp) (by simp), fun c h => by rw [R.mks]; exact h, fun y hy hw => ?_⟩
    rcases R.back y hy with rfl | ⟨h3, _⟩
    · exact absurd (by obtain ⟨w', rfl⟩ := W.head; exact List.mem_cons_self) hw
    · exact ⟨node_mark h3, lu y h3, ld y h3⟩
theorem sc_Garden_put : FnScope ["self", "upper", "at", "label", "deep", "mark"] ["self", "upper", "at", "label"] (defScope s_Garden_put) := ⟨rfl, rfl, rfl, by decide +kernel, rfl, by decide +kernel, by decide +kernel⟩
theorem ok_Garden_put (T : Tx K mg) (O_Garden_mend_all : Ok P w K mg base 4 at_Garden_mend_all ["self", "mark"] (sp_Garden_mend_all K)) (O_Garden_need_part : Ok P w K mg base 2 at_Garden_need_part ["self", "mark"] (sp_Garden_need_part K)) (O_Garden_way_up : Ok P w K mg base 1 at_Garden_way_up ["self", "mark"] (sp_Garden_way_up K)) (O_Plant_init : Ok P w K mg base 1 at_Plant_init ["self", "label", "upper"] (sp_Plant_init K)) (O_is_label : Ok P w K mg base 1 at_is_label ["thing"] (sp_is_label K)) (O_is_whole : Ok P w K mg base 1 at_is_whole ["thing"] (sp_is_whole K)) : Ok P w K mg base 5 at_Garden_put ["self", "upper", "at", "label"] (sp_Garden_put K) := by
  refine mkOk T.d_Garden_put sc_Garden_put (fun _ _ _ _ _ _ us hl => match us, hl with | [_, _, _, _], _ => rfl) (fun vs H Q E h => ?_) (fun cdv A outer s H vs Q E hr h => ?_)
  · obtain ⟨ow, i, G, f, coming, ks, x, at_, l, w0, rfl, GA, hx, hat, hl, hsz, W, hdeep, k⟩ := h; rfl
  · obtain ⟨ow, i, G, f, coming, ks, x, at_, l, w0, rfl, GA, hx, hat, hl, hsz, W, hdeep, k⟩ := h
    refine ⟨_, (pss_cons (ps_expr (kme (K := K) (pv 0) O_Garden_need_part T.c_Garden T.m_Garden_need_part (hr.mono (by decide)) (pa_cons (pv 1) pa_nil)))
      (pss_cons (ps_if (PW.pt (pw_or (pt_not (pt_val (kfn (K := K) O_is_whole T.g_is_whole (hr.mono (by decide)) (pa_cons (pv 2) pa_nil)))) (pw_or1 (pt_not (pt_chain op_le op_le pe_int (pv 2) (pe_callB (klen (K := K)) (by rfl) T.f_len PySem.boot_len (pa_cons (kfld (K := K) (pe_dget (hu_of hr) (kfld (K := K) (pv 0)) (pv 1) (fun _ _ => rfl))) pa_nil)))))))
        (pss_one ps_never)
        pss_nil)
      (pss_cons (ps_if (pt_not (pt_val (kfn (K := K) O_is_label T.g_is_label (hr.mono (by decide)) (pa_cons (pv 3) pa_nil))))
        (pss_one ps_never)
        pss_nil)
      (pss_cons (ps_if (pt_cmpR op_ge (pe_callB call_lenD (by rfl) T.f_len PySem.boot_len (pa_cons (kfld (K := K) (pv 0)) pa_nil)) (pgi T.i_MOST_PARTS_garden) (nomark _))
        (pss_one ps_never)
        pss_nil)
      (pss_cons (ps_set (i := 4) sc_Garden_put.nd rfl (by first | exact Or.inl rfl | exact Or.inr rfl) (pe_op op_add (pe_callB (klen (K := K)) (by rfl) T.f_len PySem.boot_len (pa_cons (kme (K := K) (pv 0) O_Garden_way_up T.c_Garden T.m_Garden_way_up (hr.mono (by decide)) (pa_cons (pv 1) pa_nil)) pa_nil)) pe_int))
      (pss_cons (ps_if (pt_cmpR op_gt (pv 4) (pgi T.i_MOST_DEEP_garden) (nomark _))
        (pss_one ps_never)
        pss_nil)
      (pss_cons (ps_set (i := 5) sc_Garden_put.nd rfl (by first | exact Or.inl rfl | exact Or.inr rfl) (kfld (K := K) (pv 0)))
      (pss_cons (kaug (K := K) (pv 0) pe_int)
      (pss_cons (ps_dput (hu_of hr) (kfld (K := K) (pv 0)) (pv 5) (kmk (K := K) O_Plant_init T.k_Plant T.g_Plant (hr.mono (by decide)) (pa_cons (pv 3) (pa_cons (pv 1) pa_nil))) rfl)
      (pss_cons (ps_expr (kbm (K := K) PySem.F.plainAttrs_list PySem.F.slot_list_insert PySem.F.type_list_insert kinsert (kfld (K := K) (pe_dget (hu_of hr) (kfld (K := K) (pv 0)) (pv 1) (fun _ _ => rfl))) (pa_cons (pv 2) (pa_cons (pv 5) pa_nil))))
      (pss_cons (ps_expr (kme (K := K) (pv 0) O_Garden_mend_all T.c_Garden T.m_Garden_mend_all (hr.mono (by decide)) (pa_cons (pv 5) pa_nil)))
      (pss_one (ps_ret (pv 5)))))))))))))), ?_⟩
    have B := GA.b
    have hm := node_mark hx
    have nd := B.wf.nd
    have hc0 : 0 ≤ coming := by have := B.wf.rng x.m hm; omega
    have F := putF_ok B.wf hx hat hl hsz hc0 W hdeep
    have hkl : x.ks.length ≤ 240 := by
      have h1 := sumZ_len nd (ks_marks hx)
      have h2 := szT_node nd hx
      omega
    refine ⟨_, rfl, mt_Garden_need_part B.obj ⟨_, rfl, ow, i, G, f, coming, x.m, rfl, B, hm, ?_⟩⟩
    refine ⟨_, rfl, (at_ : Int), rfl, true, rfl, _, rfl, 0, (at_ : Int), rfl, rfl, true, bt (by omega), ?_⟩
    refine ⟨_, rfl, rd_Garden_plants T B.obj ⟨_, rfl, G.L.pd, _, rfl, B.pl.pd.get hm, rd_Plant_under T (B.pl.pl x hx) ⟨_, _, rfl, .inl (SqL.of (B.pl.un x hx)), _, _, rfl, rfl, true, bt (by rw [len_iv]; omega), ?_⟩⟩⟩
    refine ⟨_, rfl, l, rfl, hl, fun H1 s1 => ⟨true, rfl, ?_⟩⟩
    have GA1 := GA.same s1
    have B1 := GA1.b
    obtain ⟨kvs, dd, ekv, DI, hdd⟩ := B1.pl.pd
    have hmk : (marks f).length = f.size := by rw [List.length_map, Fo.pre_length]
    have lkv : kvs.length < 240 := by
      rw [DI.len]
      have := List.Nodup.length_le_of_subset DI.nd fun m h => (hdd m).mp h
      omega
    refine ⟨_, rfl, rd_Garden_plants T B1.obj ⟨G.L.pd, kvs, rfl, ekv, _, 240, rfl, rfl, false, bf (by omega), ?_⟩⟩
    refine ⟨_, rfl, mt_Garden_way_up B1.obj ⟨_, rfl, ow, i, G, f, coming, x.m, w0, rfl, B1, W, fun H2 wl s2 n2 e2 => ⟨wl, _, rfl, .inl (SqL.of e2), _, 1, rfl, rfl, ?_⟩⟩⟩
    have GA2 := GA1.same s2
    have B2 := GA2.b
    refine ⟨_, rfl, _, 80, rfl, rfl, false, bf (by rw [len_iv]; omega), ?_⟩
    refine ⟨_, rfl, rd_Garden_coming T B2.obj ?_⟩
    refine ⟨_, rfl, G.g, _, _, _, _, rfl, B2.obj, T.c_Garden, T.n_Garden_coming, fs_Garden_coming, coming, 1, rfl, rfl, _, _, B2.obj, fs_Garden_len, ?_⟩
    rw [fs_Garden_put_coming]
    let C2 : Ro → Prop := fun r => r = .gar i ∨ r = .pd i ∨ (∃ m, r = .pl i m) ∨ ∃ m, r = .un i m
    have S3 := Step.put (C := C2) (o := .ins (aGarden K) G.dx (fs_Garden (.ref G.L.pd) (.ref G.kl) (.int (coming + 1)))) B2.own B2.obj (.inl B2.og)
    have g3 : upd H2 G.g (.ins (aGarden K) G.dx (fs_Garden (.ref G.L.pd) (.ref G.kl) (.int (coming + 1)))) G.g = some (.ins (aGarden K) G.dx (fs_Garden (.ref G.L.pd) (.ref G.kl) (.int (coming + 1)))) := upd_same
    have f3 : ∀ b o, b ≠ G.g → H2 b = some o → upd H2 G.g (.ins (aGarden K) G.dx (fs_Garden (.ref G.L.pd) (.ref G.kl) (.int (coming + 1)))) b = some o := fun b o h e => by rw [upd_ne h]; exact e
    show (tSeq _ _ _ _ (upd H2 G.g (.ins (aGarden K) G.dx (fs_Garden (.ref G.L.pd) (.ref G.kl) (.int (coming + 1))))))
    generalize upd H2 G.g (.ins (aGarden K) G.dx (fs_Garden (.ref G.L.pd) (.ref G.kl) (.int (coming + 1)))) = H3 at S3 g3 f3 ⊢
    have npg : G.L.pd ≠ G.g := rne B2.pl.opd B2.og (by simp)
    have nug : G.L.U x.m ≠ G.g := rne (B2.pl.oun _ hm) B2.og (by simp)
    have npu : G.L.pd ≠ G.L.U x.m := rne B2.pl.opd (B2.pl.oun _ hm) (by simp)
    have pd3 : DictAt H3 G.L.pd (· ∈ marks f) fun m => .ref (G.L.P m) := B2.pl.pd.of fun o e => f3 _ _ npg e
    refine ⟨_, rfl, _, rfl, fun px pdx npx npdx ne => ⟨px, pdx, l, some x.m, rfl, upd_same, fun u nu => ⟨rfl, ?_⟩⟩⟩
    -- the new plant
    have nu1 := upd_free nu
    have nu2 := upd_free nu1.2
    have S4 : Step C2 H3 ow (upd H3 pdx (.own px)) ow := Step.same S3.own (Same.up npdx)
    have npx4 : upd H3 pdx (.own px) px = none := by rw [upd_ne ne.symm]; exact npx
    have S5 := Step.new (C := C2) (o := .ins (aPlant K) pdx []) S4.own npx4 (.pl i coming)
    have S6 := Step.new (C := C2) (o := .lst []) S5.own nu (.un i coming)
    have nuw : u ≠ px := nu1.1
    have epx6 : upd (upd (upd H3 pdx (.own px)) px (.ins (aPlant K) pdx [])) u (.lst []) px = some (.ins (aPlant K) pdx []) := by rw [upd_ne nuw.symm]; exact upd_same
    have opx6 : owp (owp ow px (.pl i coming)) u (.un i coming) px = .pl i coming := by rw [owp_ne nuw.symm]; exact owp_same
    have S7 := Step.put (C := C2) (o := .ins (aPlant K) pdx (fs_Plant (.str l) (oiv (some x.m)) (.ref u))) S6.own epx6 (.inr (.inr (.inl ⟨coming, opx6⟩)))
    have S47 := ((S4.trans S5).trans S6).trans S7
    have f7 : Same H3 (upd (upd (upd (upd H3 pdx (.own px)) px (.ins (aPlant K) pdx [])) u (.lst [])) px (.ins (aPlant K) pdx (fs_Plant (.str l) (oiv (some x.m)) (.ref u)))) := (((Same.up npdx).new npx4).put nu2.2 |>.put npx)
    have px7 : (upd (upd (upd (upd H3 pdx (.own px)) px (.ins (aPlant K) pdx [])) u (.lst [])) px (.ins (aPlant K) pdx (fs_Plant (.str l) (oiv (some x.m)) (.ref u)))) px = some (.ins (aPlant K) pdx (fs_Plant (.str l) (oiv (some x.m)) (.ref u))) := upd_same
    have u7 : (upd (upd (upd (upd H3 pdx (.own px)) px (.ins (aPlant K) pdx [])) u (.lst [])) px (.ins (aPlant K) pdx (fs_Plant (.str l) (oiv (some x.m)) (.ref u)))) u = some (.lst []) := by rw [upd_ne nuw]; exact upd_same
    have ou7 : owp (owp ow px (.pl i coming)) u (.un i coming) u = .un i coming := owp_same
    generalize (upd (upd (upd (upd H3 pdx (.own px)) px (.ins (aPlant K) pdx [])) u (.lst [])) px (.ins (aPlant K) pdx (fs_Plant (.str l) (oiv (some x.m)) (.ref u)))) = H7 at S47 f7 px7 u7 ⊢
    generalize owp (owp ow px (.pl i coming)) u (.un i coming) = ow7 at S47 opx6 ou7
    have pd7 := pd3.same f7
    have opd7 : ow7 G.L.pd = .pd i := by obtain ⟨_, e⟩ := pd3.some; rw [S47.keep _ (some_ne e)]; exact B2.pl.opd
    obtain ⟨kv8, p1, p2⟩ := pd7.put (fun m h => h) (show (marks f).length ≤ 240 by omega) coming (.ref px)
    refine ⟨_, rfl, rd_Garden_plants T (f7 _ _ g3) ⟨_, rfl, G.L.pd, _, rfl, p1, ?_⟩⟩
    obtain ⟨_, epd7⟩ := pd7.some
    have S8 := S47.trans (Step.put (C := C2) (o := .dK kv8) S47.own epd7 (.inr (.inl opd7)))
    have npxp : px ≠ G.L.pd := rne opx6 opd7 (by simp)
    have nup : u ≠ G.L.pd := rne ou7 opd7 (by simp)
    have pd8 := p2 (upd H7 G.L.pd (.dK kv8)) upd_same
    have px8 : upd H7 G.L.pd (.dK kv8) px = _ := (upd_ne npxp).trans px7
    have u8 : upd H7 G.L.pd (.dK kv8) u = _ := (upd_ne nup).trans u7
    have f8 : ∀ b o, b ≠ G.g → b ≠ G.L.pd → H2 b = some o → upd H7 G.L.pd (.dK kv8) b = some o := fun b o h1 h2 e => by rw [upd_ne h2]; exact f7 _ _ (f3 b o h1 e)
    have g8 : upd H7 G.L.pd (.dK kv8) G.g = _ := (upd_ne npg.symm).trans (f7 _ _ g3)
    generalize upd H7 G.L.pd (.dK kv8) = H8 at S8 pd8 px8 u8 f8 g8 ⊢
    have hcm : ∀ m ∈ marks f, m ≠ coming := fun m h z => by have := (B.wf.rng m h).2; omega
    have un8 : H8 (G.L.U x.m) = some (.lst (iv x.ks)) := f8 _ _ nug npu.symm (B2.pl.un x hx)
    have pl8 := f8 (G.L.P x.m) _ (rne (B2.pl.opl _ hm) B2.og (by simp)) (rne (B2.pl.opl _ hm) B2.pl.opd (by simp)) (B2.pl.pl x hx)
    have gx := pd8.get (m := x.m) (.inl hm)
    rw [if_neg (hcm _ hm)] at gx
    refine ⟨_, rfl, rd_Garden_plants T g8 ⟨_, rfl, G.L.pd, _, rfl, gx, rd_Plant_under T pl8 ⟨tyL un8, _, rfl, _, rfl, G.L.U x.m, _, _, _, rfl, rfl, un8, ?_, by omega, by omega, ?_⟩⟩⟩
    · rw [len_iv]; exact Nat.lt_of_le_of_lt hkl (by decide)
    have eins : (iv x.ks).take ((at_ : Int)).toNat ++ [V.int coming] ++ (iv x.ks).drop ((at_ : Int)).toNat = iv (x.ks.take at_ ++ coming :: x.ks.drop at_) := by
      rw [Int.toNat_natCast]
      unfold iv
      rw [List.map_append, List.map_cons, List.map_take, List.map_drop]
      simp
    rw [eins]
    have ou8 : ow7 (G.L.U x.m) = .un i x.m := by rw [S47.keep _ (some_ne (f3 _ _ nug (B2.pl.un x hx)))]; exact B2.pl.oun _ hm
    have S9 := S3.trans (S8.trans (Step.put (C := C2) (o := .lst (iv (x.ks.take at_ ++ coming :: x.ks.drop at_))) S8.own un8 (.inr (.inr (.inr ⟨x.m, ou8⟩)))))
    have keep7 : ∀ b, H2 b ≠ none → ow7 b = ow b := S9.keep
    have f9 : ∀ b o, b ≠ G.g → b ≠ G.L.pd → b ≠ G.L.U x.m → H2 b = some o → upd H8 (G.L.U x.m) (.lst (iv (x.ks.take at_ ++ coming :: x.ks.drop at_))) b = some o := fun b o h1 h2 h3 e => by rw [upd_ne h3]; exact f8 b o h1 h2 e
    have px9 : upd H8 (G.L.U x.m) (.lst (iv (x.ks.take at_ ++ coming :: x.ks.drop at_))) px = _ := (upd_ne (rne opx6 ou8 (by simp))).trans px8
    have u9 : upd H8 (G.L.U x.m) (.lst (iv (x.ks.take at_ ++ coming :: x.ks.drop at_))) u = _ := (upd_ne (rne ou7 ou8 (fun z => hcm _ hm (Ro.un.inj z).2.symm))).trans u8
    have pd9 : DictAt (upd H8 (G.L.U x.m) (.lst (iv (x.ks.take at_ ++ coming :: x.ks.drop at_)))) G.L.pd _ _ := pd8.upd npu
    have un9 : upd H8 (G.L.U x.m) (.lst (iv (x.ks.take at_ ++ coming :: x.ks.drop at_))) (G.L.U x.m) = some (.lst (iv (x.ks.take at_ ++ coming :: x.ks.drop at_))) := upd_same
    have g9 : upd H8 (G.L.U x.m) (.lst (iv (x.ks.take at_ ++ coming :: x.ks.drop at_))) G.g = _ := (upd_ne nug.symm).trans g8
    generalize upd H8 (G.L.U x.m) (.lst (iv (x.ks.take at_ ++ coming :: x.ks.drop at_))) = H9 at S9 f9 px9 u9 pd9 un9 g9 ⊢
    let L' : PAd := { pd := G.L.pd, P := fun m => if m = coming then px else G.L.P m, U := fun m => if m = coming then u else G.L.U m, X := fun m => if m = coming then pdx else G.L.X m }
    have lP : ∀ m ∈ marks f, L'.P m = G.L.P m ∧ L'.U m = G.L.U m ∧ L'.X m = G.L.X m := fun m h => ⟨if_neg (hcm m h), if_neg (hcm m h), if_neg (hcm m h)⟩
    have lC : L'.P coming = px ∧ L'.U coming = u ∧ L'.X coming = pdx := ⟨if_pos rfl, if_pos rfl, if_pos rfl⟩
    have P9 : PlantsAt K H9 ow7 i L' (putF' x.m at_ (coming, l) f) := by
      refine ⟨F.wf.small, F.wf.nd, ?_, opd7, fun y hy => ?_, fun m h => ?_, fun y hy => ?_, fun m h => ?_⟩
      · refine pd9.iff (fun m => (F.mks m).symm) fun m _ => ?_
        show (if m = coming then V.ref px else V.ref (G.L.P m)) = V.ref (if m = coming then px else G.L.P m)
        split <;> rfl
      · rcases F.back y hy with rfl | rfl | ⟨h1, h2⟩
        · rw [lC.1, lC.2.1, lC.2.2]; exact px9
        · show H9 (L'.P x.m) = _
          rw [(lP _ hm).1, (lP _ hm).2.1, (lP _ hm).2.2]
          exact f9 _ _ (rne (B2.pl.opl _ hm) B2.og (by simp)) (rne (B2.pl.opl _ hm) B2.pl.opd (by simp)) (rne (B2.pl.opl _ hm) (B2.pl.oun _ hm) (by simp)) (B2.pl.pl x hx)
        · have hym := node_mark h1
          rw [(lP _ hym).1, (lP _ hym).2.1, (lP _ hym).2.2]
          exact f9 _ _ (rne (B2.pl.opl _ hym) B2.og (by simp)) (rne (B2.pl.opl _ hym) B2.pl.opd (by simp)) (rne (B2.pl.opl _ hym) (B2.pl.oun _ hm) (by simp)) (B2.pl.pl y h1)
      · rcases (F.mks m).mp h with h | rfl
        · obtain ⟨y, hy, rfl⟩ := mark_node none h
          rw [(lP _ h).1, keep7 _ (some_ne (B2.pl.pl y hy))]; exact B2.pl.opl _ h
        · rw [lC.1]; exact opx6
      · rcases F.back y hy with rfl | rfl | ⟨h1, h2⟩
        · rw [lC.2.1]; exact u9
        · show H9 (L'.U x.m) = _
          rw [(lP _ hm).2.1]; exact un9
        · have hym := node_mark h1
          rw [(lP _ hym).2.1]
          exact f9 _ _ (rne (B2.pl.oun _ hym) B2.og (by simp)) (rne (B2.pl.oun _ hym) B2.pl.opd (by simp)) (rne (B2.pl.oun _ hym) (B2.pl.oun _ hm) (fun z => h2 (Ro.un.inj z).2)) (B2.pl.un y h1)
      · rcases (F.mks m).mp h with h | rfl
        · obtain ⟨y, hy, rfl⟩ := mark_node none h
          rw [(lP _ h).2.1, keep7 _ (some_ne (B2.pl.un y hy))]; exact B2.pl.oun _ h
        · rw [lC.2.1]; exact ou7
    have B9 : GBase K H9 ow7 i { G with L := L' } (putF' x.m at_ (coming, l) f) (coming + 1) :=
      ⟨S9.own, F.wf, g9, by show ow7 G.g = _; rw [keep7 _ (some_ne B2.obj)]; exact B2.og, P9, f9 _ _ (rne B2.okl B2.og (by simp)) (rne B2.okl B2.pl.opd (by simp)) (rne B2.okl (B2.pl.oun _ hm) (by simp)) B2.kl, by show ow7 G.kl = _; rw [keep7 _ (some_ne B2.kl)]; exact B2.okl⟩
    obtain ⟨w9, W9, _⟩ := way_of F.new
    have inj9 : ∀ a ∈ nodes none (putF' x.m at_ (coming, l) f), ∀ b ∈ nodes none (putF' x.m at_ (coming, l) f), a.m = b.m → a = b := fun a ha b hb e => node_eq F.wf.nd ha hb e
    have SG : Step (gr i) H ow H9 ow7 := (Step.same (C := gr i) B.own (s1.trans s2)).trans (S9.mono (C' := gr i) (by
      rintro r (rfl | rfl | ⟨m, rfl⟩ | ⟨m, rfl⟩) <;> exact .inr rfl))
    refine ⟨_, rfl, mt_Garden_mend_all B9.obj ⟨_, rfl, ow7, i, { G with L := L' }, putF' x.m at_ (coming, l) f, coming + 1, ks, coming, w9, rfl, B9, W9, GA.len, fun j a kq h1 h2 => ?_, fun H10 ow10 G10 S10 eg GA10 => ⟨_, rfl, k _ _ _ (SG.trans S10) eg GA10⟩⟩⟩
    obtain ⟨T0, R0, sS, KK, lu, ld, _⟩ := GA2.kps j a kq h1 h2
    refine ⟨T0, R0, _, sS, KK.step S9 (by simp [C2]) (by simp [C2]) (by simp [C2]) (by simp [C2]) (by simp [C2]) (by simp [C2]), fun c h => (F.mks c).mpr (.inl h), fun y hy hw => ?_⟩
    rcases F.back y hy with rfl | rfl | ⟨h3, _⟩
    · exact absurd (by obtain ⟨w', rfl⟩ := W9.head; exact List.mem_cons_self) hw
    · obtain ⟨w', ew⟩ := W9.head
      have := W9.next inj9 F.new (i := 0) (by rw [ew]; rfl) rfl
      exact absurd (List.mem_of_getElem? this) hw
    · exact ⟨node_mark h3, lu y h3, ld y h3⟩
theorem sc_Garden_take : FnScope ["self", "mark", "upper", "gone", "other", "keeping"] ["self", "mark"] (defScope s_Garden_take) := ⟨rfl, rfl, rfl, by decide +kernel, rfl, by decide +kernel, by decide +kernel⟩
theorem ok_Garden_take (T : Tx K mg) (O_Garden_beneath_too : Ok P w K mg base 1 at_Garden_beneath_too ["self", "mark"] (sp_Garden_beneath_too K)) (O_Garden_mend_all : Ok P w K mg base 4 at_Garden_mend_all ["self", "mark"] (sp_Garden_mend_all K)) (O_Garden_need_part : Ok P w K mg base 2 at_Garden_need_part ["self", "mark"] (sp_Garden_need_part K)) (O_Keeping_forget : Ok P w K mg base 1 at_Keeping_forget ["self", "marks"] (sp_Keeping_forget K)) : Ok P w K mg base 5 at_Garden_take ["self", "mark"] (sp_Garden_take K) := by
  refine mkOk T.d_Garden_take sc_Garden_take (fun _ _ _ _ _ _ us hl => match us, hl with | [_, _], _ => rfl) (fun vs H Q E h => ?_) (fun cdv A outer s H vs Q E hr h => ?_)
  · obtain ⟨ow, i, G, f, coming, ks, x, p, rfl, GA, hx, hp, ho, k⟩ := h; rfl
  · obtain ⟨ow, i, G, f, coming, ks, x, p, rfl, GA, hx, hp, ho, k⟩ := h
    refine ⟨_, (pss_cons (ps_expr (kme (K := K) (pv 0) O_Garden_need_part T.c_Garden T.m_Garden_need_part (hr.mono (by decide)) (pa_cons (pv 1) pa_nil)))
      (pss_cons (ps_set (i := 2) sc_Garden_take.nd rfl (by first | exact Or.inl rfl | exact Or.inr rfl) (kfld (K := K) (pe_dget (hu_of hr) (kfld (K := K) (pv 0)) (pv 1) (fun _ _ => rfl))))
      (pss_cons (ps_if (pt_cmpR op_isN (pv 2) pe_non (nomark _))
        (pss_one ps_never)
        pss_nil)
      (pss_cons (ps_set (i := 3) sc_Garden_take.nd rfl (by first | exact Or.inl rfl | exact Or.inr rfl) (kme (K := K) (pv 0) O_Garden_beneath_too T.c_Garden T.m_Garden_beneath_too (hr.mono (by decide)) (pa_cons (pv 1) pa_nil)))
      (pss_cons (ps_expr (kbm (K := K) PySem.F.plainAttrs_list PySem.F.slot_list_remove PySem.F.type_list_remove kremove (kfld (K := K) (pe_dget (hu_of hr) (kfld (K := K) (pv 0)) (pv 2) (fun _ _ => rfl))) (pa_cons (pv 1) pa_nil)))
      (pss_cons (ps_for PassesOwn.never rfl (kpiL (K := K) (pv 3)) (pg_name (i := 4) sc_Garden_take.nd rfl (by first | exact Or.inl rfl | exact Or.inr rfl))
        (pss_one (ps_expr (pe_dpop1 (kfld (K := K) (pv 0)) (pv 4) ⟨rfl, rfl, rfl, rfl⟩))))
      (pss_cons (ps_for PassesOwn.never rfl (kpiL (K := K) (kfld (K := K) (pv 0))) (pg_name (i := 5) sc_Garden_take.nd rfl (by first | exact Or.inl rfl | exact Or.inr rfl))
        (pss_one (ps_expr (kme (K := K) (pv 5) O_Keeping_forget T.c_Keeping T.m_Keeping_forget (hr.mono (by decide)) (pa_cons (pv 3) pa_nil)))))
      (pss_cons (ps_expr (kme (K := K) (pv 0) O_Garden_mend_all T.c_Garden T.m_Garden_mend_all (hr.mono (by decide)) (pa_cons (pv 2) pa_nil)))
      (pss_one (ps_ret (pv 3))))))))))), ?_⟩
    have B := GA.b
    have hm := node_mark hx
    have hpm := node_mark hp
    have nd := B.wf.nd
    have F := cutF_ok B.wf hx hp ho
    refine ⟨_, rfl, mt_Garden_need_part B.obj ⟨_, rfl, ow, i, G, f, coming, x.m, rfl, B, hm, ?_⟩⟩
    refine ⟨_, rfl, rd_Garden_plants T B.obj ⟨_, rfl, G.L.pd, _, rfl, B.pl.pd.get hm, rd_Plant_over T (B.pl.pl x hx) ?_⟩⟩
    rw [ho]
    refine ⟨_, rfl, rfl, false, rfl, ?_⟩
    refine ⟨_, rfl, mt_Garden_beneath_too B.obj ⟨_, rfl, ow, i, G, f, coming, x.m, rfl, B, hm, fun H1 gl s1 n1 e1 => ?_⟩⟩
    have GA1 := GA.same s1
    have B1 := GA1.b
    have ogl : ow gl = .out := B.own.new n1
    have hxk : x.m ∈ p.ks := by
      obtain ⟨z, hz, q1, q2⟩ := over_top hx ho
      obtain rfl := node_eq nd hz hp q1
      exact q2
    obtain ⟨j0, j1, j2, j3⟩ := erase_at x.m p.ks hxk
    refine ⟨_, rfl, rd_Garden_plants T B1.obj ⟨_, rfl, G.L.pd, _, rfl, B1.pl.pd.get hpm, rd_Plant_under T (B1.pl.pl p hp) ⟨tyL (B1.pl.un p hp), _, rfl, G.L.U p.m, p.ks, x.m, j0, rfl, rfl, B1.pl.un p hp, j1, j2, ?_⟩⟩⟩
    let C2 : Ro → Prop := fun r => r = .pd i ∨ ∃ m, r = .un i m
    have S2 := Step.put (C := C2) (o := .lst ((p.ks.eraseIdx j0).map V.int)) B1.own (B1.pl.un p hp) (.inr ⟨p.m, B1.pl.oun _ hpm⟩)
    have un2 : upd H1 (G.L.U p.m) (.lst ((p.ks.eraseIdx j0).map V.int)) (G.L.U p.m) = some (.lst (iv (p.ks.erase x.m))) := by rw [upd_same, j3]
    have f2 : ∀ b o, b ≠ G.L.U p.m → H1 b = some o → upd H1 (G.L.U p.m) (.lst ((p.ks.eraseIdx j0).map V.int)) b = some o := fun b o h e => by rw [upd_ne h]; exact e
    generalize upd H1 (G.L.U p.m) (.lst ((p.ks.eraseIdx j0).map V.int)) = H2 at S2 un2 f2 ⊢
    have c2out : ¬ C2 .out := by simp [C2]
    have egl2 : H2 gl = some (.lst (iv (subM f x.m))) := S2.fr _ _ (by rw [ogl]; exact c2out) e1
    have pd2 : DictAt H2 G.L.pd (· ∈ marks f) fun m => .ref (G.L.P m) := B1.pl.pd.of fun o e => f2 _ _ (rne B1.pl.opd (B1.pl.oun _ hpm) (by simp)) e
    have g2 := f2 _ _ (rne B1.og (B1.pl.oun _ hpm) (by simp)) B1.obj
    refine ⟨_, rfl, gl, rfl, ⟨_, SqL.of egl2⟩, ?_⟩
    refine for_it (walk_list (xs := iv (subM f x.m))) (fun n σ H' => ∃ (x4 : Option V), σ = [some (.ref G.g), some (.int x.m), some (.int p.m), some (.ref gl), x4, none] ∧ Step C2 H1 ow H' ow ∧ DictAt H' G.L.pd (fun m => m ∈ marks f ∧ m ∉ (subM f x.m).take n) (fun m => .ref (G.L.P m)) ∧ (∀ b o, b ≠ G.L.pd → H2 b = some o → H' b = some o)) ?_ ?_ ?_ ?_
    · exact ⟨none, rfl, S2, pd2.iff (fun m => by simp) fun _ _ => rfl, fun _ _ _ e => e⟩
    · rintro n σ H' _ ⟨x4, rfl, S, D, fr⟩
      exact SqL.of (S.fr _ _ (by rw [ogl]; exact c2out) e1)
    · rintro n v σ H3 H4 hn ⟨x4, rfl, S, D, fr⟩ ⟨rfl, ev⟩
      obtain ⟨c, hc, rfl⟩ := iv_at' ev
      have hin : c ∈ marks f ∧ c ∉ (subM f x.m).take n := ⟨F.sub c (List.mem_of_getElem? hc), fun h => nodup_take_drop F.nd h (by rw [mem_drop_iff F.nd hc]; exact .inl rfl)⟩
      have g3 := fr _ _ (rne B1.og B1.pl.opd (by simp)) g2
      obtain ⟨kv1, a1, a2, a3⟩ := D.pop hin
      refine ⟨_, rfl, rd_Garden_plants T g3 ⟨G.L.pd, rfl, D.isD, _, rfl, kv1, .inl c, _, a1, rfl, a2, _, rfl, S.trans (Step.put (C := C2) S.own a1 (.inl B1.pl.opd)), (a3 _ upd_same).iff (fun m => ?_) fun _ _ => rfl, fun b o hb e => by rw [upd_ne hb]; exact fr b o hb e⟩⟩
      rw [mem_take_iff hc, not_or, and_assoc]
    rintro σ H3 ⟨x4, rfl, S3, D3, fr3⟩
    rw [len_iv, List.take_length] at D3
    have g3 := fr3 _ _ (rne B1.og B1.pl.opd (by simp)) g2
    have f3 : ∀ b o, b ≠ G.L.pd → b ≠ G.L.U p.m → H1 b = some o → H3 b = some o := fun b o h1 h2 e => fr3 b o h1 (f2 b o h2 e)
    have un3 : H3 (G.L.U p.m) = some (.lst (iv (p.ks.erase x.m))) := fr3 _ _ (rne B1.pl.opd (B1.pl.oun _ hpm) (by simp)).symm un2
    have mk1 : ∀ m ∈ marks (cutF p.m x.m f), m ∈ marks f := fun m h => ((F.mks m).mp h).1
    have P3 : PlantsAt K H3 ow i G.L (cutF p.m x.m f) := by
      refine ⟨F.wf.small, F.wf.nd, D3.iff (fun m => (F.mks m).symm) fun _ _ => rfl, B1.pl.opd, fun y hy => ?_, fun m h => B1.pl.opl m (mk1 m h), fun y hy => ?_, fun m h => B1.pl.oun m (mk1 m h)⟩
      · rcases F.back y hy with rfl | ⟨h1, h2⟩
        · exact f3 _ _ (rne (B1.pl.opl _ hpm) B1.pl.opd (by simp)) (rne (B1.pl.opl _ hpm) (B1.pl.oun _ hpm) (by simp)) (B1.pl.pl p hp)
        · have hym := node_mark h1
          exact f3 _ _ (rne (B1.pl.opl _ hym) B1.pl.opd (by simp)) (rne (B1.pl.opl _ hym) (B1.pl.oun _ hpm) (by simp)) (B1.pl.pl y h1)
      · rcases F.back y hy with rfl | ⟨h1, h2⟩
        · exact un3
        · have hym := node_mark h1
          exact f3 _ _ (rne (B1.pl.oun _ hym) B1.pl.opd (by simp)) (rne (B1.pl.oun _ hym) (B1.pl.oun _ hpm) (fun z => h2 (Ro.un.inj z).2)) (B1.pl.un y h1)
    have B3 : GBase K H3 ow i G (cutF p.m x.m f) coming :=
      ⟨S3.own, F.wf, g3, B1.og, P3, f3 _ _ (rne B1.okl B1.pl.opd (by simp)) (rne B1.okl (B1.pl.oun _ hpm) (by simp)) B1.kl, B1.okl⟩
    have egl3 : H3 gl = some (.lst (iv (subM f x.m))) := S3.fr _ _ (by rw [ogl]; exact c2out) e1
    have ke : ∀ (j : Nat) (a : KA) (kq : Qs Str × Bool), G.ka[j]? = some a → ks[j]? = some kq → ∃ (T : Tb) (R : Int → Addr) (sS : Int → Prop), KeepAt K H3 ow i j a kq.1 T R (· ∈ marks f) (· ∈ marks f) (· ∈ marks f) sS ∧ (∀ x ∈ nodes none f, LU kq.1 T x) ∧ (∀ x ∈ nodes none f, LD kq.1 T x) := by
      intro j a kq h1 h2
      obtain ⟨T0, R0, sS, KK, lu, ld, _⟩ := GA1.kps j a kq h1 h2
      exact ⟨T0, R0, sS, KK.step S3 c2out (by simp [C2]) (by simp [C2]) (by simp [C2]) (by simp [C2]) (by simp [C2]), lu, ld⟩
    let C3 : Ro → Prop := fun r => ∃ j, kr i j r
    have d0 : ¬ C3 .out := by simp [C3, kr]
    have d1 : ¬ C3 (.gar i) := by simp [C3, kr]
    have d2 : ¬ C3 (.pd i) := by simp [C3, kr]
    have d3 : ∀ m, ¬ C3 (.pl i m) := by simp [C3, kr]
    have d4 : ∀ m, ¬ C3 (.un i m) := by simp [C3, kr]
    have d5 : ¬ C3 (.kl i) := by simp [C3, kr]
    have S13 : Step (gr i) H ow H3 ow := (Step.same (C := gr i) B.own s1).trans (S3.mono (C' := gr i) (by
      rintro r (rfl | ⟨m, rfl⟩) <;> exact .inr rfl))
    refine ⟨_, rfl, rd_Garden_kept T B3.obj ⟨_, rfl, ⟨_, SqL.of B3.kl⟩, ?_⟩⟩
    refine for_it (walk_list (xs := G.ka.map fun a => V.ref a.kp)) (fun n σ H' => ∃ (x5 : Option V), σ = [some (.ref G.g), some (.int x.m), some (.int p.m), some (.ref gl), x4, x5] ∧ Step C3 H3 ow H' ow ∧
      (∀ (j : Nat) (a : KA) (kq : Qs Str × Bool), G.ka[j]? = some a → ks[j]? = some kq → ∃ (T : Tb) (R : Int → Addr) (sS d : Int → Prop), KeepAt K H' ow i j a kq.1 T R d d d sS ∧ (∀ x ∈ nodes none f, LU kq.1 T x) ∧ (∀ x ∈ nodes none f, LD kq.1 T x) ∧ d = if j < n then (fun c => c ∈ marks f ∧ c ∉ subM f x.m) else (· ∈ marks f))) ?_ ?_ ?_ ?_
    · refine ⟨none, rfl, Step.refl B3.own, fun j a kq h1 h2 => ?_⟩
      obtain ⟨T0, R0, sS, KK, lu, ld⟩ := ke j a kq h1 h2
      exact ⟨T0, R0, sS, _, KK, lu, ld, by rw [if_neg (Nat.not_lt_zero j)]⟩
    · rintro n σ H' _ ⟨x5, rfl, S, _⟩
      exact SqL.of (B3.step' S d1 d2 d3 d4 d5).kl
    · rintro n v σ H4 H5 hn ⟨x5, rfl, S, hk'⟩ ⟨rfl, ev⟩
      rw [List.length_map] at hn
      have hka : G.ka[n]? = some G.ka[n] := List.getElem?_eq_getElem _
      have hks : ks[n]? = some (ks[n]'(by rw [← GA.len]; exact hn)) := List.getElem?_eq_getElem _
      generalize G.ka[n] = a at hka
      generalize (ks[n]'(by rw [← GA.len]; exact hn)) = kq at hks
      have evv : v = .ref a.kp := by
        rw [List.getElem?_map, hka] at ev
        exact (Option.some.inj ev).symm
      subst evv
      obtain ⟨T0, R0, sS, d, KK, lu, ld, ed⟩ := hk' n a kq hka hks
      rw [if_neg (Nat.lt_irrefl n)] at ed
      subst ed
      have egl4 : H5 gl = some (.lst (iv (subM f x.m))) := S.fr _ _ (by rw [ogl]; exact d0) egl3
      refine ⟨_, rfl, mt_Keeping_forget KK.obj ⟨_, rfl, ow, i, n, a, kq.1, T0, R0, (· ∈ marks f), sS, subM f x.m, gl, rfl, S.own, KK, egl4, ogl, F.nd, F.sub, fun H6 S6 K6 => ?_⟩⟩
      refine ⟨_, rfl, S.trans (S6.mono (C' := C3) fun r h => ⟨n, h⟩), fun j b kb hb hkb => ?_⟩
      by_cases e : j = n
      · subst e
        rw [hka] at hb
        obtain rfl := Option.some.inj hb
        rw [hks] at hkb
        obtain rfl := Option.some.inj hkb
        exact ⟨T0, R0, sS, _, K6, lu, ld, by rw [if_pos (Nat.lt_succ_self j)]⟩
      · obtain ⟨T1, R1, sS1, d1', K1, lu1, ld1, ed1⟩ := hk' j b kb hb hkb
        have q : ¬ kr i n (.kp i j) ∧ ¬ kr i n (.dn i j) ∧ ¬ kr i n (.bn i j) ∧ ¬ kr i n (.ps i j) ∧ ¬ kr i n (.sn i j) ∧ ¬ kr i n .out := by unfold kr; simp [e]
        refine ⟨T1, R1, sS1, d1', K1.step S6 q.2.2.2.2.2 q.1 q.2.1 q.2.2.1 q.2.2.2.1 q.2.2.2.2.1, lu1, ld1, ?_⟩
        rw [ed1]
        by_cases z : j < n
        · rw [if_pos z, if_pos (by omega)]
        · rw [if_neg z, if_neg (by omega)]
    rintro σ H4 ⟨x5, rfl, S4, hk'⟩
    rw [List.length_map] at hk'
    have B4 := B3.step' S4 d1 d2 d3 d4 d5
    have S14 : Step (gr i) H ow H4 ow := S13.trans (S4.mono (C' := gr i) fun r ⟨j, h⟩ => kr_gr r h)
    obtain ⟨w9, W9, _⟩ := way_of F.up
    refine ⟨_, rfl, mt_Garden_mend_all B4.obj ⟨_, rfl, ow, i, G, cutF p.m x.m f, coming, ks, p.m, w9, rfl, B4, W9, GA.len, fun j a kq h1 h2 => ?_, fun H5 ow5 G5 S5 eg GA5 => ⟨_, rfl, k _ _ _ _ (S14.trans S5) eg GA5 ?_⟩⟩⟩
    · obtain ⟨T0, R0, sS, d, KK, lu, ld, ed⟩ := hk' j a kq h1 h2
      have hj := (List.getElem?_eq_some_iff.mp h1).1
      rw [if_pos hj] at ed
      subst ed
      refine ⟨T0, R0, _, sS, KK, fun c h => (F.mks c).mpr h, fun y hy hw => ?_⟩
      rcases F.back y hy with rfl | ⟨h3, _⟩
      · exact absurd (by obtain ⟨w', rfl⟩ := W9.head; exact List.mem_cons_self) hw
      · exact ⟨(F.mks y.m).mp (node_mark hy), lu y h3, ld y h3⟩
    · exact S5.hid gr_out _ _ (S4.hid d0 _ _ (hid_some.mpr ⟨ogl, egl3⟩))
end
end Bg

set_option Elab.async false
set_option linter.all false
set_option maxRecDepth 100000
set_option maxHeartbeats 4000000
namespace Bg
open PySem PySem.Spec PyProof.Rows L2
/-! ### a question kept -/
def sp_Garden_keep (K : PySem.W.Frag) : Sp := fun vs H Q _ => ∃ (ow : Ow) (i : Nat) (G : GAd) (f : GF Str) (coming : Int) (ks : List (Qs Str × Bool)) (qa : Addr) (q : Qs Str), vs = [.ref G.g, .ref qa] ∧ GardenAt K H ow i G f coming ks ∧ QAt K H qa q ∧ ks.length < 12 ∧
  ∀ H' ow' G', Step (gr i) H ow H' ow' → G'.g = G.g → GardenAt K H' ow' i G' f coming (ks ++ [(q, true)]) → Q (.int ks.length) H'
theorem drop_idx {l : List Int} (nd : l.Nodup) {a b : Nat} {c : Int} (h : l[b]? = some c) (hm : c ∈ l.drop a) : a ≤ b := by
  obtain ⟨k, hk⟩ := List.getElem?_of_mem hm
  rw [List.getElem?_drop] at hk
  have h1 := (List.getElem?_eq_some_iff.mp h)
  have h2 := (List.getElem?_eq_some_iff.mp hk)
  have : a + k = b := (List.getElem_inj nd).mp (h2.2.trans h1.2.symm)
  omega
theorem take_idx {l : List Int} (nd : l.Nodup) {a b : Nat} {c : Int} (h : l[b]? = some c) (hm : c ∈ l.take a) : b < a := by
  obtain ⟨k, hk⟩ := List.getElem?_of_mem hm
  rw [List.getElem?_take] at hk
  split at hk
  · have h1 := (List.getElem?_eq_some_iff.mp h)
    have h2 := (List.getElem?_eq_some_iff.mp hk)
    have : k = b := (List.getElem_inj nd).mp (h2.2.trans h1.2.symm)
    omega
  · cases hk
theorem nodes_cut {f : GF Str} {a : Nat} {y : Nd Str} (h : (nodes none f)[a]? = some y) : nodes none f = (nodes none f).take a ++ y :: (nodes none f).drop (a + 1) := by
  have hl := (List.getElem?_eq_some_iff.mp h).1
  rw [List.getElem?_eq_getElem hl] at h
  rw [← Option.some.inj h, ← List.drop_eq_getElem_cons hl, List.take_append_drop]
theorem kid_drop {f : GF Str} (nd : (marks f).Nodup) {a : Nat} {y : Nd Str} (h : (nodes none f)[a]? = some y) {c : Int} (hc : c ∈ y.ks) : c ∈ (marks f).drop (a + 1) := by
  have := kid_behind nd (nodes_cut h) hc
  rw [← nodes_m f none, ← List.map_drop]; exact this
theorem over_take {f : GF Str} (nd : (marks f).Nodup) {a : Nat} {y : Nd Str} (h : (nodes none f)[a]? = some y) {u : Int} (hu : y.o = some u) : u ∈ (marks f).take a := by
  have := over_ahead nd (nodes_cut h) hu
  rw [← nodes_m f none, ← List.map_take]; exact this
theorem node_at {f : GF Str} {n : Nat} {c : Int} (h : (marks f)[n]? = some c) : ∃ x, (nodes none f)[n]? = some x ∧ x ∈ nodes none f ∧ x.m = c := by
  rw [← nodes_m f none, List.getElem?_map] at h
  cases e : (nodes none f)[n]? with
  | none => rw [e] at h; cases h
  | some x => rw [e] at h; exact ⟨x, rfl, List.mem_of_getElem? e, Option.some.inj h⟩
def own5 (ow : Ow) (i j : Nat) (A : KA) : Ow := fun b => if b = A.kp then .kp i j else if b = A.dn then .dn i j else if b = A.bn then .bn i j else if b = A.ps then .ps i j else if b = A.sn then .sn i j else ow b
section
variable {P : Program} {w : World} {K : PySem.W.Frag} {mg : Str → Option Value} {base : Heap}
theorem sc_Garden_keep : FnScope ["self", "question", "keeping", "marks", "mark"] ["self", "question"] (defScope s_Garden_keep) := ⟨rfl, rfl, rfl, by decide +kernel, rfl, by decide +kernel, by decide +kernel⟩
theorem ok_Garden_keep (T : Tx K mg) (O_Garden_marks : Ok P w K mg base 2 at_Garden_marks ["self"] (sp_Garden_marks K)) (O_Keeping_init : Ok P w K mg base 5 at_Keeping_init ["self", "question"] (sp_Keeping_init K)) (O_Keeping_look_down : Ok P w K mg base 2 at_Keeping_look_down ["self", "plants", "mark"] (sp_Keeping_look_down K)) (O_Keeping_look_up : Ok P w K mg base 1 at_Keeping_look_up ["self", "plants", "mark"] (sp_Keeping_look_up K)) : Ok P w K mg base 7 at_Garden_keep ["self", "question"] (sp_Garden_keep K) := by
  refine mkOk T.d_Garden_keep sc_Garden_keep (fun _ _ _ _ _ _ us hl => match us, hl with | [_, _], _ => rfl) (fun vs H Q E h => ?_) (fun cdv A outer s H vs Q E hr h => ?_)
  · obtain ⟨ow, i, G, f, coming, ks, qa, q, rfl, GA, QA0, hks, k⟩ := h; rfl
  · obtain ⟨ow, i, G, f, coming, ks, qa, q, rfl, GA, QA0, hks, k⟩ := h
    refine ⟨_, (pss_cons (ps_if (pt_cmpR op_ge (pe_callB (klen (K := K)) (by rfl) T.f_len PySem.boot_len (pa_cons (kfld (K := K) (pv 0)) pa_nil)) (pgi T.i_MOST_KEPT) (nomark _))
        (pss_one ps_never)
        pss_nil)
      (pss_cons (ps_set (i := 2) sc_Garden_keep.nd rfl (by first | exact Or.inl rfl | exact Or.inr rfl) (kmk (K := K) O_Keeping_init T.k_Keeping T.g_Keeping (hr.mono (by decide)) (pa_cons (pv 1) pa_nil)))
      (pss_cons (ps_set (i := 3) sc_Garden_keep.nd rfl (by first | exact Or.inl rfl | exact Or.inr rfl) (kme0 (K := K) (pv 0) O_Garden_marks T.c_Garden T.m_Garden_marks (hr.mono (by decide))))
      (pss_cons (ps_for PassesOwn.never rfl (krev (K := K) T.f_reversed (pa_cons (pv 3) pa_nil)) (pg_name (i := 4) sc_Garden_keep.nd rfl (by first | exact Or.inl rfl | exact Or.inr rfl))
        (pss_one (ps_expr (kme (K := K) (pv 2) O_Keeping_look_up T.c_Keeping T.m_Keeping_look_up (hr.mono (by decide)) (pa_cons (kfld (K := K) (pv 0)) (pa_cons (pv 4) pa_nil))))))
      (pss_cons (ps_for PassesOwn.never rfl (kpiL (K := K) (pv 3)) (pg_name (i := 4) sc_Garden_keep.nd rfl (by first | exact Or.inl rfl | exact Or.inr rfl))
        (pss_one (ps_expr (kme (K := K) (pv 2) O_Keeping_look_down T.c_Keeping T.m_Keeping_look_down (hr.mono (by decide)) (pa_cons (kfld (K := K) (pv 0)) (pa_cons (pv 4) pa_nil))))))
      (pss_cons (ps_expr (kbm (K := K) PySem.F.plainAttrs_list PySem.F.slot_list_append PySem.F.type_list_append kappend (kfld (K := K) (pv 0)) (pa_cons (pv 2) pa_nil)))
      (pss_one (ps_ret (pe_op op_sub (pe_callB (klen (K := K)) (by rfl) T.f_len PySem.boot_len (pa_cons (kfld (K := K) (pv 0)) pa_nil)) pe_int))))))))), ?_⟩
    have B := GA.b
    have nd := B.wf.nd
    have hsz : (marks f).length ≤ 240 := by rw [List.length_map, Fo.pre_length]; exact B.wf.small
    refine ⟨_, rfl, rd_Garden_kept T B.obj ⟨G.kl, _, rfl, .inl (SqL.of B.kl), _, 12, rfl, rfl, false, bf (by rw [List.length_map, GA.len]; omega), ?_⟩⟩
    refine ⟨_, rfl, fun kx kdx nkx nkdx nek => ⟨kx, kdx, qa, q, H, rfl, upd_same, (Same.up nkdx).new (by rw [upd_ne nek.symm]; exact nkx), nkx, QA0, ?_⟩⟩
    rintro H1 A S s1 ekp m1 m2 m3 m4 m5 m6 m7 m8 m9 m10 ⟨z1, z2, z3, z4⟩ ⟨y1, y2, y3, y4⟩ obj sS hS im
    subst ekp
    refine ⟨rfl, ?_⟩
    have jn : G.ka.length = ks.length := GA.len
    generalize hj : ks.length = j at jn
    have a1 : own5 ow i j A A.kp = .kp i j := if_pos rfl
    have a2 : own5 ow i j A A.dn = .dn i j := by unfold own5; rw [if_neg m1.symm, if_pos rfl]
    have a3 : own5 ow i j A A.bn = .bn i j := by unfold own5; rw [if_neg m2.symm, if_neg m5.symm, if_pos rfl]
    have a4 : own5 ow i j A A.ps = .ps i j := by unfold own5; rw [if_neg m3.symm, if_neg m6.symm, if_neg m8.symm, if_pos rfl]
    have a5 : own5 ow i j A A.sn = .sn i j := by unfold own5; rw [if_neg m4.symm, if_neg m7.symm, if_neg m9.symm, if_neg m10.symm, if_pos rfl]
    have a6 : ∀ b, b ≠ A.kp → b ≠ A.dn → b ≠ A.bn → b ≠ A.ps → b ≠ A.sn → own5 ow i j A b = ow b := fun b h1 h2 h3 h4 h5 => by unfold own5; rw [if_neg h1, if_neg h2, if_neg h3, if_neg h4, if_neg h5]
    have SN : Step (fun _ => False) H ow H1 (own5 ow i j A) := by
      refine ⟨fun b h => a6 b (fun z => h (by rw [z]; exact nkx)) (fun z => h (by rw [z]; exact z1)) (fun z => h (by rw [z]; exact z2)) (fun z => h (by rw [z]; exact z3)) (fun z => h (by rw [z]; exact z4)), alive_of_same s1, fun b o _ e => s1 b o e, fun b h => ?_⟩
      by_cases h1 : b = A.kp
      · rw [h1, obj]; exact fun z => by cases z
      by_cases h2 : b = A.dn
      · rw [h2, y1]; exact fun z => by cases z
      by_cases h3 : b = A.bn
      · rw [h3, y2]; exact fun z => by cases z
      by_cases h4 : b = A.ps
      · rw [h4, y3]; exact fun z => by cases z
      by_cases h5 : b = A.sn
      · rw [h5, y4]; exact fun z => by cases z
      rw [a6 b h1 h2 h3 h4 h5] at h
      exact alive_of_same s1 b (B.own b h)
    have SH : Same S (hid (own5 ow i j A) H1) := fun b o e => by
      obtain ⟨h0, h1, h2, h3, h4, h5⟩ := hS b o e
      exact hid_some.mpr ⟨by rw [a6 b h1 h2 h3 h4 h5]; exact B.own.new h0, sS b o e⟩
    let T0 : Tb := ⟨fun _ => 0, fun _ => 0, fun _ => (0, 0)⟩
    have K1 : KeepAt K H1 (own5 ow i j A) i j A q T0 (fun _ => A.kp) (fun _ => False) (fun _ => False) (fun _ => False) (fun _ => False) :=
      ⟨QA0.ok.many, obj, a1, im.same SH, .nil y1, a2, .nil y2, a3, .nil y3, a4, fun _ h => h.elim, .nil y4, a5⟩
    have GA1 : GardenAt K H1 (own5 ow i j A) i G f coming ks := ⟨⟨SN.own, B.wf, s1 _ _ B.obj, by rw [SN.keep _ (some_ne B.obj)]; exact B.og, B.pl.step SN id (fun _ => id) (fun _ => id), s1 _ _ B.kl, by rw [SN.keep _ (some_ne B.kl)]; exact B.okl⟩, GA.len, fun l a kq h1 h2 => (GA.kps l a kq h1 h2).step SN id id id id id id⟩
    have SG : Step (gr i) H ow H1 (own5 ow i j A) := SN.mono fun _ h => h.elim
    generalize own5 ow i j A = ow1 at *
    have B1 := GA1.b
    refine ⟨_, rfl, mt_Garden_marks B1.obj ⟨ow1, i, G, f, coming, rfl, B1, fun H2 ml s2 n2 e2 => ?_⟩⟩
    have K2 := K1.same s2
    have GA2 := GA1.same s2
    have B2 := GA2.b
    have oml : ow1 ml = .out := B1.own.new n2
    have c0 : ¬ kr i j .out := by unfold kr; simp
    have c1 : ¬ kr i j (.gar i) := by unfold kr; simp
    have c2 : ¬ kr i j (.pd i) := by unfold kr; simp
    have c3 : ∀ m, ¬ kr i j (.pl i m) := by unfold kr; simp
    have c4 : ∀ m, ¬ kr i j (.un i m) := by unfold kr; simp
    have c5 : ¬ kr i j (.kl i) := by unfold kr; simp
    refine ⟨_, rfl, ml, _, rfl, SqL.of e2, ?_⟩
    refine for_it (walk_rev (xs := iv (marks f))) (fun n σ H' => ∃ (x4 : Option V) (T' : Tb), σ = [some (.ref G.g), some (.ref qa), some (.ref A.kp), some (.ref ml), x4] ∧ Step (kr i j) H2 ow1 H' ow1 ∧
      KeepAt K H' ow1 i j A q T' (fun _ => A.kp) (fun c => c ∈ (marks f).drop ((marks f).length - n)) (fun c => c ∈ (marks f).drop ((marks f).length - n)) (fun _ => False) (fun _ => False) ∧ (∀ x ∈ nodes none f, x.m ∈ (marks f).drop ((marks f).length - n) → LU q T' x)) ?_ ?_ ?_ ?_
    · refine ⟨none, T0, rfl, Step.refl B2.own, ?_, fun x _ h => (by rw [Nat.sub_zero, List.drop_length] at h; cases h)⟩
      have e0 : (fun c => c ∈ (marks f).drop ((marks f).length - 0)) = fun _ => False := by
        funext c; rw [Nat.sub_zero, List.drop_length]; exact propext ⟨fun h => (by cases h), False.elim⟩
      rw [e0]; exact K2
    · rintro n σ H' _ ⟨x4, T', rfl, S, KS, lu⟩
      exact SqL.of (S.fr _ _ (by rw [oml]; exact c0) e2)
    · rintro n v σ H4 H5 hn ⟨x4, T', rfl, S, KS, lu⟩ ⟨rfl, ev⟩
      rw [len_iv] at hn ev
      obtain ⟨c, hc, rfl⟩ := iv_at' ev
      obtain ⟨x, hxa, hx, rfl⟩ := node_at hc
      have B4 := B2.step' S c1 c2 c3 c4 c5
      have en : (marks f).length - n = (marks f).length - 1 - n + 1 := by omega
      have en2 : (marks f).length - (n + 1) = (marks f).length - 1 - n := by omega
      rw [en] at KS lu
      have hk : ∀ c ∈ x.ks, c ∈ (marks f).drop ((marks f).length - 1 - n + 1) ∧ c ∈ (marks f).drop ((marks f).length - 1 - n + 1) := fun c h => ⟨kid_drop nd hxa h, kid_drop nd hxa h⟩
      refine ⟨_, rfl, mt_Keeping_look_up KS.obj ⟨_, rfl, rd_Garden_plants T B4.obj ⟨_, rfl, ow1, i, j, A, q, T', _, _, _, _, _, G.L, f, x, rfl, S.own, B4.pl, hx, KS, hk, fun c h => List.mem_of_mem_drop h, fun c h => List.mem_of_mem_drop h, fun H6 S6 K6 => ?_⟩⟩⟩
      refine ⟨_, upT q T' x, rfl, S.trans (S6.mono (C' := kr i j) (by rintro r (rfl | rfl) <;> unfold kr <;> simp)), ?_, ?_⟩
      · have e0 : (fun c => c ∈ (marks f).drop ((marks f).length - (n + 1))) = fun c => c ∈ (marks f).drop ((marks f).length - 1 - n + 1) ∨ c = x.m := by
          funext c; rw [en2, mem_drop_iff nd hc]; exact propext Or.comm
        rw [e0]; exact K6
      · intro y hy hyn
        rw [en2, mem_drop_iff nd hc] at hyn
        by_cases e : y.m = x.m
        · obtain rfl := node_eq nd hy hx e
          exact LU.self (not_own_kid nd hy)
        · have hyd := hyn.resolve_left e
          refine LU.other (lu y hy hyd) e fun h => ?_
          obtain ⟨b, hb⟩ := List.getElem?_of_mem (node_mark hy)
          obtain ⟨y2, hya, hy2, ey⟩ := node_at hb
          obtain rfl := node_eq nd hy hy2 ey.symm
          have q1 := drop_idx nd hb hyd
          have q2 := drop_idx nd hc (kid_drop nd hya h)
          omega
    rintro σ H3 ⟨x4, T', rfl, S3, K3, lu⟩
    rw [len_iv, Nat.sub_self, List.drop_zero] at K3 lu
    have lu : ∀ x ∈ nodes none f, LU q T' x := fun x hx => lu x hx (node_mark hx)
    refine ⟨_, rfl, ml, rfl, ⟨_, SqL.of (S3.fr _ _ (by rw [oml]; exact c0) e2)⟩, ?_⟩
    refine for_it (walk_list (xs := iv (marks f))) (fun n σ H' => ∃ (x4 : Option V) (T' : Tb) (R : Int → Addr), σ = [some (.ref G.g), some (.ref qa), some (.ref A.kp), some (.ref ml), x4] ∧ Step (kr i j) H2 ow1 H' ow1 ∧
      KeepAt K H' ow1 i j A q T' R (· ∈ marks f) (· ∈ marks f) (fun c => c ∈ (marks f).take n) (fun _ => False) ∧ (∀ x ∈ nodes none f, LU q T' x) ∧ (∀ x ∈ nodes none f, x.m ∈ (marks f).take n → LD q T' x)) ?_ ?_ ?_ ?_
    · refine ⟨x4, T', fun _ => A.kp, rfl, S3, ?_, lu, fun x _ h => by simp at h⟩
      have e0 : (fun c => c ∈ (marks f).take 0) = fun _ => False := by funext c; simp
      rw [e0]; exact K3
    · rintro n σ H' _ ⟨x4, T', R, rfl, S, KS, lu, ld⟩
      exact SqL.of (S.fr _ _ (by rw [oml]; exact c0) e2)
    · rintro n v σ H4 H5 hn ⟨x4, T', R, rfl, S, KS, lu, ld⟩ ⟨rfl, ev⟩
      obtain ⟨c, hc, rfl⟩ := iv_at' ev
      obtain ⟨x, hxa, hx, rfl⟩ := node_at hc
      have B4 := B2.step' S c1 c2 c3 c4 c5
      refine ⟨_, rfl, mt_Keeping_look_down KS.obj ⟨_, rfl, rd_Garden_plants T B4.obj ⟨_, rfl, ow1, i, j, A, q, T', R, _, _, _, _, G.L, f, x, rfl, S.own, B4.pl, hx, KS, node_mark hx, fun u hu => over_take nd hxa hu, fun c h => List.mem_of_mem_take h, fun H6 R6 ch S6 K6 _ => ?_⟩⟩⟩
      refine ⟨_, dnT q T' x, R6, rfl, S.trans (S6.mono (C' := kr i j) (by rintro r rfl; unfold kr; simp)), ?_, fun y hy => (lu y hy).dn, ?_⟩
      · have e0 : (fun c => c ∈ (marks f).take (n + 1)) = fun c => c ∈ (marks f).take n ∨ c = x.m := by
          funext c; rw [mem_take_iff hc]
        rw [e0]; exact K6
      · intro y hy hyn
        rw [mem_take_iff hc] at hyn
        by_cases e : y.m = x.m
        · obtain rfl := node_eq nd hy hx e
          exact LD.self (not_own_over nd hy)
        · have hyd := hyn.resolve_right e
          refine LD.other (ld y hy hyd) e fun h => ?_
          obtain ⟨b, hb⟩ := List.getElem?_of_mem (node_mark hy)
          obtain ⟨y2, hya, hy2, ey⟩ := node_at hb
          obtain rfl := node_eq nd hy hy2 ey.symm
          have q1 := take_idx nd hb hyd
          have q2 := take_idx nd hc (over_take nd hya h)
          omega
    rintro σ H4 ⟨x5, T'', R, rfl, S4, K4, lu4, ld4⟩
    rw [len_iv, List.take_length] at K4 ld4
    have ld4 : ∀ x ∈ nodes none f, LD q T'' x := fun x hx => ld4 x hx (node_mark hx)
    have B4 := B2.step' S4 c1 c2 c3 c4 c5
    have S5 := Step.put (C := fun r => r = .kl i) (o := .lst ((G.ka.map fun a => V.ref a.kp) ++ [V.ref A.kp])) B4.own B4.kl B4.okl
    have klk : upd H4 G.kl (.lst ((G.ka.map fun a => V.ref a.kp) ++ [V.ref A.kp])) G.kl = some (.lst ((G.ka ++ [A]).map fun a => V.ref a.kp)) := by rw [upd_same, List.map_append]; rfl
    refine ⟨_, rfl, rd_Garden_kept T B4.obj ⟨tyL B4.kl, _, rfl, G.kl, _, _, rfl, rfl, B4.kl, ?_, ?_⟩⟩
    · rw [List.length_map, jn, ← hj]; exact Nat.lt_trans hks (by decide)
    have B5 : GBase K (upd H4 G.kl (.lst ((G.ka.map fun a => V.ref a.kp) ++ [V.ref A.kp]))) ow1 i { G with ka := G.ka ++ [A] } f coming :=
      ⟨S5.own, B.wf, by rw [upd_ne (rne B4.og B4.okl (by simp))]; exact B4.obj, B4.og, B4.pl.step S5 (by simp) (by simp) (by simp), klk, B4.okl⟩
    have K5 := K4.step S5 (by simp) (by simp) (by simp) (by simp) (by simp) (by simp)
    generalize upd H4 G.kl (.lst ((G.ka.map fun a => V.ref a.kp) ++ [V.ref A.kp])) = H5 at S5 B5 K5 klk ⊢
    refine ⟨_, rfl, rd_Garden_kept T B5.obj ⟨G.kl, _, rfl, .inl (SqL.of klk), _, 1, rfl, rfl, ?_⟩⟩
    have eret : V.int ((((G.ka ++ [A]).map fun a => V.ref a.kp).length : Int) - 1) = V.int (j : Nat) := by
      rw [List.length_map, List.length_append, jn]
      congr 1
      show ((j + 1 : Nat) : Int) - 1 = _
      omega
    show Q (V.int ((((G.ka ++ [A]).map fun a => V.ref a.kp).length : Int) - 1)) H5
    rw [eret]
    have S45 : Step (fun r => kr i j r ∨ r = .kl i) H2 ow1 H5 ow1 := (S4.mono fun r h => .inl h).trans (S5.mono fun r h => .inr h)
    have SF : Step (gr i) H ow H5 ow1 := (SG.trans (Step.same B1.own s2)).trans (S45.mono (by
      rintro r (h | rfl)
      · exact kr_gr r h
      · exact .inr rfl))
    have k2 := k H5 ow1 { G with ka := G.ka ++ [A] } SF rfl
    rw [hj] at k2
    refine k2 ⟨B5, ?_, fun l a kq h1 h2 => ?_⟩
    · show (G.ka ++ [A]).length = _
      rw [List.length_append, List.length_append, jn, hj]; rfl
    · have h1 : (G.ka ++ [A])[l]? = some a := h1
      by_cases hl : l < j
      · rw [List.getElem?_append_left (by omega)] at h1 h2
        have ne : l ≠ j := by omega
        exact (GA2.kps l a kq h1 h2).step S45 (by simp [kr]) (by simp [kr, ne]) (by simp [kr, ne]) (by simp [kr, ne]) (by simp [kr, ne]) (by simp [kr, ne])
      · rw [List.getElem?_append_right (by omega)] at h1 h2
        have hl2 := (List.getElem?_eq_some_iff.mp h1).1
        have h0 : l = j := by simp at hl2; omega
        subst h0
        rw [jn, Nat.sub_self] at h1
        rw [hj, Nat.sub_self] at h2
        obtain rfl : A = a := by simpa using h1
        obtain rfl : (q, true) = kq := by simpa using h2
        exact ⟨T'', R, fun _ => False, K5, lu4, ld4, fun _ _ z => z⟩
end
end Bg

set_option Elab.async false
set_option linter.all false
set_option maxRecDepth 100000
set_option maxHeartbeats 4000000
namespace Bg
open PySem PySem.Spec PyProof.Rows L2
/-! ### what a garden tells -/
noncomputable def downM (f : GF Str) (q : Qs Str) (s : Nat) : List Int := (marks f).filter fun m => cd (Holds q (lbF f) (ovF f) s m)
noncomputable def fullM (f : GF Str) (q : Qs Str) (s : Nat) : List Int := (marks f).filter fun m => cd (Full q (lbF f) (ovF f) s m)
def ld (l : List Int) : PyData := .list (l.map PyData.int)
def ld2 (k : Nat) (g : Nat → List Int) : PyData := .list ((List.range k).map fun s => ld (g s))
def sp_Garden_answer (K : PySem.W.Frag) : Sp := fun vs H Q _ => ∃ (ow : Ow) (i : Nat) (G : GAd) (f : GF Str) (coming : Int) (ks : List (Qs Str × Bool)) (j : Nat) (k : Qs Str × Bool), vs = [.ref G.g, .int j] ∧ GardenAt K H ow i G f coming ks ∧ ks[j]? = some k ∧
  ∀ H' l, Same H H' → H l = none → H' l = some (.lst (iv (fullM f k.1 k.1.goal))) → Q (.ref l) H'
def sp_Garden_tables (K : PySem.W.Frag) : Sp := fun vs H Q _ => ∃ (ow : Ow) (i : Nat) (G : GAd) (f : GF Str) (coming : Int) (ks : List (Qs Str × Bool)) (j : Nat) (k : Qs Str × Bool), vs = [.ref G.g, .int j] ∧ GardenAt K H ow i G f coming ks ∧ ks[j]? = some k ∧
  ∀ H' l, Same H H' → Dp K H' (.ref l) (.tuple [ld2 k.1.k (downM f k.1), ld2 k.1.k (fullM f k.1)]) → Q (.ref l) H'
def sp_Garden_looked (K : PySem.W.Frag) : Sp := fun vs H Q _ => ∃ (ow : Ow) (i : Nat) (G : GAd) (f : GF Str) (coming : Int) (ks : List (Qs Str × Bool)) (j : Nat) (q : Qs Str), vs = [.ref G.g, .int j] ∧ GardenAt K H ow i G f coming ks ∧ ks[j]? = some (q, true) ∧
  ∀ H' l, Same H H' → H l = none → H' l = some (.lst []) → Q (.ref l) H'
theorem DpAll_iv {K : PySem.W.Frag} {H : Hp} : ∀ l : List Int, DpAll K H (iv l) (l.map PyData.int)
  | [] => .nil
  | c :: l => .cons (.int c) (DpAll_iv l)
theorem DpAll_each {K : PySem.W.Frag} {H : Hp} {g : Nat → List Int} : ∀ {rows : List Nat} {ts : List Addr}, Each (fun t s => H t = some (.lst (iv (g s)))) ts rows → DpAll K H (ts.map V.ref) (rows.map fun s => ld (g s))
  | [], ts, h => by
    have : ts = [] := List.length_eq_zero_iff.mp h.len
    subst this; exact .nil
  | s :: rows, ts, h => by
    cases ts with
    | nil => have := h.len; simp at this
    | cons t ts =>
      refine .cons (.lst (SqL.of (h.at_ 0 t s rfl rfl)) (DpAll_iv _)) (DpAll_each ⟨by have := h.len; simpa using this, fun i t' r h1 h2 => h.at_ (i + 1) t' r h1 h2⟩)
theorem garden_keep {K : PySem.W.Frag} {H : Hp} {ow : Ow} {i : Nat} {G : GAd} {f : GF Str} {coming : Int} {ks : List (Qs Str × Bool)} (GA : GardenAt K H ow i G f coming ks) {j : Nat} {k : Qs Str × Bool} (h : ks[j]? = some k) : ∃ a, G.ka[j]? = some a ∧ KOk K H ow i j f a k := by
  have hl := (List.getElem?_eq_some_iff.mp h).1
  have hl2 : j < G.ka.length := by rw [GA.len]; exact hl
  exact ⟨G.ka[j], List.getElem?_eq_getElem hl2, GA.kps j _ k (List.getElem?_eq_getElem hl2) h⟩
theorem bit_eq {p : Nat} {u : Nat} {P : Prop} (h : p.testBit u = true ↔ P) : V.bl (decide (V.int (Builtin.bitAnd ((p : Int) / 2 ^ ((u : Int)).toNat) 1) = V.int 1)) = V.bl (cd P) := by
  rw [shrT]
  cases ht : p.testBit u with
  | true => rw [cd_true (h.mp ht)]; rfl
  | false => rw [cd_false (fun z => by rw [h.mpr z] at ht; cases ht)]; rfl
section
variable {P : Program} {w : World} {K : PySem.W.Frag} {mg : Str → Option Value} {base : Heap}
theorem sc_Garden_answer : FnScope ["self", "number", "keeping", "mark"] ["self", "number"] (defScope s_Garden_answer) := ⟨rfl, rfl, rfl, by decide +kernel, rfl, by decide +kernel, by decide +kernel⟩
theorem ok_Garden_answer (T : Tx K mg) (O_Garden_keeping_at : Ok P w K mg base 2 at_Garden_keeping_at ["self", "number"] (sp_Garden_keeping_at K)) (O_Garden_marks : Ok P w K mg base 2 at_Garden_marks ["self"] (sp_Garden_marks K)) : Ok P w K mg base 3 at_Garden_answer ["self", "number"] (sp_Garden_answer K) := by
  refine mkOk T.d_Garden_answer sc_Garden_answer (fun _ _ _ _ _ _ us hl => match us, hl with | [_, _], _ => rfl) (fun vs H Q E h => ?_) (fun cdv A outer s H vs Q E hr h => ?_)
  · obtain ⟨ow, i, G, f, coming, ks, j, kq, rfl, GA, hk, k⟩ := h; rfl
  · obtain ⟨ow, i, G, f, coming, ks, j, kq, rfl, GA, hk, k⟩ := h
    refine ⟨_, (pss_cons (ps_set (i := 2) sc_Garden_answer.nd rfl (by first | exact Or.inl rfl | exact Or.inr rfl) (kme (K := K) (pv 0) O_Garden_keeping_at T.c_Garden T.m_Garden_keeping_at (hr.mono (by decide)) (pa_cons (pv 1) pa_nil)))
      (pss_one (ps_ret (pe_lc (own := [("mark", 3)]) (g := gName 3) (tt := _) rfl sc_Garden_answer.nd (kpiL (K := K) (kme0 (K := K) (pv 0) O_Garden_marks T.c_Garden T.m_Garden_marks (hr.mono (by decide)))) (blkOk_by (by kernel_rfl)) (fun _ _ _ _ _ => (pg_name (i := 3) sc_Garden_answer.nd rfl (by first | exact Or.inl rfl | exact Or.inr rfl))) (fun _ _ _ _ _ => (pts_one (pt_cmpR op_eq (pe_op op_and (pe_op op_shr (pe_ix (kixT (K := K)) (pe_dget (hu_of hr) (kfld (K := K) (pv 2)) (pv 3) (fun _ _ => rfl)) pe_int (fun _ _ => rfl)) (kfld (K := K) (pv 2))) pe_int) pe_int (nomark _)))) (fun _ _ _ _ _ => (pv 3)))))), ?_⟩
    have B := GA.b
    have nd := B.wf.nd
    have hsz : (marks f).length ≤ 240 := by rw [List.length_map, Fo.pre_length]; exact B.wf.small
    obtain ⟨A, hA, T0, R, sS, KK, lu, ld, _⟩ := garden_keep GA hk
    refine ⟨_, rfl, mt_Garden_keeping_at B.obj ⟨_, rfl, ow, i, G, f, coming, j, A, rfl, B, hA, ?_⟩⟩
    refine ⟨_, rfl, mt_Garden_marks B.obj ⟨ow, i, G, f, coming, rfl, B, fun H1 ml s1 n1 e1 => ?_⟩⟩
    refine ⟨ml, rfl, ⟨_, SqL.of e1⟩, fun D nD => ?_⟩
    refine lc_same (walk_list (xs := iv (marks f))) (fun n => (marks f)[n]?.bind fun m => if cd (Full kq.1 (lbF f) (ovF f) kq.1.goal m) = true then some (.int m) else none) nD (by rw [len_iv]; exact Nat.le_trans hsz line240) (fun H s => SqL.of (s _ _ e1)) ?_ ?_
    · rintro n v H2 H3 N N0 hn s2 ⟨rfl, ev⟩ ky kn
      obtain ⟨m, hm, rfl⟩ := iv_at' ev
      have hmm := List.mem_of_getElem? hm
      have K3 := KK.same (s1.trans s2)
      have htp := hid_sub _ _ (K3.pt m hmm)
      obtain ⟨x, hx, rfl⟩ := mark_node none hmm
      have hf := f_right nd lu ld kq.1.goal kq.1.goal (Nat.le_refl _) x hx
      rw [hm] at ky kn
      refine ⟨rfl, _, rfl, rd_Keeping_passed T K3.obj ⟨_, rfl, A.ps, _, rfl, K3.ps.get hmm, R x.m, _, _, _, rfl, rfl, SqT.of htp, rfl, _, rfl, rd_Keeping_goal T K3.obj ⟨_, _, rfl, rfl, by omega, _, 1, rfl, rfl, rfl, _, bit_eq hf, ?_⟩⟩⟩
      cases hb : cd (Full kq.1 (lbF f) (ovF f) kq.1.goal x.m) with
      | true => exact ⟨_, rfl, ky _ _ (Same.refl _) (if_pos hb)⟩
      | false => exact kn (if_neg (by rw [hb]; simp)) _ (Same.refl _)
    · intro H2 s2 e2
      rw [len_iv, fm_list] at e2
      exact k _ _ (s1.trans s2) (s1.free nD) e2
theorem sc_Garden_looked : FnScope ["self", "number", "keeping", "mark"] ["self", "number"] (defScope s_Garden_looked) := ⟨rfl, rfl, rfl, by decide +kernel, rfl, by decide +kernel, by decide +kernel⟩
theorem ok_Garden_looked (T : Tx K mg) (O_Garden_keeping_at : Ok P w K mg base 2 at_Garden_keeping_at ["self", "number"] (sp_Garden_keeping_at K)) (O_Garden_marks : Ok P w K mg base 2 at_Garden_marks ["self"] (sp_Garden_marks K)) : Ok P w K mg base 3 at_Garden_looked ["self", "number"] (sp_Garden_looked K) := by
  refine mkOk T.d_Garden_looked sc_Garden_looked (fun _ _ _ _ _ _ us hl => match us, hl with | [_, _], _ => rfl) (fun vs H Q E h => ?_) (fun cdv A outer s H vs Q E hr h => ?_)
  · obtain ⟨ow, i, G, f, coming, ks, j, q, rfl, GA, hk, k⟩ := h; rfl
  · obtain ⟨ow, i, G, f, coming, ks, j, q, rfl, GA, hk, k⟩ := h
    refine ⟨_, (pss_cons (ps_set (i := 2) sc_Garden_looked.nd rfl (by first | exact Or.inl rfl | exact Or.inr rfl) (kme (K := K) (pv 0) O_Garden_keeping_at T.c_Garden T.m_Garden_keeping_at (hr.mono (by decide)) (pa_cons (pv 1) pa_nil)))
      (pss_one (ps_ret (pe_lc (own := [("mark", 3)]) (g := gName 3) (tt := _) rfl sc_Garden_looked.nd (kpiL (K := K) (kme0 (K := K) (pv 0) O_Garden_marks T.c_Garden T.m_Garden_marks (hr.mono (by decide)))) (blkOk_by (by kernel_rfl)) (fun _ _ _ _ _ => (pg_name (i := 3) sc_Garden_looked.nd rfl (by first | exact Or.inl rfl | exact Or.inr rfl))) (fun _ _ _ _ _ => (pts_one (pt_cmp (pc_din (hu_of hr) (pv 3) (kfld (K := K) (pv 2))) rfl))) (fun _ _ _ _ _ => (pv 3)))))), ?_⟩
    have B := GA.b
    have hsz : (marks f).length ≤ 240 := by rw [List.length_map, Fo.pre_length]; exact B.wf.small
    obtain ⟨A, hA, T0, R, sS, KK, lu, ld, hfr⟩ := garden_keep GA hk
    have hfr := hfr rfl
    refine ⟨_, rfl, mt_Garden_keeping_at B.obj ⟨_, rfl, ow, i, G, f, coming, j, A, rfl, B, hA, ?_⟩⟩
    refine ⟨_, rfl, mt_Garden_marks B.obj ⟨ow, i, G, f, coming, rfl, B, fun H1 ml s1 n1 e1 => ?_⟩⟩
    refine ⟨ml, rfl, ⟨_, SqL.of e1⟩, fun D nD => ?_⟩
    refine lc_same (walk_list (xs := iv (marks f))) (fun _ => none) nD (by rw [len_iv]; exact Nat.le_trans hsz line240) (fun H s => SqL.of (s _ _ e1)) ?_ ?_
    · rintro n v H2 H3 N N0 hn s2 ⟨rfl, ev⟩ ky kn
      obtain ⟨m, hm, rfl⟩ := iv_at' ev
      have K3 := KK.same (s1.trans s2)
      obtain ⟨o, hg, _, ho⟩ := K3.sn.opt m
      refine ⟨rfl, _, rfl, _, rfl, rd_Keeping_seen T K3.obj ⟨A.sn, o, rfl, hg, false, ?_, kn rfl _ (Same.refl _)⟩⟩
      rw [ho (hfr m)]; rfl
    · intro H2 s2 e2
      refine k _ _ (s1.trans s2) (s1.free nD) ?_
      rw [e2]
      refine congrArg (fun l => some (HO.lst l)) ?_
      generalize List.range _ = l
      induction l with
      | nil => rfl
      | cons a l ih => exact ih
theorem sc_Garden_tables : FnScope ["self", "number", "keeping", "marks", "steps", "down", "full", "step", "mark"] ["self", "number"] (defScope s_Garden_tables) := ⟨rfl, rfl, rfl, by decide +kernel, rfl, by decide +kernel, by decide +kernel⟩
theorem ok_Garden_tables (T : Tx K mg) (O_Garden_keeping_at : Ok P w K mg base 2 at_Garden_keeping_at ["self", "number"] (sp_Garden_keeping_at K)) (O_Garden_marks : Ok P w K mg base 2 at_Garden_marks ["self"] (sp_Garden_marks K)) : Ok P w K mg base 3 at_Garden_tables ["self", "number"] (sp_Garden_tables K) := by
  refine mkOk T.d_Garden_tables sc_Garden_tables (fun _ _ _ _ _ _ us hl => match us, hl with | [_, _], _ => rfl) (fun vs H Q E h => ?_) (fun cdv A outer s H vs Q E hr h => ?_)
  · obtain ⟨ow, i, G, f, coming, ks, j, kq, rfl, GA, hk, k⟩ := h; rfl
  · obtain ⟨ow, i, G, f, coming, ks, j, kq, rfl, GA, hk, k⟩ := h
    refine ⟨_, (pss_cons (ps_set (i := 2) sc_Garden_tables.nd rfl (by first | exact Or.inl rfl | exact Or.inr rfl) (kme (K := K) (pv 0) O_Garden_keeping_at T.c_Garden T.m_Garden_keeping_at (hr.mono (by decide)) (pa_cons (pv 1) pa_nil)))
      (pss_cons (ps_set (i := 3) sc_Garden_tables.nd rfl (by first | exact Or.inl rfl | exact Or.inr rfl) (kme0 (K := K) (pv 0) O_Garden_marks T.c_Garden T.m_Garden_marks (hr.mono (by decide))))
      (pss_cons (ps_set (i := 4) sc_Garden_tables.nd rfl (by first | exact Or.inl rfl | exact Or.inr rfl) (pe_listRg rfl rfl T.f_list (prg_1 rfl T.f_range (pe_callB (klen (K := K)) (by rfl) T.f_len PySem.boot_len (pa_cons (kfld (K := K) (pv 2)) pa_nil)))))
      (pss_cons (ps_setLc (i := 5) (own := [("step", 7)]) (g := gName 7) (tt := tYes) rfl sc_Garden_tables.nd rfl rfl (sw_true rfl rfl rfl (by decide +kernel)) (kpiL (K := K) (pv 4)) (blkOk_by (by kernel_rfl)) (fun _ _ _ _ _ => (pg_name (i := 7) sc_Garden_tables.nd rfl (by first | exact Or.inl rfl | exact Or.inr rfl))) (fun _ _ _ _ _ => pts_nil) (fun _ _ _ _ _ => (pe_lc (own := [("mark", 8)]) (g := gName 8) (tt := _) rfl sc_Garden_tables.nd (kpiL (K := K) (pv 3)) (blkOk_by (by kernel_rfl)) (fun _ _ _ _ _ => (pg_name (i := 8) sc_Garden_tables.nd rfl (by first | exact Or.inl rfl | exact Or.inr rfl))) (fun _ _ _ _ _ => (pts_one (pt_cmpR op_eq (pe_op op_and (pe_op op_shr (pe_dget (hu_of hr) (kfld (K := K) (pv 2)) (pv 8) (fun _ _ => rfl)) (pv 7)) pe_int) pe_int (nomark _)))) (fun _ _ _ _ _ => (pv 8)))))
      (pss_cons (ps_setLc (i := 6) (own := [("step", 7)]) (g := gName 7) (tt := tYes) rfl sc_Garden_tables.nd rfl rfl (sw_true rfl rfl rfl (by decide +kernel)) (kpiL (K := K) (pv 4)) (blkOk_by (by kernel_rfl)) (fun _ _ _ _ _ => (pg_name (i := 7) sc_Garden_tables.nd rfl (by first | exact Or.inl rfl | exact Or.inr rfl))) (fun _ _ _ _ _ => pts_nil) (fun _ _ _ _ _ => (pe_lc (own := [("mark", 8)]) (g := gName 8) (tt := _) rfl sc_Garden_tables.nd (kpiL (K := K) (pv 3)) (blkOk_by (by kernel_rfl)) (fun _ _ _ _ _ => (pg_name (i := 8) sc_Garden_tables.nd rfl (by first | exact Or.inl rfl | exact Or.inr rfl))) (fun _ _ _ _ _ => (pts_one (pt_cmpR op_eq (pe_op op_and (pe_op op_shr (pe_ix (kixT (K := K)) (pe_dget (hu_of hr) (kfld (K := K) (pv 2)) (pv 8) (fun _ _ => rfl)) pe_int (fun _ _ => rfl)) (pv 7)) pe_int) pe_int (nomark _)))) (fun _ _ _ _ _ => (pv 8)))))
      (pss_one (ps_ret (pe_tup (pa_cons (pv 5) (pa_cons (pv 6) pa_nil)))))))))), ?_⟩
    have B := GA.b
    have nd := B.wf.nd
    have hsz : (marks f).length ≤ 240 := by rw [List.length_map, Fo.pre_length]; exact B.wf.small
    obtain ⟨A, hA, T0, R, sS, KK, lu, ldn, _⟩ := garden_keep GA hk
    have hq := KK.qok
    refine ⟨_, rfl, mt_Garden_keeping_at B.obj ⟨_, rfl, ow, i, G, f, coming, j, A, rfl, B, hA, ?_⟩⟩
    refine ⟨_, rfl, mt_Garden_marks B.obj ⟨ow, i, G, f, coming, rfl, B, fun H1 ml s1 n1 e1 => ?_⟩⟩
    have K1 := KK.same s1
    have hwy := hid_sub _ _ K1.im.wy
    have lwy : ((List.range kq.1.k).map fun s => V.str (wstr (kq.1.way s))).length = kq.1.k := by rw [List.length_map, List.length_range]
    refine ⟨_, rfl, rd_Keeping_ways T K1.obj ⟨A.wy, _, rfl, .inl (SqL.of hwy), _, rfl, by rw [lwy]; exact RgOk.of_le (by omega) (by omega) (by omega) (by omega), fun sl nsl => ?_⟩⟩
    rw [lwy]
    have esl : rgV 0 (kq.1.k : Int) = nv (List.range kq.1.k) := by
      unfold rgV nv
      rw [Int.sub_zero, Int.toNat_natCast]
      refine List.map_congr_left fun n _ => ?_
      show V.int ((0 : Int) + (n : Nat)) = V.int (n : Int)
      congr 1; omega
    rw [esl]
    have s2 : Same H1 (upd H1 sl (.lst (nv (List.range kq.1.k)))) := Same.up nsl
    have e2 : upd H1 sl (.lst (nv (List.range kq.1.k))) sl = _ := upd_same
    generalize upd H1 sl (.lst (nv (List.range kq.1.k))) = H2 at s2 e2 ⊢
    have s02 := s1.trans s2
    refine ⟨_, rfl, sl, rfl, ⟨_, SqL.of e2⟩, fun D1 nD1 => ?_⟩
    have lk : (nv (List.range kq.1.k)).length = kq.1.k := by rw [len_nv, List.length_range]
    refine lc_each (walk_list (xs := nv (List.range kq.1.k))) (List.range kq.1.k) (fun H t s => t ≠ D1 ∧ H t = some (.lst (iv (downM f kq.1 s)))) nD1 (fun _ _ _ _ s h => ⟨h.1, s _ _ h.2⟩) (fun H t r acc acc' e h => ⟨h.1, by rw [upd_ne h.1]; exact h.2⟩) (by rw [lk, List.length_range]) (by rw [lk]; exact Nat.le_trans hq (by decide)) (fun H s => SqL.of (s _ _ e2)) ?_ ?_
    · rintro n r v H3 H4 N hr hD s3 ⟨rfl, ev⟩ ky
      obtain rfl : v = .int (r : Int) := by
        have := nv_at hr
        rw [this] at ev; exact (Option.some.inj ev).symm
      have s03 := s2.trans s3
      refine ⟨rfl, _, rfl, ml, rfl, ⟨_, SqL.of (s03 _ _ e1)⟩, fun D2 nD2 => ?_⟩
      refine lc_same (walk_list (xs := iv (marks f))) (fun n => (marks f)[n]?.bind fun m => if cd (Holds kq.1 (lbF f) (ovF f) r m) = true then some (.int m) else none) nD2 (by rw [len_iv]; exact Nat.le_trans hsz line240) (fun H s => SqL.of (s _ _ (s03 _ _ e1))) ?_ ?_
      · rintro n v H5 H6 N2 N0 hn s5 ⟨rfl, ev⟩ ky2 kn2
        obtain ⟨m, hm, rfl⟩ := iv_at' ev
        have hmm := List.mem_of_getElem? hm
        have K6 := K1.same (s03.trans s5)
        obtain ⟨x, hx, rfl⟩ := mark_node none hmm
        have hf := d_right nd lu kq.1.k r (Nat.sub_le _ _) x hx
        rw [hm] at ky2 kn2
        refine ⟨rfl, _, rfl, rd_Keeping_down T K6.obj ⟨_, rfl, A.dn, _, rfl, K6.dn.get hmm, _, rfl, _, _, rfl, rfl, by omega, _, 1, rfl, rfl, rfl, _, bit_eq hf, ?_⟩⟩
        cases hb : cd (Holds kq.1 (lbF f) (ovF f) r x.m) with
        | true => exact ⟨_, rfl, ky2 _ _ (Same.refl _) (if_pos hb)⟩
        | false => exact kn2 (if_neg (by rw [hb]; simp)) _ (Same.refl _)
      · intro H5 s5 e5
        rw [len_iv, fm_list] at e5
        exact ky D2 _ s5 ⟨fun z => hD (by rw [← z]; exact nD2), e5⟩
    intro H3 t1 s3 e3 E3
    have s03 := s02.trans s3
    refine ⟨_, rfl, sl, rfl, ⟨_, SqL.of (s3 _ _ e2)⟩, fun D1' nD1' => ?_⟩
    refine lc_each (walk_list (xs := nv (List.range kq.1.k))) (List.range kq.1.k) (fun H t s => t ≠ D1' ∧ H t = some (.lst (iv (fullM f kq.1 s)))) nD1' (fun _ _ _ _ s h => ⟨h.1, s _ _ h.2⟩) (fun H t r acc acc' e h => ⟨h.1, by rw [upd_ne h.1]; exact h.2⟩) (by rw [lk, List.length_range]) (by rw [lk]; exact Nat.le_trans hq (by decide)) (fun H s => SqL.of (s _ _ (s3 _ _ e2))) ?_ ?_
    · rintro n r v H4 H5 N hr hD s4 ⟨rfl, ev⟩ ky
      obtain rfl : v = .int (r : Int) := by
        have := nv_at hr
        rw [this] at ev; exact (Option.some.inj ev).symm
      have s04 := (s2.trans s3).trans s4
      refine ⟨rfl, _, rfl, ml, rfl, ⟨_, SqL.of (s04 _ _ e1)⟩, fun D2 nD2 => ?_⟩
      refine lc_same (walk_list (xs := iv (marks f))) (fun n => (marks f)[n]?.bind fun m => if cd (Full kq.1 (lbF f) (ovF f) r m) = true then some (.int m) else none) nD2 (by rw [len_iv]; exact Nat.le_trans hsz line240) (fun H s => SqL.of (s _ _ (s04 _ _ e1))) ?_ ?_
      · rintro n v H6 H7 N2 N0 hn s5 ⟨rfl, ev⟩ ky2 kn2
        obtain ⟨m, hm, rfl⟩ := iv_at' ev
        have hmm := List.mem_of_getElem? hm
        have K6 := K1.same (s04.trans s5)
        have htp := hid_sub _ _ (K6.pt m hmm)
        obtain ⟨x, hx, rfl⟩ := mark_node none hmm
        have hf := f_right nd lu ldn r r (Nat.le_refl _) x hx
        rw [hm] at ky2 kn2
        refine ⟨rfl, _, rfl, rd_Keeping_passed T K6.obj ⟨_, rfl, A.ps, _, rfl, K6.ps.get hmm, R x.m, _, _, _, rfl, rfl, SqT.of htp, rfl, _, rfl, _, _, rfl, rfl, by omega, _, 1, rfl, rfl, rfl, _, bit_eq hf, ?_⟩⟩
        cases hb : cd (Full kq.1 (lbF f) (ovF f) r x.m) with
        | true => exact ⟨_, rfl, ky2 _ _ (Same.refl _) (if_pos hb)⟩
        | false => exact kn2 (if_neg (by rw [hb]; simp)) _ (Same.refl _)
      · intro H6 s5 e5
        rw [len_iv, fm_list] at e5
        exact ky D2 _ s5 ⟨fun z => hD (by rw [← z]; exact nD2), e5⟩
    intro H4 t2 s4 e4 E4
    refine ⟨_, rfl, _, rfl, by show 2 ≤ sizeLine; decide, fun p np => k _ _ ((s03.trans s4).new np) (.tup (SqT.of upd_same) (.cons (.lst (SqL.of (upd_at np (s4 _ _ e3))) (DpAll_each (E3.imp fun t s h => upd_at np (s4 _ _ h.2)))) (.cons (.lst (SqL.of (upd_at np e4)) (DpAll_each (E4.imp fun t s h => upd_at np h.2))) .nil)))⟩
end
end Bg

set_option Elab.async false
set_option linter.all false
set_option maxRecDepth 100000
set_option maxHeartbeats 4000000
namespace Bg
open PySem PySem.Spec PyProof.Rows L2
/-! ### a garden of a document -/
theorem selL_filter (p : Nat) : ∀ (us : List (Option Nat)) (n : Nat), selL p n us = ((List.range us.length).filter fun c => decide (us[c]?.join = some p)).map (n + ·)
  | [], _ => rfl
  | u :: r, n => by
    have ih := selL_filter p r (n + 1)
    show (if u = some p then n :: selL p (n + 1) r else selL p (n + 1) r) = _
    rw [List.length_cons, List.range_succ_eq_map, List.filter_cons, List.filter_map, ih]
    have e1 : ((fun c => decide ((u :: r)[c]?.join = some p)) ∘ Nat.succ) = fun c => decide (r[c]?.join = some p) := by funext c; rfl
    have e2 : ∀ l : List Nat, (l.map Nat.succ).map (n + ·) = l.map (n + 1 + ·) := fun l => by
      rw [List.map_map]
      refine List.map_congr_left fun c _ => ?_
      show n + (c + 1) = n + 1 + c
      omega
    rw [e1]
    have e0 : decide ((u :: r)[0]?.join = some p) = decide (u = some p) := by
      show decide ((some u).join = some p) = _
      rfl
    rw [e0]
    by_cases h : u = some p
    · rw [if_pos h, if_pos (decide_eq_true h), List.map_cons, e2]; rfl
    · rw [if_neg h, if_neg (by rw [decide_eq_false h]; simp), e2]
theorem selL_lows (ds : List Nat) (p : Nat) : selL p 0 (upps ds) = lows ds p := by
  rw [selL_filter, upps_length]
  unfold lows upp
  rw [show ((0 : Nat) + ·) = id from funext fun c => Nat.zero_add c, List.map_id]
def lowsN (ds : List Nat) (n p : Nat) : List Nat := (List.range n).filter fun c => decide (upp ds c = some p)
theorem lowsN_succ (ds : List Nat) (n p : Nat) : lowsN ds (n + 1) p = if upp ds n = some p then lowsN ds n p ++ [n] else lowsN ds n p := by
  unfold lowsN
  rw [List.range_succ, List.filter_append]
  by_cases h : upp ds n = some p
  · rw [if_pos h, List.filter_cons_of_pos (by simpa using h)]; rfl
  · rw [if_neg h, List.filter_cons_of_neg (by simpa using h)]; simp
def sp_Garden_init (K : PySem.W.Frag) : Sp := fun vs H Q _ => ∃ (a dx da : Addr) (fo : Fo Str) (H0 : Hp) (ow : Ow) (i : Nat), vs = [.ref a, .ref da] ∧ H a = some (.ins (aGarden K) dx []) ∧ Same H0 H ∧ H0 a = none ∧ DocAt K H0 da (fo.rows 1) ∧ (∃ l k, fo = .cons l k .nil) ∧ Own H0 ow ∧
  ∀ H' ow' G, Step (fun _ => False) H0 ow H' ow' → G.g = a → GardenAt K H' ow' i G (num 0 fo) fo.size [] → Q .non H'
theorem num_wf {fo : Fo Str} (ok : RowsOk (fo.rows 1)) (h : ∃ l k, fo = .cons l k .nil) : WF (num 0 fo) fo.size := by
  refine ⟨num_nodup fo 0, ?_, fun m hm => ?_, fun a ha => ?_, fun d hd => ?_, ?_⟩
  · obtain ⟨l, k, rfl⟩ := h; exact ⟨l, _, rfl⟩
  · rw [num_marks] at hm
    obtain ⟨i, hi, rfl⟩ := List.mem_map.mp hm
    have := List.mem_range'_1.mp hi
    omega
  · have e : (num 0 fo).rows 1 = (num 0 fo).rows 1 := rfl
    rw [← Fo.rows_fst _ 1] at ha
    obtain ⟨r, hr, rfl⟩ := List.mem_map.mp ha
    refine ok.lab (r.1.2, r.2) ?_
    have := Fo.rows_map (·.2) (num 0 fo) 1
    rw [num_map] at this
    rw [this]
    exact List.mem_map.mpr ⟨r, hr, rfl⟩
  · rw [num_dep, ← Fo.rows_snd fo 1] at hd
    obtain ⟨r, hr, rfl⟩ := List.mem_map.mp hd
    exact ok.deep r hr
  · have := ok.many
    rw [Fo.rows_length] at this
    rw [num_size]; exact this
def oup (ds : List Nat) (p : Nat) : Option Int := (upp ds p).map fun (i : Nat) => (i : Int)
theorem oiv_oup (ds : List Nat) (p : Nat) : oiv (oup ds p) = onv (upp ds p) := by unfold oup; cases upp ds p <;> rfl
structure GI (K : PySem.W.Frag) (H0 : Hp) (ow : Ow) (H' : Hp) (ow' : Ow) (i : Nat) (a dx kl : Addr) (L : PAd) (rows : List DRow) (n nk : Nat) : Prop where
  st : Step (fun _ => False) H0 ow H' ow'
  na : H0 a = none
  npd : H0 L.pd = none
  nU : ∀ p < n, H0 (L.U (p : Int)) = none
  obj : H' a = some (.ins (aGarden K) dx (fs_Garden (.ref L.pd) (.ref kl) (.int rows.length)))
  oa : ow' a = .gar i
  klk : H' kl = some (.lst [])
  okl : ow' kl = .kl i
  pd : DictAt H' L.pd (fun m => ∃ p < n, m = ((p : Nat) : Int)) fun m => .ref (L.P m)
  opd : ow' L.pd = .pd i
  pl : ∀ (p : Nat) (r : DRow), p < n → rows[p]? = some r → H' (L.P (p : Int)) = some (.ins (aPlant K) (L.X (p : Int)) (fs_Plant (.str r.1) (onv (upp (dsOf rows) p)) (.ref (L.U (p : Int)))))
  opl : ∀ p < n, ow' (L.P (p : Int)) = .pl i p
  un : ∀ p < n, H' (L.U (p : Int)) = some (.lst (nv (lowsN (dsOf rows) nk p)))
  oun : ∀ p < n, ow' (L.U (p : Int)) = .un i p
def PAd.add (L : PAd) (n : Nat) (px u pdx : Addr) : PAd := { pd := L.pd, P := fun m => if m = (n : Int) then px else L.P m, U := fun m => if m = (n : Int) then u else L.U m, X := fun m => if m = (n : Int) then pdx else L.X m }
theorem PAd.add_new (L : PAd) (n : Nat) (px u pdx : Addr) : (L.add n px u pdx).P n = px ∧ (L.add n px u pdx).U n = u ∧ (L.add n px u pdx).X n = pdx := ⟨if_pos rfl, if_pos rfl, if_pos rfl⟩
theorem PAd.add_old (L : PAd) (n : Nat) (px u pdx : Addr) {p : Nat} (h : p < n) : (L.add n px u pdx).P p = L.P p ∧ (L.add n px u pdx).U p = L.U p ∧ (L.add n px u pdx).X p = L.X p := by
  have : ¬ (p : Int) = (n : Int) := by omega
  exact ⟨if_neg this, if_neg this, if_neg this⟩
theorem rows_lt {rows : List DRow} {p : Nat} (h : p < rows.length) : ∃ r, rows[p]? = some r := ⟨rows[p], List.getElem?_eq_getElem h⟩
theorem GI.snoc {K : PySem.W.Frag} {H0 H H7 : Hp} {ow ow' ow7 : Ow} {i : Nat} {a dx kl px pdx u : Addr} {L : PAd} {rows : List DRow} {n : Nat} {r : DRow} {kvs : List (Key × V)} (I : GI K H0 ow H ow' i a dx kl L rows n n) (hr : rows[n]? = some r) (hV : Valid (dsOf rows))
    (f7 : Same H H7) (k7 : ∀ b, H b ≠ none → ow7 b = ow' b) (o7 : Own H7 ow7) (px7 : H7 px = some (.ins (aPlant K) pdx (fs_Plant (.str r.1) (onv (upp (dsOf rows) n)) (.ref u)))) (opx : ow7 px = .pl i n) (u7 : H7 u = some (.lst [])) (ou : ow7 u = .un i n) (nu0 : H0 u = none)
    (d : DictAt (upd H7 L.pd (.dK kvs)) L.pd (fun m => (∃ p < n, m = ((p : Nat) : Int)) ∨ m = (n : Int)) fun m => if m = (n : Int) then .ref px else .ref (L.P m)) : GI K H0 ow (upd H7 L.pd (.dK kvs)) ow7 i a dx kl (L.add n px u pdx) rows (n + 1) n := by
  have hn : n < rows.length := (List.getElem?_eq_some_iff.mp hr).1
  obtain ⟨_, epd⟩ := I.pd.some
  have opd : ow7 L.pd = .pd i := (k7 _ (some_ne epd)).trans I.opd
  have oa : ow7 a = .gar i := (k7 _ (some_ne I.obj)).trans I.oa
  have okl : ow7 kl = .kl i := (k7 _ (some_ne I.klk)).trans I.okl
  have opl : ∀ p < n, ow7 (L.P (p : Int)) = .pl i p := fun p h => by
    obtain ⟨r', hr'⟩ := rows_lt (show p < rows.length by omega)
    exact (k7 _ (some_ne (I.pl p r' h hr'))).trans (I.opl p h)
  have oun : ∀ p < n, ow7 (L.U (p : Int)) = .un i p := fun p h => (k7 _ (some_ne (I.un p h))).trans (I.oun p h)
  obtain ⟨w1, w2, w3⟩ := L.add_new n px u pdx
  have old := fun {p} (h : p < n) => L.add_old n px u pdx h
  have up : ∀ {b o}, ow7 b ≠ .pd i → H7 b = some o → upd H7 L.pd (.dK kvs) b = some o := fun h e => by rw [upd_ne (fun z => h (by rw [z]; exact opd))]; exact e
  refine ⟨⟨fun b h => (k7 b (I.st.alive b h)).trans (I.st.keep b h), fun b h => ?_, fun b o _ e => ?_, ?_⟩, I.na, I.npd, fun p h => ?_, up (by rw [oa]; simp) (f7 _ _ I.obj), oa, up (by rw [okl]; simp) (f7 _ _ I.klk), okl, ?_, opd, fun p r' h hr' => ?_, fun p h => ?_, fun p h => ?_, fun p h => ?_⟩
  · by_cases z : b = L.pd
    · rw [z, upd_same]; exact fun z => by cases z
    · rw [upd_ne z]; exact alive_of_same f7 b (I.st.alive b h)
  · rw [upd_ne (ne_of_none e I.npd)]; exact f7 _ _ (I.st.fr b o id e)
  · intro b h
    by_cases z : b = L.pd
    · rw [z, upd_same]; exact fun z => by cases z
    · rw [upd_ne z]; exact o7 b h
  · by_cases e : p = n
    · subst e; rw [w2]; exact nu0
    · rw [(old (by omega)).2.1]; exact I.nU p (by omega)
  · refine d.iff (fun m => ⟨fun h => ?_, fun ⟨p, h, e⟩ => ?_⟩) fun m _ => ?_
    · rcases h with ⟨p, h, e⟩ | e
      · exact ⟨p, by omega, e⟩
      · exact ⟨n, by omega, e⟩
    · by_cases z : p = n
      · exact .inr (by rw [e, z])
      · exact .inl ⟨p, by omega, e⟩
    · show (if m = (n : Int) then V.ref px else V.ref (L.P m)) = V.ref (if m = (n : Int) then px else L.P m)
      split <;> rfl
  · by_cases e : p = n
    · subst e
      rw [hr] at hr'
      obtain rfl := Option.some.inj hr'
      rw [w1, w2, w3]
      exact up (by rw [opx]; simp) px7
    · have hp : p < n := by omega
      rw [(old hp).1, (old hp).2.1, (old hp).2.2]
      exact up (by rw [opl p hp]; simp) (f7 _ _ (I.pl p r' hp hr'))
  · by_cases e : p = n
    · subst e; rw [w1]; exact opx
    · rw [(old (by omega)).1]; exact opl p (by omega)
  · by_cases e : p = n
    · subst e
      rw [w2]
      have e0 : lowsN (dsOf rows) p p = [] := by
        unfold lowsN
        rw [List.filter_eq_nil_iff]
        intro c hc
        have := List.mem_range.mp hc
        simp only [decide_eq_true_eq]
        intro z
        have := (upp_lt hV z).1
        omega
      rw [e0]
      exact up (by rw [ou]; simp) u7
    · have hp : p < n := by omega
      rw [(old hp).2.1]
      exact up (by rw [oun p hp]; simp) (f7 _ _ (I.un p hp))
  · by_cases e : p = n
    · subst e; rw [w2]; exact ou
    · rw [(old (by omega)).2.1]; exact oun p (by omega)
theorem GI.app {K : PySem.W.Frag} {H0 H : Hp} {ow ow' : Ow} {i : Nat} {a dx kl : Addr} {L : PAd} {rows : List DRow} {n u0 : Nat} {xs : List V} (I : GI K H0 ow H ow' i a dx kl L rows (n + 1) n) (hu : upp (dsOf rows) n = some u0) (h0 : u0 < n + 1) (hx : xs = nv (lowsN (dsOf rows) n u0) ++ [.int n]) (hn : n < rows.length) :
    GI K H0 ow (upd H (L.U (u0 : Int)) (.lst xs)) ow' i a dx kl L rows (n + 1) (n + 1) := by
  have ou := I.oun u0 h0
  have up : ∀ {b o}, ow' b ≠ .un i u0 → H b = some o → upd H (L.U (u0 : Int)) (.lst xs) b = some o := fun h e => by rw [upd_ne (fun z => h (by rw [z]; exact ou))]; exact e
  refine ⟨⟨I.st.keep, fun b h => ?_, fun b o _ e => ?_, ?_⟩, I.na, I.npd, I.nU, up (by rw [I.oa]; simp) I.obj, I.oa, up (by rw [I.okl]; simp) I.klk, I.okl, I.pd.upd (rne I.opd ou (by simp)), I.opd, fun p r h hr => up (by rw [I.opl p h]; simp) (I.pl p r h hr), I.opl, fun p h => ?_, I.oun⟩
  · by_cases z : b = L.U (u0 : Int)
    · rw [z, upd_same]; exact fun z => by cases z
    · rw [upd_ne z]; exact I.st.alive b h
  · rw [upd_ne (ne_of_none e (I.nU u0 h0))]; exact I.st.fr b o id e
  · intro b h
    by_cases z : b = L.U (u0 : Int)
    · rw [z, upd_same]; exact fun z => by cases z
    · rw [upd_ne z]; exact I.st.own b h
  · rw [lowsN_succ]
    by_cases e : p = u0
    · subst e; rw [upd_same, if_pos hu, hx, nv_snoc]
    · rw [if_neg (fun z => e (by rw [hu] at z; exact (Option.some.inj z).symm)), upd_ne (rne (I.oun p h) ou (fun z => e (by have := (Ro.un.inj z).2; omega)))]
      exact I.un p h
theorem GI.skip {K : PySem.W.Frag} {H0 H : Hp} {ow ow' : Ow} {i : Nat} {a dx kl : Addr} {L : PAd} {rows : List DRow} {n : Nat} (I : GI K H0 ow H ow' i a dx kl L rows (n + 1) n) (hu : upp (dsOf rows) n = none) : GI K H0 ow H ow' i a dx kl L rows (n + 1) (n + 1) :=
  ⟨I.st, I.na, I.npd, I.nU, I.obj, I.oa, I.klk, I.okl, I.pd, I.opd, I.pl, I.opl, fun p h => by rw [lowsN_succ, if_neg (by rw [hu]; simp)]; exact I.un p h, I.oun⟩
section
variable {P : Program} {w : World} {K : PySem.W.Frag} {mg : Str → Option Value} {base : Heap}
theorem sc_Garden_init : FnScope ["self", "document", "part"] ["self", "document"] (defScope s_Garden_init) := ⟨rfl, rfl, rfl, by decide +kernel, rfl, by decide +kernel, by decide +kernel⟩
theorem ok_Garden_init (T : Tx K mg) (O_Document_label_of : Ok P w K mg base 4 at_Document_label_of ["self", "part"] (sp_Document_label_of K)) (O_Document_many : Ok P w K mg base 1 at_Document_many ["self"] (sp_Document_many K)) (O_Document_upper_of : Ok P w K mg base 4 at_Document_upper_of ["self", "part"] (sp_Document_upper_of K)) (O_Plant_init : Ok P w K mg base 1 at_Plant_init ["self", "label", "upper"] (sp_Plant_init K)) : Ok P w K mg base 5 at_Garden_init ["self", "document"] (sp_Garden_init K) := by
  refine mkOk T.d_Garden_init sc_Garden_init (fun _ _ _ _ _ _ us hl => match us, hl with | [_, _], _ => rfl) (fun vs H Q E h => ?_) (fun cdv A outer s H vs Q E hr h => ?_)
  · obtain ⟨a, dx, da, fo, H0, ow, i, rfl, ha, s0, n0, D0, hroot, O, k⟩ := h; rfl
  · obtain ⟨a, dx, da, fo, H0, ow, i, rfl, ha, s0, n0, D0, hroot, O, k⟩ := h
    refine ⟨_, (pss_cons (kput (K := K) (pv 0) pe_dnewK)
      (pss_cons (kput (K := K) (pv 0) (pe_lst pa_nil))
      (pss_cons (kput (K := K) (pv 0) (kme0 (K := K) (pv 1) O_Document_many T.c_Document T.m_Document_many (hr.mono (by decide))))
      (pss_one (ps_for PassesOwn.never rfl (pi_range1 (by rfl) T.f_range (pa_cons (kme0 (K := K) (pv 1) O_Document_many T.c_Document T.m_Document_many (hr.mono (by decide))) pa_nil)) (pg_name (i := 2) sc_Garden_init.nd rfl (by first | exact Or.inl rfl | exact Or.inr rfl))
        (pss_cons (ps_dput (hu_of hr) (kfld (K := K) (pv 0)) (pv 2) (kmk (K := K) O_Plant_init T.k_Plant T.g_Plant (hr.mono (by decide)) (pa_cons (kme (K := K) (pv 1) O_Document_label_of T.c_Document T.m_Document_label_of (hr.mono (by decide)) (pa_cons (pv 2) pa_nil)) (pa_cons (kme (K := K) (pv 1) O_Document_upper_of T.c_Document T.m_Document_upper_of (hr.mono (by decide)) (pa_cons (pv 2) pa_nil)) pa_nil))) rfl)
        (pss_one (ps_if (pt_cmpR op_gt (pv 2) pe_int (nomark _))
          (pss_one (ps_expr (kbm (K := K) PySem.F.plainAttrs_list PySem.F.slot_list_append PySem.F.type_list_append kappend (kfld (K := K) (pe_dget (hu_of hr) (kfld (K := K) (pv 0)) (kme (K := K) (pv 1) O_Document_upper_of T.c_Document T.m_Document_upper_of (hr.mono (by decide)) (pa_cons (pv 2) pa_nil)) (fun _ _ => rfl))) (pa_cons (pv 2) pa_nil))))
          pss_nil)))))))), ?_⟩
    have hlen : (fo.rows 1).length = fo.size := Fo.rows_length fo 1
    have hds : dsOf (fo.rows 1) = fo.dep 1 := Fo.rows_snd fo 1
    have hwf := num_wf D0.ok hroot
    generalize hrows : fo.rows 1 = rows at *
    have hV := D0.ok.v
    have hmany := D0.ok.many
    refine fun pd npd => ?_
    refine ⟨_, rfl, in_Garden_plants T (upd_at npd ha) ?_⟩
    have pdn := s0.free npd
    have nap : a ≠ pd := ne_of_none ha npd
    have s1 : Same H0 (upd (upd H pd (.dK [])) a (.ins (aGarden K) dx (fs_Garden_1 (.ref pd)))) := (s0.put pdn).put n0
    have a1 : (upd (upd H pd (.dK [])) a (.ins (aGarden K) dx (fs_Garden_1 (.ref pd)))) a = _ := upd_same
    have p1 : (upd (upd H pd (.dK [])) a (.ins (aGarden K) dx (fs_Garden_1 (.ref pd)))) pd = some (.dK []) := by rw [upd_ne nap.symm]; exact upd_same
    generalize (upd (upd H pd (.dK [])) a (.ins (aGarden K) dx (fs_Garden_1 (.ref pd)))) = H1 at s1 a1 p1 ⊢
    refine ⟨by decide, fun kl nkl => ⟨_, rfl, in_Garden_kept T (upd_at nkl a1) ?_⟩⟩
    have nak : a ≠ kl := ne_of_none a1 nkl
    have npk : pd ≠ kl := ne_of_none p1 nkl
    have kln := s1.free nkl
    have s2 : Same H0 (upd (upd H1 kl (.lst [])) a (.ins (aGarden K) dx (fs_Garden_2 (.ref pd) (.ref kl)))) := (s1.put kln).put n0
    have a2 : (upd (upd H1 kl (.lst [])) a (.ins (aGarden K) dx (fs_Garden_2 (.ref pd) (.ref kl)))) a = _ := upd_same
    have p2 : (upd (upd H1 kl (.lst [])) a (.ins (aGarden K) dx (fs_Garden_2 (.ref pd) (.ref kl)))) pd = some (.dK []) := by rw [upd_ne nap.symm]; exact upd_at nkl p1
    have k2 : (upd (upd H1 kl (.lst [])) a (.ins (aGarden K) dx (fs_Garden_2 (.ref pd) (.ref kl)))) kl = some (.lst []) := by rw [upd_ne nak.symm]; exact upd_same
    generalize (upd (upd H1 kl (.lst [])) a (.ins (aGarden K) dx (fs_Garden_2 (.ref pd) (.ref kl)))) = H2 at s2 a2 p2 k2 ⊢
    have D2 := D0.same s2
    obtain ⟨_, dxd, pt, pe, pu, ts, h1, h2, h3, h4, h5⟩ := id D0
    refine ⟨_, rfl, mt_Document_many (s2 _ _ h1) ⟨da, rows, rfl, D2, _, rfl, in_Garden_coming T a2 ?_⟩⟩
    have s3 : Same H0 (upd H2 a (.ins (aGarden K) dx (fs_Garden (.ref pd) (.ref kl) (.int rows.length)))) := s2.put n0
    have a3 : (upd H2 a (.ins (aGarden K) dx (fs_Garden (.ref pd) (.ref kl) (.int rows.length)))) a = some (.ins (aGarden K) dx (fs_Garden (.ref pd) (.ref kl) (.int rows.length))) := upd_same
    have p3 : (upd H2 a (.ins (aGarden K) dx (fs_Garden (.ref pd) (.ref kl) (.int rows.length)))) pd = some (.dK []) := by rw [upd_ne nap.symm]; exact p2
    have k3 : (upd H2 a (.ins (aGarden K) dx (fs_Garden (.ref pd) (.ref kl) (.int rows.length)))) kl = some (.lst []) := by rw [upd_ne nak.symm]; exact k2
    generalize (upd H2 a (.ins (aGarden K) dx (fs_Garden (.ref pd) (.ref kl) (.int rows.length)))) = H3 at s3 a3 p3 k3 ⊢
    let ow3 : Ow := fun b => if b = a then .gar i else if b = pd then .pd i else if b = kl then .kl i else ow b
    have o1 : ow3 a = .gar i := if_pos rfl
    have o2 : ow3 pd = .pd i := by show (if _ then _ else _) = _; rw [if_neg nap.symm, if_pos rfl]
    have o3 : ow3 kl = .kl i := by show (if _ then _ else _) = _; rw [if_neg nak.symm, if_neg npk.symm, if_pos rfl]
    have o4 : ∀ b, b ≠ a → b ≠ pd → b ≠ kl → ow3 b = ow b := fun b h1 h2 h3 => by show (if _ then _ else _) = _; rw [if_neg h1, if_neg h2, if_neg h3]
    have S3 : Step (fun _ => False) H0 ow H3 ow3 := by
      refine ⟨fun b h => o4 b (fun z => h (by rw [z]; exact n0)) (fun z => h (by rw [z]; exact pdn)) (fun z => h (by rw [z]; exact kln)), alive_of_same s3, fun b o _ e => s3 b o e, fun b h => ?_⟩
      by_cases h1 : b = a
      · rw [h1, a3]; exact fun z => by cases z
      by_cases h2 : b = pd
      · rw [h2, p3]; exact fun z => by cases z
      by_cases h3 : b = kl
      · rw [h3, k3]; exact fun z => by cases z
      rw [o4 b h1 h2 h3] at h
      exact alive_of_same s3 b (O b h)
    generalize ow3 = ow3' at *
    refine ⟨_, rfl, mt_Document_many (s3 _ _ h1) ⟨da, rows, rfl, D0.same s3, _, rfl, by omega, by omega, ?_⟩⟩
    rw [Int.toNat_natCast]
    refine for_it walk_range (fun n σ H' => ∃ (x2 : Option V) (ow' : Ow) (L : PAd), σ = [some (.ref a), some (.ref da), x2] ∧ L.pd = pd ∧ GI K H0 ow H' ow' i a dx kl L rows n n) ?_ (fun _ _ _ _ _ => trivial) ?_ ?_
    · exact ⟨none, ow3', ⟨pd, fun _ => a, fun _ => a, fun _ => a⟩, rfl, rfl, S3, n0, pdn, fun p h => absurd h (Nat.not_lt_zero p), a3, o1, k3, o3, (DictAt.nil (val := fun _ => .ref a) p3).iff (fun m => ⟨False.elim, fun ⟨p, h, _⟩ => absurd h (Nat.not_lt_zero p)⟩) fun _ h => h.elim, o2, fun p r h => absurd h (Nat.not_lt_zero p), fun p h => absurd h (Nat.not_lt_zero p), fun p h => absurd h (Nat.not_lt_zero p), fun p h => absurd h (Nat.not_lt_zero p)⟩
    · rintro n v σ H4 H5 hn ⟨x2, ow', L, rfl, eL, I⟩ ⟨rfl, ev⟩
      subst eL
      obtain rfl : v = V.int (n : Int) := by
        rw [ev]
        show V.int ((0 : Int) + (n : Nat)) = _
        congr 1; omega
      have hr : rows[n]? = some (rows[n]'hn) := List.getElem?_eq_getElem hn
      generalize (rows[n]'hn) = r at hr
      have same : ∀ {b o}, H0 b = some o → H5 b = some o := fun e => I.st.fr _ _ id e
      have sS : Same H0 H5 := fun b o e => same e
      refine ⟨_, rfl, mt_Document_label_of (sS _ _ h1) ⟨_, rfl, da, rows, n, r, rfl, D0.same sS, hr, ?_⟩⟩
      refine ⟨_, rfl, mt_Document_upper_of (sS _ _ h1) ⟨_, rfl, da, rows, n, rfl, D0.same sS, hn, ?_⟩⟩
      refine fun px pdx npx npdx ne => ⟨px, pdx, r.1, oup (dsOf rows) n, by rw [oiv_oup]; rfl, upd_same, fun u nu => ⟨rfl, ?_⟩⟩
      have nu1 := upd_free nu
      have nu2 := upd_free nu1.2
      let C0 : Ro → Prop := fun r => r = .pl i n
      have S4 : Step C0 H5 ow' (upd H5 pdx (.own px)) ow' := Step.same I.st.own (Same.up npdx)
      have npx4 : upd H5 pdx (.own px) px = none := by rw [upd_ne ne.symm]; exact npx
      have S5 := Step.new (C := C0) (o := .ins (aPlant K) pdx []) S4.own npx4 (.pl i n)
      have S6 := Step.new (C := C0) (o := .lst []) S5.own nu (.un i n)
      have nuw : u ≠ px := nu1.1
      have epx6 : upd (upd (upd H5 pdx (.own px)) px (.ins (aPlant K) pdx [])) u (.lst []) px = some (.ins (aPlant K) pdx []) := by rw [upd_ne nuw.symm]; exact upd_same
      have opx6 : owp (owp ow' px (.pl i n)) u (.un i n) px = .pl i n := by rw [owp_ne nuw.symm]; exact owp_same
      have S7 := Step.put (C := C0) (o := .ins (aPlant K) pdx (fs_Plant (.str r.1) (oiv (oup (dsOf rows) n)) (.ref u))) S6.own epx6 opx6
      have S47 := ((S4.trans S5).trans S6).trans S7
      have f7 : Same H5 (upd (upd (upd (upd H5 pdx (.own px)) px (.ins (aPlant K) pdx [])) u (.lst [])) px (.ins (aPlant K) pdx (fs_Plant (.str r.1) (oiv (oup (dsOf rows) n)) (.ref u)))) := (((Same.up npdx).new npx4).put nu2.2 |>.put npx)
      have px7 : (upd (upd (upd (upd H5 pdx (.own px)) px (.ins (aPlant K) pdx [])) u (.lst [])) px (.ins (aPlant K) pdx (fs_Plant (.str r.1) (oiv (oup (dsOf rows) n)) (.ref u)))) px = some (.ins (aPlant K) pdx (fs_Plant (.str r.1) (oiv (oup (dsOf rows) n)) (.ref u))) := upd_same
      have u7 : (upd (upd (upd (upd H5 pdx (.own px)) px (.ins (aPlant K) pdx [])) u (.lst [])) px (.ins (aPlant K) pdx (fs_Plant (.str r.1) (oiv (oup (dsOf rows) n)) (.ref u)))) u = some (.lst []) := by rw [upd_ne nuw]; exact upd_same
      have ou7 : owp (owp ow' px (.pl i n)) u (.un i n) u = .un i n := owp_same
      generalize (upd (upd (upd (upd H5 pdx (.own px)) px (.ins (aPlant K) pdx [])) u (.lst [])) px (.ins (aPlant K) pdx (fs_Plant (.str r.1) (oiv (oup (dsOf rows) n)) (.ref u)))) = H7 at S47 f7 px7 u7 ⊢
      generalize owp (owp ow' px (.pl i n)) u (.un i n) = ow7 at S47 opx6 ou7
      rw [oiv_oup] at px7
      have pd7 := I.pd.same f7
      have hdom : ∀ m, (∃ p < n, m = ((p : Nat) : Int)) → m ∈ (List.range rows.length).map fun p : Nat => (p : Int) := fun m ⟨p, h, e⟩ => List.mem_map.mpr ⟨p, List.mem_range.mpr (by omega), e.symm⟩
      obtain ⟨kv8, q1, q2⟩ := pd7.put hdom (by rw [List.length_map, List.length_range]; exact hmany) (n : Int) (.ref px)
      refine ⟨_, rfl, rd_Garden_plants T (f7 _ _ I.obj) ⟨_, rfl, L.pd, _, rfl, q1, ?_⟩⟩
      have I8 := I.snoc hr hV f7 S47.keep S47.own px7 opx6 u7 ou7 (sS.free nu2.2) (q2 _ upd_same)
      generalize upd H7 L.pd (.dK kv8) = H8 at I8 ⊢
      have sS8 : Same H0 H8 := fun b o e => I8.st.fr _ _ id e
      refine ⟨_, rfl, (n : Int), 0, rfl, rfl, ?_⟩
      cases hu : upp (dsOf rows) n with
      | none =>
        have hn0 : n = 0 := by
          cases Nat.eq_zero_or_pos n with
          | inl h => exact h
          | inr h => obtain ⟨x, hx⟩ := upp_pos hV h (by rw [dsOf_length]; exact hn); rw [hu] at hx; cases hx
        exact ⟨false, bf (by omega), some (.int (n : Nat)), ow7, L.add n px u pdx, rfl, rfl, I8.skip hu⟩
      | some u0 =>
        have hun := (upp_lt hV hu).1
        obtain ⟨r0, hr0⟩ := rows_lt (show u0 < rows.length by omega)
        have unu := I8.un u0 (by omega)
        refine ⟨true, bt (by omega), _, rfl, rd_Garden_plants T I8.obj ⟨_, rfl, mt_Document_upper_of (sS8 _ _ h1) ⟨_, rfl, da, rows, n, rfl, D0.same sS8, hn, (L.add n px u pdx).pd, _, rfl, by rw [hu]; exact I8.pd.get ⟨u0, by omega, rfl⟩, rd_Plant_under T (I8.pl u0 r0 (by omega) hr0) ⟨tyL unu, _, rfl, (L.add n px u pdx).U u0, _, _, rfl, rfl, unu, ?_, some (.int (n : Nat)), ow7, L.add n px u pdx, rfl, rfl, I8.app hu (by omega) rfl hn⟩⟩⟩⟩
        rw [len_nv]
        exact Nat.lt_of_le_of_lt (Nat.le_trans (List.length_filter_le _ _) (by rw [List.length_range]; omega)) (show 240 < sizeLine by decide)
    rintro σ H4 ⟨x2, ow', L, rfl, eL, I⟩
    subst eL
    have nid : ∀ x ∈ nodes none (num 0 fo), ∃ (p : Nat) (r : DRow), p < rows.length ∧ rows[p]? = some r ∧ x.m = (p : Int) ∧ x.l = r.1 ∧ oiv x.o = onv (upp (dsOf rows) p) ∧ x.ks = (lows (dsOf rows) p).map fun (i : Nat) => (i : Int) := by
      intro x hx
      obtain ⟨p, hp⟩ := List.getElem?_of_mem hx
      obtain ⟨q1, q2, q3, q4⟩ := num_node hp
      have hpl : p < rows.length := by
        have := (List.getElem?_eq_some_iff.mp hp).1
        rw [nodes_length, num_size] at this; omega
      obtain ⟨r, hr⟩ := rows_lt hpl
      refine ⟨p, r, hpl, hr, q1, ?_, ?_, ?_⟩
      · rw [← Fo.rows_fst fo 1, hrows, List.getElem?_map, hr] at q2
        exact (Option.some.inj q2).symm
      · rw [q3, ← hds]; exact oiv_oup _ _
      · rw [q4, ← hds, selL_lows]
    have mnum : ∀ m, m ∈ marks (num 0 fo) ↔ ∃ p < rows.length, m = ((p : Nat) : Int) := by
      intro m
      rw [num_marks, List.mem_map]
      constructor
      · rintro ⟨p, hp, rfl⟩
        have := List.mem_range'_1.mp hp
        exact ⟨p, by omega, rfl⟩
      · rintro ⟨p, hp, rfl⟩
        exact ⟨p, List.mem_range'_1.mpr (by omega), rfl⟩
    have PLA : PlantsAt K H4 ow' i L (num 0 fo) := by
      refine ⟨hwf.small, hwf.nd, I.pd.iff (fun m => (mnum m).symm) fun _ _ => rfl, I.opd, fun x hx => ?_, fun m hm => ?_, fun x hx => ?_, fun m hm => ?_⟩
      · obtain ⟨p, r, hp, hr, e1, e2, e3, e4⟩ := nid x hx
        rw [e1, e2, e3]; exact I.pl p r hp hr
      · obtain ⟨p, hp, rfl⟩ := (mnum m).mp hm
        exact I.opl p hp
      · obtain ⟨p, r, hp, hr, e1, e2, e3, e4⟩ := nid x hx
        rw [e1, e4, I.un p hp]
        refine congrArg (fun l => some (HO.lst l)) ?_
        unfold nv iv
        rw [List.map_map]
        have el : lowsN (dsOf rows) rows.length p = lows (dsOf rows) p := by unfold lowsN lows; rw [dsOf_length]
        rw [el]; rfl
      · obtain ⟨p, hp, rfl⟩ := (mnum m).mp hm
        exact I.oun p hp
    refine k H4 ow' ⟨a, dx, L, kl, []⟩ I.st rfl ⟨⟨I.st.own, hwf, ?_, I.oa, PLA, I.klk, I.okl⟩, rfl, fun j a k h => by cases h⟩
    rw [← hlen]; exact I.obj
end
end Bg

set_option Elab.async false
set_option linter.all false
set_option maxRecDepth 100000
set_option maxHeartbeats 4000000
namespace Bg
open PySem PySem.Spec PyProof.Rows L2
/-! ### draws -/
def srcK (n y t : Int) : List (Key × V) := [(.inr "number", .int n), (.inr "seed", .int y), (.inr "turn", .int t)]
def SrcAt (H : Hp) (s : Addr) : Prop := ∃ n y t, H s = some (.dK (srcK n y t))
/-- after draws from s -/
structure Drawn (s : Addr) (H H' : Hp) : Prop where
  src : SrcAt H' s
  fr : ∀ b o, b ≠ s → H b = some o → H' b = some o
theorem ne_ns : ¬ ("number" : Str) = "seed" := by decide +kernel
theorem ne_nt : ¬ ("number" : Str) = "turn" := by decide +kernel
theorem ne_st : ¬ ("seed" : Str) = "turn" := by decide +kernel
theorem ne_sn : ¬ ("seed" : Str) = "number" := by decide +kernel
theorem ne_tn : ¬ ("turn" : Str) = "number" := by decide +kernel
theorem ne_ts : ¬ ("turn" : Str) = "seed" := by decide +kernel
theorem inr_ne {a b : Str} (h : ¬ a = b) : ¬ (Sum.inr a : Key) = .inr b := fun z => h (Sum.inr.inj z)
theorem src_n {n y t : Int} : valV (srcK n y t) (.inr "number") = some (.int n) := valV_pos rfl
theorem src_y {n y t : Int} : valV (srcK n y t) (.inr "seed") = some (.int y) := (valV_neg (inr_ne ne_ns)).trans (valV_pos rfl)
theorem src_t {n y t : Int} : valV (srcK n y t) (.inr "turn") = some (.int t) := (valV_neg (inr_ne ne_nt)).trans ((valV_neg (inr_ne ne_st)).trans (valV_pos rfl))
theorem put_n {n y t v : Int} : putK (srcK n y t) (.inr "number") (.int v) = srcK v y t := by
  unfold putK
  rw [if_pos (by rw [valV_any, src_n]; rfl)]
  show [(if (Sum.inr ("number" : Str) : Key) = .inr "number" then _ else _), (if (Sum.inr ("seed" : Str) : Key) = .inr "number" then _ else _), (if (Sum.inr ("turn" : Str) : Key) = .inr "number" then _ else _)] = _
  rw [if_pos rfl, if_neg (inr_ne ne_sn), if_neg (inr_ne ne_tn)]; rfl
theorem put_t {n y t v : Int} : putK (srcK n y t) (.inr "turn") (.int v) = srcK n y v := by
  unfold putK
  rw [if_pos (by rw [valV_any, src_t]; rfl)]
  show [(if (Sum.inr ("number" : Str) : Key) = .inr "turn" then _ else _), (if (Sum.inr ("seed" : Str) : Key) = .inr "turn" then _ else _), (if (Sum.inr ("turn" : Str) : Key) = .inr "turn" then _ else _)] = _
  rw [if_pos rfl, if_neg (inr_ne ne_nt), if_neg (inr_ne ne_st)]; rfl
def sp__law_take (_ : PySem.W.Frag) : Sp := fun vs H Q _ => ∃ (s : Addr) (many : Int), vs = [.ref s, .int many] ∧ SrcAt H s ∧ 1 ≤ many ∧ many ≤ 1000000 ∧ ∀ r H', 0 ≤ r → r < many → Drawn s H H' → Q (.int r) H'
def sp__law_cell_at (K : PySem.W.Frag) : Sp := fun vs H Q _ => ∃ (a : Addr) (ns : List Int) (k : Nat), vs = [.ref a, .int k] ∧ SqL K H a (ns.map V.int) ∧ ∀ c, Q (.int c) H
def sp__law_source (_ : PySem.W.Frag) : Sp := fun vs H Q _ => ∃ (c : Int), vs = [.int c] ∧ ∀ H' s, Same H H' → H s = none → SrcAt H' s → Q (.ref s) H'
theorem dget_src {H : Hp} {s : Addr} {k : Str} {n y t v : Int} (e : H s = some (.dK (srcK n y t))) (h : valV (srcK n y t) (.inr k) = some (.int v)) : DGet H s (.str k) (some (.int v)) := by
  have := DGet.k (k := .inr k) e
  rw [h] at this; exact this
theorem dput_src {H : Hp} {s : Addr} {k : Str} {n y t v : Int} {kvs : List (Key × V)} (e : H s = some (.dK (srcK n y t))) (h : putK (srcK n y t) (.inr k) (.int v) = kvs) : DPut H s (.str k) (.int v) (upd H s (.dK kvs)) := by
  rw [← h]; exact DPut.k (k := .inr k) e (by show 3 < sizeLine; decide)
theorem fmod_rng {a b : Int} (h : 1 ≤ b) : 0 ≤ a.fmod b ∧ a.fmod b < b := by
  rw [Int.fmod_eq_emod_of_nonneg a (by omega)]
  exact ⟨Int.emod_nonneg a (by omega), Int.emod_lt_of_pos a (by omega)⟩
theorem merge_src {n y t : Int} : mergeK [] (srcK n y t) = srcK n y t := by
  show putK (κ := Key) (putK (κ := Key) (putK (κ := Key) [] (.inr "number") (.int n)) (.inr "seed") (.int y)) (.inr "turn") (.int t) = _
  rw [putK_new (κ := Key) (kvs := []) _ rfl]
  rw [List.nil_append]
  rw [putK_new (κ := Key) (kvs := [(.inr "number", .int n)]) (k := .inr "seed") _ ((valV_neg (inr_ne ne_ns)).trans rfl)]
  show putK (κ := Key) [(.inr "number", .int n), (.inr "seed", .int y)] (.inr "turn") (.int t) = _
  rw [putK_new (κ := Key) (kvs := [(.inr "number", .int n), (.inr "seed", .int y)]) (k := .inr "turn") _ ((valV_neg (inr_ne ne_nt)).trans ((valV_neg (inr_ne ne_st)).trans rfl))]
  rfl
section
variable {P : Program} {w : World} {K : PySem.W.Frag} {mg : Str → Option Value} {base : Heap}
theorem sc__law_cell_at : FnScope ["_law_script", "_law_k"] ["_law_script", "_law_k"] (defScope s__law_cell_at) := ⟨rfl, rfl, rfl, by decide +kernel, rfl, by decide +kernel, by decide +kernel⟩
theorem ok__law_cell_at (T : Tx K mg)  : Ok P w K mg base 1 at__law_cell_at ["_law_script", "_law_k"] (sp__law_cell_at K) := by
  refine mkOk T.d__law_cell_at sc__law_cell_at (fun _ _ _ _ _ _ us hl => match us, hl with | [_, _], _ => rfl) (fun vs H Q E h => ?_) (fun cdv A outer s H vs Q E hr h => ?_)
  · obtain ⟨a, ns, k, rfl, hs, q⟩ := h; rfl
  · obtain ⟨a, ns, k, rfl, hs, q⟩ := h
    refine ⟨_, (pss_cons (ps_if (pt_cmpR op_lt (pv 1) (pe_callB (klen (K := K)) (by rfl) T.f_len PySem.boot_len (pa_cons (pv 0) pa_nil)) (nomark _))
        (pss_one (ps_ret (pe_ix (kixL (K := K)) (pv 0) (pv 1) (fun _ _ => rfl))))
        pss_nil)
      (pss_one (ps_ret (pe_op op_add (pe_op op_mul pe_int (pv 1)) pe_int)))), ?_⟩
    refine ⟨_, rfl, _, rfl, a, _, rfl, .inl hs, _, _, rfl, rfl, ?_⟩
    by_cases h : k < ns.length
    · refine ⟨true, bt (by rw [List.length_map]; omega), _, rfl, _, rfl, a, _, _, _, rfl, rfl, hs, atI_nat (j := k) (v := .int ns[k]) (by rw [List.getElem?_map, List.getElem?_eq_getElem h]; rfl), q _⟩
    · exact ⟨false, bf (by rw [List.length_map]; omega), _, rfl, 7919, _, rfl, rfl, .inl ⟨by omega, by omega⟩, _, 13, rfl, rfl, q _⟩
theorem sc__law_source : FnScope ["_law_cell"] ["_law_cell"] (defScope s__law_source) := ⟨rfl, rfl, rfl, by decide +kernel, rfl, by decide +kernel, by decide +kernel⟩
theorem ok__law_source (T : Tx K mg)  : Ok P w K mg base 1 at__law_source ["_law_cell"] (sp__law_source K) := by
  refine mkOk T.d__law_source sc__law_source (fun _ _ _ _ _ _ us hl => match us, hl with | [_], _ => rfl) (fun vs H Q E h => ?_) (fun cdv A outer s H vs Q E hr h => ?_)
  · obtain ⟨c, rfl, q⟩ := h; rfl
  · obtain ⟨c, rfl, q⟩ := h
    refine ⟨_, (pss_one (ps_ret (pe_disp (pps_cons pe_str (pe_op op_mul (pe_callB (call_max2 rfl) (by rfl) T.f_max (by decide +kernel) (pa_cons pe_int (pa_cons (pv 0) pa_nil))) (pe_callTy call_int1 (by rfl) T.f_int (by decide +kernel) (pa_cons (pe_cmpR op_ge (pv 0) (pe_op op_pow pe_int pe_int) (nomark _)) pa_nil))) (pps_cons pe_str (pe_op op_modN (pv 0) pe_int) (pps_cons pe_str pe_int pps_nil))) (by rfl) (by rfl) (fun z => by cases z) (by decide)))), ?_⟩
    refine fun p np => ?_
    have hb : ∀ b : Bool, -(2 : Int) ^ 64 < (if b = true then 1 else 0) ∧ (if b = true then (1 : Int) else 0) < 2 ^ 64 := fun b => by cases b <;> exact ⟨by decide, by decide⟩
    refine ⟨_, rfl, 0, c, rfl, _, rfl, 10, 18, rfl, rfl, ⟨by omega, by omega, by decide⟩, _, _, rfl, rfl, .inr ⟨_, rfl, _, _, rfl, rfl, .inr (hb _), _, rfl, c, _, rfl, rfl, by omega, upd_same, ?_⟩⟩
    refine ⟨srcK ((if c > 0 then c else 0) * (if decide ((10 : Int) ^ Int.toNat 18 ≤ c) = true then 1 else 0)) (c.fmod 2147483629) 0, rfl, by show 3 ≤ 15; decide, ?_⟩
    rw [upd_upd, merge_src]
    exact q _ p (Same.up np) np ⟨_, _, _, upd_same⟩
theorem sc__law_take : FnScope ["_law_source_here", "_law_many", "_law_digit", "_law_number"] ["_law_source_here", "_law_many"] (defScope s__law_take) := ⟨rfl, rfl, rfl, by decide +kernel, rfl, by decide +kernel, by decide +kernel⟩
theorem ok__law_take (T : Tx K mg)  : Ok P w K mg base 1 at__law_take ["_law_source_here", "_law_many"] (sp__law_take K) := by
  refine mkOk T.d__law_take sc__law_take (fun _ _ _ _ _ _ us hl => match us, hl with | [_, _], _ => rfl) (fun vs H Q E h => ?_) (fun cdv A outer s H vs Q E hr h => ?_)
  · obtain ⟨s, many, rfl, ⟨n, y, t, e⟩, h1, h2, k⟩ := h; rfl
  · obtain ⟨s, many, rfl, ⟨n, y, t, e⟩, h1, h2, k⟩ := h
    refine ⟨_, (pss_cons (ps_if (pt_cmpR op_gt (pe_dget (hu_of hr) (pv 0) pe_str (fun _ _ => rfl)) pe_int (nomark _))
        (pss_cons (ps_set (i := 2) sc__law_take.nd rfl (by first | exact Or.inl rfl | exact Or.inr rfl) (pe_op op_modN (pe_dget (hu_of hr) (pv 0) pe_str (fun _ _ => rfl)) (pv 1)))
        (pss_cons (ps_dput (hu_of hr) (pv 0) pe_str (pe_op op_fdivN (pe_dget (hu_of hr) (pv 0) pe_str (fun _ _ => rfl)) (pv 1)) rfl)
        (pss_one (ps_ret (pv 2)))))
        pss_nil)
      (pss_cons (ps_dput (hu_of hr) (pv 0) pe_str (pe_op op_add (pe_dget (hu_of hr) (pv 0) pe_str (fun _ _ => rfl)) pe_int) rfl)
      (pss_cons (ps_set (i := 3) sc__law_take.nd rfl (by first | exact Or.inl rfl | exact Or.inr rfl) (pe_op op_modN (pe_op op_mul (pe_op op_add (pe_dget (hu_of hr) (pv 0) pe_str (fun _ _ => rfl)) (pe_op op_mul pe_int (pe_dget (hu_of hr) (pv 0) pe_str (fun _ _ => rfl)))) pe_int) pe_int))
      (pss_cons (ps_set (i := 3) sc__law_take.nd rfl (by first | exact Or.inl rfl | exact Or.inr rfl) (pe_op op_modN (pe_op op_mul (pv 3) (pv 3)) pe_int))
      (pss_one (ps_ret (pe_op op_modN (pe_op op_fdivN (pe_op op_modN (pe_op op_mul (pe_op op_add (pv 3) (pe_dget (hu_of hr) (pv 0) pe_str (fun _ _ => rfl))) (pe_op op_add (pv 3) pe_int)) pe_int) pe_int) (pv 1)))))))), ?_⟩
    have D1 : ∀ n' y' t', Drawn s H (upd H s (.dK (srcK n' y' t'))) := fun n' y' t' => ⟨⟨n', y', t', upd_same⟩, fun b o h e => by rw [upd_ne h]; exact e⟩
    refine ⟨_, rfl, s, _, rfl, dget_src e src_n, n, 0, rfl, rfl, ?_⟩
    by_cases hn : 0 < n
    · refine ⟨true, bt hn, _, rfl, s, _, rfl, dget_src e src_n, _, rfl, n, many, rfl, rfl, by omega, ?_⟩
      refine ⟨_, rfl, s, _, rfl, dget_src e src_n, _, rfl, n, many, rfl, rfl, ⟨by omega, by omega⟩, _, rfl, s, _, rfl, dput_src e put_n, _, rfl, ?_⟩
      exact k _ _ (fmod_rng h1).1 (fmod_rng h1).2 (D1 _ _ _)
    · refine ⟨false, bf hn, ?_⟩
      refine ⟨_, rfl, s, _, rfl, dget_src e src_t, t, 1, rfl, rfl, _, rfl, s, _, rfl, dput_src e put_t, ?_⟩
      have D2 := D1 n y (t + 1)
      have e2 : upd H s (.dK (srcK n y (t + 1))) s = _ := upd_same
      show tSeq _ _ _ _ (upd H s (.dK (srcK n y (t + 1))))
      generalize upd H s (.dK (srcK n y (t + 1))) = H2 at D2 e2 ⊢
      refine ⟨_, rfl, s, _, rfl, dget_src e2 src_y, _, rfl, s, _, rfl, dget_src e2 src_t, 7919, _, rfl, rfl, .inl ⟨by omega, by omega⟩, _, _, rfl, rfl, _, 48271, rfl, rfl, .inr ⟨by omega, by omega⟩, _, 2147483647, rfl, rfl, by omega, ?_⟩
      obtain ⟨g1, g2⟩ := fmod_rng (a := (y + 7919 * (t + 1)) * 48271) (b := 2147483647) (by omega)
      refine ⟨_, rfl, _, rfl, ((y + 7919 * (t + 1)) * 48271).fmod 2147483647, ((y + 7919 * (t + 1)) * 48271).fmod 2147483647, rfl, rfl, .inl ⟨by omega, by omega⟩, _, 2147483629, rfl, rfl, by omega, ?_⟩
      generalize ((y + 7919 * (t + 1)) * 48271).fmod 2147483647 = w at g1 g2
      obtain ⟨g3, g4⟩ := fmod_rng (a := w * w) (b := 2147483629) (by omega)
      refine ⟨_, rfl, _, rfl, s, _, rfl, dget_src e2 src_t, (w * w).fmod 2147483629, _, rfl, rfl, _, rfl, (w * w).fmod 2147483629, 3, rfl, rfl, _, (w * w).fmod 2147483629 + 3, rfl, rfl, .inr ⟨by omega, by omega⟩, _, 2147483587, rfl, rfl, by omega, _, 7, rfl, rfl, ⟨by omega, by omega⟩, _, rfl, _, many, rfl, rfl, by omega, ?_⟩
      exact k _ _ (fmod_rng h1).1 (fmod_rng h1).2 D2
end
end Bg

set_option Elab.async false
set_option linter.all false
set_option maxRecDepth 100000
set_option maxHeartbeats 4000000
namespace Bg
open PySem PySem.Spec PyProof.Rows L2
theorem src_ne {H : Hp} {s p : Addr} (h : SrcAt H s) (n : H p = none) : p ≠ s := by obtain ⟨_, _, _, e⟩ := h; exact (ne_of_none e n).symm
theorem Drawn.refl {s : Addr} {H : Hp} (h : SrcAt H s) : Drawn s H H := ⟨h, fun _ _ _ e => e⟩
theorem Drawn.trans {s : Addr} {H H1 H2 : Hp} (a : Drawn s H H1) (b : Drawn s H1 H2) : Drawn s H H2 := ⟨b.src, fun x o h e => b.fr x o h (a.fr x o h e)⟩
theorem Drawn.same {s : Addr} {H H1 : Hp} (h : SrcAt H s) (b : Same H H1) : Drawn s H H1 := ⟨by obtain ⟨n, y, t, e⟩ := h; exact ⟨n, y, t, b _ _ e⟩, fun x o _ e => b x o e⟩
theorem Drawn.free {s : Addr} {H H1 : Hp} (a : Drawn s H H1) {p : Addr} (n : H1 p = none) : H p = none := by
  cases e : H p with
  | none => rfl
  | some o => rw [a.fr p o (src_ne a.src n) e] at n; cases n
theorem Drawn.new {s : Addr} {H H1 : Hp} (a : Drawn s H H1) {p : Addr} {o : HO} (n : H1 p = none) : Drawn s H (upd H1 p o) := a.trans (Drawn.same a.src (Same.up n))
theorem Drawn.put {s : Addr} {H H1 : Hp} (a : Drawn s H H1) {p : Addr} {o : HO} (n : H p = none) (ne : p ≠ s) : Drawn s H (upd H1 p o) :=
  ⟨by obtain ⟨x, y, t, e⟩ := a.src; exact ⟨x, y, t, by rw [upd_ne ne.symm]; exact e⟩, fun b u h e => by rw [upd_ne (ne_of_none e n)]; exact a.fr b u h e⟩
def Lets (x : Str) : Prop := ∀ c ∈ x.cps.toList, c ∈ lets.cps.toList
theorem cutS_lets {z : Str} (h : Lets z) (n : Int) (h0 : 0 ≤ n) : Lets (cutS z none (some n)) ∧ (cutS z none (some n)).length ≤ n.toNat := by
  have e : (cutS z none (some n)).cps.toList = z.cps.toList.take (HT.sIx z.length z.length (some n)) := by
    unfold cutS
    show (z.cps.toList.drop 0).take _ = _
    rw [List.drop_zero]; rfl
  constructor
  · intro c hc; rw [e] at hc; exact h c (List.mem_of_mem_take hc)
  · show (cutS z none (some n)).cps.size ≤ _
    rw [← Array.length_toList, e, List.length_take]
    obtain ⟨m, rfl⟩ := Int.eq_ofNat_of_zero_le h0
    rw [show HT.sIx z.length z.length (some ((m : Nat) : Int)) = min m z.length from HT.sIx_nat _ _ _]
    rw [Int.toNat_natCast]
    omega
theorem lets_add {x y : Str} (h : Lets x) (h2 : Lets y) : Lets (x ++ y) := fun c hc => by
  have e : (x ++ y).cps.toList = x.cps.toList ++ y.cps.toList := Array.toList_append
  rw [e] at hc
  exact (List.mem_append.mp hc).elim (h c) (h2 c)
theorem len_add (x y : Str) : (x ++ y).length = x.length + y.length := Array.size_append
theorem lets_ix (r : Int) (h0 : 0 ≤ r) (h1 : r < 26) : ∃ c, atI lets.cps.toList r = some c ∧ Lets ⟨#[c]⟩ := by
  obtain ⟨n, rfl⟩ := Int.eq_ofNat_of_zero_le h0
  have hl : lets.cps.toList.length = 26 := by decide +kernel
  have hn : n < lets.cps.toList.length := by omega
  refine ⟨_, atI_nat (List.getElem?_eq_getElem hn), fun c hc => ?_⟩
  have : c = lets.cps.toList[n] := by simpa using hc
  rw [this]; exact List.getElem_mem hn
theorem ix_of {α : Type} (l : List α) (g : α → V) (r : Int) (h0 : 0 ≤ r) (h1 : r < l.length) : ∃ v ∈ l, atI (l.map g) r = some (g v) := by
  obtain ⟨n, rfl⟩ := Int.eq_ofNat_of_zero_le h0
  have hn : n < l.length := by omega
  exact ⟨l[n], List.getElem_mem hn, atI_nat (by rw [List.getElem?_map, List.getElem?_eq_getElem hn]; rfl)⟩
theorem join_lets : ∀ (ys : List Str), (∀ y ∈ ys, Lets y) → Lets (Txt.join "" ys) := by
  intro ys h c hc
  rw [TL.join_eq] at hc
  have e : (Str.join "" ys).cps.toList = TL.joinL [] (ys.map TL.tl) := TL.tl_join "" ys
  rw [e] at hc
  clear e
  induction ys with
  | nil => cases hc
  | cons y r ih =>
    cases r with
    | nil => exact h y (by simp) c hc
    | cons z r =>
      have e : TL.joinL [] (List.map TL.tl (y :: z :: r)) = TL.tl y ++ ([] ++ TL.joinL [] (List.map TL.tl (z :: r))) := by simp [TL.joinL]
      rw [e, List.nil_append] at hc
      rcases List.mem_append.mp hc with hc | hc
      · exact h y (by simp) c hc
      · exact ih (fun w hw => h w (by simp [hw])) hc
theorem sum1 : ∀ ys : List Str, (∀ y ∈ ys, y.length = 1) → (ys.map (·.length)).sum = ys.length
  | [], _ => rfl
  | y :: r, h => by
    rw [List.map_cons, List.sum_cons, List.length_cons, h y (by simp), sum1 r fun z hz => h z (by simp [hz])]; omega
theorem joinL1 : ∀ ys : List Str, (∀ y ∈ ys, y.length = 1) → (TL.joinL [] (ys.map TL.tl)).length ≤ ys.length
  | [], _ => Nat.le_refl 0
  | [y], h => by
    show (TL.tl y).length ≤ 1
    rw [show (TL.tl y).length = y.cps.size from Array.length_toList]
    exact Nat.le_of_eq (h y (by simp))
  | y :: z :: r, h => by
    have h1 : (TL.tl y).length = 1 := by rw [show (TL.tl y).length = y.cps.size from Array.length_toList]; exact h y (by simp)
    have e : TL.joinL [] (List.map TL.tl (y :: z :: r)) = TL.tl y ++ ([] ++ TL.joinL [] (List.map TL.tl (z :: r))) := by simp [TL.joinL]
    have h2 := joinL1 (z :: r) fun w hw => h w (by simp [hw])
    rw [e, List.nil_append, List.length_append, h1, List.length_cons (a := y)]
    omega
theorem join_len (ys : List Str) (h : ∀ y ∈ ys, y.length = 1) : (Txt.join "" ys).length ≤ ys.length := by
  have e : (Str.join "" ys).cps.toList = TL.joinL [] (ys.map TL.tl) := TL.tl_join "" ys
  rw [TL.join_eq]
  show (Str.join "" ys).cps.size ≤ _
  rw [← Array.length_toList, e]
  exact joinL1 ys h
def sp__law_labels (_ : PySem.W.Frag) : Sp := fun vs H Q _ => ∃ (s : Addr) (many : Nat), vs = [.ref s, .int many] ∧ SrcAt H s ∧ 1 ≤ many ∧ many ≤ 4 ∧ ∀ H' l (ls : List Str), Drawn s H H' → H l = none → H' l = some (.lst (ls.map V.str)) → ls.length = many → (∀ x ∈ ls, IsLab x) → Q (.ref l) H'
def sp__law_depth (_ : PySem.W.Frag) : Sp := fun vs H Q _ => ∃ (s : Addr) (shape : Int) (above : Nat), vs = [.ref s, .int shape, .int above] ∧ SrcAt H s ∧ above ≤ 240 ∧ ∀ H' (d : Nat), Drawn s H H' → 1 ≤ d → d ≤ above + 1 → (1 ≤ above → 2 ≤ d) → Q (.int d) H'
def sp__law_rows (_ : PySem.W.Frag) : Sp := fun vs H Q _ => ∃ (s la : Addr) (ls : List Str) (most deep : Nat), vs = [.ref s, .ref la, .int most, .int deep] ∧ SrcAt H s ∧ la ≠ s ∧ H la = some (.lst (ls.map V.str)) ∧ ls ≠ [] ∧ ls.length ≤ 4 ∧ 1 ≤ most ∧ most ≤ 30 ∧ 2 ≤ deep ∧ deep ≤ 30 ∧
  ∀ H' l (ts : List Addr) (rows : List DRow), Drawn s H H' → H l = none → H' l = some (.lst (ts.map V.ref)) → Each (fun t r => H t = none ∧ H' t = some (.tup [.str r.1, .int r.2])) ts rows → Valid (dsOf rows) → (∀ r ∈ rows, r.1 ∈ ls ∧ r.2 ≤ deep) → rows.length ≤ most → Q (.ref l) H'
def sp__law_steps (_ : PySem.W.Frag) : Sp := fun vs H Q _ => ∃ (s la : Addr) (ls : List Str) (most deep : Nat), vs = [.ref s, .ref la, .int most, .int deep] ∧ SrcAt H s ∧ la ≠ s ∧ H la = some (.lst (ls.map V.str)) ∧ ls ≠ [] ∧ ls.length ≤ 4 ∧ 1 ≤ most ∧ most ≤ 30 ∧ 2 ≤ deep ∧ deep ≤ 30 ∧
  ∀ H' l (ts : List Addr) (rows : List QRow), Drawn s H H' → H l = none → H' l = some (.lst (ts.map V.ref)) → Each (fun t r => H t = none ∧ H' t = some (qtup r)) ts rows → Valid (rows.map (·.2.2)) → (∀ r ∈ rows, r.2.1 ∈ ls ∧ r.2.2 ≤ deep) → rows.length ≤ most → Q (.ref l) H'
def sp__law_question (K : PySem.W.Frag) : Sp := fun vs H Q _ => ∃ (s la : Addr) (ls : List Str), vs = [.ref s, .ref la] ∧ SrcAt H s ∧ la ≠ s ∧ H la = some (.lst (ls.map V.str)) ∧ ls ≠ [] ∧ ls.length ≤ 4 ∧ (∀ x ∈ ls, IsLab x) ∧
  ∀ H' a (q : Qs Str), Drawn s H H' → H a = none → QAt K (ext (fun _ => none) H H') a q → Q (.ref a) H'
theorem Valid.snoc {ds : List Nat} {a b : Nat} (V : Valid ds) (h : ds.getLast? = some a) (h1 : 2 ≤ b) (h2 : b ≤ a + 1) : Valid (ds ++ [b]) := by
  have hl : 0 < ds.length := (List.getElem?_eq_some_iff.mp V.first).1
  rw [List.getLast?_eq_getElem?] at h
  refine ⟨by rw [List.getElem?_append_left hl]; exact V.first, fun i x y hx hy => ?_⟩
  by_cases hi : i + 1 < ds.length
  · rw [List.getElem?_append_left (by omega)] at hx
    rw [List.getElem?_append_left hi] at hy
    exact V.next i x y hx hy
  · have hy1 := (List.getElem?_eq_some_iff.mp hy).1
    rw [List.length_append, List.length_singleton] at hy1
    have hi2 : i + 1 = ds.length := by omega
    rw [List.getElem?_append_left (by omega), show i = ds.length - 1 by omega, h] at hx
    rw [hi2, List.getElem?_append_right (Nat.le_refl _), Nat.sub_self] at hy
    obtain rfl := Option.some.inj hx
    obtain rfl : b = y := by simpa using hy
    exact ⟨h1, h2⟩
section
variable {P : Program} {w : World} {K : PySem.W.Frag} {mg : Str → Option Value} {base : Heap}
theorem sc__law_labels : FnScope ["_law_source_here", "_law_many", "_law_letters", "_law_word", "_law_ahead", "_law_first", "_law_step", "_law_labels_here", "_law_k", "_law_behind"] ["_law_source_here", "_law_many"] (defScope s__law_labels) := ⟨rfl, rfl, rfl, by decide +kernel, rfl, by decide +kernel, by decide +kernel⟩
theorem ok__law_labels (T : Tx K mg) (O__law_take : Ok P w K mg base 1 at__law_take ["_law_source_here", "_law_many"] (sp__law_take K)) : Ok P w K mg base 2 at__law_labels ["_law_source_here", "_law_many"] (sp__law_labels K) := by
  refine mkOk T.d__law_labels sc__law_labels (fun _ _ _ _ _ _ us hl => match us, hl with | [_, _], _ => rfl) (fun vs H Q E h => ?_) (fun cdv A outer s H vs Q E hr h => ?_)
  · obtain ⟨s, many, rfl, hs, m1, m4, k⟩ := h; rfl
  · obtain ⟨s, many, rfl, hs, m1, m4, k⟩ := h
    refine ⟨_, (pss_cons (ps_set (i := 2) sc__law_labels.nd rfl (by first | exact Or.inl rfl | exact Or.inr rfl) pe_str)
      (pss_cons (ps_set (i := 3) sc__law_labels.nd rfl (by first | exact Or.inl rfl | exact Or.inr rfl) (kjoin (K := K) pe_str (pe_lc (own := [("_law_k", 8)]) (g := gName 8) (tt := tYes) rfl sc__law_labels.nd (pi_range1 (by rfl) T.f_range (pa_cons pe_int pa_nil)) (blkOk_by (by kernel_rfl)) (fun _ _ _ _ _ => (pg_name (i := 8) sc__law_labels.nd rfl (by first | exact Or.inl rfl | exact Or.inr rfl))) (fun _ _ _ _ _ => pts_nil) (fun _ _ _ _ _ => (pe_ix ix_str (pv 2) (kfn (K := K) O__law_take T.g__law_take (hr.mono (by decide)) (pa_cons (pv 0) (pa_cons pe_int pa_nil))) (fun _ _ => rfl))))))
      (pss_cons (ps_set (i := 4) sc__law_labels.nd rfl (by first | exact Or.inl rfl | exact Or.inr rfl) (pe_slice sl_str (pv 3) po_none (po_some (pe_op op_mul (kfn (K := K) O__law_take T.g__law_take (hr.mono (by decide)) (pa_cons (pv 0) (pa_cons pe_int pa_nil))) (kfn (K := K) O__law_take T.g__law_take (hr.mono (by decide)) (pa_cons (pv 0) (pa_cons pe_int pa_nil)))))))
      (pss_cons (ps_set (i := 5) sc__law_labels.nd rfl (by first | exact Or.inl rfl | exact Or.inr rfl) (kfn (K := K) O__law_take T.g__law_take (hr.mono (by decide)) (pa_cons (pv 0) (pa_cons pe_int pa_nil))))
      (pss_cons (ps_set (i := 6) sc__law_labels.nd rfl (by first | exact Or.inl rfl | exact Or.inr rfl) (pe_ix (kixL (K := K)) (pe_lst (pa_cons pe_int (pa_cons pe_int (pa_cons pe_int (pa_cons pe_int (pa_cons pe_int (pa_cons pe_int pa_nil))))))) (kfn (K := K) O__law_take T.g__law_take (hr.mono (by decide)) (pa_cons (pv 0) (pa_cons pe_int pa_nil))) (fun _ _ => rfl)))
      (pss_cons (ps_set (i := 7) sc__law_labels.nd rfl (by first | exact Or.inl rfl | exact Or.inr rfl) (pe_lst pa_nil))
      (pss_cons (ps_for PassesOwn.never rfl (pi_range1 (by rfl) T.f_range (pa_cons (pv 1) pa_nil)) (pg_name (i := 8) sc__law_labels.nd rfl (by first | exact Or.inl rfl | exact Or.inr rfl))
        (pss_cons (ps_set (i := 9) sc__law_labels.nd rfl (by first | exact Or.inl rfl | exact Or.inr rfl) (pe_slice sl_str (pv 3) po_none (po_some (kfn (K := K) O__law_take T.g__law_take (hr.mono (by decide)) (pa_cons (pv 0) (pa_cons (pe_op op_sub pe_int (pe_callB call_len_str (by rfl) T.f_len PySem.boot_len (pa_cons (pv 4) pa_nil))) pa_nil))))))
        (pss_one (ps_expr (kbm (K := K) PySem.F.plainAttrs_list PySem.F.slot_list_append PySem.F.type_list_append kappend (pv 7) (pa_cons (pe_op op_add_str (pe_op op_add_str (pv 4) (pe_ix ix_str (pv 2) (pe_op op_modN (pe_op op_add (pv 5) (pe_op op_mul (pv 6) (pv 8))) pe_int) (fun _ _ => rfl))) (pv 9)) pa_nil))))))
      (pss_one (ps_ret (pv 7)))))))))), ?_⟩
    refine ⟨⟨"", rfl⟩, 7, rfl, by omega, by omega, fun D nD => ?_⟩
    have sne := src_ne hs nD
    refine lc_it walk_range (fun n H' => Drawn s H H' ∧ ∃ ys : List Str, H' D = some (.lst (ys.map V.str)) ∧ ys.length = n ∧ ∀ y ∈ ys, Lets y ∧ y.length = 1) ⟨Drawn.same hs (Same.up nD), [], upd_same, rfl, fun _ h => by cases h⟩ (fun _ _ _ _ => trivial) ?_ ?_
    · rintro n v H1 H2 hn ⟨d1, ys, e1, e2, e3⟩ ⟨rfl, ev⟩
      refine ⟨rfl, _, rfl, _, rfl, s, 26, rfl, d1.src, by omega, by omega, fun r H3 r0 r1 d3 => ?_⟩
      obtain ⟨c, hc, hl⟩ := lets_ix r r0 r1
      refine ⟨lets, r, c, rfl, rfl, by decide, hc, ys.map V.str, d3.fr _ _ sne e1, ?_, (d1.trans d3).put nD sne, ys ++ [⟨#[c]⟩], ?_, ?_, ?_⟩
      · rw [List.length_map, e2]
        have hn : n < ((7 : Int)).toNat := hn
        exact Nat.lt_trans hn (by decide)
      · rw [upd_same, List.map_append]; rfl
      · rw [List.length_append, e2]; rfl
      · intro y hy
        rcases List.mem_append.mp hy with hy | hy
        · exact e3 y hy
        · rw [List.mem_singleton.mp hy]; exact ⟨hl, rfl⟩
    rintro H1 ⟨d1, ys, e1, e2, e3⟩
    have e27 : ys.length = 7 := e2
    refine ⟨"", D, ys, rfl, rfl, .inl (SqL.of e1), ?_, ?_⟩
    · rw [sum1 ys fun y hy => (e3 y hy).2, show (Str.length "") = 0 from rfl]; omega
    have hw := join_lets ys fun y hy => (e3 y hy).1
    have hwl : (Txt.join "" ys).length ≤ sizeLine := Nat.le_trans (join_len ys fun y hy => (e3 y hy).2) (by rw [e27]; decide)
    generalize Txt.join "" ys = word at hw hwl ⊢
    clear e1 e2 e3 e27
    refine ⟨_, rfl, _, rfl, s, 2, rfl, d1.src, by omega, by omega, fun r1 H2 a1 a2 d2 => ⟨_, rfl, s, 5, rfl, d2.src, by omega, by omega, fun r2 H3 a3 a4 d3 => ⟨r1, r2, rfl, rfl, .inl ⟨by omega, by omega⟩, _, rfl, word, rfl, hwl, ?_⟩⟩⟩
    have a5 : 0 ≤ r1 * r2 ∧ r1 * r2 ≤ 4 := by
      have h : r1 = 0 ∨ r1 = 1 := by omega
      rcases h with rfl | rfl
      · omega
      · omega
    obtain ⟨la1, la2⟩ := cutS_lets hw (r1 * r2) a5.1
    show gName 4 (V.str (cutS word none (some (r1 * r2)))) _ H3 _
    have la3 : (cutS word none (some (r1 * r2))).length ≤ 4 := by omega
    generalize cutS word none (some (r1 * r2)) = ahead at la1 la3 ⊢
    have d03 := (d1.trans d2).trans d3
    refine ⟨_, rfl, s, 26, rfl, d3.src, by omega, by omega, fun fi H4 b1 b2 d4 => ?_⟩
    refine ⟨by decide, fun p5 n5 => ⟨_, rfl, s, 6, rfl, (Drawn.same d4.src (Same.up n5)).src, by omega, by omega, fun r6 H6 b3 b4 d6 => ?_⟩⟩
    obtain ⟨st, hst, ast⟩ := ix_of [(1 : Int), 3, 5, 7, 9, 11] V.int r6 b3 b4
    have hst2 : 0 ≤ st ∧ st ≤ 11 := by simp at hst; omega
    refine ⟨p5, _, _, _, rfl, rfl, SqL.of (d6.fr _ _ (src_ne d4.src n5) upd_same), ast, ?_⟩
    have d06 := ((d03.trans d4).new n5).trans d6
    refine ⟨by decide, fun l nl => ?_⟩
    have nl0 := d06.free nl
    have lne := src_ne hs nl0
    refine ⟨_, rfl, (many : Int), rfl, by omega, by omega, ?_⟩
    rw [Int.toNat_natCast]
    refine for_it walk_range (fun n σ H' => ∃ (x8 x9 : Option V) (ls : List Str), σ = [some (.ref s), some (.int many), some (.str lets), some (.str word), some (.str ahead), some (.int fi), some (.int st), some (.ref l), x8, x9] ∧ Drawn s H H' ∧ H' l = some (.lst (ls.map V.str)) ∧ ls.length = n ∧ ∀ x ∈ ls, IsLab x) ?_ (fun _ _ _ _ _ => trivial) ?_ ?_
    · exact ⟨none, none, [], rfl, d06.new nl, upd_same, rfl, fun _ h => by cases h⟩
    · rintro n v σ H7 H8 hn ⟨x8, x9, ls, rfl, d7, e1, e2, e3⟩ ⟨rfl, ev⟩
      obtain rfl : v = V.int (n : Int) := by
        rw [ev]
        show V.int ((0 : Int) + (n : Nat)) = _
        congr 1; omega
      refine ⟨_, rfl, _, rfl, _, rfl, ahead, rfl, Nat.le_trans la3 (by decide), 8, _, rfl, rfl, s, _, rfl, d7.src, by omega, by omega, fun rb H9 c1 c2 d9 => ⟨_, rfl, word, rfl, hwl, ?_⟩⟩
      obtain ⟨lb1, lb2⟩ := cutS_lets hw rb c1
      have lb3 : (cutS word none (some rb)).length + ahead.length ≤ 7 := by omega
      show gName 9 (V.str (cutS word none (some rb))) _ H9 _
      generalize cutS word none (some rb) = behind at lb1 lb3 ⊢
      obtain ⟨g1, g2⟩ := fmod_rng (a := fi + st * (n : Int)) (b := 26) (by omega)
      obtain ⟨c, hc, hl⟩ := lets_ix _ g1 g2
      have e9 := d9.fr _ _ lne e1
      have eq1 : (ahead ++ ⟨#[c]⟩ : Str).length = ahead.length + 1 := len_add _ _
      have eq2 : (ahead ++ ⟨#[c]⟩ ++ behind : Str).length = ahead.length + 1 + behind.length := by rw [len_add, eq1]
      refine ⟨_, rfl, tyL e9, _, rfl, _, rfl, _, rfl, _, rfl, _, rfl, st, (n : Int), rfl, rfl, .inl ⟨by omega, by omega⟩, fi, _, rfl, rfl, _, 26, rfl, rfl, by omega, lets, _, c, rfl, rfl, by decide, hc, ahead, ⟨#[c]⟩, rfl, rfl, ?_, _, rfl, _, behind, rfl, rfl, ?_, l, _, _, rfl, rfl, e9, ?_, _, _, ls ++ [ahead ++ ⟨#[c]⟩ ++ behind], rfl, (d7.trans d9).put nl0 lne, ?_, ?_, ?_⟩
      · exact Nat.le_trans (show ahead.length + 1 ≤ 8 by omega) (by decide)
      · rw [eq1]; exact Nat.le_trans (show ahead.length + 1 + behind.length ≤ 8 by omega) (by decide)
      · rw [List.length_map, e2]; exact Nat.lt_of_lt_of_le hn (Nat.le_trans m4 (by decide))
      · rw [upd_same, List.map_append]; rfl
      · rw [List.length_append, e2]; rfl
      · intro x hx
        rcases List.mem_append.mp hx with hx | hx
        · exact e3 x hx
        · rw [List.mem_singleton.mp hx]
          exact ⟨by rw [eq2]; omega, by rw [eq2]; omega, lets_add (lets_add la1 hl) lb1⟩
    · rintro σ H7 ⟨x8, x9, ls, rfl, d7, e1, e2, e3⟩
      exact ⟨_, rfl, k _ _ _ d7 nl0 e1 e2 e3⟩
theorem sc__law_depth : FnScope ["_law_source_here", "_law_shape", "_law_above"] ["_law_source_here", "_law_shape", "_law_above"] (defScope s__law_depth) := ⟨rfl, rfl, rfl, by decide +kernel, rfl, by decide +kernel, by decide +kernel⟩
theorem ok__law_depth (T : Tx K mg) (O__law_take : Ok P w K mg base 1 at__law_take ["_law_source_here", "_law_many"] (sp__law_take K)) : Ok P w K mg base 2 at__law_depth ["_law_source_here", "_law_shape", "_law_above"] (sp__law_depth K) := by
  refine mkOk T.d__law_depth sc__law_depth (fun _ _ _ _ _ _ us hl => match us, hl with | [_, _, _], _ => rfl) (fun vs H Q E h => ?_) (fun cdv A outer s H vs Q E hr h => ?_)
  · obtain ⟨s, shape, above, rfl, hs, h240, k⟩ := h; rfl
  · obtain ⟨s, shape, above, rfl, hs, h240, k⟩ := h
    refine ⟨_, (pss_cons (ps_if (PW.pt (pw_or (pt_cmpR op_eq (pv 2) pe_int (nomark _)) (pw_or1 (PW.pt (pw_and (pt_cmpR op_lt (pv 1) pe_int (nomark _)) (pw_and1 (pt_cmpR op_gt (kfn (K := K) O__law_take T.g__law_take (hr.mono (by decide)) (pa_cons (pv 0) (pa_cons pe_int pa_nil))) (pv 1) (nomark _))))))))
        (pss_one (ps_ret (pe_op op_add (pv 2) pe_int)))
        pss_nil)
      (pss_one (ps_ret (pe_callB (call_min2 rfl) (by rfl) T.f_min (by decide +kernel) (pa_cons (pe_op op_add (pv 2) pe_int) (pa_cons (pe_op op_add pe_int (kfn (K := K) O__law_take T.g__law_take (hr.mono (by decide)) (pa_cons (pv 0) (pa_cons (pe_callB (call_max2 rfl) (by rfl) T.f_max (by decide +kernel) (pa_cons pe_int (pa_cons (pv 2) pa_nil))) pa_nil)))) pa_nil)))))), ?_⟩
    have ret1 : ∀ H1, Drawn s H H1 → (above = 0 ∨ 1 ≤ above) → Q (V.int ((above : Int) + 1)) H1 := fun H1 d _ => k H1 (above + 1) d (by omega) (by omega) (by omega)
    have ret2 : ∀ H1, Drawn s H H1 → 1 ≤ above → ∀ (r : Int), 0 ≤ r → Q (V.int (if 2 + r < (above : Int) + 1 then 2 + r else (above : Int) + 1)) H1 := fun H1 d h r hr => by
      by_cases c : 2 + r < (above : Int) + 1
      · rw [if_pos c]
        obtain ⟨n, rfl⟩ := Int.eq_ofNat_of_zero_le hr
        exact k H1 (2 + n) d (by omega) (by omega) (by omega)
      · rw [if_neg c]
        exact k H1 (above + 1) d (by omega) (by omega) (by omega)
    have mx : ∀ a : Nat, 1 ≤ (if (a : Int) > 1 then (a : Int) else 1) ∧ (if (a : Int) > 1 then (a : Int) else 1) ≤ 1000000 ∨ 1000000 < a := fun a => by split <;> omega
    refine ⟨_, rfl, rfl, ?_⟩
    by_cases h0 : above = 0
    · exact ⟨true, bt (by rw [h0]; rfl), _, rfl, _, 1, rfl, rfl, ret1 H (Drawn.refl hs) (.inl h0)⟩
    refine ⟨false, bf (fun z => h0 (by have : (above : Int) = 0 := V.int.inj z; omega)), ?_⟩
    have h1 : 1 ≤ above := by omega
    refine ⟨_, rfl, _, 2, rfl, rfl, ?_⟩
    have mx1 : 1 ≤ (if (above : Int) > 1 then (above : Int) else 1) := by split <;> omega
    have mx2 : (if (above : Int) > 1 then (above : Int) else 1) ≤ 1000000 := by split <;> omega
    by_cases h2 : shape < 2
    · refine ⟨true, bt h2, _, rfl, s, 4, rfl, hs, by omega, by omega, fun r H1 r0 r1 d => ⟨_, rfl, r, shape, rfl, rfl, ?_⟩⟩
      by_cases h3 : shape < r
      · exact ⟨true, bt h3, _, rfl, _, 1, rfl, rfl, ret1 H1 d (.inr h1)⟩
      · exact ⟨false, bf h3, _, rfl, _, 1, rfl, rfl, _, rfl, _, rfl, 1, _, rfl, s, _, rfl, d.src, mx1, mx2, fun r H2 r0 r1 d2 => ⟨2, r, rfl, rfl, _, _, rfl, ret2 H2 (d.trans d2) h1 r r0⟩⟩
    · exact ⟨false, bf h2, _, rfl, _, 1, rfl, rfl, _, rfl, _, rfl, 1, _, rfl, s, _, rfl, hs, mx1, mx2, fun r H2 r0 r1 d2 => ⟨2, r, rfl, rfl, _, _, rfl, ret2 H2 d2 h1 r r0⟩⟩
end
end Bg

set_option Elab.async false
set_option linter.all false
set_option maxRecDepth 100000
set_option maxHeartbeats 4000000
namespace Bg
open PySem PySem.Spec PyProof.Rows L2
/-- rows so far, and the depth of the last one -/
def Chain (rows : List DRow) (above : Nat) : Prop := (rows = [] ∧ above = 0) ∨ (Valid (dsOf rows) ∧ (dsOf rows).getLast? = some above)
theorem Chain.snoc {rows : List DRow} {above d : Nat} {x : Str} (h : Chain rows above) (h1 : 1 ≤ d) (h2 : d ≤ above + 1) (h3 : 1 ≤ above → 2 ≤ d) : Chain (rows ++ [(x, d)]) d := by
  refine .inr ?_
  rcases h with ⟨rfl, rfl⟩ | ⟨V, l⟩
  · have : d = 1 := by omega
    subst this
    exact ⟨⟨rfl, fun i a b _ hb => by simp [dsOf] at hb⟩, rfl⟩
  · have e : dsOf (rows ++ [(x, d)]) = dsOf rows ++ [d] := by unfold dsOf; rw [List.map_append]; rfl
    rw [e]
    have hab : 1 ≤ above := by
      rw [List.getLast?_eq_getElem?] at l
      exact V.pos l
    exact ⟨V.snoc l (h3 hab) h2, by rw [List.getLast?_append]; rfl⟩
theorem each_draw {α : Type} {s : Addr} {H0 H H' : Hp} {ts : List Addr} {rows : List α} {g : α → HO} (hs : SrcAt H0 s) (d : Drawn s H H') (h : Each (fun t r => H0 t = none ∧ H t = some (g r)) ts rows) : Each (fun t r => H0 t = none ∧ H' t = some (g r)) ts rows :=
  h.imp fun t r ⟨n, e⟩ => ⟨n, d.fr _ _ (src_ne hs n) e⟩
theorem each_upd {α : Type} {H0 H : Hp} {ts : List Addr} {rows : List α} {g : α → List V} {l : Addr} {xs : List V} {o : HO} (e : H l = some (.lst xs)) (h : Each (fun t r => H0 t = none ∧ H t = some (.tup (g r))) ts rows) : Each (fun t r => H0 t = none ∧ upd H l o t = some (.tup (g r))) ts rows :=
  h.imp fun t r ⟨n, e2⟩ => ⟨n, by rw [upd_ne (fun z => by rw [z, e] at e2; cases e2)]; exact e2⟩
section
variable {P : Program} {w : World} {K : PySem.W.Frag} {mg : Str → Option Value} {base : Heap}
theorem sc__law_rows : FnScope ["_law_source_here", "_law_labels_here", "_law_most", "_law_deep", "_law_shape", "_law_rows_here", "_law_above", "_law_k"] ["_law_source_here", "_law_labels_here", "_law_most", "_law_deep"] (defScope s__law_rows) := ⟨rfl, rfl, rfl, by decide +kernel, rfl, by decide +kernel, by decide +kernel⟩
theorem ok__law_rows (T : Tx K mg) (O__law_depth : Ok P w K mg base 2 at__law_depth ["_law_source_here", "_law_shape", "_law_above"] (sp__law_depth K)) (O__law_take : Ok P w K mg base 1 at__law_take ["_law_source_here", "_law_many"] (sp__law_take K)) : Ok P w K mg base 3 at__law_rows ["_law_source_here", "_law_labels_here", "_law_most", "_law_deep"] (sp__law_rows K) := by
  refine mkOk T.d__law_rows sc__law_rows (fun _ _ _ _ _ _ us hl => match us, hl with | [_, _, _, _], _ => rfl) (fun vs H Q E h => ?_) (fun cdv A outer s H vs Q E hr h => ?_)
  · obtain ⟨s, la, ls, most, deep, rfl, hs, lane, hla, lne, l4, m1, m2, d1, d2, k⟩ := h; rfl
  · obtain ⟨s, la, ls, most, deep, rfl, hs, lane, hla, lne, l4, m1, m2, d1, d2, k⟩ := h
    refine ⟨_, (pss_cons (ps_set (i := 4) sc__law_rows.nd rfl (by first | exact Or.inl rfl | exact Or.inr rfl) (kfn (K := K) O__law_take T.g__law_take (hr.mono (by decide)) (pa_cons (pv 0) (pa_cons pe_int pa_nil))))
      (pss_cons (ps_set (i := 5) sc__law_rows.nd rfl (by first | exact Or.inl rfl | exact Or.inr rfl) (pe_lst pa_nil))
      (pss_cons (ps_set (i := 6) sc__law_rows.nd rfl (by first | exact Or.inl rfl | exact Or.inr rfl) pe_int)
      (pss_cons (ps_for PassesOwn.never rfl (pi_range1 (by rfl) T.f_range (pa_cons (pe_op op_add pe_int (kfn (K := K) O__law_take T.g__law_take (hr.mono (by decide)) (pa_cons (pv 0) (pa_cons (pv 2) pa_nil)))) pa_nil)) (pg_name (i := 7) sc__law_rows.nd rfl (by first | exact Or.inl rfl | exact Or.inr rfl))
        (pss_cons (ps_set (i := 6) sc__law_rows.nd rfl (by first | exact Or.inl rfl | exact Or.inr rfl) (pe_callB (call_min2 rfl) (by rfl) T.f_min (by decide +kernel) (pa_cons (pv 3) (pa_cons (kfn (K := K) O__law_depth T.g__law_depth (hr.mono (by decide)) (pa_cons (pv 0) (pa_cons (pv 4) (pa_cons (pv 6) pa_nil)))) pa_nil))))
        (pss_one (ps_expr (kbm (K := K) PySem.F.plainAttrs_list PySem.F.slot_list_append PySem.F.type_list_append kappend (pv 5) (pa_cons (pe_tup (pa_cons (pe_ix (kixL (K := K)) (pv 1) (kfn (K := K) O__law_take T.g__law_take (hr.mono (by decide)) (pa_cons (pv 0) (pa_cons (pe_callB (klen (K := K)) (by rfl) T.f_len PySem.boot_len (pa_cons (pv 1) pa_nil)) pa_nil))) (fun _ _ => rfl)) (pa_cons (pv 6) pa_nil))) pa_nil))))))
      (pss_one (ps_ret (pv 5))))))), ?_⟩
    have hll : 1 ≤ ls.length := by
      cases ls with
      | nil => exact absurd rfl lne
      | cons _ _ => simp
    refine ⟨_, rfl, s, 4, rfl, hs, by omega, by omega, fun shape H1 _ _ dr1 => ?_⟩
    refine ⟨by decide, fun l nl => ?_⟩
    have nl0 := dr1.free nl
    have lsne := src_ne hs nl0
    have dr2 := dr1.new (o := .lst []) nl
    refine ⟨_, rfl, _, rfl, s, (most : Int), rfl, dr2.src, by omega, by omega, fun cnt H3 q0 q1 dr3 => ⟨1, cnt, rfl, rfl, _, rfl, by omega, by omega, ?_⟩⟩
    have e3 : H3 l = some (.lst []) := dr3.fr _ _ lsne upd_same
    have dr03 := dr2.trans dr3
    obtain ⟨cn, rfl⟩ := Int.eq_ofNat_of_zero_le q0
    have ecn : ((1 : Int) + (cn : Int)).toNat = cn + 1 := by omega
    rw [show ((fun i j : Int => i + j) 1 (cn : Int)).toNat = cn + 1 from ecn]
    refine for_it walk_range (fun n σ H' => ∃ (x7 : Option V) (ts : List Addr) (rows : List DRow) (above : Nat), σ = [some (.ref s), some (.ref la), some (.int most), some (.int deep), some (.int shape), some (.ref l), some (.int above), x7] ∧ Drawn s H H' ∧ H' l = some (.lst (ts.map V.ref)) ∧
      Each (fun t r => H t = none ∧ H' t = some (.tup [.str r.1, .int r.2])) ts rows ∧ rows.length = n ∧ Chain rows above ∧ above ≤ deep ∧ (∀ r ∈ rows, r.1 ∈ ls ∧ r.2 ≤ deep)) ?_ (fun _ _ _ _ _ => trivial) ?_ ?_
    · exact ⟨none, [], [], 0, rfl, dr03, e3, ⟨rfl, fun _ _ _ h => by simp at h⟩, rfl, .inl ⟨rfl, rfl⟩, Nat.zero_le _, fun _ h => by cases h⟩
    · rintro n v σ H4 H5 hn ⟨x7, ts, rows, above, rfl, dr, el, E1, ln, ch, ab, al⟩ ⟨rfl, ev⟩
      refine ⟨_, rfl, _, rfl, _, rfl, _, rfl, s, shape, above, rfl, dr.src, by omega, fun H6 d dr6 g1 g2 g3 => ⟨_, _, rfl, ?_⟩⟩
      have hmin : ∃ d' : Nat, (if (d : Int) < (deep : Int) then (d : Int) else (deep : Int)) = (d' : Int) ∧ 1 ≤ d' ∧ d' ≤ above + 1 ∧ (1 ≤ above → 2 ≤ d') ∧ d' ≤ deep := by
        by_cases c : (d : Int) < (deep : Int)
        · rw [if_pos c]; exact ⟨d, rfl, g1, g2, g3, by omega⟩
        · rw [if_neg c]; exact ⟨deep, rfl, by omega, by omega, fun _ => d1, Nat.le_refl _⟩
      obtain ⟨d', ed, k1, k2, k3, k4⟩ := hmin
      rw [ed]
      have dr06 := dr.trans dr6
      have el6 := dr6.fr _ _ lsne el
      have hla6 := dr06.fr _ _ lane hla
      refine ⟨_, rfl, tyL el6, _, rfl, _, rfl, _, rfl, la, _, rfl, .inl (SqL.of hla6), s, _, rfl, dr06.src, by rw [List.length_map]; omega, by rw [List.length_map]; omega, fun r H7 r0 r1 dr7 => ?_⟩
      rw [List.length_map] at r1
      obtain ⟨x, hx, ax⟩ := ix_of ls V.str r r0 r1
      refine ⟨la, _, _, _, rfl, rfl, SqL.of (dr7.fr _ _ lane hla6), ax, _, rfl, by show 2 ≤ sizeLine; decide, fun p np => ?_⟩
      have dr07 := dr06.trans dr7
      have el7 := upd_at (o := .tup [.str x, .int (d' : Int)]) np (dr7.fr _ _ lsne el6)
      have np0 := dr07.free np
      have hpl : p ≠ l := ne_of_none (dr7.fr _ _ lsne el6) np |>.symm
      refine ⟨l, _, _, rfl, rfl, el7, ?_, some v, ts ++ [p], rows ++ [(x, d')], d', rfl, (dr07.new np).put nl0 lsne, ?_, ?_, ?_, ch.snoc k1 k2 k3, k4, ?_⟩
      · rw [List.length_map, E1.len, ln]; exact Nat.lt_of_lt_of_le hn (Nat.le_trans (show cn + 1 ≤ 30 by omega) (by decide))
      · rw [upd_same, List.map_append]; rfl
      · refine (each_upd el7 ((each_draw hs (dr6.trans dr7) E1).imp fun t r h => ⟨h.1, upd_at np h.2⟩)).snoc ⟨np0, ?_⟩
        rw [upd_ne hpl]; exact upd_same
      · rw [List.length_append, ln]; rfl
      · intro r hr
        rcases List.mem_append.mp hr with h | h
        · exact al r h
        · rw [List.mem_singleton.mp h]; exact ⟨hx, k4⟩
    · rintro σ H4 ⟨x7, ts, rows, above, rfl, dr, el, E1, ln, ch, ab, al⟩
      refine ⟨_, rfl, k _ _ _ rows dr nl0 el E1 ?_ al (by omega)⟩
      rcases ch with ⟨rfl, _⟩ | ⟨V, _⟩
      · simp at ln
      · exact V
theorem sc__law_steps : FnScope ["_law_source_here", "_law_labels_here", "_law_most", "_law_deep", "_law_rows_here", "_law_row"] ["_law_source_here", "_law_labels_here", "_law_most", "_law_deep"] (defScope s__law_steps) := ⟨rfl, rfl, rfl, by decide +kernel, rfl, by decide +kernel, by decide +kernel⟩
theorem ok__law_steps (T : Tx K mg) (O__law_rows : Ok P w K mg base 3 at__law_rows ["_law_source_here", "_law_labels_here", "_law_most", "_law_deep"] (sp__law_rows K)) (O__law_take : Ok P w K mg base 1 at__law_take ["_law_source_here", "_law_many"] (sp__law_take K)) : Ok P w K mg base 4 at__law_steps ["_law_source_here", "_law_labels_here", "_law_most", "_law_deep"] (sp__law_steps K) := by
  refine mkOk T.d__law_steps sc__law_steps (fun _ _ _ _ _ _ us hl => match us, hl with | [_, _, _, _], _ => rfl) (fun vs H Q E h => ?_) (fun cdv A outer s H vs Q E hr h => ?_)
  · obtain ⟨s, la, ls, most, deep, rfl, hs, lane, hla, lne, l4, m1, m2, d1, d2, k⟩ := h; rfl
  · obtain ⟨s, la, ls, most, deep, rfl, hs, lane, hla, lne, l4, m1, m2, d1, d2, k⟩ := h
    refine ⟨_, (pss_cons (ps_set (i := 4) sc__law_steps.nd rfl (by first | exact Or.inl rfl | exact Or.inr rfl) (kfn (K := K) O__law_rows T.g__law_rows (hr.mono (by decide)) (pa_cons (pv 0) (pa_cons (pv 1) (pa_cons (pv 2) (pa_cons (pv 3) pa_nil))))))
      (pss_one (ps_ret (pe_lc (own := [("_law_row", 5)]) (g := gName 5) (tt := tYes) rfl sc__law_steps.nd (kpiL (K := K) (pv 4)) (blkOk_by (by kernel_rfl)) (fun _ _ _ _ _ => (pg_name (i := 5) sc__law_steps.nd rfl (by first | exact Or.inl rfl | exact Or.inr rfl))) (fun _ _ _ _ _ => pts_nil) (fun _ _ _ _ _ => (pe_op (kcatT (K := K)) (pe_tup (pa_cons (pe_ix (kixL (K := K)) (pe_lst (pa_cons pe_str (pa_cons pe_str pa_nil))) (kfn (K := K) O__law_take T.g__law_take (hr.mono (by decide)) (pa_cons (pv 0) (pa_cons pe_int pa_nil))) (fun _ _ => rfl)) pa_nil)) (pv 5))))))), ?_⟩
    refine ⟨_, rfl, _, rfl, _, rfl, _, rfl, s, la, ls, most, deep, rfl, hs, lane, hla, lne, l4, m1, m2, d1, d2, fun H1 rl ts rows dr1 nrl erl E1 V1 al hm => ?_⟩
    have rlne := src_ne hs nrl
    have lts : (ts.map V.ref).length = rows.length := by rw [List.length_map]; exact E1.len
    refine ⟨_, rfl, rl, rfl, ⟨_, SqL.of erl⟩, fun D nD => ?_⟩
    have nD0 := dr1.free nD
    have Dne := src_ne hs nD0
    refine lc_it (walk_list (xs := ts.map V.ref)) (fun n H' => Drawn s H1 H' ∧ ∃ (us : List Addr) (qr : List QRow), H' D = some (.lst (us.map V.ref)) ∧ Each (fun t r => H t = none ∧ H' t = some (qtup r)) us qr ∧ qr.length = n ∧ qr.map (·.2.2) = (dsOf rows).take n ∧ (∀ r ∈ qr, r.2.1 ∈ ls ∧ r.2.2 ≤ deep)) ?_ (fun n H' _ ⟨d, _⟩ => SqL.of (d.fr _ _ rlne erl)) ?_ ?_
    · exact ⟨Drawn.same dr1.src (Same.up nD), [], [], upd_same, ⟨rfl, fun _ _ _ h => by simp at h⟩, rfl, rfl, fun _ h => by cases h⟩
    · rintro n v H2 H3 hn ⟨dr2, us, qr, e1, E2, ln, ds, aq⟩ ⟨rfl, ev⟩
      rw [lts] at hn
      obtain ⟨t, r, rfl, hr, nt, et⟩ := E1.ref ev
      have et3 := dr2.fr _ _ (src_ne hs nt) et
      refine ⟨rfl, by decide, fun p np => ?_⟩
      have dr3 := dr2.new (o := .lst [.str "/", .str "//"]) np
      refine ⟨_, rfl, s, 2, rfl, dr3.src, by omega, by omega, fun r2 H4 r0 r1 dr4 => ?_⟩
      obtain ⟨w, hw, aw⟩ := ix_of [(true : Bool), false] (fun b => V.str (wstr b)) r2 r0 r1
      have pne := src_ne dr2.src np
      have ep4 : H4 p = some (.lst [.str "/", .str "//"]) := dr4.fr _ _ pne upd_same
      refine ⟨p, _, _, _, rfl, rfl, SqL.of ep4, aw, by show 1 ≤ sizeLine; decide, fun p2 np2 => ?_⟩
      have dr34 := dr3.trans dr4
      have tne := src_ne hs nt
      have et4 := dr4.fr _ _ tne (upd_at np et3)
      refine ⟨_, rfl, p2, t, _, _, rfl, rfl, SqT.of upd_same, SqT.of (upd_at np2 et4), by simp, by show 1 + 2 ≤ sizeLine; decide, fun z => (by cases z), fun _ p3 np3 => ?_⟩
      have e1p := upd_at (o := .tup [.str (wstr w)]) np2 (dr4.fr _ _ Dne (upd_at np e1))
      have e1' := upd_at (o := .tup ([.str (wstr w)] ++ [.str r.1, .int r.2])) np3 e1p
      have dr5 := (dr34.new (o := .tup [.str (wstr w)]) np2).new (o := .tup ([.str (wstr w)] ++ [.str r.1, .int r.2])) np3
      have np30 : H p3 = none := dr1.free ((dr34.new (o := .tup [.str (wstr w)]) np2).free np3)
      refine ⟨_, e1', ?_, dr5.put nD Dne, us ++ [p3], qr ++ [(w, r.1, r.2)], ?_, ?_, ?_, ?_, ?_⟩
      · rw [List.length_map, E2.len, ln]; exact Nat.lt_of_lt_of_le hn (Nat.le_trans (show rows.length ≤ 30 by omega) (by decide))
      · rw [upd_same, List.map_append]; rfl
      · have E3 := (each_draw hs ((Drawn.same dr2.src (Same.up (o := .lst [.str "/", .str "//"]) np)).trans dr4) E2).imp (P' := fun t q => H t = none ∧ (upd (upd H4 p2 (.tup [.str (wstr w)])) p3 (.tup ([.str (wstr w)] ++ [.str r.1, .int r.2]))) t = some (.tup [.str (wstr q.1), .str q.2.1, .int q.2.2])) fun t q h => ⟨h.1, by have h2 := h.2; unfold qtup at h2; exact upd_at np3 (upd_at np2 h2)⟩
        refine (each_upd (g := fun q : QRow => [.str (wstr q.1), .str q.2.1, .int q.2.2]) e1' E3).snoc ⟨np30, ?_⟩
        rw [upd_ne (ne_of_none e1p np3).symm]; exact upd_same
      · rw [List.length_append, ln]; rfl
      · rw [List.map_append, ds, List.take_add_one, ds_at hr]; rfl
      · intro r' hr'
        rcases List.mem_append.mp hr' with h | h
        · exact aq r' h
        · rw [List.mem_singleton.mp h]; exact al r (List.mem_of_getElem? hr)
    · rintro H2 ⟨dr2, us, qr, e1, E2, ln, ds, aq⟩
      rw [lts] at ln ds
      refine k _ _ _ qr (dr1.trans dr2) nD0 e1 E2 ?_ aq (by omega)
      rw [ds, ← dsOf_length, List.take_length]; exact V1
theorem sc__law_question : FnScope ["_law_source_here", "_law_labels_here", "_law_rows_here"] ["_law_source_here", "_law_labels_here"] (defScope s__law_question) := ⟨rfl, rfl, rfl, by decide +kernel, rfl, by decide +kernel, by decide +kernel⟩
theorem ok__law_question (T : Tx K mg) (O_Question_init : Ok P w K mg base 4 at_Question_init ["self", "rows", "wanted"] (sp_Question_init K)) (O__law_steps : Ok P w K mg base 4 at__law_steps ["_law_source_here", "_law_labels_here", "_law_most", "_law_deep"] (sp__law_steps K)) (O__law_take : Ok P w K mg base 1 at__law_take ["_law_source_here", "_law_many"] (sp__law_take K)) : Ok P w K mg base 6 at__law_question ["_law_source_here", "_law_labels_here"] (sp__law_question K) := by
  refine mkOk T.d__law_question sc__law_question (fun _ _ _ _ _ _ us hl => match us, hl with | [_, _], _ => rfl) (fun vs H Q E h => ?_) (fun cdv A outer s H vs Q E hr h => ?_)
  · obtain ⟨s, la, ls, rfl, hs, lane, hla, lne, l4, lab, k⟩ := h; rfl
  · obtain ⟨s, la, ls, rfl, hs, lane, hla, lne, l4, lab, k⟩ := h
    refine ⟨_, (pss_cons (ps_set (i := 2) sc__law_question.nd rfl (by first | exact Or.inl rfl | exact Or.inr rfl) (kfn (K := K) O__law_steps T.g__law_steps (hr.mono (by decide)) (pa_cons (pv 0) (pa_cons (pv 1) (pa_cons pe_int (pa_cons (pe_ix (kixL (K := K)) (pe_lst (pa_cons pe_int (pa_cons pe_int (pa_cons pe_int pa_nil)))) (kfn (K := K) O__law_take T.g__law_take (hr.mono (by decide)) (pa_cons (pv 0) (pa_cons pe_int pa_nil))) (fun _ _ => rfl)) pa_nil))))))
      (pss_one (ps_ret (kmk (K := K) O_Question_init T.k_Question T.g_Question (hr.mono (by decide)) (pa_cons (pv 2) (pa_cons (kfn (K := K) O__law_take T.g__law_take (hr.mono (by decide)) (pa_cons (pv 0) (pa_cons (pe_callB (klen (K := K)) (by rfl) T.f_len PySem.boot_len (pa_cons (pv 2) pa_nil)) pa_nil))) pa_nil)))))), ?_⟩
    refine ⟨_, rfl, _, rfl, by decide, fun p np => ⟨_, rfl, s, 3, rfl, (Drawn.same hs (Same.up np)).src, by omega, by omega, fun r H1 r0 r1 dr1 => ?_⟩⟩
    have dr01 := (Drawn.same hs (Same.up (o := .lst [.int 2, .int 3, .int 9]) np)).trans dr1
    obtain ⟨dp, hdp, adp⟩ := ix_of [(2 : Nat), 3, 9] (fun n => V.int n) r r0 r1
    have hdp2 : 2 ≤ dp ∧ dp ≤ 30 := by simp at hdp; omega
    refine ⟨p, _, _, _, rfl, rfl, SqL.of (dr1.fr _ _ (src_ne hs np) upd_same), adp, ?_⟩
    refine ⟨s, la, ls, 7, dp, rfl, dr01.src, lane, dr01.fr _ _ lane hla, lne, l4, by omega, by omega, hdp2.1, hdp2.2, fun H2 rl ts rows dr2 nrl erl E VV al hm => ?_⟩
    have dr02 := dr01.trans dr2
    have nrl0 := dr01.free nrl
    have lts : (ts.map V.ref).length = rows.length := by rw [List.length_map]; exact E.len
    have hpos : 0 < rows.length := by
      have := (List.getElem?_eq_some_iff.mp VV.first).1
      rwa [List.length_map] at this
    refine ⟨_, rfl, _, rfl, _, rfl, rl, _, rfl, .inl (SqL.of erl), s, _, rfl, dr02.src, by rw [lts]; omega, by rw [lts]; omega, fun gl H3 g0 g1 dr3 => ?_⟩
    rw [lts] at g1
    obtain ⟨gn, rfl⟩ := Int.eq_ofNat_of_zero_le g0
    have dr03 := dr02.trans dr3
    have rlne := src_ne hs nrl0
    refine fun qa dx nqa ndx ne => ⟨qa, dx, rl, ts, ⟨rows, gn, VV, by omega⟩, ext (fun _ => none) H (hid (fun b => if b = s then .src else .out) H3), H3, rfl, upd_same, (Same.up ndx).new (by rw [upd_ne ne.symm]; exact nqa), nqa, ?_, ?_, ?_, ⟨VV, fun r hr => lab _ (al r hr).1, fun r hr => by have := (al r hr).2; show r.2.2 ≤ 30; omega, by show rows.length ≤ 100; omega⟩, fun H4 s4 QA => ⟨rfl, k H4 qa _ (dr03.trans (Drawn.same dr03.src s4)) (dr03.free nqa) (QA.same fun b o e => ?_)⟩⟩
    · intro b o e
      unfold ext at e
      by_cases z : (H b).isNone = true
      · rw [if_pos z] at e; exact hid_sub _ _ e
      · rw [if_neg z] at e; cases e
    · exact ext_new nrl0 (hid_some.mpr ⟨if_neg rlne, dr3.fr _ _ rlne erl⟩)
    · refine E.imp fun t r ⟨n, e⟩ => ?_
      have n0 := dr01.free n
      have tne := src_ne hs n0
      exact ext_new n0 (hid_some.mpr ⟨if_neg tne, dr3.fr _ _ tne e⟩)
    · unfold ext at e ⊢
      by_cases h2 : (H3 b).isNone = true
      · rw [if_pos h2] at e
        have : (H b).isNone = true := by rw [dr03.free (Option.isNone_iff_eq_none.mp h2)]; rfl
        rw [if_pos this]; exact e
      · rw [if_neg h2] at e
        by_cases h1 : (H b).isNone = true
        · rw [if_pos h1] at e ⊢; exact s4 _ _ (hid_sub _ _ e)
        · rw [if_neg h1] at e; cases e
end
end Bg

set_option Elab.async false
set_option linter.all false
set_option maxRecDepth 100000
set_option maxHeartbeats 4000000
namespace Bg
open PySem PySem.Spec PyProof.Rows L2
/-! ### a garden and the document that it tells -/
theorem gd {l : List Int} {p : Nat} {m : Int} (h : l[p]? = some m) : l.getD p 0 = m := by rw [List.getD_eq_getElem?_getD, h]; rfl
theorem node_of {f : GF Str} {p : Nat} (h : p < f.size) : ∃ x, (nodes none f)[p]? = some x ∧ x ∈ nodes none f ∧ (marks f)[p]? = some x.m ∧ lbD (docRows f) p = some x.l := by
  have hn : p < (nodes none f).length := by rw [nodes_length]; exact h
  have hx : (nodes none f)[p]? = some (nodes none f)[p] := List.getElem?_eq_getElem hn
  generalize (nodes none f)[p] = x at hx
  refine ⟨x, hx, List.mem_of_getElem? hx, by rw [← nodes_m f none, List.getElem?_map, hx]; rfl, ?_⟩
  have h1 : (f.pre.map (·.2))[p]? = some x.l := by rw [← nodes_l f none, List.getElem?_map, hx]; rfl
  rw [← Fo.rows_fst f 1, List.map_map] at h1
  show ((docRows f)[p]?.map (·.1)) = _
  rw [← h1]
  unfold docRows
  rw [List.getElem?_map, List.getElem?_map, Option.map_map]; rfl
theorem doc_alike {f : GF Str} {c : Int} (w : WF f c) : Alike (lbD (docRows f)) (ovD (docRows f)) (lbF f) (ovF f) (fun p => (marks f).getD p 0) (fun p => p < f.size) := by
  have nd := w.nd
  have hv : Valid (dsOf (docRows f)) := (docRows_ok w).v
  have hlen : (dsOf (docRows f)).length = f.size := by rw [dsOf_length, docRows_len]
  refine ⟨fun p hp => ?_, fun p hp => ?_, fun a b h => ?_, fun c' n' h => ?_, fun a b ha hb h => ?_⟩
  · obtain ⟨x, _, hx, hm, hl⟩ := node_of hp
    show lbF f ((marks f).getD p 0) = _
    rw [gd hm, hl, lbF_eq nd hx]
  · obtain ⟨x, hxp, hx, hm, hl⟩ := node_of hp
    show ovF f ((marks f).getD p 0) = _
    rw [gd hm, ovF_eq nd hx, over_at hxp]
    show (upp (f.dep 1) p).bind _ = (upp (dsOf (docRows f)) p).map _
    rw [docRows_ds]
    cases hu : upp (f.dep 1) p with
    | none => rfl
    | some u =>
      have hu2 : u < f.size := by
        rw [← docRows_ds] at hu
        have := upp_lt hv hu; omega
      obtain ⟨y, _, _, hm2, _⟩ := node_of hu2
      show (marks f)[u]? = some ((marks f).getD u 0)
      rw [hm2, gd hm2]
  · have := upp_lt hv h
    exact ⟨by omega, by omega⟩
  · obtain ⟨x, hx, e, _⟩ := of_ovF h
    obtain ⟨p, hp⟩ := List.getElem?_of_mem hx
    have hpl := (List.getElem?_eq_some_iff.mp hp).1
    rw [nodes_length] at hpl
    refine ⟨p, hpl, ?_⟩
    have : (marks f)[p]? = some x.m := by rw [← nodes_m f none, List.getElem?_map, hp]; rfl
    show (marks f).getD p 0 = c'
    rw [gd this, e]
  · obtain ⟨x, _, _, hm, _⟩ := node_of ha
    obtain ⟨y, _, _, hm2, _⟩ := node_of hb
    have h : (marks f).getD a 0 = (marks f).getD b 0 := h
    rw [gd hm, gd hm2] at h
    have h1 := List.getElem?_eq_some_iff.mp hm
    have h2 := List.getElem?_eq_some_iff.mp hm2
    exact (List.getElem_inj nd).mp (h1.2.trans (h.trans h2.2.symm))
/-- places to marks -/
theorem sel_marks (l : List Int) (P : Nat → Prop) (P' : Int → Prop) (h : ∀ p m, l[p]? = some m → (P p ↔ P' m)) : ((List.range l.length).filter fun p => cd (P p)).map (fun p => l.getD p 0) = l.filter fun m => cd (P' m) := by
  induction l generalizing P with
  | nil => rfl
  | cons a r ih =>
    have ih2 := ih (fun p => P (p + 1)) fun p m e => h (p + 1) m e
    have h0 := h 0 a rfl
    rw [List.length_cons, List.range_succ_eq_map, List.filter_cons, List.filter_map, List.filter_cons]
    have e1 : (List.map Nat.succ (List.filter ((fun p => cd (P p)) ∘ Nat.succ) (List.range r.length))).map (fun p => (a :: r).getD p 0) = r.filter fun m => cd (P' m) := by
      rw [List.map_map, ← ih2]; rfl
    by_cases c : P 0
    · rw [if_pos (cd_true c), if_pos (cd_true (h0.mp c)), List.map_cons, e1]; rfl
    · rw [if_neg (by rw [cd_false c]; simp), if_neg (by rw [cd_false (fun z => c (h0.mpr z))]; simp), e1]
def mk (f : GF Str) (p : Nat) : Int := (marks f).getD p 0
theorem marks_len (f : GF Str) : (marks f).length = f.size := by rw [List.length_map, Fo.pre_length]
theorem down_mk {f : GF Str} {c : Int} (w : WF f c) (q : Qs Str) (s : Nat) : (downS q (docRows f) s).map (mk f) = downM f q s := by
  unfold downS downM
  rw [docRows_len, ← marks_len]
  refine sel_marks (marks f) (fun p => Holds q (lbD (docRows f)) (ovD (docRows f)) s p) (fun m => Holds q (lbF f) (ovF f) s m) fun p m e => ?_
  have hp : p < f.size := by rw [← marks_len]; exact (List.getElem?_eq_some_iff.mp e).1
  have := (doc_alike w).holds (q := q) q.k s (Nat.sub_le _ _) p hp
  rw [show (marks f).getD p 0 = m from gd e] at this
  exact this
theorem full_mk {f : GF Str} {c : Int} (w : WF f c) (q : Qs Str) (s : Nat) : (fullS q (docRows f) s).map (mk f) = fullM f q s := by
  unfold fullS fullM
  rw [docRows_len, ← marks_len]
  refine sel_marks (marks f) (fun p => Full q (lbD (docRows f)) (ovD (docRows f)) s p) (fun m => Full q (lbF f) (ovF f) s m) fun p m e => ?_
  have hp : p < f.size := by rw [← marks_len]; exact (List.getElem?_eq_some_iff.mp e).1
  have := (doc_alike w).full (q := q) s s (Nat.le_refl _) p hp
  rw [show (marks f).getD p 0 = m from gd e] at this
  exact this
theorem mk_at {f : GF Str} {p : Nat} (h : p < f.size) : atI (iv (marks f)) (p : Int) = some (.int (mk f p)) := by
  obtain ⟨x, _, _, hm, _⟩ := node_of h
  refine atI_nat ?_
  rw [List.getElem?_map, hm]
  show some (V.int x.m) = some (V.int ((marks f).getD p 0))
  rw [gd hm]
/-! data of lists -/
theorem can_ints : ∀ l : List Int, PyData.canLayAll0 (l.map PyData.int) = true
  | [] => rfl
  | a :: l => by show (true && _) = true; rw [Bool.true_and]; exact can_ints l
theorem dep_ints : ∀ l : List Int, PyData.depthAll (l.map PyData.int) = 0
  | [] => rfl
  | a :: l => by show max 0 (PyData.depthAll (l.map PyData.int)) = 0; rw [dep_ints l]; rfl
theorem sh_ld (l : List Int) : SeqAt.shaped (ld l) = true := by
  unfold SeqAt.shaped ld
  rw [show (PyData.list (l.map PyData.int)).canLay0 = PyData.canLayAll0 (l.map PyData.int) from rfl, can_ints, show (PyData.list (l.map PyData.int)).depth = PyData.depthAll (l.map PyData.int) + 1 from rfl, dep_ints]; rfl
theorem can_lds : ∀ (r : List Nat) (g : Nat → List Int), PyData.canLayAll0 (r.map fun s => ld (g s)) = true ∧ PyData.depthAll (r.map fun s => ld (g s)) ≤ 1
  | [], _ => ⟨rfl, Nat.zero_le _⟩
  | a :: r, g => by
    obtain ⟨h1, h2⟩ := can_lds r g
    refine ⟨?_, ?_⟩
    · show (PyData.canLayAll0 ((g a).map PyData.int) && _) = true
      rw [can_ints, Bool.true_and]; exact h1
    · show max (PyData.depthAll ((g a).map PyData.int) + 1) _ ≤ 1
      rw [dep_ints]; exact Nat.max_le.mpr ⟨Nat.le_refl _, h2⟩
theorem sh_tab (k : Nat) (g h : Nat → List Int) : SeqAt.shaped (.tuple [ld2 k g, ld2 k h]) = true := by
  obtain ⟨a1, a2⟩ := can_lds (List.range k) g
  obtain ⟨b1, b2⟩ := can_lds (List.range k) h
  unfold SeqAt.shaped
  rw [show (PyData.tuple [ld2 k g, ld2 k h]).canLay0 = (PyData.canLayAll0 ((List.range k).map fun s => ld (g s)) && (PyData.canLayAll0 ((List.range k).map fun s => ld (h s)) && true)) from rfl, a1, b1,
    show (PyData.tuple [ld2 k g, ld2 k h]).depth = max (PyData.depthAll ((List.range k).map fun s => ld (g s)) + 1) (max (PyData.depthAll ((List.range k).map fun s => ld (h s)) + 1) 0) + 1 from rfl]
  rw [decide_eq_true]
  · rfl
  · omega
theorem eqv_self {d : PyData} (h : SeqAt.shaped d = true) : PyData.eqv d d = true := SeqAt.eqv_refl d (SeqAt.canLay_of_shaped h)
mutual
theorem dp_same {K : PySem.W.Frag} {H H' : Hp} (s : Same H H') : ∀ {v : V} {d : PyData}, Dp K H v d → Dp K H' v d
  | _, _, .non => .non
  | _, _, .bl b => .bl b
  | _, _, .int i => .int i
  | _, _, .str x => .str x
  | _, _, .lst h hs => .lst (s.seq h) (dpAll_same s hs)
  | _, _, .tup h hs => .tup (Same.sqt s h) (dpAll_same s hs)
theorem dpAll_same {K : PySem.W.Frag} {H H' : Hp} (s : Same H H') : ∀ {vs : List V} {ds : List PyData}, DpAll K H vs ds → DpAll K H' vs ds
  | _, _, .nil => .nil
  | _, _, .cons h hs => .cons (dp_same s h) (dpAll_same s hs)
end
def sp__law_right (K : PySem.W.Frag) : Sp := fun vs H Q _ => ∃ (ow : Ow) (i : Nat) (G : GAd) (f : GF Str) (coming : Int) (ks : List (Qs Str × Bool)) (kl : Addr) (qas : List Addr) (j : Nat), vs = [.ref G.g, .ref kl, .int j] ∧ GardenAt K H ow i G f coming ks ∧ H kl = some (.lst (qas.map V.ref)) ∧
  Each (fun a k => QAt K H a k.1) qas ks ∧ j < ks.length ∧ ∀ H', Same H H' → Q (.bl true) H'
section
variable {P : Program} {w : World} {K : PySem.W.Frag} {mg : Str → Option Value} {base : Heap}
theorem sc__law_right : FnScope ["_law_garden", "_law_kept_here", "_law_number", "_law_marks", "_law_document", "_law_answer", "_law_down", "_law_full", "_law_part", "_law_row"] ["_law_garden", "_law_kept_here", "_law_number"] (defScope s__law_right) := ⟨rfl, rfl, rfl, by decide +kernel, rfl, by decide +kernel, by decide +kernel⟩
theorem ok__law_right (T : Tx K mg) (O_Garden_answer : Ok P w K mg base 3 at_Garden_answer ["self", "number"] (sp_Garden_answer K)) (O_Garden_document : Ok P w K mg base 6 at_Garden_document ["self"] (sp_Garden_document K)) (O_Garden_marks : Ok P w K mg base 2 at_Garden_marks ["self"] (sp_Garden_marks K)) (O_Garden_tables : Ok P w K mg base 3 at_Garden_tables ["self", "number"] (sp_Garden_tables K)) (O_down_table : Ok P w K mg base 7 at_down_table ["document", "question"] (sp_down_table K)) (O_full_table : Ok P w K mg base 8 at_full_table ["document", "question"] (sp_full_table K)) (O_run_slow : Ok P w K mg base 9 at_run_slow ["document", "question"] (sp_run_slow K)) : Ok P w K mg base 10 at__law_right ["_law_garden", "_law_kept_here", "_law_number"] (sp__law_right K) := by
  refine mkOk T.d__law_right sc__law_right (fun _ _ _ _ _ _ us hl => match us, hl with | [_, _, _], _ => rfl) (fun vs H Q E h => ?_) (fun cdv A outer s H vs Q E hr h => ?_)
  · obtain ⟨ow, i, G, f, coming, ks, kl, qas, j, rfl, GA, hkl, EQ, hj, k⟩ := h; rfl
  · obtain ⟨ow, i, G, f, coming, ks, kl, qas, j, rfl, GA, hkl, EQ, hj, k⟩ := h
    refine ⟨_, (pss_cons (ps_set (i := 3) sc__law_right.nd rfl (by first | exact Or.inl rfl | exact Or.inr rfl) (kme0 (K := K) (pv 0) O_Garden_marks T.c_Garden T.m_Garden_marks (hr.mono (by decide))))
      (pss_cons (ps_set (i := 4) sc__law_right.nd rfl (by first | exact Or.inl rfl | exact Or.inr rfl) (kme0 (K := K) (pv 0) O_Garden_document T.c_Garden T.m_Garden_document (hr.mono (by decide))))
      (pss_cons (ps_setLc (i := 5) (own := [("_law_part", 8)]) (g := gName 8) (tt := tYes) rfl sc__law_right.nd rfl rfl (sw_true rfl rfl rfl (by decide +kernel)) (kpiL (K := K) (kfn (K := K) O_run_slow T.g_run_slow (hr.mono (by decide)) (pa_cons (pv 4) (pa_cons (pe_ix (kixL (K := K)) (pv 1) (pv 2) (fun _ _ => rfl)) pa_nil)))) (blkOk_by (by kernel_rfl)) (fun _ _ _ _ _ => (pg_name (i := 8) sc__law_right.nd rfl (by first | exact Or.inl rfl | exact Or.inr rfl))) (fun _ _ _ _ _ => pts_nil) (fun _ _ _ _ _ => (pe_ix (kixL (K := K)) (pv 3) (pv 8) (fun _ _ => rfl))))
      (pss_cons (ps_setLc (i := 6) (own := [("_law_row", 9)]) (g := gName 9) (tt := tYes) rfl sc__law_right.nd rfl rfl (sw_true rfl rfl rfl (by decide +kernel)) (kpiL (K := K) (kfn (K := K) O_down_table T.g_down_table (hr.mono (by decide)) (pa_cons (pv 4) (pa_cons (pe_ix (kixL (K := K)) (pv 1) (pv 2) (fun _ _ => rfl)) pa_nil)))) (blkOk_by (by kernel_rfl)) (fun _ _ _ _ _ => (pg_name (i := 9) sc__law_right.nd rfl (by first | exact Or.inl rfl | exact Or.inr rfl))) (fun _ _ _ _ _ => pts_nil) (fun _ _ _ _ _ => (pe_lc (own := [("_law_part", 8)]) (g := gName 8) (tt := tYes) rfl sc__law_right.nd (kpiL (K := K) (pv 9)) (blkOk_by (by kernel_rfl)) (fun _ _ _ _ _ => (pg_name (i := 8) sc__law_right.nd rfl (by first | exact Or.inl rfl | exact Or.inr rfl))) (fun _ _ _ _ _ => pts_nil) (fun _ _ _ _ _ => (pe_ix (kixL (K := K)) (pv 3) (pv 8) (fun _ _ => rfl))))))
      (pss_cons (ps_setLc (i := 7) (own := [("_law_row", 9)]) (g := gName 9) (tt := tYes) rfl sc__law_right.nd rfl rfl (sw_true rfl rfl rfl (by decide +kernel)) (kpiL (K := K) (kfn (K := K) O_full_table T.g_full_table (hr.mono (by decide)) (pa_cons (pv 4) (pa_cons (pe_ix (kixL (K := K)) (pv 1) (pv 2) (fun _ _ => rfl)) pa_nil)))) (blkOk_by (by kernel_rfl)) (fun _ _ _ _ _ => (pg_name (i := 9) sc__law_right.nd rfl (by first | exact Or.inl rfl | exact Or.inr rfl))) (fun _ _ _ _ _ => pts_nil) (fun _ _ _ _ _ => (pe_lc (own := [("_law_part", 8)]) (g := gName 8) (tt := tYes) rfl sc__law_right.nd (kpiL (K := K) (pv 9)) (blkOk_by (by kernel_rfl)) (fun _ _ _ _ _ => (pg_name (i := 8) sc__law_right.nd rfl (by first | exact Or.inl rfl | exact Or.inr rfl))) (fun _ _ _ _ _ => pts_nil) (fun _ _ _ _ _ => (pe_ix (kixL (K := K)) (pv 3) (pv 8) (fun _ _ => rfl))))))
      (pss_one (ps_ret (pe_and (pe_cmpR (keqD (K := K) hr.units) (kme (K := K) (pv 0) O_Garden_answer T.c_Garden T.m_Garden_answer (hr.mono (by decide)) (pa_cons (pv 2) pa_nil)) (pv 5) (nomark _)) (pe_one (pe_cmpR (keqD (K := K) hr.units) (kme (K := K) (pv 0) O_Garden_tables T.c_Garden T.m_Garden_tables (hr.mono (by decide)) (pa_cons (pv 2) pa_nil)) (pe_tup (pa_cons (pv 6) (pa_cons (pv 7) pa_nil))) (nomark _))))))))))), ?_⟩
    have B := GA.b
    have w := B.wf
    have hsz : (marks f).length ≤ 240 := by rw [marks_len]; exact w.small
    obtain ⟨qa, hqa, QA⟩ := EQ.row (List.getElem?_eq_getElem hj)
    have hkj : ks[j]? = some ks[j] := List.getElem?_eq_getElem hj
    generalize ks[j] = kq at hkj QA
    have hq := QA.ok.many
    refine ⟨_, rfl, mt_Garden_marks B.obj ⟨ow, i, G, f, coming, rfl, B, fun H1 ml s1 n1 e1 => ?_⟩⟩
    have B1 := B.same s1
    refine ⟨_, rfl, mt_Garden_document B1.obj ⟨ow, i, G, f, coming, rfl, B1, fun H2 da s2 n2 DX => ?_⟩⟩
    have D2 : DocAt K H2 da (docRows f) := DX.same (ext_sub (fun _ _ z => by cases z) s2)
    have s02 := s1.trans s2
    have comp : ∀ (L : List Nat) (Hx Hy : Hp) (y : V) (n : Nat) (v : V) (N : V → Hp → Prop) (σ : L2.St), (∀ p ∈ L, p < f.size) → Same H2 Hx → σ[3]? = some (some (.ref ml)) → σ.length = 10 → (Hy = Hx ∧ (nv L)[n]? = some v) → (∀ y H4, Same Hx H4 → L[n]?.map (fun p => V.int (mk f p)) = some y → N y H4) →
        tOp (rIxL K) (tVar 3) (tVar 8) (σ.set 8 (some v)) Hy N := by
      rintro L Hx Hy y n v N σ hL s hσ hl ⟨rfl, ev⟩ kN
      obtain ⟨p, hp, rfl⟩ := at_nv ev
      refine ⟨.ref ml, by rw [List.getElem?_set_ne (by decide)]; exact hσ, .int p, List.getElem?_set_self (by omega), ml, _, (p : Int), _, rfl, rfl, SqL.of (s _ _ (s2 _ _ e1)), mk_at (hL p (List.mem_of_getElem? hp)), kN _ _ (Same.refl _) (by rw [hp]; rfl)⟩
    have lim : ∀ (L : List Nat) (g : Nat → Bool), ((List.range (docRows f).length).filter g).length ≤ sizeLine := fun _ g => Nat.le_trans (List.length_filter_le _ _) (by rw [List.length_range, docRows_len, ← marks_len]; exact Nat.le_trans hsz line240)
    have QA2 := QA.same s02
    refine ⟨_, rfl, _, rfl, _, rfl, kl, _, _, _, rfl, rfl, SqL.of (s02 _ _ hkl), atI_nat (ref_at hqa), da, qa, docRows f, kq.1, rfl, D2, QA2, fun H3 y s3 ey => ?_⟩
    have hin : ∀ s, ∀ p ∈ fullS kq.1 (docRows f) s, p < f.size := fun s p hp => by have := (mem_fullS.mp hp).1; rw [docRows_len] at this; exact this
    have hin2 : ∀ s, ∀ p ∈ downS kq.1 (docRows f) s, p < f.size := fun s p hp => by have := (mem_downS.mp hp).1; rw [docRows_len] at this; exact this
    have lf : ∀ s, (nv (fullS kq.1 (docRows f) s)).length ≤ sizeLine := fun s => by rw [len_nv]; exact lim [] _
    have ldn : ∀ s, (nv (downS kq.1 (docRows f) s)).length ≤ sizeLine := fun s => by rw [len_nv]; exact lim [] _
    refine ⟨y, rfl, ⟨_, SqL.of ey⟩, fun D nD => ?_⟩
    refine lc_same (walk_list (xs := nv (fullS kq.1 (docRows f) kq.1.goal))) (fun n => (fullS kq.1 (docRows f) kq.1.goal)[n]?.map fun p => V.int (mk f p)) nD (lf _) (fun H s => SqL.of (s _ _ ey)) ?_ ?_
    · rintro n v H4 H5 N N0 hn s4 y4 ky kn
      exact ⟨rfl, comp _ H4 H5 v n v N _ (hin _) (s3.trans s4) rfl rfl y4 ky⟩
    intro H4 s4 e4
    rw [len_nv, some_map] at e4
    have e4 : H4 D = some (.lst (iv (fullM f kq.1 kq.1.goal))) := by rw [e4, ← full_mk w]; unfold iv; rw [List.map_map]; rfl
    have s24 := s3.trans s4
    have s04 := s02.trans s24
    refine ⟨_, rfl, _, rfl, _, rfl, kl, _, _, _, rfl, rfl, SqL.of (s04 _ _ hkl), atI_nat (ref_at hqa), da, qa, docRows f, kq.1, rfl, D2.same s24, QA.same s04, fun H5a ya s5a nya TBa => ?_⟩
    obtain ⟨tsa, eta, lta, rta⟩ := TBa.ex
    have ltta : (tsa.map V.ref).length = kq.1.k := by rw [List.length_map, lta]
    refine ⟨ya, rfl, ⟨_, SqL.of eta⟩, fun Da nDa => ?_⟩
    refine lc_each (walk_list (xs := tsa.map V.ref)) (List.range kq.1.k) (fun H t s => t ≠ Da ∧ H t = some (.lst (iv (downM f kq.1 s)))) nDa (fun _ _ _ _ s h => ⟨h.1, s _ _ h.2⟩) (fun H t r acc acc' e h => ⟨h.1, by rw [upd_ne h.1]; exact h.2⟩) (by rw [ltta, List.length_range]) (by rw [ltta]; exact Nat.le_trans hq (by decide)) (fun H s => SqL.of (s _ _ eta)) ?_ ?_
    · rintro n r v H6 H7 N hr hD s6 ⟨rfl, ev⟩ ky
      have hn := (List.getElem?_eq_some_iff.mp hr).1
      rw [List.length_range] at hn
      obtain rfl : n = r := by rw [List.getElem?_range hn] at hr; exact Option.some.inj hr
      obtain ⟨t, ht, rfl⟩ := at_ref ev
      obtain ⟨_, L, eL, rfl⟩ := rta n t ht
      refine ⟨rfl, _, rfl, t, rfl, ⟨_, SqL.of (s6 _ _ eL)⟩, fun E nE => ?_⟩
      refine lc_same (walk_list (xs := nv (downS kq.1 (docRows f) n))) (fun l => (downS kq.1 (docRows f) n)[l]?.map fun p => V.int (mk f p)) nE (ldn _) (fun H s => SqL.of (s _ _ (s6 _ _ eL))) ?_ ?_
      · rintro l v H8 H9 N2 N0 hl s8 y8 ky2 kn2
        exact ⟨rfl, comp _ H8 H9 v l v N2 _ (hin2 _) (((s24).trans s5a).trans (s6.trans s8)) rfl rfl y8 ky2⟩
      · intro H8 s8 e8
        rw [len_nv, some_map] at e8
        refine ky E _ s8 ⟨fun z => hD (by rw [← z]; exact nE), ?_⟩
        rw [e8, ← down_mk w]; unfold iv; rw [List.map_map]; rfl
    intro H6a usa s6a e6a E6a
    have s26 := s24.trans (s5a.trans s6a)
    have s06 := s02.trans s26
    refine ⟨_, rfl, _, rfl, _, rfl, kl, _, _, _, rfl, rfl, SqL.of (s06 _ _ hkl), atI_nat (ref_at hqa), da, qa, docRows f, kq.1, rfl, D2.same s26, QA.same s06, fun H5b yb s5b nyb TBb => ?_⟩
    obtain ⟨tsb, etb, ltb, rtb⟩ := TBb.ex
    have lttb : (tsb.map V.ref).length = kq.1.k := by rw [List.length_map, ltb]
    refine ⟨yb, rfl, ⟨_, SqL.of etb⟩, fun Db nDb => ?_⟩
    refine lc_each (walk_list (xs := tsb.map V.ref)) (List.range kq.1.k) (fun H t s => t ≠ Db ∧ H t = some (.lst (iv (fullM f kq.1 s)))) nDb (fun _ _ _ _ s h => ⟨h.1, s _ _ h.2⟩) (fun H t r acc acc' e h => ⟨h.1, by rw [upd_ne h.1]; exact h.2⟩) (by rw [lttb, List.length_range]) (by rw [lttb]; exact Nat.le_trans hq (by decide)) (fun H s => SqL.of (s _ _ etb)) ?_ ?_
    · rintro n r v H6 H7 N hr hD s6 ⟨rfl, ev⟩ ky
      have hn := (List.getElem?_eq_some_iff.mp hr).1
      rw [List.length_range] at hn
      obtain rfl : n = r := by rw [List.getElem?_range hn] at hr; exact Option.some.inj hr
      obtain ⟨t, ht, rfl⟩ := at_ref ev
      obtain ⟨_, L, eL, rfl⟩ := rtb n t ht
      refine ⟨rfl, _, rfl, t, rfl, ⟨_, SqL.of (s6 _ _ eL)⟩, fun E nE => ?_⟩
      refine lc_same (walk_list (xs := nv (fullS kq.1 (docRows f) n))) (fun l => (fullS kq.1 (docRows f) n)[l]?.map fun p => V.int (mk f p)) nE (lf _) (fun H s => SqL.of (s _ _ (s6 _ _ eL))) ?_ ?_
      · rintro l v H8 H9 N2 N0 hl s8 y8 ky2 kn2
        exact ⟨rfl, comp _ H8 H9 v l v N2 _ (hin _) (((s26).trans s5b).trans (s6.trans s8)) rfl rfl y8 ky2⟩
      · intro H8 s8 e8
        rw [len_nv, some_map] at e8
        refine ky E _ s8 ⟨fun z => hD (by rw [← z]; exact nE), ?_⟩
        rw [e8, ← full_mk w]; unfold iv; rw [List.map_map]; rfl
    intro H6b usb s6b e6b E6b
    have s28 := s26.trans (s5b.trans s6b)
    have s08 := s02.trans s28
    have sD := (s5a.trans s6a).trans (s5b.trans s6b)
    refine ⟨_, rfl, mt_Garden_answer (s08 _ _ B.obj) ⟨_, rfl, ow, i, G, f, coming, ks, j, kq, rfl, GA.same s08, hkj, fun H9 al s9 n9 e9 => ?_⟩⟩
    refine ⟨_, rfl, ld (fullM f kq.1 kq.1.goal), ld (fullM f kq.1 kq.1.goal), .lst (SqL.of e9) (DpAll_iv _), .lst (SqL.of (s9 _ _ (sD _ _ e4))) (DpAll_iv _), sh_ld _, sh_ld _, true, by rw [eqv_self (sh_ld _)], ?_⟩
    have s09 := s08.trans s9
    refine ⟨_, rfl, mt_Garden_tables (s09 _ _ B.obj) ⟨_, rfl, ow, i, G, f, coming, ks, j, kq, rfl, GA.same s09, hkj, fun H10 tl s10 dp => ?_⟩⟩
    have sE := s9.trans s10
    refine ⟨_, rfl, _, rfl, by show 2 ≤ sizeLine; decide, fun p np => ?_⟩
    have s11 : Same H10 (upd H10 p (.tup [.ref Da, .ref Db])) := Same.up np
    have sF := sE.trans s11
    refine ⟨_, _, dp_same s11 dp, .tup (SqT.of upd_same) (.cons (.lst (SqL.of (sF _ _ ((s5b.trans s6b) _ _ e6a))) (DpAll_each (E6a.imp fun t s h => sF _ _ ((s5b.trans s6b) _ _ h.2)))) (.cons (.lst (SqL.of (sF _ _ e6b)) (DpAll_each (E6b.imp fun t s h => sF _ _ h.2))) .nil)), sh_tab _ _ _, sh_tab _ _ _, ?_⟩
    have et := eqv_self (sh_tab kq.1.k (downM f kq.1) (fullM f kq.1))
    show Q (V.bl (PyData.eqv (.tuple [ld2 kq.1.k (downM f kq.1), ld2 kq.1.k (fullM f kq.1)]) (.tuple [ld2 kq.1.k (downM f kq.1), ld2 kq.1.k (fullM f kq.1)]))) _
    rw [et]
    exact k _ (s08.trans sF)
end
end Bg

set_option Elab.async false
set_option linter.all false
set_option maxRecDepth 100000
set_option maxHeartbeats 4000000
namespace Bg
open PySem PySem.Spec PyProof.Rows L2
theorem drawn_step {s : Addr} {H H' : Hp} {ow : Ow} (O : Own H ow) (os : ow s = .src) (d : Drawn s H H') : Step (fun r => r = .src) H ow H' ow := by
  have al : ∀ b, H b ≠ none → H' b ≠ none := fun b h => by
    by_cases e : b = s
    · obtain ⟨n, y, t, e2⟩ := d.src
      rw [e, e2]; exact fun z => by cases z
    · cases e2 : H b with
      | none => exact absurd e2 h
      | some o => exact some_ne (d.fr b o e e2)
  exact ⟨fun _ _ => rfl, al, fun b o c e => d.fr b o (fun z => c (by rw [z]; exact os)) e, fun b h => al b (O b h)⟩
theorem src_step {C : Ro → Prop} {s : Addr} {H H' : Hp} {ow ow' : Ow} (h : SrcAt H s) (os : ow s = .src) (S : Step C H ow H' ow') (c : ¬ C .src) : SrcAt H' s ∧ ow' s = .src := by
  obtain ⟨n, y, t, e⟩ := h
  exact ⟨⟨n, y, t, S.fr _ _ (by rw [os]; exact c) e⟩, by rw [S.keep _ (some_ne e)]; exact os⟩
/-- labels -/
structure LabsAt (S : Hp) (la : Addr) (ls : List Str) : Prop where
  at_ : S la = some (.lst (ls.map V.str))
  ne : ls ≠ []
  few : ls.length ≤ 4
  ok : ∀ x ∈ ls, IsLab x
theorem LabsAt.same {S S' : Hp} {la : Addr} {ls : List Str} (h : LabsAt S la ls) (s : Same S S') : LabsAt S' la ls := ⟨s _ _ h.at_, h.ne, h.few, h.ok⟩
def kc (i : Nat) (r : Ro) : Prop := gr i r ∨ r = .src ∨ r = .kq i
theorem kc_out {i : Nat} : ¬ kc i .out := by rintro (h | h | h); exact gr_out h; cases h; cases h
def sp__law_kept (K : PySem.W.Frag) : Sp := fun vs H Q _ => ∃ (ow : Ow) (i : Nat) (G : GAd) (f : GF Str) (coming : Int) (ks : List (Qs Str × Bool)) (s la kl : Addr) (ls : List Str) (qas : List Addr), vs = [.ref G.g, .ref s, .ref la, .ref kl] ∧ GardenAt K H ow i G f coming ks ∧ SrcAt H s ∧ ow s = .src ∧
  LabsAt (hid ow H) la ls ∧ H kl = some (.lst (qas.map V.ref)) ∧ ow kl = .kq i ∧ Each (fun a (k : Qs Str × Bool) => QAt K (hid ow H) a k.1) qas ks ∧ ks.length < 12 ∧
  ∀ H' ow' G' qa q, Step (kc i) H ow H' ow' → G'.g = G.g → GardenAt K H' ow' i G' f coming (ks ++ [(q, true)]) → H' kl = some (.lst ((qas ++ [qa]).map V.ref)) → QAt K (hid ow' H') qa q → SrcAt H' s → Q (.bl true) H'
def sp__law_anew (K : PySem.W.Frag) : Sp := fun vs H Q _ => ∃ (ow : Ow) (i : Nat) (G : GAd) (f : GF Str) (coming : Int) (ks : List (Qs Str × Bool)) (kl : Addr) (qas : List Addr), vs = [.ref G.g, .ref kl] ∧ GardenAt K H ow i G f coming ks ∧ H kl = some (.lst (qas.map V.ref)) ∧ ow kl = .kq i ∧
  Each (fun a (k : Qs Str × Bool) => QAt K (hid ow H) a k.1) qas ks ∧ ks.length < 12 ∧ ∀ H' ow', Step (gr (i + 2)) H ow H' ow' → Q (.bl true) H'
theorem gr_gi {i : Nat} {r : Ro} (h : gr i r) (j : Nat) (ne : j ≠ i) : r.gi ≠ some j := by
  rcases h with rfl | h
  · intro z; cases z
  · rw [h]; exact fun z => ne (Option.some.inj z).symm
section
variable {P : Program} {w : World} {K : PySem.W.Frag} {mg : Str → Option Value} {base : Heap}
theorem sc__law_kept : FnScope ["_law_garden", "_law_source_here", "_law_labels_here", "_law_kept_here", "_law_question_here"] ["_law_garden", "_law_source_here", "_law_labels_here", "_law_kept_here"] (defScope s__law_kept) := ⟨rfl, rfl, rfl, by decide +kernel, rfl, by decide +kernel, by decide +kernel⟩
theorem ok__law_kept (T : Tx K mg) (O_Garden_keep : Ok P w K mg base 7 at_Garden_keep ["self", "question"] (sp_Garden_keep K)) (O__law_question : Ok P w K mg base 6 at__law_question ["_law_source_here", "_law_labels_here"] (sp__law_question K)) (O__law_take : Ok P w K mg base 1 at__law_take ["_law_source_here", "_law_many"] (sp__law_take K)) : Ok P w K mg base 8 at__law_kept ["_law_garden", "_law_source_here", "_law_labels_here", "_law_kept_here"] (sp__law_kept K) := by
  refine mkOk T.d__law_kept sc__law_kept (fun _ _ _ _ _ _ us hl => match us, hl with | [_, _, _, _], _ => rfl) (fun vs H Q E h => ?_) (fun cdv A outer s H vs Q E hr h => ?_)
  · obtain ⟨ow, i, G, f, coming, ks, s, la, kl, ls, qas, rfl, GA, hs, os, LA, hkl, okl, EQ, h12, k⟩ := h; rfl
  · obtain ⟨ow, i, G, f, coming, ks, s, la, kl, ls, qas, rfl, GA, hs, os, LA, hkl, okl, EQ, h12, k⟩ := h
    refine ⟨_, (pss_cons (ps_set (i := 4) sc__law_kept.nd rfl (by first | exact Or.inl rfl | exact Or.inr rfl) (kfn (K := K) O__law_question T.g__law_question (hr.mono (by decide)) (pa_cons (pv 1) (pa_cons (pv 2) pa_nil))))
      (pss_cons (ps_if (PW.pt (pw_and (pt_cmpR (kneE (K := K) hr.units) (pv 3) (pe_lst pa_nil) (nomark _)) (pw_and1 (pt_cmpR op_eq (kfn (K := K) O__law_take T.g__law_take (hr.mono (by decide)) (pa_cons (pv 1) (pa_cons pe_int pa_nil))) pe_int (nomark _)))))
        (pss_one (ps_set (i := 4) sc__law_kept.nd rfl (by first | exact Or.inl rfl | exact Or.inr rfl) (pe_ix (kixL (K := K)) (pv 3) (kfn (K := K) O__law_take T.g__law_take (hr.mono (by decide)) (pa_cons (pv 1) (pa_cons (pe_callB (klen (K := K)) (by rfl) T.f_len PySem.boot_len (pa_cons (pv 3) pa_nil)) pa_nil))) (fun _ _ => rfl))))
        pss_nil)
      (pss_cons (ps_expr (kbm (K := K) PySem.F.plainAttrs_list PySem.F.slot_list_append PySem.F.type_list_append kappend (pv 3) (pa_cons (pv 4) pa_nil)))
      (pss_one (ps_ret (pe_cmpR op_eq (kme (K := K) (pv 0) O_Garden_keep T.c_Garden T.m_Garden_keep (hr.mono (by decide)) (pa_cons (pv 4) pa_nil)) (pe_op op_sub (pe_callB (klen (K := K)) (by rfl) T.f_len PySem.boot_len (pa_cons (pv 3) pa_nil)) pe_int) (nomark _))))))), ?_⟩
    have O := GA.b.own
    have ola : ow la = .out := (hid_some.mp LA.at_).1
    have lane : la ≠ s := rne ola os (by simp)
    have klne : kl ≠ s := rne okl os (by simp)
    have c1 : ∀ r : Ro, r = .src → r.gi ≠ some i := by rintro r rfl; exact fun z => by cases z
    have fin : ∀ (H2 : Hp) (qa : Addr) (q : Qs Str), Drawn s H H2 → QAt K (hid ow H2) qa q →
        tSeq (tDrop (tBM K "list" rAppend (tVar 3) (tCons (tVar 4) tNil))) (tRet (tOp rEq (tMeth (He.ga K "Garden") "keep" (sp_Garden_keep K) [] E0 (tVar 0) (tCons (tVar 4) tNil)) (tOp (rI0 fun i j => V.int (i - j)) (tCB (rLenQ K) (tCons (tVar 3) tNil)) (tC (.int 1))))) { nx := fun _ H' => Q .non H', rt := Q } [some (.ref G.g), some (.ref s), some (.ref la), some (.ref kl), some (.ref qa)] H2 := by
      intro H2 qa q dr QA
      have S2 := drawn_step O os dr
      have GA2 := GA.step S2 (by simp) c1
      have ekl := dr.fr _ _ klne hkl
      refine ⟨_, rfl, tyL ekl, _, rfl, kl, _, _, rfl, rfl, ekl, ?_, ?_⟩
      · rw [List.length_map, EQ.len]; exact Nat.lt_trans h12 (by decide)
      have S3 := Step.put (C := fun r => r = .kq i) (o := .lst (qas.map V.ref ++ [.ref qa])) S2.own ekl okl
      have GA3 := GA2.step S3 (by simp) (by rintro r rfl; exact fun z => by cases z)
      have QA3 := QA.same (S3.hid (by simp))
      have ekl3 : upd H2 kl (.lst (qas.map V.ref ++ [.ref qa])) kl = some (.lst ((qas ++ [qa]).map V.ref)) := by rw [upd_same, List.map_append]; rfl
      generalize upd H2 kl (.lst (qas.map V.ref ++ [.ref qa])) = H3 at S3 GA3 QA3 ekl3 ⊢
      refine ⟨_, rfl, mt_Garden_keep GA3.b.obj ⟨_, rfl, ow, i, G, f, coming, ks, qa, q, rfl, GA3, QA3.same hid_sub, h12, fun H4 ow4 G4 S4 eg GA4 => ?_⟩⟩
      have ekl4 : H4 kl = some (.lst ((qas ++ [qa]).map V.ref)) := S4.fr _ _ (by rw [okl]; rintro (z | z) <;> cases z) ekl3
      refine ⟨_, rfl, kl, _, rfl, .inl (SqL.of ekl4), _, 1, rfl, rfl, rfl, ?_⟩
      have e1 : decide (V.int (ks.length : Nat) = V.int ((((qas ++ [qa]).map V.ref).length : Int) - 1)) = true := by
        refine decide_eq_true ?_
        rw [List.length_map, List.length_append, EQ.len]
        congr 1
        show _ = ((ks.length + 1 : Nat) : Int) - 1
        omega
      show Q (V.bl (decide (V.int (ks.length : Nat) = V.int ((((qas ++ [qa]).map V.ref).length : Int) - 1)))) H4
      rw [e1]
      refine k H4 ow4 G4 qa q (((S2.mono ?_).trans (S3.mono ?_)).trans (S4.mono ?_)) eg GA4 ekl4 (QA3.same (S4.hid gr_out)) (src_step (src_step dr.src os S3 (by simp)).1 os S4 (by rintro (z | z) <;> cases z)).1
      · rintro r rfl; exact .inr (.inl rfl)
      · rintro r rfl; exact .inr (.inr rfl)
      · exact fun r h => .inl h
    refine ⟨_, rfl, _, rfl, s, la, ls, rfl, hs, lane, hid_sub _ _ LA.at_, LA.ne, LA.few, LA.ok, fun H1 qa q dr1 nqa QX => ?_⟩
    have QA1 : QAt K (hid ow H1) qa q := QX.same fun b o e => by
      unfold ext at e
      by_cases z : (H b).isNone = true
      · rw [if_pos z] at e
        exact hid_some.mpr ⟨O.new (Option.isNone_iff_eq_none.mp z), e⟩
      · rw [if_neg z] at e; cases e
    refine ⟨_, rfl, by decide, fun p np => ⟨kl, p, _, rfl, rfl, ne_of_none (dr1.fr _ _ klne hkl) np, SqL.of (upd_at np (dr1.fr _ _ klne hkl)), SqL.of upd_same, ?_⟩⟩
    have dr2 := dr1.new (o := .lst []) np
    have QA2 := QA1.same (hid_same (Same.up (o := .lst []) np))
    generalize upd H1 p (.lst []) = H2 at dr2 QA2 ⊢
    cases hq : qas with
    | nil =>
      subst hq
      exact ⟨false, rfl, fin H2 qa q dr2 QA2⟩
    | cons q0 qr =>
      have hne : (qas.map V.ref).isEmpty = false := by rw [hq]; rfl
      refine ⟨true, by rw [← hq, hne]; rfl, _, rfl, s, 4, rfl, dr2.src, by omega, by omega, fun r H3 r0 r1 dr3 => ⟨rfl, ?_⟩⟩
      have dr03 := dr2.trans dr3
      have QA3 := QA2.same ((drawn_step (drawn_step O os dr2).own os dr3).hid (by simp))
      by_cases hz : r = 0
      · refine ⟨true, bt (by rw [hz]), ?_⟩
        have ekl3 := dr03.fr _ _ klne hkl
        have hl1 : 1 ≤ qas.length := by rw [hq]; simp
        refine ⟨_, rfl, _, rfl, _, rfl, kl, _, rfl, .inl (SqL.of ekl3), s, _, rfl, dr03.src, by rw [List.length_map]; omega, by rw [List.length_map, EQ.len]; omega, fun rr H4 u0 u1 dr4 => ?_⟩
        rw [List.length_map] at u1
        obtain ⟨n, rfl⟩ := Int.eq_ofNat_of_zero_le u0
        have hn : n < qas.length := by omega
        have dr04 := dr03.trans dr4
        have hkn : ks[n]? = some (ks[n]'(by rw [← EQ.len]; exact hn)) := List.getElem?_eq_getElem _
        obtain ⟨qa2, hqa2, QB⟩ := EQ.row hkn
        have QB4 := QB.same ((drawn_step O os dr04).hid (by simp))
        exact ⟨kl, _, _, _, rfl, rfl, SqL.of (dr4.fr _ _ klne ekl3), atI_nat (ref_at hqa2), fin H4 qa2 _ dr04 QB4⟩
      · exact ⟨false, bf (fun z => hz (V.int.inj z)), fin H3 qa q dr03 QA3⟩
end
end Bg

set_option Elab.async false
set_option linter.all false
set_option maxRecDepth 100000
set_option maxHeartbeats 4000000
namespace Bg
open PySem PySem.Spec PyProof.Rows L2
/-! ### a garden made anew -/
theorem anew_rows (f : GF Str) : docRows f = (f.map (·.2)).rows 1 := (Fo.rows_map (·.2) f 1).symm
theorem anew_docs (f : GF Str) : docRows (num 0 (f.map (·.2))) = docRows f := by rw [anew_rows, num_map, anew_rows]
theorem anew_marks (f : GF Str) : marks (num 0 (f.map (·.2))) = (List.range f.size).map fun (i : Nat) => (i : Int) := by
  rw [num_marks, Fo.map_size, List.range_eq_range']
theorem anew_mk (f : GF Str) {p : Nat} (h : p < f.size) : mk (num 0 (f.map (·.2))) p = (p : Int) := by
  unfold mk
  refine gd ?_
  rw [anew_marks, List.getElem?_map, List.getElem?_range h]; rfl
theorem anew_root {f : GF Str} {c : Int} (w : WF f c) : ∃ l k, f.map (·.2) = .cons l k .nil := by
  obtain ⟨l, k, rfl⟩ := w.root
  exact ⟨l, _, rfl⟩
theorem anew_full {f : GF Str} {c c2 : Int} (w : WF f c) (w2 : WF (num 0 (f.map (·.2))) c2) (q : Qs Str) (s : Nat) : fullM (num 0 (f.map (·.2))) q s = (fullS q (docRows f) s).map fun (p : Nat) => (p : Int) := by
  rw [← full_mk w2, anew_docs]
  refine List.map_congr_left fun p hp => anew_mk f ?_
  have := (mem_fullS.mp hp).1
  rwa [docRows_len] at this
theorem at_map_int {l : List Nat} {i : Nat} {v : V} (h : (iv (l.map fun (p : Nat) => (p : Int)))[i]? = some v) : ∃ p, l[i]? = some p ∧ v = .int (p : Int) := by
  unfold iv at h
  rw [List.map_map] at h
  exact at_nv h
section
variable {P : Program} {w : World} {K : PySem.W.Frag} {mg : Str → Option Value} {base : Heap}
theorem sc__law_anew : FnScope ["_law_garden", "_law_kept_here", "_law_marks", "_law_other", "_law_number", "_law_part"] ["_law_garden", "_law_kept_here"] (defScope s__law_anew) := ⟨rfl, rfl, rfl, by decide +kernel, rfl, by decide +kernel, by decide +kernel⟩
theorem ok__law_anew (T : Tx K mg) (O_Garden_init : Ok P w K mg base 5 at_Garden_init ["self", "document"] (sp_Garden_init K)) (O_Garden_answer : Ok P w K mg base 3 at_Garden_answer ["self", "number"] (sp_Garden_answer K)) (O_Garden_document : Ok P w K mg base 6 at_Garden_document ["self"] (sp_Garden_document K)) (O_Garden_keep : Ok P w K mg base 7 at_Garden_keep ["self", "question"] (sp_Garden_keep K)) (O_Garden_marks : Ok P w K mg base 2 at_Garden_marks ["self"] (sp_Garden_marks K)) (O__law_right : Ok P w K mg base 10 at__law_right ["_law_garden", "_law_kept_here", "_law_number"] (sp__law_right K)) : Ok P w K mg base 11 at__law_anew ["_law_garden", "_law_kept_here"] (sp__law_anew K) := by
  refine mkOk T.d__law_anew sc__law_anew (fun _ _ _ _ _ _ us hl => match us, hl with | [_, _], _ => rfl) (fun vs H Q E h => ?_) (fun cdv A outer s H vs Q E hr h => ?_)
  · obtain ⟨ow, i, G, f, coming, ks, kl, qas, rfl, GA, hkl, okl, EQ, h12, k⟩ := h; rfl
  · obtain ⟨ow, i, G, f, coming, ks, kl, qas, rfl, GA, hkl, okl, EQ, h12, k⟩ := h
    refine ⟨_, (pss_cons (ps_set (i := 2) sc__law_anew.nd rfl (by first | exact Or.inl rfl | exact Or.inr rfl) (kme0 (K := K) (pv 0) O_Garden_marks T.c_Garden T.m_Garden_marks (hr.mono (by decide))))
      (pss_cons (ps_set (i := 3) sc__law_anew.nd rfl (by first | exact Or.inl rfl | exact Or.inr rfl) (kmk (K := K) O_Garden_init T.k_Garden T.g_Garden (hr.mono (by decide)) (pa_cons (kme0 (K := K) (pv 0) O_Garden_document T.c_Garden T.m_Garden_document (hr.mono (by decide))) pa_nil)))
      (pss_cons (ps_for PassesOwn.never rfl (pi_range1 (by rfl) T.f_range (pa_cons (pe_callB (klen (K := K)) (by rfl) T.f_len PySem.boot_len (pa_cons (pv 1) pa_nil)) pa_nil)) (pg_name (i := 4) sc__law_anew.nd rfl (by first | exact Or.inl rfl | exact Or.inr rfl))
        (pss_cons (ps_if (PW.pt (pw_or (pt_cmpR op_ne (kme (K := K) (pv 3) O_Garden_keep T.c_Garden T.m_Garden_keep (hr.mono (by decide)) (pa_cons (pe_ix (kixL (K := K)) (pv 1) (pv 4) (fun _ _ => rfl)) pa_nil)) (pv 4) (nomark _)) (pw_or1 (pt_not (pt_val (kfn (K := K) O__law_right T.g__law_right (hr.mono (by decide)) (pa_cons (pv 0) (pa_cons (pv 1) (pa_cons (pv 4) pa_nil)))))))))
          (pss_one (ps_ret pe_bl))
          pss_nil)
        (pss_one (ps_if (pt_cmpR (kneD (K := K) hr.units) (pe_lc (own := [("_law_part", 5)]) (g := gName 5) (tt := tYes) rfl sc__law_anew.nd (kpiL (K := K) (kme (K := K) (pv 3) O_Garden_answer T.c_Garden T.m_Garden_answer (hr.mono (by decide)) (pa_cons (pv 4) pa_nil))) (blkOk_by (by kernel_rfl)) (fun _ _ _ _ _ => (pg_name (i := 5) sc__law_anew.nd rfl (by first | exact Or.inl rfl | exact Or.inr rfl))) (fun _ _ _ _ _ => pts_nil) (fun _ _ _ _ _ => (pe_ix (kixL (K := K)) (pv 2) (pv 5) (fun _ _ => rfl)))) (kme (K := K) (pv 0) O_Garden_answer T.c_Garden T.m_Garden_answer (hr.mono (by decide)) (pa_cons (pv 4) pa_nil)) (nomark _))
          (pss_one (ps_ret pe_bl))
          pss_nil))))
      (pss_one (ps_ret (pe_cmpR (keqD (K := K) hr.units) (kme0 (K := K) (pv 3) O_Garden_marks T.c_Garden T.m_Garden_marks (hr.mono (by decide))) (pe_listRg rfl rfl T.f_list (prg_1 rfl T.f_range (pe_callB (klen (K := K)) (by rfl) T.f_len PySem.boot_len (pa_cons (pv 2) pa_nil)))) (nomark _))))))), ?_⟩
    have B := GA.b
    have O := B.own
    have w := B.wf
    have hsz : (marks f).length ≤ 240 := by rw [marks_len]; exact w.small
    refine ⟨_, rfl, mt_Garden_marks B.obj ⟨ow, i, G, f, coming, rfl, B, fun H1 ml s1 n1 e1 => ?_⟩⟩
    have B1 := B.same s1
    refine ⟨_, rfl, mt_Garden_document B1.obj ⟨ow, i, G, f, coming, rfl, B1, fun H2 da s2 n2 DX => ?_⟩⟩
    have D2 : DocAt K H2 da (docRows f) := DX.same (ext_sub (fun _ _ z => by cases z) s2)
    have s02 := s1.trans s2
    have O2 : Own H2 ow := fun b z => alive_of_same s02 b (O b z)
    rw [anew_rows] at D2
    refine fun gx gdx ngx ngdx nge => ⟨gx, gdx, da, f.map (·.2), H2, ow, i + 2, rfl, upd_same, (Same.up ngdx).new (by rw [upd_ne nge.symm]; exact ngx), ngx, D2, anew_root w, O2, fun H3 ow3 G2 S3 eG GA3 => ⟨rfl, ?_⟩⟩
    subst eG
    rw [Fo.map_size] at GA3
    have nei : i ≠ i + 2 := by omega
    have S03 : Step (gr (i + 2)) H ow H3 ow3 := (Step.same O s02).trans (S3.mono fun _ h => h.elim)
    have ekl3 := S03.fr _ _ (by rw [okl]; rintro (z | z) <;> cases z) hkl
    have oml : ow ml = .out := O.new n1
    have e13 := S3.fr _ _ id (s2 _ _ e1)
    have oml3 : ow3 ml = .out := (S3.keep _ (some_ne (s2 _ _ e1))).trans oml
    have okl3 : ow3 kl = .kq i := (S03.keep _ (some_ne hkl)).trans okl
    refine ⟨_, rfl, kl, _, rfl, .inl (SqL.of ekl3), _, rfl, by omega, by rw [List.length_map, EQ.len]; omega, ?_⟩
    rw [List.length_map, Int.toNat_natCast]
    refine for_it walk_range (fun n σ H' => ∃ (x4 x5 : Option V) (ow' : Ow) (G' : GAd), σ = [some (.ref G.g), some (.ref kl), some (.ref ml), some (.ref G2.g), x4, x5] ∧ Step (gr (i + 2)) H3 ow3 H' ow' ∧ G'.g = G2.g ∧ GardenAt K H' ow' (i + 2) G' (num 0 (f.map (·.2))) f.size ((ks.take n).map fun k => (k.1, true))) ?_ (fun _ _ _ _ _ => trivial) ?_ ?_
    · exact ⟨none, none, ow3, G2, rfl, Step.refl S3.own, rfl, GA3⟩
    · rintro n v σ H4 H5 hn ⟨x4, x5, ow4, G4, rfl, S4, eg4, GA4⟩ ⟨rfl, ev⟩
      obtain rfl : v = V.int (n : Int) := by
        rw [ev]
        show V.int ((0 : Int) + (n : Nat)) = _
        congr 1; omega
      have S04 := S03.trans S4
      have hnk : n < ks.length := by rw [← EQ.len]; exact hn
      have hkn : ks[n]? = some ks[n] := List.getElem?_eq_getElem hnk
      obtain ⟨qa, hqa, QA⟩ := EQ.row hkn
      generalize ks[n] = kq at hkn QA
      have ekl4 := S4.fr _ _ (by rw [okl3]; rintro (z | z) <;> cases z) ekl3
      have lt : ((ks.take n).map fun k => (k.1, true)).length = n := by rw [List.length_map, List.length_take]; omega
      have QA4 := (QA.same (S04.hid gr_out)).same hid_sub
      refine ⟨_, rfl, ?_⟩
      rw [← eg4]
      refine mt_Garden_keep GA4.b.obj ⟨_, rfl, _, rfl, kl, _, _, _, rfl, rfl, SqL.of ekl4, atI_nat (ref_at hqa), ow4, i + 2, G4, _, _, _, qa, kq.1, rfl, GA4, QA4, by rw [lt]; omega, fun H6 ow6 G6 S6 eg6 GA6 => ?_⟩
      rw [lt]
      refine ⟨_, rfl, rfl, false, by rw [decide_eq_true rfl]; rfl, ?_⟩
      have S06 := S04.trans S6
      have GAo := GA.step S06 gr_out fun r h => gr_gi h i nei
      have ekl6 := S06.fr _ _ (by rw [okl]; rintro (z | z) <;> cases z) hkl
      have EQ6 : Each (fun a (k : Qs Str × Bool) => QAt K H6 a k.1) qas ks := EQ.imp fun a k h => (h.same (S06.hid gr_out)).same hid_sub
      refine ⟨_, rfl, _, rfl, _, rfl, ow6, i, G, f, coming, ks, kl, qas, n, rfl, GAo, ekl6, EQ6, hnk, fun H7 s7 => ⟨true, rfl, ?_⟩⟩
      have GA7 := GA6.same s7
      have GAo7 := GAo.same s7
      have htk : ((ks.take n).map fun k => (k.1, true)) ++ [(kq.1, true)] = (ks.take (n + 1)).map fun k => (k.1, true) := by rw [List.take_add_one, hkn, List.map_append]; rfl
      have hlast : (((ks.take n).map fun k => (k.1, true)) ++ [(kq.1, true)])[n]? = some (kq.1, true) := by
        rw [List.getElem?_append_right (by omega), lt, Nat.sub_self]; rfl
      have S47 : Step (gr (i + 2)) H5 ow4 H7 ow6 := S6.trans (Step.same S6.own s7)
      refine ⟨_, rfl, ?_⟩
      rw [← eg6]
      refine mt_Garden_answer GA7.b.obj ⟨_, rfl, ow6, i + 2, G6, _, _, _, n, (kq.1, true), rfl, GA7, hlast, fun H8 al s8 n8 e8 => ?_⟩
      rw [anew_full w GA4.b.wf] at e8
      refine ⟨al, rfl, ⟨_, SqL.of e8⟩, fun D nD => ?_⟩
      have eml8 : H8 ml = some (.lst (iv (marks f))) := s8 _ _ (s7 _ _ ((S4.trans S6).fr _ _ (by rw [oml3]; exact gr_out) e13))
      have lf : (fullS kq.1 (docRows f) kq.1.goal).length ≤ 240 := Nat.le_trans (List.length_filter_le _ _) (by rw [List.length_range, docRows_len]; exact w.small)
      refine lc_same (walk_list (xs := iv ((fullS kq.1 (docRows f) kq.1.goal).map fun (p : Nat) => (p : Int)))) (fun l => (fullS kq.1 (docRows f) kq.1.goal)[l]?.map fun p => V.int (mk f p)) nD (by rw [len_iv, List.length_map]; exact Nat.le_trans lf line240) (fun H s => SqL.of (s _ _ e8)) ?_ ?_
      · rintro l v H9 H10 N N0 hl s9 ⟨rfl, ev⟩ ky kn
        obtain ⟨p, hp, rfl⟩ := at_map_int ev
        have hpf : p < f.size := by have := (mem_fullS.mp (List.mem_of_getElem? hp)).1; rwa [docRows_len] at this
        exact ⟨rfl, _, rfl, _, rfl, ml, _, _, _, rfl, rfl, SqL.of (s9 _ _ eml8), mk_at hpf, ky _ _ (Same.refl _) (by rw [hp]; rfl)⟩
      intro H9 s9 e9
      rw [len_iv, List.length_map, some_map] at e9
      have e9 : H9 D = some (.lst (iv (fullM f kq.1 kq.1.goal))) := by rw [e9, ← full_mk w]; unfold iv; rw [List.map_map]; rfl
      have GAo9 := (GAo7.same s8).same s9
      refine ⟨_, rfl, mt_Garden_answer GAo9.b.obj ⟨_, rfl, ow6, i, G, f, coming, ks, n, kq, rfl, GAo9, hkn, fun H10 al2 s10 n10 e10 => ?_⟩⟩
      refine ⟨ld (fullM f kq.1 kq.1.goal), ld (fullM f kq.1 kq.1.goal), .lst (SqL.of (s10 _ _ e9)) (DpAll_iv _), .lst (SqL.of e10) (DpAll_iv _), sh_ld _, sh_ld _, false, by rw [eqv_self (sh_ld _)]; rfl, ?_⟩
      refine ⟨_, _, ow6, G6, rfl, (S4.trans S47).trans (Step.same S47.own ((s8.trans s9).trans s10)), rfl, ?_⟩
      rw [← htk]
      exact ((GA7.same s8).same s9).same s10
    · rintro σ H4 ⟨x4, x5, ow4, G4, rfl, S4, eg4, GA4⟩
      have S04 := S03.trans S4
      refine ⟨_, rfl, ?_⟩
      rw [← eg4]
      refine mt_Garden_marks GA4.b.obj ⟨ow4, i + 2, G4, _, _, rfl, GA4.b, fun H5 m2 s5 n5 e5 => ?_⟩
      have eml5 : H5 ml = some (.lst (iv (marks f))) := s5 _ _ (S4.fr _ _ (by rw [oml3]; exact gr_out) e13)
      have lm : ((iv (marks f)).length : Int) = (f.size : Int) := by rw [len_iv, marks_len]
      have hs := w.small
      refine ⟨_, rfl, ml, _, rfl, .inl (SqL.of eml5), _, rfl, by rw [lm]; exact RgOk.of_le (by omega) (by omega) (by omega) (by omega), fun rl nrl => ?_⟩
      have erl : rgV 0 ((iv (marks f)).length : Int) = iv ((List.range f.size).map fun (i : Nat) => (i : Int)) := by
        rw [lm]
        unfold rgV iv
        rw [List.map_map, Int.sub_zero, Int.toNat_natCast]
        refine List.map_congr_left fun n _ => ?_
        show V.int ((0 : Int) + (n : Nat)) = V.int (n : Int)
        congr 1; omega
      rw [erl]
      rw [anew_marks] at e5
      refine ⟨ld _, ld _, .lst (SqL.of (upd_at nrl e5)) (DpAll_iv _), .lst (SqL.of upd_same) (DpAll_iv _), sh_ld _, sh_ld _, ?_⟩
      show Q (V.bl (PyData.eqv (ld _) (ld _))) _
      rw [eqv_self (sh_ld _)]
      exact k _ ow4 (S04.trans (Step.same S04.own (s5.new nrl)))
end
end Bg

set_option Elab.async false
set_option linter.all false
set_option maxRecDepth 100000
set_option maxHeartbeats 4000000
namespace Bg
open PySem PySem.Spec PyProof.Rows L2
/-! ### a deed -/
theorem not_root {f : GF Str} {c : Int} (w : WF f c) {x : Nd Str} (hx : x ∈ nodes none f) (h : x.m ≠ 0) : ∃ p ∈ nodes none f, x.o = some p.m := by
  have key : ∃ u, x.o = some u := by
    obtain ⟨l, k, rfl⟩ := w.root
    have hx' : x ∈ (⟨0, l, none, topm k⟩ : Nd Str) :: (nodes (some 0) k ++ []) := hx
    rcases List.mem_cons.mp hx' with rfl | hx'
    · exact absurd rfl h
    · rw [List.append_nil] at hx'
      rcases over_in hx' with h | ⟨u, _, h⟩
      · exact ⟨_, h⟩
      · exact ⟨_, h⟩
  obtain ⟨u, hu⟩ := key
  obtain ⟨p, hp, e, _⟩ := over_top hx hu
  exact ⟨p, hp, by rw [e]; exact hu⟩
theorem lows_le {f : GF Str} {c : Int} (w : WF f c) {p : Nat} {x : Nd Str} (hx : (nodes none f)[p]? = some x) : (lows (dsOf (docRows f)) p).length ≤ x.ks.length := by
  have hp : p < f.size := by have := (List.getElem?_eq_some_iff.mp hx).1; rwa [nodes_length] at this
  have A := doc_alike w
  have hv : Valid (dsOf (docRows f)) := (docRows_ok w).v
  have hxm := List.mem_of_getElem? hx
  have hm : (marks f)[p]? = some x.m := by rw [← nodes_m f none, List.getElem?_map, hx]; rfl
  have hin : ∀ c ∈ lows (dsOf (docRows f)) p, upp (dsOf (docRows f)) c = some p := fun c hc => of_decide_eq_true (List.mem_filter.mp hc).2
  have hnd : (lows (dsOf (docRows f)) p).Nodup := List.nodup_range.filter _
  have nd2 : ((lows (dsOf (docRows f)) p).map (mk f)).Nodup := by
    refine List.nodup_iff_pairwise_ne.mpr (List.pairwise_map.mpr ?_)
    refine (List.nodup_iff_pairwise_ne.mp hnd).imp_of_mem fun {a b} ha hb ne z => ne ?_
    exact A.inj a b (A.din _ _ (hin a ha)).1 (A.din _ _ (hin b hb)).1 z
  have := List.Nodup.length_le_of_subset (l₂ := x.ks) nd2 fun m hm' => by
    obtain ⟨c, hc, rfl⟩ := List.mem_map.mp hm'
    rw [kid_iff w.nd hxm]
    have h1 := A.over c (A.din _ _ (hin c hc)).1
    rw [show ovD (docRows f) c = some p from hin c hc] at h1
    have h1 : ovF f (mk f c) = some (mk f p) := h1
    rw [h1]
    exact congrArg some (gd hm)
  rwa [List.length_map] at this
theorem cut_sub {f f' : GF Str} {c : Int} {x q : Nd Str} (w : WF f c) (F : CutF f f' x q c) {p : Nat} (hx : (nodes none f)[p]? = some x) : cutV (iv (marks f)) (some (p : Int)) (some ((endAt (dsOf (docRows f)) p : Nat) + 1 : Int)) = iv (subM f x.m) := by
  obtain ⟨n, e, hm, hn, h1, h2, h3⟩ := F.cut
  have hxm := List.mem_of_getElem? hx
  have hmp : (marks f)[p]? = some x.m := by rw [← nodes_m f none, List.getElem?_map, hx]; rfl
  have hsub : subM f x.m = x.m :: subL f x.ks := subM_node w.nd hxm
  have lt : ((marks f').take n).length = n := by rw [List.length_take, marks_len]; omega
  have hmn : (marks f)[n]? = some x.m := by
    rw [hm, List.append_assoc, List.getElem?_append_right (by omega), lt, Nat.sub_self, hsub]; rfl
  have enp : n = p := by
    have a := List.getElem?_eq_some_iff.mp hmn
    have b := List.getElem?_eq_some_iff.mp hmp
    exact (List.getElem_inj w.nd).mp (a.2.trans b.2.symm)
  subst enp
  have hl : (marks f).length = n + (subM f x.m).length + ((marks f').drop n).length := by
    have := congrArg List.length hm
    rw [List.length_append, List.length_append, lt] at this
    exact this
  have hpos : 1 ≤ (subM f x.m).length := by rw [hsub, List.length_cons]; omega
  have hfs : (f.dep 1).length = (marks f).length := by rw [Fo.dep_length, marks_len]
  have he : endAt (dsOf (docRows f)) n = n + (subM f x.m).length - 1 := by
    rw [docRows_ds]
    refine endAt_eq h1 (by omega) (fun j b q1 q2 q3 => h2 j b q1 (by omega) q3) (by omega) fun b hb => h3 b ?_
    rw [show n + (subM f x.m).length - 1 + 1 = n + (subM f x.m).length by omega] at hb
    exact hb
  have e2 : ((endAt (dsOf (docRows f)) n : Nat) + 1 : Int) = ((n + (subM f x.m).length : Nat) : Int) := by omega
  rw [e2]
  unfold cutV
  rw [HT.sIx_nat, HT.sIx_nat, len_iv]
  rw [Nat.min_eq_left (by omega), Nat.min_eq_left (by omega), Nat.add_sub_cancel_left]
  unfold iv
  rw [← List.map_drop, ← List.map_take]
  congr 1
  conv => lhs; rw [hm]
  rw [List.append_assoc]
  have d1 : ((marks f').take n ++ (subM f x.m ++ (marks f').drop n)).drop n = subM f x.m ++ (marks f').drop n := by
    have := List.drop_left (l₁ := (marks f').take n) (l₂ := subM f x.m ++ (marks f').drop n)
    rwa [lt] at this
  rw [d1, List.take_left]
def kd (i : Nat) (r : Ro) : Prop := gr i r ∨ r = .src
theorem kd_out {i : Nat} : ¬ kd i .out := by rintro (h | h); exact gr_out h; cases h
def sp__law_deed (K : PySem.W.Frag) : Sp := fun vs H Q _ => ∃ (ow : Ow) (i : Nat) (G : GAd) (f : GF Str) (coming : Int) (ks : List (Qs Str × Bool)) (s la : Addr) (ls : List Str), vs = [.ref G.g, .ref s, .ref la] ∧ GardenAt K H ow i G f coming ks ∧ SrcAt H s ∧ ow s = .src ∧ LabsAt (hid ow H) la ls ∧
  ∀ H' ow' G' f' coming', Step (kd i) H ow H' ow' → G'.g = G.g → GardenAt K H' ow' i G' f' coming' (ks.map fun k => (k.1, false)) → SrcAt H' s → Q (.bl true) H'
theorem flat_iv (l : List Int) : (iv l).all flatV = true := by
  rw [List.all_eq_true]; intro v hv
  obtain ⟨c, _, rfl⟩ := List.mem_map.mp hv; rfl
theorem inV_iv {l : List Int} {c : Int} (h : c ∉ l) : inV (.int c) (iv l) = false := by
  unfold inV
  rw [List.any_eq_false]
  intro v hv
  obtain ⟨d, hd, rfl⟩ := List.mem_map.mp hv
  show ¬ (d == c) = true
  rw [beq_iff_eq]
  exact fun z => h (by rw [← z]; exact hd)
theorem ifs_by {c : TT} {t u : TS} {D : Ends} {σ : L2.St} {H : Hp} (F : Prop) (h : ∀ Qc : Bool → Hp → Prop, (∀ b, (b = true → F) → Qc b H) → c σ H Qc) (ht : F → t D σ H) (hu : u D σ H) : tIfS c t u D σ H :=
  h _ fun b hb => by
    cases b with
    | true => exact ht (hb rfl)
    | false => exact hu
section
variable {P : Program} {w : World} {K : PySem.W.Frag} {mg : Str → Option Value} {base : Heap}
theorem sc__law_deed : FnScope ["_law_garden", "_law_source_here", "_law_labels_here", "_law_way", "_law_marks", "_law_mark", "_law_label", "_law_document", "_law_part"] ["_law_garden", "_law_source_here", "_law_labels_here"] (defScope s__law_deed) := ⟨rfl, rfl, rfl, by decide +kernel, rfl, by decide +kernel, by decide +kernel⟩
theorem ok__law_deed (T : Tx K mg) (O_Document_depth_of : Ok P w K mg base 4 at_Document_depth_of ["self", "part"] (sp_Document_depth_of K)) (O_Document_end_of : Ok P w K mg base 4 at_Document_end_of ["self", "part"] (sp_Document_end_of K)) (O_Document_lowers_of : Ok P w K mg base 4 at_Document_lowers_of ["self", "part"] (sp_Document_lowers_of K)) (O_Garden_document : Ok P w K mg base 6 at_Garden_document ["self"] (sp_Garden_document K)) (O_Garden_marks : Ok P w K mg base 2 at_Garden_marks ["self"] (sp_Garden_marks K)) (O_Garden_name : Ok P w K mg base 5 at_Garden_name ["self", "mark", "label"] (sp_Garden_name K)) (O_Garden_put : Ok P w K mg base 5 at_Garden_put ["self", "upper", "at", "label"] (sp_Garden_put K)) (O_Garden_take : Ok P w K mg base 5 at_Garden_take ["self", "mark"] (sp_Garden_take K)) (O__law_take : Ok P w K mg base 1 at__law_take ["_law_source_here", "_law_many"] (sp__law_take K)) : Ok P w K mg base 7 at__law_deed ["_law_garden", "_law_source_here", "_law_labels_here"] (sp__law_deed K) := by
  refine mkOk T.d__law_deed sc__law_deed (fun _ _ _ _ _ _ us hl => match us, hl with | [_, _, _], _ => rfl) (fun vs H Q E h => ?_) (fun cdv A outer s H vs Q E hr h => ?_)
  · obtain ⟨ow, i, G, f, coming, ks, s, la, ls, rfl, GA, hs, os, LA, k⟩ := h; rfl
  · obtain ⟨ow, i, G, f, coming, ks, s, la, ls, rfl, GA, hs, os, LA, k⟩ := h
    refine ⟨_, (pss_cons (ps_set (i := 3) sc__law_deed.nd rfl (by first | exact Or.inl rfl | exact Or.inr rfl) (kfn (K := K) O__law_take T.g__law_take (hr.mono (by decide)) (pa_cons (pv 1) (pa_cons pe_int pa_nil))))
      (pss_cons (ps_set (i := 4) sc__law_deed.nd rfl (by first | exact Or.inl rfl | exact Or.inr rfl) (kme0 (K := K) (pv 0) O_Garden_marks T.c_Garden T.m_Garden_marks (hr.mono (by decide))))
      (pss_cons (ps_set (i := 5) sc__law_deed.nd rfl (by first | exact Or.inl rfl | exact Or.inr rfl) (pe_ix (kixL (K := K)) (pv 4) (kfn (K := K) O__law_take T.g__law_take (hr.mono (by decide)) (pa_cons (pv 1) (pa_cons (pe_callB (klen (K := K)) (by rfl) T.f_len PySem.boot_len (pa_cons (pv 4) pa_nil)) pa_nil))) (fun _ _ => rfl)))
      (pss_cons (ps_set (i := 6) sc__law_deed.nd rfl (by first | exact Or.inl rfl | exact Or.inr rfl) (pe_ix (kixL (K := K)) (pv 2) (kfn (K := K) O__law_take T.g__law_take (hr.mono (by decide)) (pa_cons (pv 1) (pa_cons (pe_callB (klen (K := K)) (by rfl) T.f_len PySem.boot_len (pa_cons (pv 2) pa_nil)) pa_nil))) (fun _ _ => rfl)))
      (pss_cons (ps_set (i := 7) sc__law_deed.nd rfl (by first | exact Or.inl rfl | exact Or.inr rfl) (kme0 (K := K) (pv 0) O_Garden_document T.c_Garden T.m_Garden_document (hr.mono (by decide))))
      (pss_cons (ps_set (i := 8) sc__law_deed.nd rfl (by first | exact Or.inl rfl | exact Or.inr rfl) (kbm (K := K) PySem.F.plainAttrs_list PySem.F.slot_list_index PySem.F.type_list_index (kindex (K := K)) (pv 4) (pa_cons (pv 5) pa_nil)))
      (pss_cons (ps_if (PW.pt (pw_or (PW.pt (pw_and (pt_cmpR op_lt (pv 3) pe_int (nomark _)) (pw_and (pt_cmpR op_lt (pe_callB (klen (K := K)) (by rfl) T.f_len PySem.boot_len (pa_cons (pv 4) pa_nil)) pe_int (nomark _)) (pw_and1 (pt_cmpR op_lt (kme (K := K) (pv 7) O_Document_depth_of T.c_Document T.m_Document_depth_of (hr.mono (by decide)) (pa_cons (pv 8) pa_nil)) pe_int (nomark _)))))) (pw_or1 (pt_cmpR op_eq (pe_callB (klen (K := K)) (by rfl) T.f_len PySem.boot_len (pa_cons (pv 4) pa_nil)) pe_int (nomark _)))))
        (pss_one (ps_ret (pe_cmpR (knotin (K := K)) (kme (K := K) (pv 0) O_Garden_put T.c_Garden T.m_Garden_put (hr.mono (by decide)) (pa_cons (pv 5) (pa_cons (kfn (K := K) O__law_take T.g__law_take (hr.mono (by decide)) (pa_cons (pv 1) (pa_cons (pe_op op_add (pe_callB (klen (K := K)) (by rfl) T.f_len PySem.boot_len (pa_cons (kme (K := K) (pv 7) O_Document_lowers_of T.c_Document T.m_Document_lowers_of (hr.mono (by decide)) (pa_cons (pv 8) pa_nil)) pa_nil)) pe_int) pa_nil))) (pa_cons (pv 6) pa_nil)))) (pv 4) (by with_unfolding_all rfl))))
        pss_nil)
      (pss_cons (ps_if (PW.pt (pw_and (pt_cmpR op_lt (pv 3) pe_int (nomark _)) (pw_and (pt_cmpR op_gt (pv 5) pe_int (nomark _)) (pw_and1 (pt_cmpR op_lt (pe_op op_sub (kme (K := K) (pv 7) O_Document_end_of T.c_Document T.m_Document_end_of (hr.mono (by decide)) (pa_cons (pv 8) pa_nil)) (pv 8)) pe_int (nomark _))))))
        (pss_one (ps_ret (pe_cmpR (keqD (K := K) hr.units) (kme (K := K) (pv 0) O_Garden_take T.c_Garden T.m_Garden_take (hr.mono (by decide)) (pa_cons (pv 5) pa_nil)) (pe_slice (kslL (K := K)) (pv 4) (po_some (pv 8)) (po_some (pe_op op_add (kme (K := K) (pv 7) O_Document_end_of T.c_Document T.m_Document_end_of (hr.mono (by decide)) (pa_cons (pv 8) pa_nil)) pe_int))) (nomark _))))
        pss_nil)
      (pss_one (ps_ret (pe_cmpR op_isN (kme (K := K) (pv 0) O_Garden_name T.c_Garden T.m_Garden_name (hr.mono (by decide)) (pa_cons (pv 5) (pa_cons (pv 6) pa_nil))) pe_non (nomark _)))))))))))), ?_⟩
    have B := GA.b
    have O := B.own
    have w := B.wf
    have nd := w.nd
    have hsz := w.small
    have ola : ow la = .out := (hid_some.mp LA.at_).1
    have lane : la ≠ s := rne ola os (by simp)
    have c1 : ∀ r : Ro, r = .src → r.gi ≠ some i := by rintro r rfl; exact fun z => by cases z
    refine ⟨_, rfl, s, 9, rfl, hs, by omega, by omega, fun way H1 _ _ dr1 => ?_⟩
    have S1 := drawn_step O os dr1
    have GA1 := GA.step S1 (by simp) c1
    refine ⟨_, rfl, mt_Garden_marks GA1.b.obj ⟨ow, i, G, f, coming, rfl, GA1.b, fun H2 ml s2 n2 e2 => ?_⟩⟩
    have oml : ow ml = .out := S1.own.new n2
    have mlne : ml ≠ s := rne oml os (by simp)
    have dr2 := dr1.trans (Drawn.same dr1.src s2)
    have hpos : 1 ≤ (marks f).length := by
      obtain ⟨l, kk, e⟩ := w.root
      rw [marks_len, e]; show 1 ≤ 1 + _ + _; omega
    have hml := marks_len f
    refine ⟨_, rfl, _, rfl, _, rfl, ml, _, rfl, .inl (SqL.of e2), s, _, rfl, dr2.src, by rw [len_iv]; omega, by rw [len_iv]; omega, fun r H3 r0 r1 dr3 => ?_⟩
    rw [len_iv] at r1
    obtain ⟨p, rfl⟩ := Int.eq_ofNat_of_zero_le r0
    have hpf : p < f.size := by omega
    obtain ⟨x, hxp, hx, hm, _⟩ := node_of hpf
    have e3 := dr3.fr _ _ mlne e2
    have ax : atI (iv (marks f)) (p : Int) = some (.int x.m) := atI_nat (by rw [List.getElem?_map, hm]; rfl)
    refine ⟨ml, _, _, _, rfl, rfl, SqL.of e3, ax, ?_⟩
    have dr03 := dr2.trans dr3
    have hla3 := dr03.fr _ _ lane (hid_sub _ _ LA.at_)
    have hll : 1 ≤ ls.length := by
      have := LA.ne
      cases ls with
      | nil => exact absurd rfl this
      | cons _ _ => simp
    have hl4 := LA.few
    refine ⟨_, rfl, _, rfl, _, rfl, la, _, rfl, .inl (SqL.of hla3), s, _, rfl, dr03.src, by rw [List.length_map]; omega, by rw [List.length_map]; omega, fun r2 H4 q0 q1 dr4 => ?_⟩
    rw [List.length_map] at q1
    obtain ⟨lb, hlb, alb⟩ := ix_of ls V.str r2 q0 q1
    refine ⟨la, _, _, _, rfl, rfl, SqL.of (dr4.fr _ _ lane hla3), alb, ?_⟩
    have dr04 := dr03.trans dr4
    have S4 := drawn_step O os dr04
    have GA4 := GA.step S4 (by simp) c1
    have e4 := dr4.fr _ _ mlne e3
    refine ⟨_, rfl, mt_Garden_document GA4.b.obj ⟨ow, i, G, f, coming, rfl, GA4.b, fun H5 da s5 n5 DX => ?_⟩⟩
    have D5 : DocAt K (hid ow H5) da (docRows f) := DX.same fun b o e => by
      unfold ext at e
      by_cases z : (H4 b).isNone = true
      · rw [if_pos z] at e
        exact hid_some.mpr ⟨S4.own.new (Option.isNone_iff_eq_none.mp z), e⟩
      · rw [if_neg z] at e; cases e
    have dr05 := dr04.trans (Drawn.same dr04.src s5)
    have S5 := drawn_step O os dr05
    have GA5 := GA.step S5 (by simp) c1
    have e5 := s5 _ _ e4
    have DD := D5.same hid_sub
    have dlen := docRows_len f
    obtain ⟨_, dxd, pt, pe, pu, dts, g1, g2, g3, g4, g5⟩ := id DD
    refine ⟨_, rfl, tyL e5, _, rfl, ml, _, .int x.m, p, .int x.m, rfl, rfl, SqL.of e5, rfl, flat_iv _, by rw [List.getElem?_map, hm]; rfl, by show (x.m == x.m) = true; exact beq_self_eq_true _, fun m z hmlt hz => ?_, ?_⟩
    · obtain ⟨c, hc, rfl⟩ := iv_at' hz
      show (c == x.m) = false
      rw [beq_eq_false_iff_ne]
      intro z
      rw [z] at hc
      have a := List.getElem?_eq_some_iff.mp hc
      have b := List.getElem?_eq_some_iff.mp hm
      have := (List.getElem_inj nd).mp (a.2.trans b.2.symm)
      omega
    obtain ⟨w0, W, _⟩ := way_of hx
    have hdep : (f.dep 1)[p]? = some w0.length := by
      have hl : p < (f.dep 1).length := by rw [Fo.dep_length]; exact hpf
      have e := List.getElem?_eq_getElem hl
      rw [way_len nd W hxp e]; exact e
    obtain ⟨rw0, hrw⟩ := rows_lt (rows := docRows f) (p := p) (by omega)
    have hrd : rw0.2 = w0.length := by
      have := ds_at hrw
      rw [docRows_ds, hdep] at this
      exact (Option.some.inj this).symm
    have w240 : f.size = 1 → w0.length ≤ 1 := fun h1 => by
      have inj : ∀ x ∈ nodes none f, ∀ y ∈ nodes none f, x.m = y.m → x = y := fun x hx y hy e => node_eq nd hx hy e
      have := List.Nodup.length_le_of_subset (l₂ := marks f) (W.nodup inj) fun c hc => by obtain ⟨y, hy, rfl⟩ := W.mem c hc; exact node_mark hy
      omega
    dsimp only [gName]
    refine ifs_by (f.size < 240 ∧ w0.length + 1 ≤ 80) (fun Qc hQ => ?_) (fun ⟨hs1, hs2⟩ => ?_) ?_
    · have last : ∀ Hx : Hp, Hx = H5 → True := fun _ _ => trivial
      clear last
      have e1 : ∀ Qd : Bool → Hp → Prop, (∀ b, (b = true → f.size = 1) → Qd b H5) → ∃ v, (some (some (V.ref ml)) : Option (Option V)) = some (some v) ∧ (∃ (pp : Addr) (ys : List V), [v] = [V.ref pp] ∧ (SqL K H5 pp ys ∨ SqT K H5 pp ys) ∧ (scal (.int ys.length) (.int 1) = true ∧ ∃ b, V.bl (decide (V.int (ys.length : Int) = V.int 1)) = V.bl b ∧ Qd b H5)) := fun Qd hd =>
        ⟨_, rfl, ml, _, rfl, .inl (SqL.of e5), rfl, _, rfl, hd _ fun z => by
          have := V.int.inj (of_decide_eq_true z)
          rw [len_iv] at this; omega⟩
      have hD : ∀ b, (b = true → f.size = 1) → Qc b H5 := fun b hb => hQ b fun z => by
        have := hb z
        have := w240 this
        exact ⟨by omega, by omega⟩
      have h4 := e1 Qc hD
      obtain ⟨v, ev, pp, ys, a1, a2, a3, b, a4, a5⟩ := h4
      refine ⟨_, rfl, way, 4, rfl, rfl, ?_⟩
      by_cases hw4 : way < 4
      · refine ⟨true, bt hw4, _, rfl, ml, _, rfl, .inl (SqL.of e5), _, 40, rfl, rfl, ?_⟩
        by_cases h40 : ((iv (marks f)).length : Int) < 40
        · refine ⟨true, bt h40, _, rfl, mt_Document_depth_of g1 ⟨_, rfl, da, docRows f, p, rw0, rfl, DD, hrw, _, 45, rfl, rfl, ?_⟩⟩
          by_cases h45 : ((rw0.2 : Nat) : Int) < 45
          · refine ⟨true, bt h45, hQ true fun _ => ?_⟩
            rw [len_iv] at h40
            exact ⟨by omega, by omega⟩
          · exact ⟨false, bf h45, v, ev, pp, ys, a1, a2, a3, b, a4, a5⟩
        · exact ⟨false, bf h40, v, ev, pp, ys, a1, a2, a3, b, a4, a5⟩
      · exact ⟨false, bf hw4, v, ev, pp, ys, a1, a2, a3, b, a4, a5⟩
    · -- put
      refine ⟨_, rfl, mt_Garden_put GA5.b.obj ⟨_, rfl, _, rfl, _, rfl, mt_Document_lowers_of g1 ⟨_, rfl, da, docRows f, p, rfl, DD, by omega, fun H6 lo s6 n6 e6 => ⟨lo, _, rfl, .inl (SqL.of e6), _, 1, rfl, rfl, s, _, rfl, (dr05.trans (Drawn.same dr05.src s6)).src, ?_, ?_, fun at_ H7 t0 t1 dr7 => ?_⟩⟩⟩⟩
      · rw [len_nv]; show (1 : Int) ≤ (_ : Int) + 1; omega
      · rw [len_nv]
        have := lows_le w hxp
        have h1 := sumZ_len nd (ks_marks hx)
        have h2 := szT_node nd hx
        show ((lows (dsOf (docRows f)) p).length : Int) + 1 ≤ 1000000
        omega
      obtain ⟨an, rfl⟩ := Int.eq_ofNat_of_zero_le t0
      have dr07 := (dr05.trans (Drawn.same dr05.src s6)).trans dr7
      have S7 := drawn_step O os dr07
      have GA7 := GA.step S7 (by simp) c1
      have hat : an ≤ x.ks.length := by
        have := lows_le w hxp
        rw [len_nv] at t1
        have t1 : (an : Int) < ((lows (dsOf (docRows f)) p).length : Int) + 1 := t1
        omega
      refine ⟨_, rfl, ow, i, G, f, coming, ks, x, an, lb, w0, rfl, GA7, hx, hat, LA.ok lb hlb, hs1, W, hs2, fun H8 ow8 G8 S8 eg GA8 => ?_⟩
      have e7 := dr7.fr _ _ mlne (s6 _ _ e5)
      have e8 := S8.fr _ _ (by rw [oml]; exact gr_out) e7
      refine ⟨_, rfl, ml, _, rfl, .inl (SqL.of e8), rfl, flat_iv _, ?_⟩
      have hcm : coming ∉ marks f := fun z => by have := (w.rng coming z).2; omega
      rw [inV_iv hcm]
      exact k H8 ow8 G8 _ _ ((S7.mono fun r h => .inr h).trans (S8.mono fun r h => .inl h)) eg GA8 (src_step dr07.src os S8 (by rintro (z | z) <;> cases z)).1
    dsimp only [tNext]
    refine ifs_by (x.m ≠ 0) (fun Qc hQ => ?_) (fun hx0 => ?_) ?_
    · refine ⟨_, rfl, way, 6, rfl, rfl, ?_⟩
      by_cases hw6 : way < 6
      · refine ⟨true, bt hw6, _, rfl, x.m, 0, rfl, rfl, ?_⟩
        by_cases hx0 : 0 < x.m
        · exact ⟨true, bt hx0, _, rfl, mt_Document_end_of g1 ⟨_, rfl, da, docRows f, p, rfl, DD, by omega, _, rfl, _, _, rfl, rfl, _, 12, rfl, rfl, _, rfl, hQ _ fun _ => by omega⟩⟩
        · exact ⟨false, bf hx0, hQ false fun z => by cases z⟩
      · exact ⟨false, bf hw6, hQ false fun z => by cases z⟩
    · -- take
      obtain ⟨q, hq, ho⟩ := not_root w hx hx0
      refine ⟨_, rfl, mt_Garden_take GA5.b.obj ⟨_, rfl, ow, i, G, f, coming, ks, x, q, rfl, GA5, hx, hq, ho, fun H6 ow6 G6 rr S6 eg GA6 er => ?_⟩⟩
      have F := cutF_ok w hx hq ho
      have DD6 := (D5.same (S6.hid gr_out)).same hid_sub
      have e6 := S6.fr _ _ (by rw [oml]; exact gr_out) e5
      obtain ⟨_, dxd6, pt6, pe6, pu6, dts6, k1, k2, k3, k4, k5⟩ := id DD6
      refine ⟨_, rfl, _, rfl, _, rfl, _, rfl, mt_Document_end_of k1 ⟨_, rfl, da, docRows f, p, rfl, DD6, by omega, _, 1, rfl, rfl, _, rfl, ml, _, rfl, SqL.of e6, fun sp nsp => ?_⟩⟩
      have ec := cut_sub w F hxp
      refine ⟨ld (subM f x.m), ld (subM f x.m), .lst (SqL.of (upd_at nsp (hid_sub _ _ er))) (DpAll_iv _), .lst (SqL.of ?_) (DpAll_iv _), sh_ld _, sh_ld _, ?_⟩
      · rw [upd_same]; exact congrArg (fun l => some (HO.lst l)) ec
      rw [eqv_self (sh_ld _)]
      exact k _ ow6 G6 _ _ (((S5.mono fun r h => .inr h).trans (S6.mono fun r h => .inl h)).trans (Step.same S6.own (Same.up nsp))) eg (GA6.same (Same.up nsp)) (Drawn.same (src_step dr05.src os S6 (by rintro (z | z) <;> cases z)).1 (Same.up nsp)).src
    · -- name
      refine ⟨_, rfl, mt_Garden_name GA5.b.obj ⟨_, rfl, _, rfl, ow, i, G, f, coming, ks, x, lb, rfl, GA5, hx, LA.ok lb hlb, fun H6 ow6 G6 S6 eg GA6 => ⟨rfl, ?_⟩⟩⟩
      exact k _ ow6 G6 _ _ ((S5.mono fun r h => .inr h).trans (S6.mono fun r h => .inl h)) eg GA6 (src_step dr05.src os S6 (by rintro (z | z) <;> cases z)).1
end
end Bg

set_option Elab.async false
set_option linter.all false
set_option maxRecDepth 100000
set_option maxHeartbeats 4000000
namespace Bg
open PySem PySem.Spec PyProof.Rows L2
/-! ### the law -/
theorem seq_by {t u : TS} {D : Ends} {σ : L2.St} {H : Hp} (M : L2.St → Hp → Prop) (h : ∀ Dn : Ends, (∀ σ' H', M σ' H' → Dn.nx σ' H') → t Dn σ H) (hu : ∀ σ' H', M σ' H' → u D σ' H') : tSeq t u D σ H := h _ hu
def sp__law_at_bound (_ : PySem.W.Frag) : Sp := fun vs H Q _ => ∃ (ow : Ow) (s la : Addr) (ls : List Str), vs = [.ref s, .ref la] ∧ Own H ow ∧ SrcAt H s ∧ ow s = .src ∧ LabsAt (hid ow H) la ls ∧ ∀ H', Q (.bl true) H'
def sp_law (K : PySem.W.Frag) : Sp := fun vs H Q _ => ∃ (a : Addr) (ns : List Int), vs = [.ref a] ∧ SqL K H a (ns.map V.int) ∧ ns.length ≤ 1000000 ∧ ∀ H', Q (.bl true) H'
/-- a garden of the law and what is kept in it -/
def GS (K : PySem.W.Frag) (H : Hp) (ow : Ow) (i : Nat) (ga kl : Addr) : Prop :=
  ∃ (G : GAd) (f : GF Str) (coming : Int) (ks : List (Qs Str × Bool)) (qas : List Addr), G.g = ga ∧ GardenAt K H ow i G f coming ks ∧ H kl = some (.lst (qas.map V.ref)) ∧ ow kl = .kq i ∧ Each (fun a (k : Qs Str × Bool) => QAt K (hid ow H) a k.1) qas ks ∧ ks.length ≤ 6
theorem GS.step {K : PySem.W.Frag} {C : Ro → Prop} {H H' : Hp} {ow ow' : Ow} {i : Nat} {ga kl : Addr} (h : GS K H ow i ga kl) (s : Step C H ow H' ow') (c0 : ¬ C .out) (c1 : ∀ r, C r → r.gi ≠ some i) (c2 : ¬ C (.kq i)) : GS K H' ow' i ga kl := by
  obtain ⟨G, f, coming, ks, qas, e, GA, ekl, okl, EQ, l6⟩ := h
  exact ⟨G, f, coming, ks, qas, e, GA.step s c0 c1, s.fr _ _ (by rw [okl]; exact c2) ekl, (s.keep _ (some_ne ekl)).trans okl, EQ.imp fun a k q => q.same (s.hid c0), l6⟩
theorem GS.same {K : PySem.W.Frag} {H H' : Hp} {ow : Ow} {i : Nat} {ga kl : Addr} (O : Own H ow) (h : GS K H ow i ga kl) (s : Same H H') : GS K H' ow i ga kl := h.step (C := fun _ => False) (Step.same O s) id (fun _ z => z.elim) id
/-- rows and their list -/
structure RowsL (S : Hp) (rl : Addr) (ts : List Addr) (rows : List DRow) : Prop where
  at_ : S rl = some (.lst (ts.map V.ref))
  tup : RowsAt S ts rows
  ok : RowsOk rows
theorem RowsL.same {S S' : Hp} {rl : Addr} {ts : List Addr} {rows : List DRow} (h : RowsL S rl ts rows) (s : Same S S') : RowsL S' rl ts rows := ⟨s _ _ h.at_, h.tup.same s, h.ok⟩
def rdat (r : DRow) : PyData := .tuple [.str r.1, .int r.2]
def rsdat (rows : List DRow) : PyData := .list (rows.map rdat)
theorem rows_dp {K : PySem.W.Frag} {H : Hp} : ∀ {rows : List DRow} {ts : List Addr}, RowsAt H ts rows → DpAll K H (ts.map V.ref) (rows.map rdat)
  | [], ts, h => by
    have : ts = [] := List.length_eq_zero_iff.mp h.len
    subst this; exact .nil
  | r :: rows, ts, h => by
    cases ts with
    | nil => have := h.len; simp at this
    | cons t ts =>
      refine .cons (.tup (SqT.of (h.at_ 0 t r rfl rfl)) (.cons (.str _) (.cons (.int _) .nil))) (rows_dp ⟨by have := h.len; simpa using this, fun i t' r' h1 h2 => h.at_ (i + 1) t' r' h1 h2⟩)
theorem lab_ok {x : Str} (h : IsLab x) : PyData.canLay0 (.str x) = true := by
  show (x.cps.all fun c => decide (c < 0x110000)) = true
  rw [Array.all_eq_true']
  intro c hc
  have h1 := h.all c (Array.mem_toList_iff.mpr hc)
  have h2 : ∀ d ∈ lets.cps.toList, d < 0x110000 := by decide +kernel
  exact decide_eq_true (h2 c h1)
theorem can_rows : ∀ rows : List DRow, (∀ r ∈ rows, IsLab r.1) → PyData.canLayAll0 (rows.map rdat) = true ∧ PyData.depthAll (rows.map rdat) ≤ 1
  | [], _ => ⟨rfl, Nat.zero_le _⟩
  | r :: rows, h => by
    obtain ⟨h1, h2⟩ := can_rows rows fun x hx => h x (by simp [hx])
    refine ⟨?_, ?_⟩
    · show ((PyData.canLay0 (.str r.1) && (true && true)) && PyData.canLayAll0 (rows.map rdat)) = true
      rw [lab_ok (h r (by simp)), h1]; rfl
    · show max (max 0 (max 0 0) + 1) (PyData.depthAll (rows.map rdat)) ≤ 1
      exact Nat.max_le.mpr ⟨by decide, h2⟩
theorem sh_rows {rows : List DRow} (h : RowsOk rows) : SeqAt.shaped (rsdat rows) = true := by
  obtain ⟨h1, h2⟩ := can_rows rows h.lab
  unfold SeqAt.shaped rsdat
  rw [show (PyData.list (rows.map rdat)).canLay0 = PyData.canLayAll0 (rows.map rdat) from rfl, h1, show (PyData.list (rows.map rdat)).depth = PyData.depthAll (rows.map rdat) + 1 from rfl, decide_eq_true (by omega)]
  rfl
theorem chain_rows (ls : List Str) (n : Nat) (hn : 1 ≤ n) (h80 : n ≤ 80) (hok : ∀ x ∈ ls, IsLab x) (g : Nat → Str) (hg : ∀ k, g k ∈ ls) : RowsOk ((List.range n).map fun k => (g k, k + 1)) := by
  refine ⟨⟨?_, fun i a b ha hb => ?_⟩, fun r hr => ?_, fun r hr => ?_, by rw [List.length_map, List.length_range]; omega⟩
  · unfold dsOf
    rw [List.map_map, List.getElem?_map, List.getElem?_range (by omega)]; rfl
  · unfold dsOf at ha hb
    rw [List.map_map, List.getElem?_map] at ha hb
    have h1 : i < n := by
      by_cases z : i < n
      · exact z
      · rw [List.getElem?_eq_none (by rw [List.length_range]; omega)] at ha; cases ha
    have h2 : i + 1 < n := by
      by_cases z : i + 1 < n
      · exact z
      · rw [List.getElem?_eq_none (by rw [List.length_range]; omega)] at hb; cases hb
    rw [List.getElem?_range h1] at ha
    rw [List.getElem?_range h2] at hb
    have ea : i + 1 = a := Option.some.inj ha
    have eb : i + 1 + 1 = b := Option.some.inj hb
    omega
  · obtain ⟨k, _, rfl⟩ := List.mem_map.mp hr; exact hok _ (hg k)
  · obtain ⟨k, hk, rfl⟩ := List.mem_map.mp hr
    have := List.mem_range.mp hk
    show k + 1 ≤ 80; omega
abbrev ix (b : Bool) : Nat := if b = true then 1 else 0
abbrev sel {α : Type} (b : Bool) (x y : α) : α := if b = true then y else x
structure LS (K : PySem.W.Frag) (H : Hp) (ow : Ow) (S : Hp) (g0 g1 k0 k1 s : Addr) : Prop where
  own : Own H ow
  sub : Same S (hid ow H)
  gs : ∀ b : Bool, GS K H ow (ix b) (sel b g0 g1) (sel b k0 k1)
  src : SrcAt H s
  os : ow s = .src
theorem LS.same {K : PySem.W.Frag} {H H' : Hp} {ow : Ow} {S : Hp} {g0 g1 k0 k1 s : Addr} (h : LS K H ow S g0 g1 k0 k1 s) (e : Same H H') : LS K H' ow S g0 g1 k0 k1 s :=
  ⟨fun b z => alive_of_same e b (h.own b z), fun b o z => hid_same e _ _ (h.sub b o z), fun b => (h.gs b).same h.own e, by obtain ⟨n, y, t, z⟩ := h.src; exact ⟨n, y, t, e _ _ z⟩, h.os⟩
theorem LS.draw {K : PySem.W.Frag} {H H' : Hp} {ow : Ow} {S : Hp} {g0 g1 k0 k1 s : Addr} (h : LS K H ow S g0 g1 k0 k1 s) (d : Drawn s H H') : LS K H' ow S g0 g1 k0 k1 s := by
  have S1 := drawn_step h.own h.os d
  exact ⟨S1.own, fun b o z => S1.hid (by simp) _ _ (h.sub b o z), fun b => (h.gs b).step S1 (by simp) (by rintro r rfl z; cases z) (by simp), d.src, h.os⟩
theorem ix_ne {b b' : Bool} (h : b' ≠ b) : ix b' ≠ ix b := by cases b <;> cases b' <;> first | exact absurd rfl h | decide
theorem LS.deed {K : PySem.W.Frag} {H H' : Hp} {ow ow' : Ow} {S : Hp} {g0 g1 k0 k1 s : Addr} (h : LS K H ow S g0 g1 k0 k1 s) (b : Bool) (st : Step (kc (ix b)) H ow H' ow') (hs : SrcAt H' s) (g : GS K H' ow' (ix b) (sel b g0 g1) (sel b k0 k1)) : LS K H' ow' S g0 g1 k0 k1 s := by
  refine ⟨st.own, fun b o z => st.hid kc_out _ _ (h.sub b o z), fun b' => ?_, hs, ?_⟩
  · by_cases e : b' = b
    · subst e; exact g
    · refine (h.gs b').step st kc_out (fun r hr => ?_) ?_
      · rcases hr with hr | rfl | rfl
        · exact gr_gi hr _ (ix_ne e)
        · exact fun z => by cases z
        · exact fun z => by cases z
      · rintro (z | z | z)
        · rcases z with z | z <;> cases z
        · cases z
        · exact ix_ne e (Ro.kq.inj z)
  · obtain ⟨n, y, t, z⟩ := h.src
    rw [st.keep _ (some_ne z)]; exact h.os
section
variable {P : Program} {w : World} {K : PySem.W.Frag} {mg : Str → Option Value} {base : Heap}
theorem sc_law : FnScope ["_law_script", "_law_source_here", "_law_labels_here", "_law_rows_here", "_law_document", "_law_gardens", "_law_kept_here", "_law_k", "_law_one", "_law_told", "_law_before", "_law_number"] ["_law_script"] (defScope s_law) := ⟨rfl, rfl, rfl, by decide +kernel, rfl, by decide +kernel, by decide +kernel⟩
theorem mkFn {x qual : Str} {st : Stmt} {at_ : Str × Option Str} {N ps : List Str} {k : Nat} {sp : Sp} (S : FnScope N ps (defScope st))
    (len : ∀ vs H Q E, sp vs H Q E → vs.length = ps.length)
    (hbody : ∀ (cdv : Value) (A : Around) (outer : List Env) (s : Shared) (H : Hp) (vs : List V) (Q : VK) (E : XK), Room k (A.deeper (envOfC qual (defScope st) s.heap.objs.size (He.fAd K at_) cdv)) → sp vs H Q E →
      ∃ t, PSs (cxOf CX0 P w K mg base N qual (defScope st) (He.fAd K at_) cdv A outer s H E).nox (defBody st) t ∧ t { nx := fun _ H' => Q .non H', rt := Q } (start N vs) H) :
    ∀ fd, FunD K x qual (defArgs st) (defBody st) (defScope st) [] [] (He.fAd K at_) fd → FnOk P w K mg base CX0 (k + 1) (He.fAd K at_) fd ps sp := fun fd F => F.ok S len fun cdv A outer s H vs Q E hr h => by
  obtain ⟨t, h1, h2⟩ := hbody cdv A outer s H vs Q E hr h
  exact ⟨t, PSs.nox h1, h2⟩
theorem ok_law (T : Tx K mg) (O_Document_init : Ok P w K mg base 4 at_Document_init ["self", "rows"] (sp_Document_init K)) (O_Document_rows : Ok P w K mg base 1 at_Document_rows ["self"] (sp_Document_rows K)) (O_Garden_init : Ok P w K mg base 5 at_Garden_init ["self", "document"] (sp_Garden_init K)) (O_Garden_document : Ok P w K mg base 6 at_Garden_document ["self"] (sp_Garden_document K)) (O__law_anew : Ok P w K mg base 11 at__law_anew ["_law_garden", "_law_kept_here"] (sp__law_anew K)) (O__law_at_bound : Ok P w K mg base 11 at__law_at_bound ["_law_source_here", "_law_labels_here"] (sp__law_at_bound K)) (O__law_cell_at : Ok P w K mg base 1 at__law_cell_at ["_law_script", "_law_k"] (sp__law_cell_at K)) (O__law_deed : Ok P w K mg base 7 at__law_deed ["_law_garden", "_law_source_here", "_law_labels_here"] (sp__law_deed K)) (O__law_kept : Ok P w K mg base 8 at__law_kept ["_law_garden", "_law_source_here", "_law_labels_here", "_law_kept_here"] (sp__law_kept K)) (O__law_labels : Ok P w K mg base 2 at__law_labels ["_law_source_here", "_law_many"] (sp__law_labels K)) (O__law_right : Ok P w K mg base 10 at__law_right ["_law_garden", "_law_kept_here", "_law_number"] (sp__law_right K)) (O__law_rows : Ok P w K mg base 3 at__law_rows ["_law_source_here", "_law_labels_here", "_law_most", "_law_deep"] (sp__law_rows K)) (O__law_source : Ok P w K mg base 1 at__law_source ["_law_cell"] (sp__law_source K)) (O__law_take : Ok P w K mg base 1 at__law_take ["_law_source_here", "_law_many"] (sp__law_take K)) : ∀ fd, FunD K "law" "law" (defArgs s_law) (defBody s_law) (defScope s_law) [] [] (He.fAd K at_law) fd → FnOk P w K mg base CX0 12 (He.fAd K at_law) fd ["_law_script"] (sp_law K) := by
  refine mkFn (st := s_law) (at_ := at_law) sc_law (fun vs H Q E h => ?_) (fun cdv A outer s H vs Q E hr h => ?_)
  · obtain ⟨a, ns, rfl, hsc, hns, k⟩ := h; rfl
  · obtain ⟨a, ns, rfl, hsc, hns, k⟩ := h
    refine ⟨_, (pss_cons (ps_set (i := 1) sc_law.nd rfl (by first | exact Or.inl rfl | exact Or.inr rfl) (kfn (K := K) O__law_source T.g__law_source (hr.mono (by decide)) (pa_cons (kfn (K := K) O__law_cell_at T.g__law_cell_at (hr.mono (by decide)) (pa_cons (pv 0) (pa_cons pe_int pa_nil))) pa_nil)))
      (pss_cons (ps_set (i := 2) sc_law.nd rfl (by first | exact Or.inl rfl | exact Or.inr rfl) (kfn (K := K) O__law_labels T.g__law_labels (hr.mono (by decide)) (pa_cons (pv 1) (pa_cons (pe_ix (kixL (K := K)) (pe_lst (pa_cons pe_int (pa_cons pe_int (pa_cons pe_int (pa_cons pe_int (pa_cons pe_int pa_nil)))))) (kfn (K := K) O__law_take T.g__law_take (hr.mono (by decide)) (pa_cons (pv 1) (pa_cons pe_int pa_nil))) (fun _ _ => rfl)) pa_nil))))
      (pss_cons (ps_set (i := 3) sc_law.nd rfl (by first | exact Or.inl rfl | exact Or.inr rfl) (kfn (K := K) O__law_rows T.g__law_rows (hr.mono (by decide)) (pa_cons (pv 1) (pa_cons (pv 2) (pa_cons pe_int (pa_cons (pe_ix (kixL (K := K)) (pe_lst (pa_cons pe_int (pa_cons pe_int (pa_cons pe_int pa_nil)))) (kfn (K := K) O__law_take T.g__law_take (hr.mono (by decide)) (pa_cons (pv 1) (pa_cons pe_int pa_nil))) (fun _ _ => rfl)) pa_nil))))))
      (pss_cons (ps_if (pt_cmpR op_eq (kfn (K := K) O__law_take T.g__law_take (hr.mono (by decide)) (pa_cons (pv 1) (pa_cons pe_int pa_nil))) pe_int (nomark _))
        (pss_one (ps_setLc (i := 3) (own := [("_law_k", 7)]) (g := gName 7) (tt := tYes) rfl sc_law.nd rfl rfl (sw_true rfl rfl rfl (by decide +kernel)) (pi_range1 (by rfl) T.f_range (pa_cons pe_int pa_nil)) (blkOk_by (by kernel_rfl)) (fun _ _ _ _ _ => (pg_name (i := 7) sc_law.nd rfl (by first | exact Or.inl rfl | exact Or.inr rfl))) (fun _ _ _ _ _ => pts_nil) (fun _ _ _ _ _ => (pe_tup (pa_cons (pe_ix (kixL (K := K)) (pv 2) (pe_op op_modN (pv 7) (pe_callB (klen (K := K)) (by rfl) T.f_len PySem.boot_len (pa_cons (pv 2) pa_nil))) (fun _ _ => rfl)) (pa_cons (pe_op op_add (pv 7) pe_int) pa_nil))))))
        pss_nil)
      (pss_cons (ps_set (i := 4) sc_law.nd rfl (by first | exact Or.inl rfl | exact Or.inr rfl) (kmk (K := K) O_Document_init T.k_Document T.g_Document (hr.mono (by decide)) (pa_cons (pv 3) pa_nil)))
      (pss_cons (ps_set (i := 5) sc_law.nd rfl (by first | exact Or.inl rfl | exact Or.inr rfl) (pe_lst (pa_cons (kmk (K := K) O_Garden_init T.k_Garden T.g_Garden (hr.mono (by decide)) (pa_cons (pv 4) pa_nil)) (pa_cons (kmk (K := K) O_Garden_init T.k_Garden T.g_Garden (hr.mono (by decide)) (pa_cons (pv 4) pa_nil)) pa_nil))))
      (pss_cons (ps_set (i := 6) sc_law.nd rfl (by first | exact Or.inl rfl | exact Or.inr rfl) (pe_lst (pa_cons (pe_lst pa_nil) (pa_cons (pe_lst pa_nil) pa_nil))))
      (pss_cons (ps_for PassesOwn.never rfl (pi_range2 (by rfl) T.f_range (pa_cons pe_int (pa_cons (pe_callB (call_max2 rfl) (by rfl) T.f_max (by decide +kernel) (pa_cons pe_int (pa_cons (pe_callB (call_min2 rfl) (by rfl) T.f_min (by decide +kernel) (pa_cons (pe_callB (klen (K := K)) (by rfl) T.f_len PySem.boot_len (pa_cons (pv 0) pa_nil)) (pa_cons pe_int pa_nil))) pa_nil))) pa_nil))) (pg_name (i := 7) sc_law.nd rfl (by first | exact Or.inl rfl | exact Or.inr rfl))
        (pss_cons (ps_set (i := 1) sc_law.nd rfl (by first | exact Or.inl rfl | exact Or.inr rfl) (kfn (K := K) O__law_source T.g__law_source (hr.mono (by decide)) (pa_cons (kfn (K := K) O__law_cell_at T.g__law_cell_at (hr.mono (by decide)) (pa_cons (pv 0) (pa_cons (pv 7) pa_nil))) pa_nil)))
        (pss_cons (ps_set (i := 8) sc_law.nd rfl (by first | exact Or.inl rfl | exact Or.inr rfl) (pe_callTy call_int1 (by rfl) T.f_int (by decide +kernel) (pa_cons (pe_cmpR op_eq (kfn (K := K) O__law_take T.g__law_take (hr.mono (by decide)) (pa_cons (pv 1) (pa_cons pe_int pa_nil))) pe_int (nomark _)) pa_nil)))
        (pss_cons (ps_if (PW.pt (pw_and (pt_cmpR op_lt (pe_callB (klen (K := K)) (by rfl) T.f_len PySem.boot_len (pa_cons (pe_ix (kixL (K := K)) (pv 6) (pv 8) (fun _ _ => rfl)) pa_nil)) pe_int (nomark _)) (pw_and1 (pt_cmpR op_eq (kfn (K := K) O__law_take T.g__law_take (hr.mono (by decide)) (pa_cons (pv 1) (pa_cons pe_int pa_nil))) pe_int (nomark _)))))
          (pss_one (ps_if (pt_not (pt_val (kfn (K := K) O__law_kept T.g__law_kept (hr.mono (by decide)) (pa_cons (pe_ix (kixL (K := K)) (pv 5) (pv 8) (fun _ _ => rfl)) (pa_cons (pv 1) (pa_cons (pv 2) (pa_cons (pe_ix (kixL (K := K)) (pv 6) (pv 8) (fun _ _ => rfl)) pa_nil)))))))
            (pss_one (ps_ret pe_bl))
            pss_nil))
          pss_nil)
        (pss_cons (ps_set (i := 9) sc_law.nd rfl (by first | exact Or.inl rfl | exact Or.inr rfl) (kme0 (K := K) (pe_ix (kixL (K := K)) (pv 5) (pv 8) (fun _ _ => rfl)) O_Garden_document T.c_Garden T.m_Garden_document (hr.mono (by decide))))
        (pss_cons (ps_set (i := 10) sc_law.nd rfl (by first | exact Or.inl rfl | exact Or.inr rfl) (kme0 (K := K) (pv 9) O_Document_rows T.c_Document T.m_Document_rows (hr.mono (by decide))))
        (pss_cons (ps_if (PW.pt (pw_or (pt_not (pt_val (kfn (K := K) O__law_deed T.g__law_deed (hr.mono (by decide)) (pa_cons (pe_ix (kixL (K := K)) (pv 5) (pv 8) (fun _ _ => rfl)) (pa_cons (pv 1) (pa_cons (pv 2) pa_nil)))))) (pw_or1 (pt_cmpR (kneD (K := K) hr.units) (kme0 (K := K) (pv 9) O_Document_rows T.c_Document T.m_Document_rows (hr.mono (by decide))) (pv 10) (nomark _)))))
          (pss_one (ps_ret pe_bl))
          pss_nil)
        (pss_one (ps_if (pt_cmpR (kneE (K := K) hr.units) (pe_ix (kixL (K := K)) (pv 6) (pv 8) (fun _ _ => rfl)) (pe_lst pa_nil) (nomark _))
          (pss_cons (ps_set (i := 11) sc_law.nd rfl (by first | exact Or.inl rfl | exact Or.inr rfl) (kfn (K := K) O__law_take T.g__law_take (hr.mono (by decide)) (pa_cons (pv 1) (pa_cons (pe_callB (klen (K := K)) (by rfl) T.f_len PySem.boot_len (pa_cons (pe_ix (kixL (K := K)) (pv 6) (pv 8) (fun _ _ => rfl)) pa_nil)) pa_nil))))
          (pss_one (ps_if (pt_not (pt_val (kfn (K := K) O__law_right T.g__law_right (hr.mono (by decide)) (pa_cons (pe_ix (kixL (K := K)) (pv 5) (pv 8) (fun _ _ => rfl)) (pa_cons (pe_ix (kixL (K := K)) (pv 6) (pv 8) (fun _ _ => rfl)) (pa_cons (pv 11) pa_nil))))))
            (pss_one (ps_ret pe_bl))
            pss_nil)))
          pss_nil)))))))))
      (pss_cons (ps_for PassesOwn.never rfl (pi_range1 (by rfl) T.f_range (pa_cons pe_int pa_nil)) (pg_name (i := 8) sc_law.nd rfl (by first | exact Or.inl rfl | exact Or.inr rfl))
        (pss_one (ps_if (pt_not (pt_val (kfn (K := K) O__law_anew T.g__law_anew (hr.mono (by decide)) (pa_cons (pe_ix (kixL (K := K)) (pv 5) (pv 8) (fun _ _ => rfl)) (pa_cons (pe_ix (kixL (K := K)) (pv 6) (pv 8) (fun _ _ => rfl)) pa_nil)))))
          (pss_one (ps_ret pe_bl))
          pss_nil)))
      (pss_one (ps_ret (pe_and (pe_cmpR (keqD (K := K) hr.units) (kme0 (K := K) (pv 4) O_Document_rows T.c_Document T.m_Document_rows (hr.mono (by decide))) (pv 3) (nomark _)) (pe_one (kfn (K := K) O__law_at_bound T.g__law_at_bound (hr.mono (by decide)) (pa_cons (pv 1) (pa_cons (pv 2) pa_nil)))))))))))))))), ?_⟩
    let ow0 : Ow := fun _ => .out
    refine ⟨_, rfl, a, ns, 0, rfl, hsc, fun c => ⟨c, rfl, fun H1 s s1 ns1 hs => ?_⟩⟩
    let ow1 : Ow := owp ow0 s .src
    have os : ow1 s = .src := owp_same
    have O1 : Own H1 ow1 := fun b hb => by
      by_cases e : b = s
      · obtain ⟨_, _, _, e2⟩ := hs
        rw [e, e2]; exact fun z => by cases z
      · exact absurd (owp_ne (ow := ow0) (r := .src) e) hb
    have hsc1 : SqL K (hid ow1 H1) a (ns.map V.int) := by
      refine Same.seq (fun b o e => ?_) hsc
      exact hid_some.mpr ⟨owp_ne (ne_of_none e ns1), s1 _ _ e⟩
    generalize ow1 = ow at os O1 hsc1
    refine ⟨_, rfl, by decide, fun p np => ⟨_, rfl, s, 5, rfl, (Drawn.same hs (Same.up np)).src, by omega, by omega, fun r H2 r0 r1 d2 => ?_⟩⟩
    have dr2 := ((Drawn.refl hs).new (o := .lst [.int 1, .int 2, .int 2, .int 3, .int 4]) np).trans d2
    obtain ⟨mn, hmn, amn⟩ := ix_of [(1 : Nat), 2, 2, 3, 4] (fun n => V.int n) r r0 r1
    have hmn2 : 1 ≤ mn ∧ mn ≤ 4 := by simp at hmn; omega
    refine ⟨p, _, _, _, rfl, rfl, SqL.of (d2.fr _ _ (src_ne hs np) upd_same), amn, s, mn, rfl, dr2.src, hmn2.1, hmn2.2, fun H3 la ls d3 nla ela lls okl => ?_⟩
    have dr3 := dr2.trans d3
    have lne : ls ≠ [] := fun z => by rw [z] at lls; simp at lls; omega
    have S3 := drawn_step O1 os dr3
    have LA : LabsAt (hid ow H3) la ls := ⟨hid_some.mpr ⟨O1.new (dr2.free nla), ela⟩, lne, by omega, okl⟩
    have lane : la ≠ s := src_ne hs (dr2.free nla)
    have hsc3 := Same.seq (S3.hid (by simp)) hsc1
    have O3 := S3.own
    have hs3 := dr3.src
    clear hs O1 hsc1 dr3 d3 d2 dr2 s1 S3
    -- rows
    dsimp only [gName]
    refine seq_by (fun σ H' => ∃ (rl : Addr) (ts : List Addr) (rows : List DRow), σ = [some (.ref a), some (.ref s), some (.ref la), some (.ref rl), none, none, none, none, none, none, none, none] ∧ Drawn s H3 H' ∧ RowsL (hid ow H') rl ts rows) (fun Dn hn => ?_) ?_
    · refine ⟨_, rfl, _, rfl, by decide, fun p4 np4 => ⟨_, rfl, s, 3, rfl, (Drawn.same hs3 (Same.up np4)).src, by omega, by omega, fun r4 H4 u0 u1 d4 => ?_⟩⟩
      have dr4 := ((Drawn.refl hs3).new (o := .lst [.int 3, .int 6, .int 30]) np4).trans d4
      obtain ⟨dp, hdp, adp⟩ := ix_of [(3 : Nat), 6, 30] (fun n => V.int n) r4 u0 u1
      have hdp2 : 2 ≤ dp ∧ dp ≤ 30 := by simp at hdp; omega
      refine ⟨p4, _, _, _, rfl, rfl, SqL.of (d4.fr _ _ (src_ne hs3 np4) upd_same), adp, s, la, ls, 30, dp, rfl, dr4.src, lane, dr4.fr _ _ lane (hid_sub _ _ LA.at_), LA.ne, LA.few, by omega, by omega, hdp2.1, hdp2.2, fun H5 rl ts rows d5 nrl erl E5 V5 al5 m5 => ?_⟩
      have dr5 := dr4.trans d5
      have O4 : Own H4 ow := (drawn_step O3 os dr4).own
      refine hn _ _ ⟨rl, ts, rows, rfl, dr5, hid_some.mpr ⟨O4.new nrl, erl⟩, ⟨E5.len, fun i t r h1 h2 => ?_⟩, V5, fun r hr => LA.ok _ (al5 r hr).1, fun r hr => by have := (al5 r hr).2; omega, by omega⟩
      obtain ⟨n0, e0⟩ := E5.at_ i t r h1 h2
      exact hid_some.mpr ⟨O4.new n0, e0⟩
    rintro σ H4 ⟨rl0, ts0, rows0, rfl, dr4, RL0⟩
    refine seq_by (fun σ H' => ∃ (rl : Addr) (ts : List Addr) (rows : List DRow), σ = [some (.ref a), some (.ref s), some (.ref la), some (.ref rl), none, none, none, none, none, none, none, none] ∧ Drawn s H3 H' ∧ RowsL (hid ow H') rl ts rows) (fun Dn hn => ?_) ?_
    · refine ⟨_, rfl, s, 8, rfl, dr4.src, by omega, by omega, fun r H5 u0 u1 d5 => ⟨rfl, ?_⟩⟩
      have dr5 := dr4.trans d5
      have O4 := (drawn_step O3 os dr4).own
      by_cases hz : r = 0
      · refine ⟨true, bt (by rw [hz]), 30, rfl, by omega, by omega, fun D nD => ?_⟩
        have nD3 := dr5.free nD
        have hla5 := dr5.fr _ _ lane (hid_sub _ _ LA.at_)
        have hll : 1 ≤ ls.length := by
          have := LA.ne
          cases ls with
          | nil => exact absurd rfl this
          | cons _ _ => simp
        have hgm : ∀ k, ls.getD (k % ls.length) "" ∈ ls := fun k => by
          have : k % ls.length < ls.length := Nat.mod_lt _ hll
          rw [List.getD_eq_getElem?_getD, List.getElem?_eq_getElem this]
          exact List.getElem_mem this
        refine lc_each walk_range ((List.range 30).map fun k => ((ls.getD (k % ls.length) "", k + 1) : DRow)) (fun H t r => H3 t = none ∧ H t = some (.tup [.str r.1, .int r.2])) nD (fun _ _ _ _ s h => ⟨h.1, s _ _ h.2⟩) (fun H t r acc acc' e h => ⟨h.1, by rw [upd_ne (fun z => by rw [z, e] at h; cases h.2)]; exact h.2⟩) (by rw [List.length_map, List.length_range]; rfl) (by decide) (fun _ _ => trivial) ?_ ?_
        · rintro n r v H6 H7 N hr _ s6 ⟨rfl, ev⟩ ky
          have hn := (List.getElem?_eq_some_iff.mp hr).1
          rw [List.length_map, List.length_range] at hn
          obtain rfl : ((ls.getD (n % ls.length) "", n + 1) : DRow) = r := by
            rw [List.getElem?_map, List.getElem?_range hn] at hr; exact Option.some.inj hr
          obtain rfl : v = V.int (n : Int) := by
            rw [ev]
            show V.int ((0 : Int) + (n : Nat)) = _
            congr 1; omega
          have hm : n % ls.length < ls.length := Nat.mod_lt _ hll
          have efm : (n : Int).fmod (((ls.map V.str).length : Nat) : Int) = ((n % ls.length : Nat) : Int) := by
            rw [List.length_map, Int.fmod_eq_emod_of_nonneg _ (by omega)]; exact (Int.natCast_emod n ls.length).symm
          have hix : atI (ls.map V.str) ((n : Int).fmod (((ls.map V.str).length : Nat) : Int)) = some (.str (ls.getD (n % ls.length) "")) := by
            rw [efm]
            refine atI_nat ?_
            rw [List.getElem?_map, List.getD_eq_getElem?_getD, List.getElem?_eq_getElem hm]; rfl
          refine ⟨rfl, _, rfl, _, rfl, _, rfl, la, _, rfl, .inl (SqL.of (s6 _ _ hla5)), _, _, rfl, rfl, by rw [List.length_map]; omega, la, _, _, _, rfl, rfl, SqL.of (s6 _ _ hla5), hix, _, rfl, _, 1, rfl, rfl, by show 2 ≤ sizeLine; decide, fun p np => ky p _ (Same.up np) ⟨dr5.free (s6.free np), ?_⟩⟩
          exact upd_same
        · intro H6 ts s6 e6 E6
          have dr6 := dr5.trans (Drawn.same dr5.src s6)
          exact hn _ _ ⟨D, ts, _, rfl, dr6, hid_some.mpr ⟨O3.new nD3, e6⟩, ⟨E6.len, fun i t r h1 h2 => hid_some.mpr ⟨O3.new (E6.at_ i t r h1 h2).1, (E6.at_ i t r h1 h2).2⟩⟩, chain_rows ls 30 (by omega) (by omega) LA.ok (fun k => ls.getD (k % ls.length) "") hgm⟩
      · exact ⟨false, bf (fun z => hz (V.int.inj z)), hn _ _ ⟨rl0, ts0, rows0, rfl, dr5, RL0.same ((drawn_step O4 os d5).hid (by simp))⟩⟩
    rintro σ H5 ⟨rl, ts, rows, rfl, dr5, RL⟩
    clear RL0 ts0 rows0 rl0 dr4 H4
    have S5 := drawn_step O3 os dr5
    have LA5 := LA.same (S5.hid (by simp))
    have hsc5 := Same.seq (S5.hid (by simp)) hsc3
    have O5 := S5.own
    have hs5 := dr5.src
    clear hsc3 LA O3 hs3 S5 dr5
    -- document
    refine ⟨_, rfl, fun dd ddx ndd nddx nde => ⟨dd, ddx, rl, ts, rows, hid ow H5, H5, rfl, upd_same, (Same.up nddx).new (by rw [upd_ne nde.symm]; exact ndd), ndd, hid_sub, RL.at_, RL.tup, RL.ok, fun H6 s6 DX => ⟨rfl, ?_⟩⟩⟩
    have D6 : DocAt K (hid ow H6) dd rows := DX.same (ext_hid O5 s6)
    have O6 : Own H6 ow := fun b z => alive_of_same s6 b (O5 b z)
    have RL6 := RL.same (hid_same s6)
    have LA6 := LA5.same (hid_same s6)
    have hsc6 := Same.seq (hid_same s6) hsc5
    have hs6 : SrcAt H6 s := by obtain ⟨n, y, t, e⟩ := hs5; exact ⟨n, y, t, s6 _ _ e⟩
    -- gardens
    have hV := RL.ok.v
    obtain ⟨ll, kf, hrows⟩ := parse (rows := rows) hV
    have D6' := D6
    rw [hrows] at D6'
    refine ⟨_, rfl, fun g0 gx0 ng0 ngx0 nge0 => ⟨g0, gx0, dd, Fo.cons ll kf .nil, H6, ow, 0, rfl, upd_same, (Same.up ngx0).new (by rw [upd_ne nge0.symm]; exact ng0), ng0, D6'.same hid_sub, ⟨ll, kf, rfl⟩, O6, fun H7 ow7 G0 S7 e0 GA0 => ⟨rfl, ?_⟩⟩⟩
    have D7 := D6'.same (S7.hid id)
    refine ⟨_, rfl, fun g1 gx1 ng1 ngx1 nge1 => ⟨g1, gx1, dd, Fo.cons ll kf .nil, H7, ow7, 1, rfl, upd_same, (Same.up ngx1).new (by rw [upd_ne nge1.symm]; exact ng1), ng1, D7.same hid_sub, ⟨ll, kf, rfl⟩, S7.own, fun H8 ow8 G1 S8 e1 GA1 => ⟨rfl, ?_⟩⟩⟩
    subst e0 e1
    have GA0' := GA0.step S8 id (fun _ z => z.elim)
    have S68 := S7.trans S8
    refine ⟨by show 2 ≤ sizeLine; decide, fun gl ngl => ?_⟩
    have S9 := S68.trans (Step.same (C := fun _ => False) S8.own (Same.up (o := .lst [.ref G0.g, .ref G1.g]) ngl))
    have GA0'' := GA0'.same (Same.up (o := .lst [.ref G0.g, .ref G1.g]) ngl)
    have GA1' := GA1.same (Same.up (o := .lst [.ref G0.g, .ref G1.g]) ngl)
    have egl : hid ow8 (upd H8 gl (.lst [.ref G0.g, .ref G1.g])) gl = some (.lst [.ref G0.g, .ref G1.g]) := hid_new S8.own ngl upd_same
    generalize upd H8 gl (.lst [.ref G0.g, .ref G1.g]) = H9 at S9 GA0'' GA1' egl ⊢
    -- kept
    refine ⟨by decide, fun k0 nk0 => ⟨by decide, fun k1 nk1 => ⟨by show 2 ≤ sizeLine; decide, fun kk nkk => ?_⟩⟩⟩
    have nk0' := nk0
    have nk1' := (upd_free nk1).2
    have n10 : k1 ≠ k0 := (upd_free nk1).1
    have T1 := Step.new (C := fun _ => False) (o := .lst []) S9.own nk0 (.kq 0)
    have T2 := T1.trans (Step.new (C := fun _ => False) (o := .lst []) T1.own nk1 (.kq 1))
    have T3 := T2.trans (Step.same (C := fun _ => False) T2.own (Same.up (o := .lst [.ref k0, .ref k1]) nkk))
    have ek0 : upd (upd (upd H9 k0 (.lst [])) k1 (.lst [])) kk (.lst [.ref k0, .ref k1]) k0 = some (.lst []) := upd_at nkk (by rw [upd_ne n10.symm]; exact upd_same)
    have ek1 : upd (upd (upd H9 k0 (.lst [])) k1 (.lst [])) kk (.lst [.ref k0, .ref k1]) k1 = some (.lst []) := upd_at nkk upd_same
    have ekk : hid (owp (owp ow8 k0 (.kq 0)) k1 (.kq 1)) (upd (upd (upd H9 k0 (.lst [])) k1 (.lst [])) kk (.lst [.ref k0, .ref k1])) kk = some (.lst [.ref k0, .ref k1]) := hid_new T2.own nkk upd_same
    have ok0 : owp (owp ow8 k0 (.kq 0)) k1 (.kq 1) k0 = .kq 0 := by rw [owp_ne n10.symm]; exact owp_same
    have ok1 : owp (owp ow8 k0 (.kq 0)) k1 (.kq 1) k1 = .kq 1 := owp_same
    generalize upd (upd (upd H9 k0 (.lst [])) k1 (.lst [])) kk (.lst [.ref k0, .ref k1]) = H10 at T3 ek0 ek1 ekk ⊢
    generalize owp (owp ow8 k0 (.kq 0)) k1 (.kq 1) = ow10 at T3 ekk ok0 ok1
    have GA0e := GA0''.step T3 id (fun _ z => z.elim)
    have GA1e := GA1'.step T3 id (fun _ z => z.elim)
    have S610 := S9.trans T3
    have es0 : Each (fun a (k : Qs Str × Bool) => QAt K (hid ow10 H10) a k.1) [] [] := ⟨rfl, fun _ _ _ h => by cases h⟩
    have sub := S610.hid id
    have L0 : LS K H10 ow10 (hid ow10 H10) G0.g G1.g k0 k1 s := by
      refine ⟨T3.own, Same.refl _, fun b => ?_, ?_, ?_⟩
      · cases b with
        | false => exact ⟨G0, _, _, [], [], rfl, GA0e, ek0, ok0, es0, by decide⟩
        | true => exact ⟨G1, _, _, [], [], rfl, GA1e, ek1, ok1, es0, by decide⟩
      · exact (src_step hs6 os S610 id).1
      · exact (src_step hs6 os S610 id).2
    have hscS := Same.seq sub hsc6
    have LAS := LA6.same sub
    have RLS := RL6.same sub
    have DS := D6.same sub
    have eglS : hid ow10 H10 gl = some (.lst [.ref G0.g, .ref G1.g]) := T3.hid id _ _ egl
    generalize hid ow10 H10 = S at L0 hscS LAS RLS DS eglS ekk
    clear GA0'' GA1' GA0e GA1e S610 T1 T2 T3 S9 S68 S7 S8 es0 sub D7 D6' D6 RL6 LA6 hsc6 hs6 O6 egl ek0 ek1 ok0 ok1 nkk nk0 nk1 nk0' nk1' GA0 GA1 GA0' RL LA5 hsc5 O5 hs5 DX s6 hsc
    -- the deeds
    have lsc : ((ns.map V.int).length : Int) = ns.length := by rw [List.length_map]
    have hscH : SqL K H10 a (ns.map V.int) := Same.seq hid_sub (Same.seq L0.sub hscS)
    have bnd : ∀ m : Int, 4 ≤ (if (if (31 : Int) < m then 31 else m) > 4 then (if (31 : Int) < m then 31 else m) else 4) ∧ (if (if (31 : Int) < m then 31 else m) > 4 then (if (31 : Int) < m then 31 else m) else 4) ≤ 31 := fun m => by
      split <;> split <;> omega
    obtain ⟨bn1, bn2⟩ := bnd ((ns.map V.int).length : Int)
    refine ⟨_, rfl, a, _, rfl, .inl hscH, _, 31, rfl, 4, _, rfl, 1, _, rfl, ⟨by omega, by omega, by omega, by omega⟩, ?_⟩
    refine for_it walk_range (fun n σ H' => ∃ (s' : Addr) (ow' : Ow) (x7 x8 x9 x10 x11 : Option V), σ = [some (.ref a), some (.ref s'), some (.ref la), some (.ref rl), some (.ref dd), some (.ref gl), some (.ref kk), x7, x8, x9, x10, x11] ∧ LS K H' ow' S G0.g G1.g k0 k1 s') ?_ (fun _ _ _ _ _ => trivial) ?_ ?_
    · exact ⟨s, ow10, none, none, none, none, none, rfl, L0⟩
    · rintro n v σ Ha Hb hn ⟨s', ow', x7, x8, x9, x10, x11, rfl, L⟩ ⟨rfl, ev⟩
      obtain rfl : v = V.int ((n + 1 : Nat) : Int) := by
        rw [ev]
        show V.int ((1 : Int) + (n : Nat)) = _
        congr 1; omega
      refine ⟨_, rfl, _, rfl, a, ns, n + 1, rfl, Same.seq hid_sub (Same.seq L.sub hscS), fun c => ⟨c, rfl, fun H1 s2 s1 ns2 hs2 => ?_⟩⟩
      -- a new source
      have L1 : LS K H1 (owp ow' s2 .src) S G0.g G1.g k0 k1 s2 := by
        have La := L.same s1
        have os2 : owp ow' s2 .src s2 = .src := owp_same
        have O2 : Own H1 (owp ow' s2 .src) := fun b hb => by
          by_cases e : b = s2
          · obtain ⟨_, _, _, e2⟩ := hs2
            rw [e, e2]; exact fun z => by cases z
          · rw [owp_ne e] at hb; exact La.own b hb
        have St : Step (fun _ => False) Hb ow' H1 (owp ow' s2 .src) := ⟨fun b h => owp_ne fun z => h (by rw [z]; exact ns2), alive_of_same s1, fun b o _ e => s1 b o e, O2⟩
        exact ⟨O2, fun b o z => St.hid id _ _ (L.sub b o z), fun b => (L.gs b).step St id (fun _ z => z.elim) id, hs2, os2⟩
      generalize owp ow' s2 .src = ow1 at L1
      clear L
      -- which garden
      refine ⟨_, rfl, s2, 5, rfl, L1.src, by omega, by omega, fun r5 H2 _ _ d5 => ⟨rfl, .inr ⟨_, rfl, ?_⟩⟩⟩
      generalize decide (V.int r5 = V.int 0) = b
      have L2 := L1.draw d5
      clear L1 d5
      have ib : (if b = true then (1 : Int) else 0) = ((ix b : Nat) : Int) := by cases b <;> rfl
      have gat : atI [V.ref G0.g, V.ref G1.g] ((ix b : Nat) : Int) = some (.ref (sel b G0.g G1.g)) := by cases b <;> rfl
      have kat : atI [V.ref k0, V.ref k1] ((ix b : Nat) : Int) = some (.ref (sel b k0 k1)) := by cases b <;> rfl
      rw [ib]
      have atg : ∀ {Hx owx}, LS K Hx owx S G0.g G1.g k0 k1 s2 → SqL K Hx gl [V.ref G0.g, V.ref G1.g] := fun h => SqL.of (hid_sub _ _ (h.sub _ _ eglS))
      have atk : ∀ {Hx owx}, LS K Hx owx S G0.g G1.g k0 k1 s2 → SqL K Hx kk [V.ref k0, V.ref k1] := fun h => SqL.of (hid_sub _ _ (h.sub _ _ ekk))
      dsimp only [gName]
      -- kept
      refine seq_by (fun σ H' => ∃ (ow' : Ow), σ = [some (.ref a), some (.ref s2), some (.ref la), some (.ref rl), some (.ref dd), some (.ref gl), some (.ref kk), some (.int ((n + 1 : Nat) : Int)), some (.int ((ix b : Nat) : Int)), x9, x10, x11] ∧ LS K H' ow' S G0.g G1.g k0 k1 s2) (fun Dn hn => ?_) ?_
      · obtain ⟨G, f, coming, ks, qas, eG, GA, ekl, okl, EQ, l6⟩ := L2.gs b
        refine ⟨_, rfl, _, rfl, kk, _, _, _, rfl, rfl, atk L2, kat, sel b k0 k1, _, rfl, .inl (SqL.of ekl), _, 6, rfl, rfl, ?_⟩
        by_cases h6 : (((qas.map V.ref).length : Nat) : Int) < 6
        · refine ⟨true, bt h6, _, rfl, s2, 2, rfl, L2.src, by omega, by omega, fun r6 H3 _ _ d6 => ⟨rfl, ?_⟩⟩
          have L3 := L2.draw d6
          by_cases hz : r6 = 0
          · refine ⟨true, bt (by rw [hz]), ?_⟩
            rw [List.length_map] at h6
            have hlq : qas.length = ks.length := EQ.len
            have S6 := drawn_step L2.own L2.os d6
            have GA3 := GA.step S6 (by simp) (by rintro r rfl z; cases z)
            have ekl3 := d6.fr _ _ (rne okl L2.os (by simp)) ekl
            have EQ3 : Each (fun a (k : Qs Str × Bool) => QAt K (hid ow1 H3) a k.1) qas ks := EQ.imp fun a k q => q.same (S6.hid (by simp))
            refine ⟨_, rfl, _, rfl, gl, _, _, _, rfl, rfl, atg L3, gat, _, rfl, _, rfl, _, rfl, _, rfl, kk, _, _, _, rfl, rfl, atk L3, kat, ow1, ix b, G, f, coming, ks, s2, la, sel b k0 k1, ls, qas, by rw [eG]; rfl, GA3, L3.src, L3.os, LAS.same L3.sub, ekl3, okl, EQ3, by omega, fun H4 ow4 G4 qa q S4 eg GA4 ekl4 QA4 hs4 => ⟨true, rfl, hn _ _ ⟨ow4, rfl, L3.deed b S4 hs4 ⟨G4, f, coming, ks ++ [(q, true)], qas ++ [qa], eg.trans eG, GA4, ekl4, (S4.keep _ (some_ne ekl3)).trans okl, (EQ3.imp fun a k q => q.same (S4.hid kc_out)).snoc QA4, ?_⟩⟩⟩⟩
            rw [List.length_append]; show ks.length + 1 ≤ 6; omega
          · exact ⟨false, bf (fun z => hz (V.int.inj z)), hn _ _ ⟨ow1, rfl, L3⟩⟩
        · exact ⟨false, bf h6, hn _ _ ⟨ow1, rfl, L2⟩⟩
      rintro σ H3 ⟨ow3, rfl, L3⟩
      clear L2 H2 ow1 H1 hs2 s1 ns2
      -- the document that is told
      obtain ⟨G, f, coming, ks, qas, eG, GA, ekl, okl, EQ, l6⟩ := L3.gs b
      refine ⟨_, rfl, _, rfl, gl, _, _, _, rfl, rfl, atg L3, gat, ?_⟩
      rw [← eG]
      refine mt_Garden_document GA.b.obj ⟨ow3, ix b, G, f, coming, rfl, GA.b, fun H4 da s4 n4 DX => ?_⟩
      have D4 : DocAt K (hid ow3 H4) da (docRows f) := DX.same fun b o e => by
        unfold ext at e
        by_cases z : (H3 b).isNone = true
        · rw [if_pos z] at e
          exact hid_some.mpr ⟨L3.own.new (Option.isNone_iff_eq_none.mp z), e⟩
        · rw [if_neg z] at e; cases e
      have L4 := L3.same s4
      obtain ⟨_, dxd, pt, pe, pu, dts, q1, q2, q3, q4, q5⟩ := id (D4.same hid_sub)
      refine ⟨_, rfl, mt_Document_rows q1 ⟨da, docRows f, hid ow3 H4, rfl, hid_sub, D4, fun H5 bl bts s5 n5 e5 R5 => ?_⟩⟩
      have L5 := L4.same s5
      have GA5 := (GA.same s4).same s5
      have e5' : hid ow3 H5 bl = some (.lst (bts.map V.ref)) := hid_new L4.own n5 e5
      have D5 := D4.same (hid_same s5)
      have okr := D4.ok
      have R5' : RowsAt (hid ow3 H5) bts (docRows f) := R5.same (hid_same s5)
      dsimp only [gName]
      refine seq_by (fun σ H' => ∃ (ow' : Ow), σ = [some (.ref a), some (.ref s2), some (.ref la), some (.ref rl), some (.ref dd), some (.ref gl), some (.ref kk), some (.int ((n + 1 : Nat) : Int)), some (.int ((ix b : Nat) : Int)), some (.ref da), some (.ref bl), x11] ∧ LS K H' ow' S G0.g G1.g k0 k1 s2) (fun Dn hn => ?_) ?_
      · have okl5 : ow3 (sel b k0 k1) = .kq (ix b) := okl
        have ekl5 := s5 _ _ (s4 _ _ ekl)
        have EQ5 : Each (fun a (k : Qs Str × Bool) => QAt K (hid ow3 H5) a k.1) qas ks := EQ.imp fun a k q => q.same (hid_same (s4.trans s5))
        refine ⟨_, rfl, _, rfl, gl, _, _, _, rfl, rfl, atg L5, gat, _, rfl, _, rfl, ow3, ix b, G, f, coming, ks, s2, la, ls, by rw [eG]; rfl, GA5, L5.src, L5.os, LAS.same L5.sub, fun H6 ow6 G6 f6 c6 S6 eg GA6 hs6 => ⟨true, rfl, ?_⟩⟩
        have kdc : ∀ r, kd (ix b) r → kc (ix b) r := fun r h => h.elim .inl fun h => .inr (.inl h)
        have ekl6 : H6 (sel b k0 k1) = some (.lst (qas.map V.ref)) := S6.fr _ _ (by rw [okl5]; exact fun z => z.elim (fun z => z.elim (fun z => by cases z) (fun z => by cases z)) (fun z => by cases z)) ekl5
        have L6 : LS K H6 ow6 S G0.g G1.g k0 k1 s2 := L5.deed b (S6.mono kdc) hs6 ⟨G6, f6, c6, ks.map fun k => (k.1, false), qas, eg.trans eG, GA6, ekl6, (S6.keep _ (some_ne ekl5)).trans okl5, ⟨by rw [List.length_map]; exact EQ5.len, fun i t r h1 h2 => ?_⟩, by rw [List.length_map]; exact l6⟩
        · have D6 := D5.same (S6.hid kd_out)
          have R6 := R5'.same (S6.hid kd_out)
          obtain ⟨_, dxd6, pt6, pe6, pu6, dts6, z1, z2, z3, z4, z5⟩ := id (D6.same hid_sub)
          refine ⟨_, rfl, mt_Document_rows z1 ⟨da, docRows f, hid ow6 H6, rfl, hid_sub, D6, fun H7 bl2 bts2 s7 n7 e7 R7 => ?_⟩⟩
          have sh := sh_rows okr
          refine ⟨_, rfl, rsdat (docRows f), rsdat (docRows f), .lst (SqL.of e7) (rows_dp ((R7.same hid_sub).same s7)), .lst (SqL.of (s7 _ _ (hid_sub _ _ (S6.hid kd_out _ _ e5')))) (rows_dp ((R6.same hid_sub).same s7)), sh, sh, false, by rw [eqv_self sh]; rfl, ?_⟩
          exact hn _ _ ⟨ow6, rfl, L6.same s7⟩
        · rw [List.getElem?_map] at h2
          cases e : ks[i]? with
          | none => rw [e] at h2; cases h2
          | some k0' =>
            rw [e] at h2
            obtain rfl := Option.some.inj h2
            exact (EQ5.at_ i t k0' h1 e).same (S6.hid kd_out)
      rintro σ H6 ⟨ow6, rfl, L6⟩
      clear L5 L4 L3
      obtain ⟨G, f, coming, ks, qas, eG, GA, ekl, okl, EQ, l6⟩ := L6.gs b
      have hlq : qas.length = ks.length := EQ.len
      refine ⟨_, rfl, _, rfl, kk, _, _, _, rfl, rfl, atk L6, kat, by decide, fun p6 np6 => ⟨sel b k0 k1, p6, _, rfl, rfl, ne_of_none ekl np6, SqL.of (upd_at np6 ekl), SqL.of upd_same, ?_⟩⟩
      have s6 : Same H6 (upd H6 p6 (.lst [])) := Same.up np6
      have L7 := L6.same s6
      have GA7 := GA.same s6
      have ekl7 := s6 _ _ ekl
      have EQ7 : Each (fun a (k : Qs Str × Bool) => QAt K (hid ow6 (upd H6 p6 (.lst []))) a k.1) qas ks := EQ.imp fun a k q => q.same (hid_same s6)
      generalize upd H6 p6 (.lst []) = H7 at L7 GA7 ekl7 EQ7 ⊢
      cases hqe : (qas.map V.ref).isEmpty with
      | true => exact ⟨false, rfl, s2, ow6, _, _, _, _, _, rfl, L7⟩
      | false =>
        have hl1 : 1 ≤ qas.length := by
          cases hq : qas with
          | nil => rw [hq] at hqe; cases hqe
          | cons _ _ => simp
        refine ⟨true, rfl, _, rfl, _, rfl, _, rfl, kk, _, _, _, rfl, rfl, atk L7, kat, sel b k0 k1, _, rfl, .inl (SqL.of ekl7), s2, _, rfl, L7.src, by rw [List.length_map]; omega, by rw [List.length_map]; omega, fun r7 H8 u0 u1 d8 => ?_⟩
        rw [List.length_map] at u1
        obtain ⟨jn, rfl⟩ := Int.eq_ofNat_of_zero_le u0
        have L8 := L7.draw d8
        have S8 := drawn_step L7.own L7.os d8
        have GA8 := GA7.step S8 (by simp) (by rintro r rfl z; cases z)
        have ekl8 := d8.fr _ _ (rne okl L7.os (by simp)) ekl7
        refine ⟨_, rfl, _, rfl, gl, _, _, _, rfl, rfl, atg L8, gat, _, rfl, _, rfl, kk, _, _, _, rfl, rfl, atk L8, kat, _, rfl, ow6, ix b, G, f, coming, ks, sel b k0 k1, qas, jn, by rw [eG]; rfl, GA8, ekl8, EQ7.imp fun a k q => (q.same (S8.hid (by simp))).same hid_sub, by omega, fun H9 s9 => ⟨true, rfl, s2, ow6, _, _, _, _, _, rfl, L8.same s9⟩⟩
    · rintro σ Ha ⟨s', ow', x7, x8, x9, x10, x11, rfl, L⟩
      refine ⟨2, rfl, by omega, by omega, ?_⟩
      refine for_it walk_range (fun n σ H' => ∃ (ow' : Ow) (x8 : Option V), σ = [some (.ref a), some (.ref s'), some (.ref la), some (.ref rl), some (.ref dd), some (.ref gl), some (.ref kk), x7, x8, x9, x10, x11] ∧ Own H' ow' ∧ Same S (hid ow' H') ∧ SrcAt H' s' ∧ ow' s' = .src ∧ (∀ b : Bool, n ≤ ix b → GS K H' ow' (ix b) (sel b G0.g G1.g) (sel b k0 k1))) ?_ (fun _ _ _ _ _ => trivial) ?_ ?_
      · exact ⟨ow', x8, rfl, L.own, L.sub, L.src, L.os, fun b _ => L.gs b⟩
      · rintro n v σ Hb Hc hn ⟨ow2, x8', rfl, O2, sub2, hs2, os2, gs2⟩ ⟨rfl, ev⟩
        obtain rfl : v = V.int (n : Int) := by
          rw [ev]
          show V.int ((0 : Int) + (n : Nat)) = _
          congr 1; omega
        have hn2 : n < 2 := hn
        obtain ⟨b, hb⟩ : ∃ b : Bool, ix b = n := by
          by_cases h : n = 0
          · exact ⟨false, h.symm⟩
          · exact ⟨true, by show 1 = n; omega⟩
        have gat : atI [V.ref G0.g, V.ref G1.g] (n : Int) = some (.ref (sel b G0.g G1.g)) := by rw [← hb]; cases b <;> rfl
        have kat : atI [V.ref k0, V.ref k1] (n : Int) = some (.ref (sel b k0 k1)) := by rw [← hb]; cases b <;> rfl
        have atg : SqL K Hc gl [V.ref G0.g, V.ref G1.g] := SqL.of (hid_sub _ _ (sub2 _ _ eglS))
        have atk : SqL K Hc kk [V.ref k0, V.ref k1] := SqL.of (hid_sub _ _ (sub2 _ _ ekk))
        obtain ⟨G, f, coming, ks, qas, eG, GA, ekl, okl, EQ, l6⟩ := gs2 b (by omega)
        refine ⟨_, rfl, _, rfl, gl, _, _, _, rfl, rfl, atg, gat, _, rfl, _, rfl, kk, _, _, _, rfl, rfl, atk, kat, ow2, ix b, G, f, coming, ks, sel b k0 k1, qas, by rw [eG]; rfl, GA, ekl, okl, EQ, by omega, fun Hd ow3 S3 => ⟨true, rfl, ow3, _, rfl, S3.own, fun x o z => S3.hid gr_out _ _ (sub2 x o z), (src_step hs2 os2 S3 (by rintro (z | z) <;> cases z)).1, (src_step hs2 os2 S3 (by rintro (z | z) <;> cases z)).2, fun b' hb' => (gs2 b' (by omega)).step S3 gr_out (fun r h => gr_gi h _ ?_) (by rintro (z | z) <;> cases z)⟩⟩
        have h1 : ix b' ≤ 1 := by cases b' <;> decide
        omega
      · rintro σ Hb ⟨ow2, x8', rfl, O2, sub2, hs2, os2, _⟩
        obtain ⟨_, dxd6, pt6, pe6, pu6, dts6, z1, z2, z3, z4, z5⟩ := id ((DS.same sub2).same hid_sub)
        refine ⟨_, rfl, mt_Document_rows z1 ⟨dd, rows, hid ow2 Hb, rfl, hid_sub, DS.same sub2, fun Hc bl bts s7 n7 e7 R7 => ?_⟩⟩
        have sh := sh_rows RLS.ok
        have RLc := RLS.same sub2
        refine ⟨_, rfl, rsdat rows, rsdat rows, .lst (SqL.of e7) (rows_dp ((R7.same hid_sub).same s7)), .lst (SqL.of (s7 _ _ (hid_sub _ _ RLc.at_))) (rows_dp ((RLc.tup.same hid_sub).same s7)), sh, sh, true, by rw [eqv_self sh], ?_⟩
        have Oc : Own Hc ow2 := fun b z => alive_of_same s7 b (O2 b z)
        exact ⟨_, rfl, _, rfl, ow2, s', la, ls, rfl, Oc, (Drawn.same hs2 s7).src, os2, (LAS.same sub2).same (hid_same s7), fun H' => k H'⟩
end
end Bg

set_option Elab.async false
set_option linter.all false
set_option maxRecDepth 100000
set_option maxHeartbeats 4000000
namespace Bg
open PySem PySem.Spec PyProof.Rows L2
/-! ### what is refused at the bounds -/
def sp_TooMany_init (K : PySem.W.Frag) : Sp := fun vs H Q _ => ∃ (a : Addr) (i : Int), vs = [.ref a, .int i] ∧ H a = some (exo a (aTooMany K) none) ∧ ∀ dx, H dx = none → dx ≠ a → Q .non (upd (upd H dx (exd dx [("found", .int i)])) a (exo a (aTooMany K) (some dx)))
def sp_TooDeep_init (K : PySem.W.Frag) : Sp := fun vs H Q _ => ∃ (a : Addr) (i : Int), vs = [.ref a, .int i] ∧ H a = some (exo a (aTooDeep K) none) ∧ ∀ dx, H dx = none → dx ≠ a → Q .non (upd (upd H dx (exd dx [("found", .int i)])) a (exo a (aTooDeep K) (some dx)))
section
variable {K : PySem.W.Frag} {mg : Str → Option Value}
theorem exB_all (T : Tx K mg) : oexB K (aTooMany K) = true ∧ oexB K (aTooDeep K) = true ∧ einB K (aTooMany K) = true ∧ einB K (aTooDeep K) = true ∧ binB K (He.ga K "BoughError") = true := by
  have h := T.ex
  unfold exB at h
  simp only [Bool.and_eq_true] at h
  exact ⟨h.1.1.1.1.2, h.1.1.1.2, h.1.1.2, h.1.2, h.2⟩
theorem exB_b (T : Tx K mg) : binB K (He.ga K "BoughError") = true := (exB_all T).2.2.2.2
theorem oex_TooMany (T : Tx K mg) : OexC K (aTooMany K) := oexB_ok (exB_all T).1
theorem oex_TooDeep (T : Tx K mg) : OexC K (aTooDeep K) := oexB_ok (exB_all T).2.1
end
section
variable {P : Program} {w : World} {K : PySem.W.Frag} {mg : Str → Option Value} {base : Heap}
theorem sc_TooMany_init : FnScope ["self", "found"] ["self", "found"] (defScope s_TooMany_init) := ⟨rfl, rfl, rfl, by decide +kernel, rfl, by decide +kernel, by decide +kernel⟩
theorem ok_TooMany_init (T : Tx K mg) : Ok P w K mg base 1 at_TooMany_init ["self", "found"] (sp_TooMany_init K) := by
  refine mkOk T.d_TooMany_init sc_TooMany_init (fun _ _ _ _ _ _ us hl => match us, hl with | [_, _], _ => rfl) (fun vs H Q E h => ?_) (fun cdv A outer s H vs Q E hr h => ?_)
  · obtain ⟨a, i, rfl, _⟩ := h; rfl
  · obtain ⟨a, i, rfl, ha, k⟩ := h
    refine ⟨_, pss_cons (ps_expr (pe_binit rfl T.g_BoughError (exB_b T) (pa_cons (pv 0) (pa_cons pe_str pa_nil)))) (pss_one (ps_ost (pv 0) (pv 1))), ?_⟩
    refine ⟨_, rfl, a, aTooMany K, [.str "too many"], rfl, by show 1 ≤ 1000; decide, oex_TooMany T, ha, ?_⟩
    exact ⟨_, rfl, _, rfl, a, aTooMany K, rfl, oex_TooMany T, T.n_TooMany_found, .inl ⟨ha, fun dx n1 n2 => k dx n1 n2⟩⟩
theorem sc_TooDeep_init : FnScope ["self", "found"] ["self", "found"] (defScope s_TooDeep_init) := ⟨rfl, rfl, rfl, by decide +kernel, rfl, by decide +kernel, by decide +kernel⟩
theorem ok_TooDeep_init (T : Tx K mg) : Ok P w K mg base 1 at_TooDeep_init ["self", "found"] (sp_TooDeep_init K) := by
  refine mkOk T.d_TooDeep_init sc_TooDeep_init (fun _ _ _ _ _ _ us hl => match us, hl with | [_, _], _ => rfl) (fun vs H Q E h => ?_) (fun cdv A outer s H vs Q E hr h => ?_)
  · obtain ⟨a, i, rfl, _⟩ := h; rfl
  · obtain ⟨a, i, rfl, ha, k⟩ := h
    refine ⟨_, pss_cons (ps_expr (pe_binit rfl T.g_BoughError (exB_b T) (pa_cons (pv 0) (pa_cons pe_str pa_nil)))) (pss_one (ps_ost (pv 0) (pv 1))), ?_⟩
    refine ⟨_, rfl, a, aTooDeep K, [.str "too deep"], rfl, by show 1 ≤ 1000; decide, oex_TooDeep T, ha, ?_⟩
    exact ⟨_, rfl, _, rfl, a, aTooDeep K, rfl, oex_TooDeep T, T.n_TooDeep_found, .inl ⟨ha, fun dx n1 n2 => k dx n1 n2⟩⟩
end
end Bg

set_option Elab.async false
set_option linter.all false
set_option maxRecDepth 100000
set_option maxHeartbeats 4000000
namespace Bg
open PySem PySem.Spec PyProof.Rows L2
/-- as Ok, for a def that may raise -/
def OkX (P : Program) (w : World) (K : PySem.W.Frag) (mg : Str → Option Value) (base : Heap) (lv : Nat) (at_ : Str × Option Str) (ps : List Str) (sp : Sp) : Prop :=
  ∃ fd, FnOk P w K mg base (L2.CX P w) lv (He.fAd K at_) fd ps sp ∧ Binds K fd ps [] ∧ PySem.W.keepIn K (.ref (He.fAd K at_)) = true
theorem ein_ok {K : PySem.W.Frag} {C : Addr} (q : einB K C = true) : PySem.W.findIn K (.ref C) "__init__" = some (some (.ref (He.ma K C "__init__"))) ∧ PySem.W.typeIn K (.ref (He.ma K C "__init__")) = some (.type "function") := by
  unfold einB at q
  rw [Bool.and_eq_true] at q
  exact ⟨He.eqO_ok q.1, of_decide_eq_true q.2⟩
def ein_TooMany {K : PySem.W.Frag} {mg : Str → Option Value} (T : Tx K mg) := ein_ok (exB_all T).2.2.1
def ein_TooDeep {K : PySem.W.Frag} {mg : Str → Option Value} (T : Tx K mg) := ein_ok (exB_all T).2.2.2.1
def spX_put (K : PySem.W.Frag) : Sp := fun vs H _ E => ∃ (ow : Ow) (i : Nat) (G : GAd) (f : GF Str) (coming : Int) (x : Nd Str) (at_ : Nat) (l : Str) (w : List Int), vs = [.ref G.g, .int x.m, .int at_, .str l] ∧ GBase K H ow i G f coming ∧ x ∈ nodes none f ∧ at_ ≤ x.ks.length ∧ IsLab l ∧
  Way (nodes none f) x.m w ∧ (f.size = 240 ∨ (f.size < 240 ∧ w.length = 80)) ∧ ∀ (H' : Hp) (C d : Addr), (C = aTooMany K ∨ C = aTooDeep K) → Same H H' → E (.ref C) (some d) H'
section
variable {P : Program} {w : World} {K : PySem.W.Frag} {mg : Str → Option Value} {base : Heap}
theorem mkOkX {x qual : Str} {st : Stmt} {at_ : Str × Option Str} {N ps : List Str} {k : Nat} {sp : Sp} (E : ∃ fd, FunD K x qual (defArgs st) (defBody st) (defScope st) [] [] (He.fAd K at_) fd) (S : FnScope N ps (defScope st))
    (hb : ∀ (kV doc pm : Value) (an : Option Addr) (cdv ct : Value) (us : List Value), us.length = ps.length → bindArgs (PySem.W.fnOf x qual (defArgs st) (defBody st) (defScope st) .none kV doc pm an cdv ct) ⟨us, []⟩ = pure (ps.zip us))
    (len : ∀ vs H Q E, sp vs H Q E → vs.length = ps.length)
    (hbody : ∀ (cdv : Value) (A : Around) (outer : List Env) (s : Shared) (H : Hp) (vs : List V) (Q : VK) (E : XK), Room k (A.deeper (envOfC qual (defScope st) s.heap.objs.size (He.fAd K at_) cdv)) → sp vs H Q E →
      ∃ t, PSs (cxOf (L2.CX P w) P w K mg base N qual (defScope st) (He.fAd K at_) cdv A outer s H E) (defBody st) t ∧ t { nx := fun _ H' => Q .non H', rt := Q } (start N vs) H) : OkX P w K mg base (k + 1) at_ ps sp := by
  obtain ⟨fd, F⟩ := E
  exact ⟨fd, F.ok S len hbody, F.bindsN hb, F.kp⟩
theorem exc_same {H H1 : Hp} {a dx C : Addr} {fs : List (Str × V)} (s : Same H H1) (na : H1 a = none) (ndx : upd H1 a (exo a C none) dx = none) : Same H (upd (del (upd (upd (upd H1 a (exo a C none)) dx (exd dx fs)) a (exo a C (some dx))) a) dx (.xd fs)) := fun b o e => by
  have e1 := s b o e
  have hb : b ≠ a := ne_of_none e1 na
  have hdx := upd_free ndx
  have hd : b ≠ dx := ne_of_none e1 hdx.2
  rw [upd_ne hd, del_ne hb, upd_ne hb, upd_ne hd, upd_ne hb]; exact e1
theorem okX_put (T : Tx K mg) (O_Garden_mend_all : Ok P w K mg base 4 at_Garden_mend_all ["self", "mark"] (sp_Garden_mend_all K)) (O_Garden_need_part : Ok P w K mg base 2 at_Garden_need_part ["self", "mark"] (sp_Garden_need_part K)) (O_Garden_way_up : Ok P w K mg base 1 at_Garden_way_up ["self", "mark"] (sp_Garden_way_up K)) (O_Plant_init : Ok P w K mg base 1 at_Plant_init ["self", "label", "upper"] (sp_Plant_init K)) (O_is_label : Ok P w K mg base 1 at_is_label ["thing"] (sp_is_label K)) (O_is_whole : Ok P w K mg base 1 at_is_whole ["thing"] (sp_is_whole K)) (O_TooMany_init : Ok P w K mg base 1 at_TooMany_init ["self", "found"] (sp_TooMany_init K)) (O_TooDeep_init : Ok P w K mg base 1 at_TooDeep_init ["self", "found"] (sp_TooDeep_init K)) : OkX P w K mg base 5 at_Garden_put ["self", "upper", "at", "label"] (spX_put K) := by
  obtain ⟨fd1, F1, b1, kp1⟩ := O_TooMany_init
  obtain ⟨fd2, F2, b2, kp2⟩ := O_TooDeep_init
  refine mkOkX T.d_Garden_put sc_Garden_put (fun _ _ _ _ _ _ us hl => match us, hl with | [_, _, _, _], _ => rfl) (fun vs H Q E h => ?_) (fun cdv A outer s H vs Q E hr h => ?_)
  · obtain ⟨ow, i, G, f, coming, x, at_, l, w0, rfl, _⟩ := h; rfl
  · obtain ⟨ow, i, G, f, coming, x, at_, l, w0, rfl, B, hx, hat, hl, W, hcase, k⟩ := h
    refine ⟨_, (pss_cons (ps_expr (kme (K := K) (pv 0) O_Garden_need_part T.c_Garden T.m_Garden_need_part (hr.mono (by decide)) (pa_cons (pv 1) pa_nil)))
      (pss_cons (ps_if (PW.pt (pw_or (pt_not (pt_val (kfn (K := K) O_is_whole T.g_is_whole (hr.mono (by decide)) (pa_cons (pv 2) pa_nil)))) (pw_or1 (pt_not (pt_chain op_le op_le pe_int (pv 2) (pe_callB (klen (K := K)) (by rfl) T.f_len PySem.boot_len (pa_cons (kfld (K := K) (pe_dget (hu_of hr) (kfld (K := K) (pv 0)) (pv 1) (fun _ _ => rfl))) pa_nil)))))))
        (pss_one ps_never)
        pss_nil)
      (pss_cons (ps_if (pt_not (pt_val (kfn (K := K) O_is_label T.g_is_label (hr.mono (by decide)) (pa_cons (pv 3) pa_nil))))
        (pss_one ps_never)
        pss_nil)
      (pss_cons (ps_if (pt_cmpR op_ge (pe_callB call_lenD (by rfl) T.f_len PySem.boot_len (pa_cons (kfld (K := K) (pv 0)) pa_nil)) (pgi T.i_MOST_PARTS_garden) (nomark _))
        (pss_one (ps_raise rfl (takes_of rfl rfl rfl rfl) (pmk_oex (oex_TooMany T) (ein_TooMany T).1 (ein_TooMany T).2 F1 (hr.mono (by decide)) b1 .nil pass0 rfl T.g_TooMany (pa_cons (pe_op op_add (pe_callB call_lenD (by rfl) T.f_len PySem.boot_len (pa_cons (kfld (K := K) (pv 0)) pa_nil)) pe_int) pa_nil))))
        pss_nil)
      (pss_cons (ps_set (i := 4) sc_Garden_put.nd rfl (by first | exact Or.inl rfl | exact Or.inr rfl) (pe_op op_add (pe_callB (klen (K := K)) (by rfl) T.f_len PySem.boot_len (pa_cons (kme (K := K) (pv 0) O_Garden_way_up T.c_Garden T.m_Garden_way_up (hr.mono (by decide)) (pa_cons (pv 1) pa_nil)) pa_nil)) pe_int))
      (pss_cons (ps_if (pt_cmpR op_gt (pv 4) (pgi T.i_MOST_DEEP_garden) (nomark _))
        (pss_one (ps_raise rfl (takes_of rfl rfl rfl rfl) (pmk_oex (oex_TooDeep T) (ein_TooDeep T).1 (ein_TooDeep T).2 F2 (hr.mono (by decide)) b2 .nil pass0 rfl T.g_TooDeep (pa_cons (pv 4) pa_nil))))
        pss_nil)
      (pss_cons (ps_set (i := 5) sc_Garden_put.nd rfl (by first | exact Or.inl rfl | exact Or.inr rfl) (kfld (K := K) (pv 0)))
      (pss_cons (kaug (K := K) (pv 0) pe_int)
      (pss_cons (ps_dput (hu_of hr) (kfld (K := K) (pv 0)) (pv 5) (kmk (K := K) O_Plant_init T.k_Plant T.g_Plant (hr.mono (by decide)) (pa_cons (pv 3) (pa_cons (pv 1) pa_nil))) rfl)
      (pss_cons (ps_expr (kbm (K := K) PySem.F.plainAttrs_list PySem.F.slot_list_insert PySem.F.type_list_insert kinsert (kfld (K := K) (pe_dget (hu_of hr) (kfld (K := K) (pv 0)) (pv 1) (fun _ _ => rfl))) (pa_cons (pv 2) (pa_cons (pv 5) pa_nil))))
      (pss_cons (ps_expr (kme (K := K) (pv 0) O_Garden_mend_all T.c_Garden T.m_Garden_mend_all (hr.mono (by decide)) (pa_cons (pv 5) pa_nil)))
      (pss_one (ps_ret (pv 5)))))))))))))), ?_⟩
    have hm := node_mark hx
    have nd := B.wf.nd
    refine ⟨_, rfl, mt_Garden_need_part B.obj ⟨_, rfl, ow, i, G, f, coming, x.m, rfl, B, hm, ?_⟩⟩
    refine ⟨_, rfl, (at_ : Int), rfl, true, rfl, _, rfl, 0, (at_ : Int), rfl, rfl, true, bt (by omega), ?_⟩
    refine ⟨_, rfl, rd_Garden_plants T B.obj ⟨_, rfl, G.L.pd, _, rfl, B.pl.pd.get hm, rd_Plant_under T (B.pl.pl x hx) ⟨_, _, rfl, .inl (SqL.of (B.pl.un x hx)), _, _, rfl, rfl, true, bt (by rw [len_iv]; omega), ?_⟩⟩⟩
    refine ⟨_, rfl, l, rfl, hl, fun H1 s1 => ⟨true, rfl, ?_⟩⟩
    have B1 := B.same s1
    obtain ⟨kvs, dd, ekv, DI, hdd⟩ := B1.pl.pd
    have lkv : kvs.length = f.size := by
      rw [DI.len, ← marks_len]
      refine Nat.le_antisymm (List.Nodup.length_le_of_subset DI.nd fun m h => (hdd m).mp h) (List.Nodup.length_le_of_subset nd fun m h => (hdd m).mpr h)
    rcases hcase with h240 | ⟨hlt, h80⟩
    · refine ⟨_, rfl, rd_Garden_plants T B1.obj ⟨G.L.pd, kvs, rfl, ekv, _, 240, rfl, rfl, true, bt (by omega), ?_⟩⟩
      refine ⟨_, rfl, rd_Garden_plants T B1.obj ⟨G.L.pd, kvs, rfl, ekv, _, 1, rfl, rfl, by show 1 ≤ 1000; decide, fun a na => ⟨a, _, rfl, upd_same, fun dx ndx nda => ⟨rfl, dx, _, upd_same, ?_, (upd_free ndx).2, k _ _ dx (.inl rfl) (exc_same s1 na ndx)⟩⟩⟩⟩
      rw [upd_ne nda]; exact upd_same
    · refine ⟨_, rfl, rd_Garden_plants T B1.obj ⟨G.L.pd, kvs, rfl, ekv, _, 240, rfl, rfl, false, bf (by omega), ?_⟩⟩
      refine ⟨_, rfl, mt_Garden_way_up B1.obj ⟨_, rfl, ow, i, G, f, coming, x.m, w0, rfl, B1, W, fun H2 wl s2 n2 e2 => ⟨wl, _, rfl, .inl (SqL.of e2), _, 1, rfl, rfl, ?_⟩⟩⟩
      refine ⟨_, rfl, _, 80, rfl, rfl, true, bt (by rw [len_iv]; omega), ?_⟩
      refine ⟨_, rfl, by show 1 ≤ 1000; decide, fun a na => ⟨a, _, rfl, upd_same, fun dx ndx nda => ⟨rfl, dx, _, upd_same, ?_, (upd_free ndx).2, k _ _ dx (.inr rfl) (exc_same (s1.trans s2) na ndx)⟩⟩⟩
      rw [upd_ne nda]; exact upd_same
end
end Bg

set_option Elab.async false
set_option linter.all false
set_option maxRecDepth 100000
set_option maxHeartbeats 4000000
namespace Bg
open PySem PySem.Spec PyProof.Rows L2
def tMethS (C : Addr) (m : Str) (sp : Sp) (E : L2.St → XK) (ta : TE) (t : TA) : TE := fun σ H Q => ta σ H fun x H1 => ∃ a dx fs, x = .ref a ∧ H1 a = some (.ins C dx fs) ∧ fs.lookup m = none ∧ t σ H1 fun vs H2 => sp (x :: vs) H2 Q (E σ)
theorem pe_methS {X : Cx} {CX : CXT} {k : Nat} {f C : Addr} {fd : FuncData} {ps : List Str} {sp : Sp} {E : L2.St → XK} {m : Str} {pos apos : Pos} {e o : Expr} {es : List Expr} {ta : TE} {t : TA} {pl : Sem Bool} (he : PE X o ta) (c : Cls X.K C) (hm : Meth X.K C m f) (F : FnOk X.prog X.w X.K X.mg X.base CX k f fd ps sp) (hr : Room k X.A) (hb : Binds X.K fd ps []) (hx : ∀ σ, PassesAt CX X σ (E σ)) (ha : PA X (e :: es) t)
    (hst : starEach (e :: es) X.env = (false, eval e X.env) :: starEach es X.env := by rfl) (hpl : (backTo pos (starEach es X.env)).any (·.1) = false := by rfl)
    (ht : eval (.Call (.Attribute o m apos) (e :: es) [] pos) X.env = (do
      let ov ← eval o X.env
      standAt apos.atName
      let (f, first) ← holding [ov] (getMethod ov m pl)
      callWith pos f first (backTo pos (starEach (e :: es) X.env)) (backToKw pos (keywordEach [] X.env))) := by rfl) :
    PE X (.Call (.Attribute o m apos) (e :: es) [] pos) (tMethS C m sp E ta t) := by
  refine ⟨fun pins s σ H Q I h => ?_⟩
  refine PySem.W.methodCall_KW (pl := pl) (thn (he.run pins s σ H _ I h) fun u s1 ⟨x, H1, I1, rx, a, dx, fs, ex, ea, l, q⟩ => ?_) ht
  subst ex
  obtain rfl : u = Value.ref a := rx
  refine getmeth_ok I1 ea c hm l ?_
  refine PySem.W.callWith_K (first := [.ref a]) (h₀ := X.base) I.ok.mod.kin hm.kp (thn (ha.run pos pins s1 σ H1 _ I1 q) fun us s2 ⟨vs, H2, I2, r, q2⟩ => ⟨I2.kIn, ?_⟩) hst hpl
  exact run_fnS (us := .ref a :: us) (vs := .ref a :: vs) F hr hb (hx σ) I2 (.cons rfl r) q2
theorem gen_rows (ls : List Str) (n : Nat) (hn : 1 ≤ n) (h240 : n ≤ 240) (dep : Nat → Nat) (h0 : dep 0 = 1) (hs : ∀ k, 2 ≤ dep (k + 1) ∧ dep (k + 1) ≤ dep k + 1) (hd : ∀ k, k < n → dep k ≤ 80) (hok : ∀ x ∈ ls, IsLab x) (g : Nat → Str) (hg : ∀ k, g k ∈ ls) : RowsOk ((List.range n).map fun k => (g k, dep k)) := by
  refine ⟨⟨?_, fun i a b ha hb => ?_⟩, fun r hr => ?_, fun r hr => ?_, by rw [List.length_map, List.length_range]; exact h240⟩
  · unfold dsOf
    rw [List.map_map, List.getElem?_map, List.getElem?_range (by omega)]
    exact congrArg some h0
  · unfold dsOf at ha hb
    rw [List.map_map, List.getElem?_map] at ha hb
    have h1 : i < n := by
      by_cases z : i < n
      · exact z
      · rw [List.getElem?_eq_none (by rw [List.length_range]; omega)] at ha; cases ha
    have h2 : i + 1 < n := by
      by_cases z : i + 1 < n
      · exact z
      · rw [List.getElem?_eq_none (by rw [List.length_range]; omega)] at hb; cases hb
    rw [List.getElem?_range h1] at ha
    rw [List.getElem?_range h2] at hb
    have ea : dep i = a := Option.some.inj ha
    have eb : dep (i + 1) = b := Option.some.inj hb
    rw [← ea, ← eb]; exact hs i
  · obtain ⟨k, _, rfl⟩ := List.mem_map.mp hr; exact hok _ (hg k)
  · obtain ⟨k, hk, rfl⟩ := List.mem_map.mp hr
    exact hd k (List.mem_range.mp hk)
section
variable {P : Program} {w : World} {K : PySem.W.Frag} {mg : Str → Option Value} {base : Heap}
theorem exm_TM (T : Tx K mg) : PySem.W.exmAny K (.ref (aTooMany K)) [.ref (aTooMany K), .ref (aTooDeep K)] = some true := by
  simp only [PySem.W.exmAny, T.x_TooMany_TooMany, T.x_TooMany_TooDeep]; rfl
theorem exm_TD (T : Tx K mg) : PySem.W.exmAny K (.ref (aTooDeep K)) [.ref (aTooMany K), .ref (aTooDeep K)] = some true := by
  simp only [PySem.W.exmAny, T.x_TooDeep_TooMany, T.x_TooDeep_TooDeep]; rfl
theorem sc__law_at_bound : FnScope ["_law_source_here", "_law_labels_here", "_law_rows_here", "_law_garden", "_law_kept_here", "_law_refused", "_law_k"] ["_law_source_here", "_law_labels_here"] (defScope s__law_at_bound) := ⟨rfl, rfl, rfl, by decide +kernel, rfl, by decide +kernel, by decide +kernel⟩
theorem ok__law_at_bound (T : Tx K mg) (O_Document_init : Ok P w K mg base 4 at_Document_init ["self", "rows"] (sp_Document_init K)) (O_Garden_init : Ok P w K mg base 5 at_Garden_init ["self", "document"] (sp_Garden_init K)) (O_Garden_looked : Ok P w K mg base 3 at_Garden_looked ["self", "number"] (sp_Garden_looked K)) (O__law_kept : Ok P w K mg base 8 at__law_kept ["_law_garden", "_law_source_here", "_law_labels_here", "_law_kept_here"] (sp__law_kept K)) (O__law_right : Ok P w K mg base 10 at__law_right ["_law_garden", "_law_kept_here", "_law_number"] (sp__law_right K)) (O__law_take : Ok P w K mg base 1 at__law_take ["_law_source_here", "_law_many"] (sp__law_take K)) (OX : OkX P w K mg base 5 at_Garden_put ["self", "upper", "at", "label"] (spX_put K)) : Ok P w K mg base 11 at__law_at_bound ["_law_source_here", "_law_labels_here"] (sp__law_at_bound K) := by
  obtain ⟨fd1, F1, b1, kp1⟩ := OX
  refine mkOk T.d__law_at_bound sc__law_at_bound (fun _ _ _ _ _ _ us hl => match us, hl with | [_, _], _ => rfl) (fun vs H Q E h => ?_) (fun cdv A outer s0 H vs Q E hr h => ?_)
  · obtain ⟨ow, s, la, ls, rfl, _⟩ := h; rfl
  · obtain ⟨ow, s, la, ls, rfl, O, hs, os, LA, k⟩ := h
    refine ⟨_, (pss_cons (ps_setLc (i := 2) (own := [("_law_k", 6)]) (g := gName 6) (tt := tYes) rfl sc__law_at_bound.nd rfl rfl (sw_true rfl rfl rfl (by decide +kernel)) (pi_range1 (by rfl) T.f_range (pa_cons pe_int pa_nil)) (blkOk_by (by kernel_rfl)) (fun _ _ _ _ _ => (pg_name (i := 6) sc__law_at_bound.nd rfl (by first | exact Or.inl rfl | exact Or.inr rfl))) (fun _ _ _ _ _ => pts_nil) (fun _ _ _ _ _ => (pe_tup (pa_cons (pe_ix (kixL (K := K)) (pv 1) (pe_op op_modN (pv 6) (pe_callB (klen (K := K)) (by rfl) T.f_len PySem.boot_len (pa_cons (pv 1) pa_nil))) (fun _ _ => rfl)) (pa_cons (pe_callB (call_min2 rfl) (by rfl) T.f_min (by decide +kernel) (pa_cons (pe_op op_add (pv 6) pe_int) (pa_cons (pe_op op_add pe_int (pe_op op_modN (pv 6) pe_int)) pa_nil))) pa_nil)))))
      (pss_cons (ps_if (pt_cmpR op_eq (kfn (K := K) O__law_take T.g__law_take (hr.mono (by decide)) (pa_cons (pv 0) (pa_cons pe_int pa_nil))) pe_int (nomark _))
        (pss_one (ps_setLc (i := 2) (own := [("_law_k", 6)]) (g := gName 6) (tt := tYes) rfl sc__law_at_bound.nd rfl rfl (sw_true rfl rfl rfl (by decide +kernel)) (pi_range1 (by rfl) T.f_range (pa_cons pe_int pa_nil)) (blkOk_by (by kernel_rfl)) (fun _ _ _ _ _ => (pg_name (i := 6) sc__law_at_bound.nd rfl (by first | exact Or.inl rfl | exact Or.inr rfl))) (fun _ _ _ _ _ => pts_nil) (fun _ _ _ _ _ => (pe_tup (pa_cons (pe_ix (kixL (K := K)) (pv 1) (pe_op op_modN (pv 6) (pe_callB (klen (K := K)) (by rfl) T.f_len PySem.boot_len (pa_cons (pv 1) pa_nil))) (fun _ _ => rfl)) (pa_cons (pe_op op_add (pv 6) pe_int) pa_nil))))))
        pss_nil)
      (pss_cons (ps_set (i := 3) sc__law_at_bound.nd rfl (by first | exact Or.inl rfl | exact Or.inr rfl) (kmk (K := K) O_Garden_init T.k_Garden T.g_Garden (hr.mono (by decide)) (pa_cons (kmk (K := K) O_Document_init T.k_Document T.g_Document (hr.mono (by decide)) (pa_cons (pv 2) pa_nil)) pa_nil)))
      (pss_cons (ps_set (i := 4) sc__law_at_bound.nd rfl (by first | exact Or.inl rfl | exact Or.inr rfl) (pe_lst pa_nil))
      (pss_cons (ps_if (pt_not (pt_val (kfn (K := K) O__law_kept T.g__law_kept (hr.mono (by decide)) (pa_cons (pv 3) (pa_cons (pv 0) (pa_cons (pv 1) (pa_cons (pv 4) pa_nil)))))))
        (pss_one (ps_ret pe_bl))
        pss_nil)
      (pss_cons (ps_set (i := 5) sc__law_at_bound.nd rfl (by first | exact Or.inl rfl | exact Or.inr rfl) pe_bl)
      (pss_cons (ps_try_two (tb := fun W => tDrop (tMethS (He.ga K "Garden") "put" (spX_put K) (WE W) (tVar 3) (tCons (tOp (rI0 fun i j => V.int (i - j)) (tCB (rLenQ K) (tCons (tVar 2) tNil)) (tC (.int 1))) (tCons (tC (.int 0)) (tCons (tOp (rIxL K) (tVar 1) (tC (.int 0))) tNil)))))
        (ts := fun _ _ _ => tAsg (tC (.bl true)) (gName 5)) (Wout := fun _ _ _ _ => False) rfl rfl ⟨rfl, by decide, .inl T.g_TooMany⟩ ⟨rfl, by decide, .inl T.g_TooDeep⟩ rfl rfl
        (fun W pn xe tk po => pss_one (ps_expr (pe_methS (pv 3) T.c_Garden T.m_Garden_put F1 (hr.mono (by decide)) b1 (fun σ => passAt tk σ) (pa_cons (pe_op op_sub (pe_callB (klen (K := K)) (by rfl) T.f_len PySem.boot_len (pa_cons (pv 2) pa_nil)) pe_int) (pa_cons pe_int (pa_cons (pe_ix (kixL (K := K)) (pv 1) pe_int (fun _ _ => rfl)) pa_nil))))))
        (fun a oe cls dd pn hz hv => pss_one (ps_set (i := 5) sc__law_at_bound.nd rfl (by first | exact Or.inl rfl | exact Or.inr rfl) pe_bl)))
      (pss_one (ps_ret (pe_and (pv 5) (pe_and (kfn (K := K) O__law_right T.g__law_right (hr.mono (by decide)) (pa_cons (pv 3) (pa_cons (pv 4) (pa_cons pe_int pa_nil)))) (pe_one (pe_cmpR (keqE (K := K) hr.units) (kme (K := K) (pv 3) O_Garden_looked T.c_Garden T.m_Garden_looked (hr.mono (by decide)) (pa_cons pe_int pa_nil)) (pe_lst pa_nil) (nomark _)))))))))))))), ?_⟩
    have hla := hid_sub _ _ LA.at_
    have lane : la ≠ s := fun z => by
      obtain ⟨_, _, _, e⟩ := hs
      rw [z, e] at hla; cases hla
    have hll : 1 ≤ ls.length := by
      have := LA.ne
      cases ls with
      | nil => exact absurd rfl this
      | cons _ _ => simp
    have hgm : ∀ k, ls.getD (k % ls.length) "" ∈ ls := fun k => by
      have : k % ls.length < ls.length := Nat.mod_lt _ hll
      rw [List.getD_eq_getElem?_getD, List.getElem?_eq_getElem this]
      exact List.getElem_mem this
    have hix : ∀ n : Nat, atI (ls.map V.str) ((n : Int).fmod (((ls.map V.str).length : Nat) : Int)) = some (.str (ls.getD (n % ls.length) "")) := fun n => by
      have hm : n % ls.length < ls.length := Nat.mod_lt _ hll
      have efm : (n : Int).fmod (((ls.map V.str).length : Nat) : Int) = ((n % ls.length : Nat) : Int) := by
        rw [List.length_map, Int.fmod_eq_emod_of_nonneg _ (by omega)]; exact (Int.natCast_emod n ls.length).symm
      rw [efm]
      refine atI_nat ?_
      rw [List.getElem?_map, List.getD_eq_getElem?_getD, List.getElem?_eq_getElem hm]; rfl
    dsimp only [gName]
    refine seq_by (fun σ H' => ∃ (rl : Addr) (ts : List Addr) (rows : List DRow), σ = [some (.ref s), some (.ref la), some (.ref rl), none, none, none, none] ∧ Drawn s H H' ∧ RowsL (hid ow H') rl ts rows ∧ rows.length = 240) (fun Dn hn => ?_) ?_
    · refine ⟨240, rfl, by omega, by omega, fun D nD => ?_⟩
      refine lc_each walk_range ((List.range 240).map fun k => ((ls.getD (k % ls.length) "", min (k + 1) (2 + k % 3)) : DRow)) (fun H1 t r => H t = none ∧ H1 t = some (.tup [.str r.1, .int r.2])) nD (fun _ _ _ _ s h => ⟨h.1, s _ _ h.2⟩) (fun H t r acc acc' e h => ⟨h.1, by rw [upd_ne (fun z => by rw [z, e] at h; cases h.2)]; exact h.2⟩) (by rw [List.length_map, List.length_range]; rfl) (by decide) (fun _ _ => trivial) ?_ ?_
      · rintro n r v H6 H7 N hr _ s6 ⟨rfl, ev⟩ ky
        have hn := (List.getElem?_eq_some_iff.mp hr).1
        rw [List.length_map, List.length_range] at hn
        obtain rfl : ((ls.getD (n % ls.length) "", min (n + 1) (2 + n % 3)) : DRow) = r := by
          rw [List.getElem?_map, List.getElem?_range hn] at hr; exact Option.some.inj hr
        obtain rfl : v = V.int (n : Int) := by
          rw [ev]
          show V.int ((0 : Int) + (n : Nat)) = _
          congr 1; omega
        have em : (if (2 : Int) + (n : Int).fmod 3 < (n : Int) + 1 then (2 : Int) + (n : Int).fmod 3 else (n : Int) + 1) = ((min (n + 1) (2 + n % 3) : Nat) : Int) := by
          rw [Int.fmod_eq_emod_of_nonneg _ (by omega)]
          split <;> omega
        refine ⟨rfl, _, rfl, _, rfl, _, rfl, la, _, rfl, .inl (SqL.of (s6 _ _ hla)), _, _, rfl, rfl, by rw [List.length_map]; omega, la, _, _, _, rfl, rfl, SqL.of (s6 _ _ hla), hix n, ?_⟩
        refine ⟨_, rfl, _, 1, rfl, rfl, ?_⟩
        refine ⟨_, rfl, _, 3, rfl, rfl, by omega, ?_⟩
        refine ⟨2, _, rfl, rfl, ?_⟩
        refine ⟨_, _, rfl, ?_⟩
        rw [em]
        exact ⟨by show 2 ≤ sizeLine; decide, fun p np => ky p _ (Same.up np) ⟨s6.free np, upd_same⟩⟩
      · intro H6 ts s6 e6 E6
        refine hn _ _ ⟨D, ts, _, rfl, Drawn.same hs s6, ⟨hid_some.mpr ⟨O.new nD, e6⟩, ⟨E6.len, fun i t r h1 h2 => hid_some.mpr ⟨O.new (E6.at_ i t r h1 h2).1, (E6.at_ i t r h1 h2).2⟩⟩, gen_rows ls 240 (by omega) (by omega) (fun k => min (k + 1) (2 + k % 3)) rfl (fun k => by omega) (fun k _ => by omega) LA.ok (fun k => ls.getD (k % ls.length) "") hgm⟩, by rw [List.length_map, List.length_range]⟩
    rintro σ H1 ⟨rl0, ts0, rows0, rfl, dr1, RL0, l240⟩
    refine seq_by (fun σ H' => ∃ (rl : Addr) (ts : List Addr) (rows : List DRow), σ = [some (.ref s), some (.ref la), some (.ref rl), none, none, none, none] ∧ Drawn s H H' ∧ RowsL (hid ow H') rl ts rows ∧ (rows.length = 240 ∨ ∃ g : Nat → Str, rows = (List.range 80).map fun k => (g k, k + 1))) (fun Dn hn => ?_) ?_
    · refine ⟨_, rfl, s, 2, rfl, dr1.src, by omega, by omega, fun r H5 u0 u1 d5 => ⟨rfl, ?_⟩⟩
      have dr5 := dr1.trans d5
      have O1 := (drawn_step O os dr1).own
      have O5 := (drawn_step O os dr5).own
      by_cases hz : r = 0
      · refine ⟨true, bt (by rw [hz]), 80, rfl, by omega, by omega, fun D nD => ?_⟩
        have nD3 := dr5.free nD
        have hla5 := dr5.fr _ _ lane hla
        refine lc_each walk_range ((List.range 80).map fun k => ((ls.getD (k % ls.length) "", k + 1) : DRow)) (fun H1 t r => H t = none ∧ H1 t = some (.tup [.str r.1, .int r.2])) nD (fun _ _ _ _ s h => ⟨h.1, s _ _ h.2⟩) (fun H t r acc acc' e h => ⟨h.1, by rw [upd_ne (fun z => by rw [z, e] at h; cases h.2)]; exact h.2⟩) (by rw [List.length_map, List.length_range]; rfl) (by decide) (fun _ _ => trivial) ?_ ?_
        · rintro n r v H6 H7 N hr _ s6 ⟨rfl, ev⟩ ky
          have hn := (List.getElem?_eq_some_iff.mp hr).1
          rw [List.length_map, List.length_range] at hn
          obtain rfl : ((ls.getD (n % ls.length) "", n + 1) : DRow) = r := by
            rw [List.getElem?_map, List.getElem?_range hn] at hr; exact Option.some.inj hr
          obtain rfl : v = V.int (n : Int) := by
            rw [ev]
            show V.int ((0 : Int) + (n : Nat)) = _
            congr 1; omega
          refine ⟨rfl, _, rfl, _, rfl, _, rfl, la, _, rfl, .inl (SqL.of (s6 _ _ hla5)), _, _, rfl, rfl, by rw [List.length_map]; omega, la, _, _, _, rfl, rfl, SqL.of (s6 _ _ hla5), hix n, _, rfl, _, 1, rfl, rfl, by show 2 ≤ sizeLine; decide, fun p np => ky p _ (Same.up np) ⟨dr5.free (s6.free np), ?_⟩⟩
          exact upd_same
        · intro H6 ts s6 e6 E6
          have dr6 := dr5.trans (Drawn.same dr5.src s6)
          exact hn _ _ ⟨D, ts, _, rfl, dr6, ⟨hid_some.mpr ⟨O.new nD3, e6⟩, ⟨E6.len, fun i t r h1 h2 => hid_some.mpr ⟨O.new (E6.at_ i t r h1 h2).1, (E6.at_ i t r h1 h2).2⟩⟩, chain_rows ls 80 (by omega) (by omega) LA.ok (fun k => ls.getD (k % ls.length) "") hgm⟩, .inr ⟨_, rfl⟩⟩
      · exact ⟨false, bf (fun z => hz (V.int.inj z)), hn _ _ ⟨rl0, ts0, rows0, rfl, dr5, RL0.same ((drawn_step O1 os d5).hid (by simp)), .inl l240⟩⟩
    rintro σ H5 ⟨rl, ts, rows, rfl, dr5, RL, hrow⟩
    clear l240 RL0 ts0 rows0 rl0 dr1 H1 hla
    have S5 := drawn_step O os dr5
    have LA5 := LA.same (S5.hid (by simp))
    have O5 := S5.own
    have hs5 := dr5.src
    clear LA O hs S5 dr5
    -- the document and its garden
    have hV := RL.ok.v
    obtain ⟨ll, kf, hrows⟩ := parse (rows := rows) hV
    refine ⟨_, rfl, fun dd ddx ndd nddx nde => ⟨dd, ddx, rl, ts, rows, hid ow H5, H5, rfl, upd_same, (Same.up nddx).new (by rw [upd_ne nde.symm]; exact ndd), ndd, hid_sub, RL.at_, RL.tup, RL.ok, fun H6 s6 DX => ⟨rfl, ?_⟩⟩⟩
    have D6 : DocAt K (hid ow H6) dd rows := DX.same (ext_hid O5 s6)
    have O6 : Own H6 ow := fun b z => alive_of_same s6 b (O5 b z)
    have RL6 := RL.same (hid_same s6)
    have LA6 := LA5.same (hid_same s6)
    have hs6 : SrcAt H6 s := by obtain ⟨n, y, t, e⟩ := hs5; exact ⟨n, y, t, s6 _ _ e⟩
    have hlen : (num 0 (Fo.cons ll kf .nil)).size = rows.length := by rw [num_size, ← Fo.rows_length _ 1, ← hrows]
    have hdep : (num 0 (Fo.cons ll kf .nil)).dep 1 = rows.map (·.2) := by rw [num_dep, ← Fo.rows_snd, ← hrows]
    have hpos : 1 ≤ rows.length := by rcases hrow with h | ⟨g, rfl⟩ <;> simp at * <;> omega
    obtain ⟨x, wy, hx, hxm, hwy, hful⟩ : ∃ (x : Nd Str) (wy : List Int), x ∈ nodes none (num 0 (Fo.cons ll kf .nil)) ∧ x.m = ((rows.length : Nat) : Int) - 1 ∧ Way (nodes none (num 0 (Fo.cons ll kf .nil))) x.m wy ∧ ((num 0 (Fo.cons ll kf .nil)).size = 240 ∨ ((num 0 (Fo.cons ll kf .nil)).size < 240 ∧ wy.length = 80)) := by
      obtain ⟨x, h1, h2, h3, _⟩ := node_of (f := num 0 (Fo.cons ll kf .nil)) (p := rows.length - 1) (by omega)
      have hd : ((num 0 (Fo.cons ll kf .nil)).dep 1)[rows.length - 1]? = some (rows[rows.length - 1]'(by omega)).2 := by
        rw [hdep, List.getElem?_map, List.getElem?_eq_getElem (by omega)]; rfl
      obtain ⟨wy, hw1, hw2⟩ := way_ex (num 0 (Fo.cons ll kf .nil)) none 1 (fun u z => by cases z) (fun _ => rfl) (fun y hy => hy) _ x _ h1 hd
      refine ⟨x, wy, h2, ?_, hw1, ?_⟩
      · rw [num_marks, List.getElem?_map, List.getElem?_range' (by rw [num_size] at hlen; omega)] at h3
        have := Option.some.inj h3
        rw [← this]; show ((0 + 1 * (rows.length - 1) : Nat) : Int) = _; omega
      · rcases hrow with h | ⟨g, hg⟩
        · exact .inl (hlen.trans h)
        · refine .inr ⟨by rw [hlen, hg, List.length_map, List.length_range]; omega, hw2.trans ?_⟩
          subst hg
          simp
    have D6' := D6
    rw [hrows] at D6'
    refine fun g0 gx0 ng0 ngx0 nge0 => ⟨g0, gx0, dd, Fo.cons ll kf .nil, H6, ow, 4, rfl, upd_same, (Same.up ngx0).new (by rw [upd_ne nge0.symm]; exact ng0), ng0, D6'.same hid_sub, ⟨ll, kf, rfl⟩, O6, fun H7 ow7 G S7 eG GA0 => ⟨rfl, ?_⟩⟩
    have RL7 := RL6.same (S7.hid id)
    have LA7 := LA6.same (S7.hid id)
    have hs7 := src_step hs6 os S7 id
    subst eG
    clear RL LA5 O5 hs5 RL6 LA6 hs6 D6 D6' O6 DX
    -- kept
    refine ⟨by decide, fun k0 nk0 => ?_⟩
    have T1 := Step.new (C := fun _ => False) (o := .lst []) S7.own nk0 (.kq 4)
    have GA1 := GA0.step T1 id (fun _ z => z.elim)
    have RL8 := RL7.same (T1.hid id)
    have LA8 := LA7.same (T1.hid id)
    have hs8 := src_step hs7.1 hs7.2 T1 id
    have es0 : Each (fun a (k : Qs Str × Bool) => QAt K (hid (owp ow7 k0 (.kq 4)) (upd H7 k0 (.lst []))) a k.1) [] [] := ⟨rfl, fun _ _ _ h => by cases h⟩
    have ek0 : upd H7 k0 (.lst []) k0 = some (.lst []) := upd_same
    have ok0 : owp ow7 k0 (.kq 4) k0 = .kq 4 := owp_same
    dsimp only [gName]
    refine seq_by (fun σ H' => ∃ (ow' : Ow) (G4 : GAd) (qa : Addr) (q : Qs Str) (coming : Int), G4.g = G.g ∧ σ = [some (.ref s), some (.ref la), some (.ref rl), some (.ref G.g), some (.ref k0), none, none] ∧ GardenAt K H' ow' 4 G4 (num 0 (Fo.cons ll kf .nil)) coming [(q, true)] ∧ H' k0 = some (.lst [.ref qa]) ∧ ow' k0 = .kq 4 ∧ QAt K (hid ow' H') qa q ∧ LabsAt (hid ow' H') la ls ∧ RowsL (hid ow' H') rl ts rows ∧ Own H' ow') (fun Dn hn => ?_) ?_
    · refine ⟨_, rfl, _, rfl, _, rfl, _, rfl, owp ow7 k0 (.kq 4), 4, G, _, _, [], s, la, k0, ls, [], rfl, GA1, hs8.1, hs8.2, LA8, ek0, ok0, es0, by decide, fun H4 ow4 G4 qa q S4 eg GA4 ekl4 QA4 hs4 => ⟨true, rfl, hn _ _ ⟨ow4, G4, qa, q, _, eg, rfl, GA4, ekl4, (S4.keep _ (some_ne ek0)).trans ok0, QA4, LA8.same (S4.hid kc_out), RL8.same (S4.hid kc_out), S4.own⟩⟩⟩
    rintro σ H8 ⟨ow8, G8, qa, q, coming, eG, rfl, GA8, ek8, ok8, QA8, LA8', RL8', O8⟩
    clear RL7 LA7 hs7 T1 GA1 RL8 LA8 hs8 es0 ek0 ok0 GA0
    rw [← eG]
    have lab0 : IsLab (ls.getD 0 "") := LA8'.ok _ (by have := hgm 0; rwa [Nat.zero_mod] at this)
    have at0 : atI (ls.map V.str) 0 = some (.str (ls.getD 0 "")) := by
      refine atI_nat (j := 0) ?_
      cases hl : ls with
      | nil => rw [hl] at hll; simp at hll
      | cons _ _ => rfl
    refine ⟨_, rfl, G8.g, _, _, rfl, GA8.b.obj, fs_Garden_no_put, ?_⟩
    refine ⟨_, rfl, rl, _, rfl, .inl (SqL.of (hid_sub _ _ RL8'.at_)), _, 1, rfl, rfl, _, rfl, la, _, _, _, rfl, rfl, SqL.of (hid_sub _ _ LA8'.at_), at0, ?_⟩
    refine ⟨ow8, 4, G8, num 0 (Fo.cons ll kf .nil), coming, x, 0, ls.getD 0 "", wy, by rw [hxm, List.length_map, ← RL8'.tup.len]; rfl, GA8.b, hx, Nat.zero_le _, lab0, hwy, hful, fun H9 C d hC s9 => ⟨?_, fun ae nae => ?_⟩⟩
    · rcases hC with rfl | rfl
      · exact exm_TM T
      · exact exm_TD T
    have GA9 := GA8.same s9
    have EQ9 : Each (fun a (k : Qs Str × Bool) => QAt K H9 a k.1) [qa] [(q, true)] := ⟨rfl, fun i a k h1 h2 => by
      cases i with
      | zero => cases h1; cases h2; exact (QA8.same hid_sub).same s9
      | succ i => cases h1⟩
    refine ⟨_, rfl, true, rfl, _, by rw [eG]; rfl, _, rfl, ow8, 4, G8, num 0 (Fo.cons ll kf .nil), coming, [(q, true)], k0, [qa], 0, rfl, GA9, s9 _ _ ek8, EQ9, Nat.one_pos, fun H10 s10 => ⟨true, rfl, ?_⟩⟩
    have GA10 := GA9.same s10
    refine ⟨_, by rw [eG]; rfl, mt_Garden_looked GA10.b.obj ⟨ow8, 4, G8, num 0 (Fo.cons ll kf .nil), coming, [(q, true)], 0, q, rfl, GA10, rfl, fun H11 l s11 nl el => ?_⟩⟩
    exact ⟨by decide, fun p np => ⟨l, p, [], rfl, rfl, ne_of_none el np, SqL.of (xs := []) (upd_at np el), SqL.of (xs := []) upd_same, k _⟩⟩
end
end Bg

set_option Elab.async false
set_option linter.all false
set_option maxRecDepth 100000
set_option maxHeartbeats 4000000
namespace Bg
open PySem PySem.Spec PyProof.Rows L2
section
variable {P : Program} {w : World} {K : PySem.W.Frag} {mg : Str → Option Value} {base : Heap}
theorem sc_Straight_way : FnScope ["self"] ["self"] (defScope s_Straight_way) := ⟨rfl, rfl, rfl, by decide +kernel, rfl, by decide +kernel, by decide +kernel⟩
theorem sc_Anywhere_way : FnScope ["self"] ["self"] (defScope s_Anywhere_way) := ⟨rfl, rfl, rfl, by decide +kernel, rfl, by decide +kernel, by decide +kernel⟩
theorem ok_Straight_way (T : Tx K mg) : Ok P w K mg base 1 at_Straight_way ["self"] (spWay "/") := by
  refine mkOk T.d_Straight_way sc_Straight_way (fun _ _ _ _ _ _ us hl => match us, hl with | [_], _ => rfl) (fun vs H Q E h => ?_) (fun cdv A outer s H vs Q E hr h => ?_)
  · obtain ⟨a, rfl, _⟩ := h; rfl
  · obtain ⟨a, rfl, k⟩ := h
    exact ⟨_, pss_one (ps_ret pe_str), k⟩
theorem ok_Anywhere_way (T : Tx K mg) : Ok P w K mg base 1 at_Anywhere_way ["self"] (spWay "//") := by
  refine mkOk T.d_Anywhere_way sc_Anywhere_way (fun _ _ _ _ _ _ us hl => match us, hl with | [_], _ => rfl) (fun vs H Q E h => ?_) (fun cdv A outer s H vs Q E hr h => ?_)
  · obtain ⟨a, rfl, _⟩ := h; rfl
  · obtain ⟨a, rfl, k⟩ := h
    exact ⟨_, pss_one (ps_ret pe_str), k⟩
end
theorem law_all {P : Program} {w : World} {K : PySem.W.Frag} {mg : Str → Option Value} {base : Heap} (T : Tx K mg) : ∀ fd, FunD K "law" "law" (defArgs s_law) (defBody s_law) (defScope s_law) [] [] (He.fAd K at_law) fd → FnOk P w K mg base CX0 12 (He.fAd K at_law) fd ["_law_script"] (sp_law K) := by
  have O_ends_by := ok_ends_by (P := P) (w := w) (base := base) T
  have O_is_label := ok_is_label (P := P) (w := w) (base := base) T
  have O_is_whole := ok_is_whole (P := P) (w := w) (base := base) T
  have O_is_within := ok_is_within (P := P) (w := w) (base := base) T O_is_whole
  have O_is_part_row := ok_is_part_row (P := P) (w := w) (base := base) T O_is_label O_is_within
  have O_uppers_by := ok_uppers_by (P := P) (w := w) (base := base) T
  have O_Document_init := ok_Document_init (P := P) (w := w) (base := base) T O_ends_by O_is_part_row O_uppers_by
  have O_Document_rows := ok_Document_rows (P := P) (w := w) (base := base) T
  have O_Document_need_part := ok_Document_need_part (P := P) (w := w) (base := base) T O_is_within
  have O_Document_label_of := ok_Document_label_of (P := P) (w := w) (base := base) T O_Document_need_part
  have O_Document_many := ok_Document_many (P := P) (w := w) (base := base) T
  have O_Document_upper_of := ok_Document_upper_of (P := P) (w := w) (base := base) T O_Document_need_part
  have O_Plant_init := ok_Plant_init (P := P) (w := w) (base := base) T
  have O_Garden_init := ok_Garden_init (P := P) (w := w) (base := base) T O_Document_label_of O_Document_many O_Document_upper_of O_Plant_init
  have O_Garden_beneath_too := ok_Garden_beneath_too (P := P) (w := w) (base := base) T
  have O_Garden_marks := ok_Garden_marks (P := P) (w := w) (base := base) T O_Garden_beneath_too
  have O_Garden_way_up := ok_Garden_way_up (P := P) (w := w) (base := base) T
  have O_Garden_document := ok_Garden_document (P := P) (w := w) (base := base) T O_Document_init O_Garden_marks O_Garden_way_up
  have O_Garden_keeping_at := ok_Garden_keeping_at (P := P) (w := w) (base := base) T O_is_whole
  have O_Garden_answer := ok_Garden_answer (P := P) (w := w) (base := base) T O_Garden_keeping_at O_Garden_marks
  have O_Anywhere_way := ok_Anywhere_way (P := P) (w := w) (base := base) T
  have O_Question_many := ok_Question_many (P := P) (w := w) (base := base) T
  have O_Question_need_step := ok_Question_need_step (P := P) (w := w) (base := base) T O_is_within
  have O_Question_step_at := ok_Question_step_at (P := P) (w := w) (base := base) T O_Question_need_step
  have O_Question_upper_of := ok_Question_upper_of (P := P) (w := w) (base := base) T O_Question_need_step
  have O_Question_wanted := ok_Question_wanted (P := P) (w := w) (base := base) T
  have O_Straight_way := ok_Straight_way (P := P) (w := w) (base := base) T
  have O_Keeping_init := ok_Keeping_init (P := P) (w := w) (base := base) T O_Anywhere_way O_Question_many O_Question_step_at O_Question_upper_of O_Question_wanted O_Straight_way
  have O_Keeping_stands := ok_Keeping_stands (P := P) (w := w) (base := base) T
  have O_Keeping_look_down := ok_Keeping_look_down (P := P) (w := w) (base := base) T O_Keeping_stands
  have O_Keeping_look_up := ok_Keeping_look_up (P := P) (w := w) (base := base) T
  have O_Garden_keep := ok_Garden_keep (P := P) (w := w) (base := base) T O_Garden_marks O_Keeping_init O_Keeping_look_down O_Keeping_look_up
  have O_Garden_tables := ok_Garden_tables (P := P) (w := w) (base := base) T O_Garden_keeping_at O_Garden_marks
  have O_Document_parts_of := ok_Document_parts_of (P := P) (w := w) (base := base) T
  have O_Question_lowers_of := ok_Question_lowers_of (P := P) (w := w) (base := base) T O_Question_need_step
  have O_with_beneath := ok_with_beneath (P := P) (w := w) (base := base) T O_Document_upper_of
  have O_down_row := ok_down_row (P := P) (w := w) (base := base) T O_Anywhere_way O_Document_parts_of O_Question_lowers_of O_Question_step_at O_Straight_way O_with_beneath
  have O_down_table := ok_down_table (P := P) (w := w) (base := base) T O_Question_many O_down_row
  have O_Document_end_of := ok_Document_end_of (P := P) (w := w) (base := base) T O_Document_need_part
  have O_Document_lowers_of := ok_Document_lowers_of (P := P) (w := w) (base := base) T O_Document_need_part
  have O_with_above := ok_with_above (P := P) (w := w) (base := base) T O_Document_end_of O_Document_lowers_of
  have O_full_row := ok_full_row (P := P) (w := w) (base := base) T O_Anywhere_way O_Question_step_at O_Question_upper_of O_Straight_way O_with_above
  have O_full_table := ok_full_table (P := P) (w := w) (base := base) T O_Question_many O_down_table O_full_row
  have O_run_slow := ok_run_slow (P := P) (w := w) (base := base) T O_Question_wanted O_full_table
  have O__law_right := ok__law_right (P := P) (w := w) (base := base) T O_Garden_answer O_Garden_document O_Garden_marks O_Garden_tables O_down_table O_full_table O_run_slow
  have O__law_anew := ok__law_anew (P := P) (w := w) (base := base) T O_Garden_init O_Garden_answer O_Garden_document O_Garden_keep O_Garden_marks O__law_right
  have O_Garden_looked := ok_Garden_looked (P := P) (w := w) (base := base) T O_Garden_keeping_at O_Garden_marks
  have O_is_step_row := ok_is_step_row (P := P) (w := w) (base := base) T O_is_label O_is_within
  have O_Anywhere_init := ok_Anywhere_init (P := P) (w := w) (base := base) T
  have O_Straight_init := ok_Straight_init (P := P) (w := w) (base := base) T
  have O_step_of := ok_step_of (P := P) (w := w) (base := base) T O_Anywhere_init O_Straight_init
  have O_Question_init := ok_Question_init (P := P) (w := w) (base := base) T O_ends_by O_is_step_row O_is_within O_step_of O_uppers_by
  have O__law_take := ok__law_take (P := P) (w := w) (base := base) T
  have O__law_depth := ok__law_depth (P := P) (w := w) (base := base) T O__law_take
  have O__law_rows := ok__law_rows (P := P) (w := w) (base := base) T O__law_depth O__law_take
  have O__law_steps := ok__law_steps (P := P) (w := w) (base := base) T O__law_rows O__law_take
  have O__law_question := ok__law_question (P := P) (w := w) (base := base) T O_Question_init O__law_steps O__law_take
  have O__law_kept := ok__law_kept (P := P) (w := w) (base := base) T O_Garden_keep O__law_question O__law_take
  have O_Keeping_mend := ok_Keeping_mend (P := P) (w := w) (base := base) T O_Keeping_look_down O_Keeping_look_up
  have O_Garden_mend_all := ok_Garden_mend_all (P := P) (w := w) (base := base) T O_Garden_way_up O_Keeping_mend
  have O_Garden_need_part := ok_Garden_need_part (P := P) (w := w) (base := base) T O_is_whole
  have O_TooMany_init := ok_TooMany_init (P := P) (w := w) (base := base) T
  have O_TooDeep_init := ok_TooDeep_init (P := P) (w := w) (base := base) T
  have OX := okX_put (P := P) (w := w) (base := base) T O_Garden_mend_all O_Garden_need_part O_Garden_way_up O_Plant_init O_is_label O_is_whole O_TooMany_init O_TooDeep_init
  have O__law_at_bound := ok__law_at_bound (P := P) (w := w) (base := base) T O_Document_init O_Garden_init O_Garden_looked O__law_kept O__law_right O__law_take OX
  have O__law_cell_at := ok__law_cell_at (P := P) (w := w) (base := base) T
  have O_Document_depth_of := ok_Document_depth_of (P := P) (w := w) (base := base) T O_Document_need_part
  have O_Garden_name := ok_Garden_name (P := P) (w := w) (base := base) T O_Garden_mend_all O_Garden_need_part O_is_label
  have O_Garden_put := ok_Garden_put (P := P) (w := w) (base := base) T O_Garden_mend_all O_Garden_need_part O_Garden_way_up O_Plant_init O_is_label O_is_whole
  have O_Keeping_forget := ok_Keeping_forget (P := P) (w := w) (base := base) T
  have O_Garden_take := ok_Garden_take (P := P) (w := w) (base := base) T O_Garden_beneath_too O_Garden_mend_all O_Garden_need_part O_Keeping_forget
  have O__law_deed := ok__law_deed (P := P) (w := w) (base := base) T O_Document_depth_of O_Document_end_of O_Document_lowers_of O_Garden_document O_Garden_marks O_Garden_name O_Garden_put O_Garden_take O__law_take
  have O__law_labels := ok__law_labels (P := P) (w := w) (base := base) T O__law_take
  have O__law_source := ok__law_source (P := P) (w := w) (base := base) T
  have O_law := ok_law (P := P) (w := w) (base := base) T O_Document_init O_Document_rows O_Garden_init O_Garden_document O__law_anew O__law_at_bound O__law_cell_at O__law_deed O__law_kept O__law_labels O__law_right O__law_rows O__law_source O__law_take
  exact O_law
end Bg

set_option Elab.async false
set_option linter.all false
set_option maxRecDepth 100000
set_option maxHeartbeats 0
namespace Bg
open PySem PySem.Spec PyProof.Rows L2
theorem facts {P : Program} {w : World} {K : PySem.W.Frag} {h : Heap} {mg : Str → Option Value} {f : Addr} (X : K.In h) (G : h.Ns mainGlobals mg) (hfa : mg ("law" : Str) = some (.ref f)) (c : He.SaysD fa fn K) (ex : exB K = true) :
    ∃ fd : FuncData, (∀ (s : Shared) (v : Value), BindsTo s fd ⟨[v], []⟩ [(("_law_script" : PySem.Str), v)]) ∧ ∀ base : Heap, K.In base → base.Ns mainGlobals mg → FnOk P w K mg base CX0 12 f fd [("_law_script" : PySem.Str)] (sp_law K) := by
  have T : Tx K mg := ⟨c, ex, h, X, G⟩
  have e := hfa.symm.trans (T.g_law)
  cases e
  obtain ⟨fd, F⟩ := T.d_law
  have b := FunD.bindsA (ps := [("_law_script" : PySem.Str)]) F fun _ _ _ _ _ _ us hl => match us, hl with | [_], _ => rfl
  refine ⟨fd, fun s v => b s [v] rfl, fun base _ _ => ?_⟩
  exact law_all (P := P) (w := w) (base := base) T fd F
end Bg
open PySem PySem.W PySem.Calls PyProof.Rows
theorem PySem.Challenge.cw_boughask_k84_whole_gardens_holds : PySem.Challenge.rw_boughask_k84_whole_gardens.Holds := by
  w_on; o_law
  refine HandSHeadRun.head_any (r := OpenLaw.row PySem.Challenge.rw_boughask_k84_whole_gardens) (q := view (OpenLaw.row PySem.Challenge.rw_boughask_k84_whole_gardens).prog [67]) (H := Bg.hk) (ob := Bg.ob) (M := 12000) (loose := Bg.names) (d := HandSHeadRun.topDef (OpenLaw.row PySem.Challenge.rw_boughask_k84_whole_gardens).prog 67) (kwd := []) Bg.ob_eq
    (by kernel_rfl) (fun s => by kernel_rfl) Bg.run (by kernel_rfl) (by kernel_rfl) (by kernel_rfl) (by rfl) (by first | assumption | decide +kernel) (by decide +kernel) ⟨rfl, rfl, rfl, rfl, rfl, by decide +kernel⟩ ?hw ?hc
  case hw => w_witness2
  case hc =>
    refine L2.walk_ofE (l := PySem.Challenge.rw_boughask_k84_whole_gardens) (n := 63) (k := 12) (x := ("_law_script" : PySem.Str)) (CX := L2.CX0) rfl (by decide) (by kernel_rfl) ⟨rfl, by decide, by decide⟩ ?F (fun _ _ _ _ z => z)
    intro w mg fa h Y G hmg0
    obtain ⟨K, KX, c, ex⟩ := Y
    have hmg : mg ("law" : PySem.Str) = some (.ref fa) := by
      have e : (HandSHeadRun.topDef (OpenLaw.row PySem.Challenge.rw_boughask_k84_whole_gardens).prog 67).name = ("law" : PySem.Str) := by kernel_rfl
      rw [← e]
      exact hmg0
    obtain ⟨fd, hb, hF⟩ := Bg.facts (P := (PySem.Challenge.rw_boughask_k84_whole_gardens).prog) (w := w) KX G hmg c ex
    exact ⟨K, fd, Bg.sp_law K, KX, hb, fun H a ns hl _ hS => ⟨a, ns, rfl, hS, by omega, fun _ => rfl⟩, hF⟩


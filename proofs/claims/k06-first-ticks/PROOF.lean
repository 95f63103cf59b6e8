import PyProof.Rows.All
import Wide.All
import OpenK.AllK
import Wide.FinOn
import HandS.ForMost
import HandS.Nested
import HandS.Set
import HandS.SetFor
import HandS.Strs
import HandS.IsInst
import HandS.TupAny
import HandS.More
import HandS.DictComp
import HandS.Wide
import HandS.Codes
import HandS.TupLe
import HandS.EndTab
import PySem.Challenge.RW_lateedges_k06_whole_first_ticks_apart
set_option Elab.async false
set_option linter.all false
set_option maxRecDepth 100000
set_option maxHeartbeats 4000000
namespace K06
/-! lines in plain Lean: whether ON ahead of all edges, the edges -/
abbrev Line := Bool × List Int
abbrev Asc (es : List Int) : Prop := es.Pairwise (· < ·)
def cnt (es : List Int) (x : Int) : Nat := (es.filter (fun e => decide (e ≤ x))).length
def onL (L : Line) (x : Int) : Bool := L.1 != decide (cnt L.2 x % 2 = 1)

theorem cnt_nil (x : Int) : cnt [] x = 0 := rfl
theorem cnt_cons_le {e : Int} {r : List Int} {x : Int} (h : e ≤ x) : cnt (e :: r) x = cnt r x + 1 := by
  unfold cnt
  rw [List.filter_cons, if_pos (decide_eq_true h), List.length_cons]
theorem cnt_cons_gt {e : Int} {r : List Int} {x : Int} (h : x < e) : cnt (e :: r) x = cnt r x := by
  unfold cnt
  rw [List.filter_cons, if_neg (by rw [decide_eq_true_eq]; omega)]
theorem cnt_zero : ∀ {es : List Int} {x : Int}, (∀ e ∈ es, x < e) → cnt es x = 0
  | [], _, _ => rfl
  | e :: r, x, h => by
    rw [cnt_cons_gt (h e List.mem_cons_self)]
    exact cnt_zero fun z hz => h z (List.mem_cons_of_mem _ hz)
theorem cnt_full : ∀ {es : List Int} {x : Int}, (∀ e ∈ es, e ≤ x) → cnt es x = es.length
  | [], _, _ => rfl
  | e :: r, x, h => by
    rw [cnt_cons_le (h e List.mem_cons_self), List.length_cons, cnt_full fun z hz => h z (List.mem_cons_of_mem _ hz)]
theorem cnt_append (a b : List Int) (x : Int) : cnt (a ++ b) x = cnt a x + cnt b x := by
  unfold cnt
  rw [List.filter_append, List.length_append]
theorem cnt_same : ∀ {es : List Int} {x y : Int}, (∀ e ∈ es, e ≤ x ↔ e ≤ y) → cnt es x = cnt es y
  | [], _, _, _ => rfl
  | e :: r, x, y, h => by
    have ih := cnt_same (es := r) (x := x) (y := y) fun z hz => h z (List.mem_cons_of_mem _ hz)
    have he := h e List.mem_cons_self
    by_cases q : e ≤ x
    · rw [cnt_cons_le q, cnt_cons_le (he.mp q), ih]
    · have q2 : ¬ e ≤ y := fun z => q (he.mpr z)
      rw [cnt_cons_gt (by omega), cnt_cons_gt (by omega), ih]
/-- where a place parts the edges, it is their count -/
theorem cnt_at {es : List Int} {x : Int} {n : Nat} (hn : n ≤ es.length) (h1 : ∀ (k : Nat) (e : Int), k < n → es[k]? = some e → e ≤ x) (h2 : ∀ (k : Nat) (e : Int), n ≤ k → es[k]? = some e → x < e) : cnt es x = n := by
  have e0 : es = es.take n ++ es.drop n := (List.take_append_drop n es).symm
  rw [e0, cnt_append, cnt_full, cnt_zero, List.length_take]
  · omega
  · intro e he
    obtain ⟨i, hi⟩ := List.mem_iff_getElem?.mp he
    rw [List.getElem?_drop] at hi
    exact h2 (n + i) e (Nat.le_add_right _ _) hi
  · intro e he
    obtain ⟨i, hi⟩ := List.mem_iff_getElem?.mp he
    have hlt : i < n := by
      have := (List.getElem?_eq_some_iff.mp hi).1
      rw [List.length_take] at this
      omega
    rw [List.getElem?_take_of_lt hlt] at hi
    exact h1 i e hlt hi

theorem asc_cons {e : Int} {r : List Int} (h : Asc (e :: r)) : (∀ z ∈ r, e < z) ∧ Asc r := List.pairwise_cons.mp h
/-- two ascending lists with the same parities are one -/
theorem edges_uniq : ∀ {es fs : List Int}, Asc es → Asc fs → (∀ x, cnt es x % 2 = cnt fs x % 2) → es = fs
  | [], [], _, _, _ => rfl
  | [], f :: q, _, hf, h => by
    have h1 := h f
    rw [cnt_nil, cnt_cons_le (Int.le_refl f), cnt_zero (asc_cons hf).1] at h1
    omega
  | e :: r, [], he, _, h => by
    have h1 := h e
    rw [cnt_nil, cnt_cons_le (Int.le_refl e), cnt_zero (asc_cons he).1] at h1
    omega
  | e :: r, f :: q, he, hf, h => by
    have a := asc_cons he
    have b := asc_cons hf
    have hef : e = f := by
      by_cases q1 : e < f
      · have h1 := h e
        rw [cnt_cons_le (Int.le_refl e), cnt_zero a.1, cnt_zero (es := f :: q)] at h1
        · omega
        · intro z hz
          rcases List.mem_cons.mp hz with rfl | hz
          · exact q1
          · have := b.1 z hz
            omega
      · by_cases q2 : f < e
        · have h1 := h f
          rw [cnt_cons_le (Int.le_refl f), cnt_zero b.1, cnt_zero (es := e :: r)] at h1
          · omega
          · intro z hz
            rcases List.mem_cons.mp hz with rfl | hz
            · exact q2
            · have := a.1 z hz
              omega
        · omega
    subst hef
    rw [edges_uniq (es := r) (fs := q) a.2 b.2 fun x => ?_]
    have h1 := h x
    by_cases q1 : e ≤ x
    · rw [cnt_cons_le q1, cnt_cons_le q1] at h1
      omega
    · rw [cnt_cons_gt (by omega), cnt_cons_gt (by omega)] at h1
      exact h1

theorem low_ex : ∀ es : List Int, ∃ x : Int, ∀ e ∈ es, x < e
  | [] => ⟨0, fun _ h => by cases h⟩
  | e :: r => by
    obtain ⟨x, h⟩ := low_ex r
    refine ⟨min x (e - 1), fun z hz => ?_⟩
    rcases List.mem_cons.mp hz with rfl | hz
    · omega
    · have := h z hz
      omega
theorem onL_low {L : Line} {x : Int} (h : ∀ e ∈ L.2, x < e) : onL L x = L.1 := by
  unfold onL
  rw [cnt_zero h]
  cases L.1 <;> rfl
theorem bne_inj {a b c : Bool} (h : (a != b) = (a != c)) : b = c := by
  cases a <;> cases b <;> cases c <;> first | rfl | exact absurd h (by decide)
theorem line_uniq {L M : Line} (hl : Asc L.2) (hm : Asc M.2) (h : ∀ x, onL L x = onL M x) : L = M := by
  obtain ⟨x, hx⟩ := low_ex (L.2 ++ M.2)
  have e1 : L.1 = M.1 := by
    have := h x
    rw [onL_low fun e he => hx e (List.mem_append_left _ he), onL_low fun e he => hx e (List.mem_append_right _ he)] at this
    exact this
  have e2 : L.2 = M.2 := edges_uniq hl hm fun x => by
    have q := h x
    unfold onL at q
    rw [e1] at q
    have q2 := bne_inj q
    have q3 := decide_eq_decide.mp q2
    omega
  exact Prod.ext e1 e2

/-! ### joined -/
structure Joins (g : Bool → Bool → Bool) (one other J : Line) : Prop where
  asc : Asc J.2
  first : J.1 = g one.1 other.1
  on : ∀ x, onL J x = g (onL one x) (onL other x)
  sub : ∀ e ∈ J.2, e ∈ one.2 ++ other.2
  len : J.2.length ≤ one.2.length + other.2.length

/-- the loop behind i ticks of ts -/
structure JInv (g : Bool → Bool → Bool) (one other : Line) (ts : List Int) (i : Nat) (es : List Int) (st : Bool) : Prop where
  sub : es.Sublist (ts.take i)
  st_ : st = (g one.1 other.1 != decide (es.length % 2 = 1))
  on : ∀ x, (∀ t ∈ ts.drop i, x < t) → onL (g one.1 other.1, es) x = g (onL one x) (onL other x)

theorem jinv_start {g : Bool → Bool → Bool} {one other : Line} {ts : List Int} (ht : ∀ e, e ∈ ts ↔ e ∈ one.2 ++ other.2) : JInv g one other ts 0 [] (g one.1 other.1) := by
  refine ⟨List.nil_sublist _, by cases g one.1 other.1 <;> rfl, fun x hx => ?_⟩
  rw [List.drop_zero] at hx
  rw [onL_low (L := (g one.1 other.1, [])) (fun e he => by cases he), onL_low fun e he => hx e ((ht e).mpr (List.mem_append_left _ he)), onL_low fun e he => hx e ((ht e).mpr (List.mem_append_right _ he))]

theorem asc_split {ts : List Int} (ha : Asc ts) {i : Nat} {t : Int} (hi : ts[i]? = some t) : (∀ e ∈ ts.take i, e < t) ∧ (∀ e ∈ ts.drop (i + 1), t < e) := by
  have hlt := (List.getElem?_eq_some_iff.mp hi).1
  have e0 : ts = ts.take i ++ (t :: ts.drop (i + 1)) := by
    have h1 := (List.take_append_drop i ts).symm
    rw [List.drop_eq_getElem_cons hlt] at h1
    have h2 := (List.getElem?_eq_some_iff.mp hi).2
    rw [h2] at h1
    exact h1
  have hb : Asc (ts.take i ++ (t :: ts.drop (i + 1))) := by rw [← e0]; exact ha
  have h2 := List.pairwise_append.mp hb
  exact ⟨fun e he => h2.2.2 e he t List.mem_cons_self, (asc_cons h2.2.1).1⟩

theorem jinv_step {g : Bool → Bool → Bool} {one other : Line} {ts : List Int} (ha : Asc ts) (ht : ∀ e, e ∈ ts ↔ e ∈ one.2 ++ other.2) {i : Nat} {t : Int} {es : List Int} {st : Bool} (hi : ts[i]? = some t) (J : JInv g one other ts i es st) :
    (g (onL one t) (onL other t) ≠ st → JInv g one other ts (i + 1) (es ++ [t]) (g (onL one t) (onL other t))) ∧ (g (onL one t) (onL other t) = st → JInv g one other ts (i + 1) es st) := by
  obtain ⟨hlo, hhi⟩ := asc_split ha hi
  have hlt := (List.getElem?_eq_some_iff.mp hi).1
  have htk : ts.take (i + 1) = ts.take i ++ [t] := by rw [List.take_add_one, hi]; rfl
  have cases3 : ∀ e ∈ ts, e ≤ t ∨ e ∈ ts.drop (i + 1) := fun e he => by
    rw [← List.take_append_drop (i + 1) ts] at he
    rcases List.mem_append.mp he with z | z
    · rw [htk] at z
      rcases List.mem_append.mp z with z | z
      · exact .inl (Int.le_of_lt (hlo e z))
      · exact .inl (Int.le_of_eq (List.mem_singleton.mp z))
    · exact .inr z
  have hdrop : ∀ x, x < t → (∀ u ∈ ts.drop (i + 1), x < u) → ∀ u ∈ ts.drop i, x < u := fun x hx h u hu => by
    rw [List.drop_eq_getElem_cons hlt] at hu
    rcases List.mem_cons.mp hu with z | z
    · rw [z, (List.getElem?_eq_some_iff.mp hi).2]; exact hx
    · exact h u z
  have same : ∀ (L : Line), (∀ e ∈ L.2, e ∈ ts) → ∀ x, t ≤ x → (∀ u ∈ ts.drop (i + 1), x < u) → onL L x = onL L t := fun L hL x hx h => by
    unfold onL
    rw [cnt_same (es := L.2) (x := x) (y := t) fun e he => ?_]
    rcases cases3 e (hL e he) with z | z
    · exact ⟨fun _ => z, fun _ => Int.le_trans z hx⟩
    · have h1 := h e z
      have h2 := hhi e z
      exact ⟨fun q => absurd q (by omega), fun q => absurd q (by omega)⟩
  have s1 := same one fun e he => (ht e).mpr (List.mem_append_left _ he)
  have s2 := same other fun e he => (ht e).mpr (List.mem_append_right _ he)
  have esle : ∀ e ∈ es, e < t := fun e he => hlo e (J.sub.subset he)
  refine ⟨fun hne => ⟨?_, ?_, fun x hx => ?_⟩, fun heq => ⟨?_, J.st_, fun x hx => ?_⟩⟩
  · rw [htk]
    exact J.sub.append (List.Sublist.refl _)
  · have z := J.st_
    rw [List.length_append]
    have hl : es.length + [t].length = es.length + 1 := rfl
    rw [hl]
    have par : decide ((es.length + 1) % 2 = 1) = !decide (es.length % 2 = 1) := by
      by_cases q : es.length % 2 = 1
      · rw [decide_eq_true q, decide_eq_false (by omega)]; rfl
      · rw [decide_eq_false q, decide_eq_true (by omega)]; rfl
    rw [par]
    revert hne z
    generalize g (onL one t) (onL other t) = now
    generalize g one.1 other.1 = fs
    generalize decide (es.length % 2 = 1) = p
    cases now <;> cases st <;> cases fs <;> cases p <;> decide
  · by_cases hxt : x < t
    · rw [← J.on x (hdrop x hxt hx)]
      unfold onL
      show (_ != decide (cnt (es ++ [t]) x % 2 = 1)) = (_ != decide (cnt es x % 2 = 1))
      rw [cnt_append, cnt_zero (es := [t]) fun e he => by rw [List.mem_singleton.mp he]; exact hxt]
      rfl
    · have hle : t ≤ x := by omega
      rw [s1 x hle hx, s2 x hle hx]
      unfold onL
      show (_ != decide (cnt (es ++ [t]) x % 2 = 1)) = _
      rw [cnt_full fun e he => ?_]
      · have z := J.st_
        rw [List.length_append]
        have hl : es.length + [t].length = es.length + 1 := rfl
        rw [hl]
        have par : decide ((es.length + 1) % 2 = 1) = !decide (es.length % 2 = 1) := by
          by_cases q : es.length % 2 = 1
          · rw [decide_eq_true q, decide_eq_false (by omega)]; rfl
          · rw [decide_eq_false q, decide_eq_true (by omega)]; rfl
        rw [par]
        show (g one.1 other.1 != _) = g (onL one t) (onL other t)
        revert hne z
        generalize g (onL one t) (onL other t) = now
        generalize g one.1 other.1 = fs
        generalize decide (es.length % 2 = 1) = p
        cases now <;> cases st <;> cases fs <;> cases p <;> decide
      · rcases List.mem_append.mp he with q | q
        · have := esle e q
          omega
        · rw [List.mem_singleton.mp q]; exact hle
  · exact J.sub.trans (by rw [htk]; exact List.sublist_append_left _ _)
  · by_cases hxt : x < t
    · exact J.on x (hdrop x hxt hx)
    · have hle : t ≤ x := by omega
      rw [s1 x hle hx, s2 x hle hx, heq, J.st_]
      unfold onL
      show (_ != decide (cnt es x % 2 = 1)) = _
      rw [cnt_full fun e he => by have := esle e he; omega]

theorem jinv_end {g : Bool → Bool → Bool} {one other : Line} {ts : List Int} (ha : Asc ts) (ht : ∀ e, e ∈ ts ↔ e ∈ one.2 ++ other.2) (hn : ts.length ≤ one.2.length + other.2.length) {es : List Int} {st : Bool} (J : JInv g one other ts ts.length es st) : Joins g one other (g one.1 other.1, es) := by
  have s := J.sub
  rw [List.take_length] at s
  refine ⟨List.Pairwise.sublist s ha, rfl, fun x => J.on x fun t hm => ?_, fun e he => (ht e).mp (s.subset he), Nat.le_trans s.length_le hn⟩
  rw [List.drop_length] at hm
  cases hm

theorem joins_uniq {g : Bool → Bool → Bool} {one other J K : Line} (a : Joins g one other J) (b : Joins g one other K) : J = K :=
  line_uniq a.asc b.asc fun x => (a.on x).trans (b.on x).symm

/-! ### the first tick -/
def least : List Int → Int
  | [] => 1
  | x :: r => r.foldl min x
theorem foldl_min_le : ∀ (r : List Int) (x : Int), r.foldl min x ≤ x ∧ ∀ y ∈ r, r.foldl min x ≤ y
  | [], x => ⟨Int.le_refl _, fun _ h => by cases h⟩
  | a :: r, x => by
    obtain ⟨h1, h2⟩ := foldl_min_le r (min x a)
    refine ⟨Int.le_trans h1 (Int.min_le_left _ _), fun y hy => ?_⟩
    rcases List.mem_cons.mp hy with rfl | hy
    · exact Int.le_trans h1 (Int.min_le_right _ _)
    · exact h2 y hy
theorem foldl_min_mem : ∀ (r : List Int) (x : Int), r.foldl min x = x ∨ r.foldl min x ∈ r
  | [], _ => .inl rfl
  | a :: r, x => by
    rcases foldl_min_mem r (min x a) with h | h
    · have e : List.foldl min x (a :: r) = min x a := h
      rw [e]
      by_cases q : x ≤ a
      · exact .inl (Int.min_eq_left q)
      · refine .inr ?_
        rw [Int.min_eq_right (by omega)]
        exact List.mem_cons_self
    · exact .inr (List.mem_cons_of_mem _ h)
theorem least_le : ∀ {us : List Int}, ∀ y ∈ us, least us ≤ y
  | [], y, h => by cases h
  | x :: r, y, h => by
    rcases List.mem_cons.mp h with rfl | h
    · exact (foldl_min_le r y).1
    · exact (foldl_min_le r x).2 y h
theorem least_mem : ∀ {us : List Int}, us ≠ [] → least us ∈ us
  | [], h => absurd rfl h
  | x :: r, _ => by
    rcases foldl_min_mem r x with h | h
    · show List.foldl min x r ∈ x :: r
      rw [h]
      exact List.mem_cons_self
    · exact List.mem_cons_of_mem _ h
theorem least_is {us : List Int} {m : Int} (hm : m ∈ us) (h : ∀ y ∈ us, m ≤ y) : m = least us := by
  have h1 := h _ (least_mem (us := us) fun e => by rw [e] at hm; cases hm)
  have h2 := least_le m hm
  omega
theorem least_swap (a b : List Int) : least (a ++ b) = least (b ++ a) := by
  by_cases h : a ++ b = []
  · have h2 : b ++ a = [] := by
      rw [List.append_eq_nil_iff] at h ⊢
      exact ⟨h.2, h.1⟩
    rw [h, h2]
  · refine least_is ?_ fun y hy => ?_
    · have := least_mem h
      rw [List.mem_append] at this ⊢
      exact this.symm
    · refine least_le y ?_
      rw [List.mem_append] at hy ⊢
      exact hy.symm

/-- first_tick of a joined line and the edges of both -/
def firstT (J : Line) (us : List Int) : Option Int := if J.1 = true then some (least us - 1) else J.2.head?
theorem firstT_none {J : Line} {us : List Int} : firstT J us = none ↔ J = (false, []) := by
  obtain ⟨b, es⟩ := J
  unfold firstT
  cases b with
  | true => simp
  | false =>
    cases es with
    | nil => simp
    | cons e r => simp

/-- the law's look: the first of the ascending ticks -/
theorem find_asc {p : Int → Bool} {e : Int} : ∀ {ts : List Int}, Asc ts → e ∈ ts → p e = true → (∀ t, t < e → p t = false) → ts.find? p = some e
  | [], _, h, _, _ => by cases h
  | a :: r, ha, h, he, hl => by
    rcases List.mem_cons.mp h with rfl | h
    · rw [List.find?_cons_of_pos he]
    · have q := (asc_cons ha).1 e h
      rw [List.find?_cons_of_neg (by rw [hl a q]; exact Bool.false_ne_true)]
      exact find_asc (asc_cons ha).2 h he hl
theorem onL_head {b : Bool} {e : Int} {r : List Int} (ha : Asc (e :: r)) : onL (b, e :: r) e = !b ∧ ∀ t, t < e → onL (b, e :: r) t = b := by
  refine ⟨?_, fun t ht => onL_low (L := (b, e :: r)) fun z hz => ?_⟩
  · unfold onL
    show (b != decide (cnt (e :: r) e % 2 = 1)) = !b
    rw [cnt_cons_le (Int.le_refl e), cnt_zero (asc_cons ha).1]
    cases b <;> rfl
  · rcases List.mem_cons.mp hz with rfl | hz
    · exact ht
    · have := (asc_cons ha).1 z hz
      omega
theorem due_is {g : Bool → Bool → Bool} {one other J : Line} (j : Joins g one other J) {ts : List Int} (ha : Asc ts) (ht : ∀ e, e ∈ ts ↔ e ∈ one.2 ++ other.2) (h0 : J.1 = false) (us : List Int) : ts.find? (fun t => g (onL one t) (onL other t)) = firstT J us := by
  have ef : (fun t => g (onL one t) (onL other t)) = onL J := funext fun t => (j.on t).symm
  rw [ef]
  unfold firstT
  rw [h0, if_neg Bool.false_ne_true]
  obtain ⟨b, es⟩ := J
  have h0 : b = false := h0
  subst h0
  cases es with
  | nil =>
    show ts.find? (onL (false, [])) = none
    rw [List.find?_eq_none]
    intro x _
    rw [onL_low (L := (false, [])) fun e he => by cases he]
    exact Bool.false_ne_true
  | cons e r =>
    obtain ⟨h1, h2⟩ := onL_head (b := false) j.asc
    exact find_asc ha ((ht e).mpr (j.sub e List.mem_cons_self)) h1 h2
theorem on_first {J : Line} {us : List Int} {t : Int} (ha : Asc J.2) (hs : ∀ e ∈ J.2, e ∈ us) (h : firstT J us = some t) : onL J t = true := by
  obtain ⟨b, es⟩ := J
  unfold firstT at h
  cases b with
  | true =>
    have h : some (least us - 1) = some t := h
    have e : least us - 1 = t := Option.some.inj h
    rw [onL_low (L := (true, es)) fun z hz => ?_]
    have := least_le z (hs z hz)
    omega
  | false =>
    have h : es.head? = some t := h
    cases es with
    | nil => cases h
    | cons e r =>
      have e2 : e = t := Option.some.inj h
      subst e2
      exact (onL_head (b := false) ha).1

/-! ### what the law asks -/
def gX (a b : Bool) : Bool := a != b
def gB (a b : Bool) : Bool := a && !b
def gA (a b : Bool) : Bool := a && b
def gO (a b : Bool) : Bool := a || b
theorem nil_on (x : Int) : onL (false, []) x = false := onL_low (L := (false, [])) fun e he => by cases he
theorem joins_nil {g : Bool → Bool → Bool} {one other J : Line} (j : Joins g one other J) : J = (false, []) ↔ ∀ x, g (onL one x) (onL other x) = false := by
  constructor
  · intro e x
    rw [← j.on x, e, nil_on]
  · intro h
    exact line_uniq j.asc List.Pairwise.nil fun x => by rw [j.on x, h x, nil_on]
theorem unlike_nil {one other J : Line} (h1 : Asc one.2) (h2 : Asc other.2) (j : Joins gX one other J) : J = (false, []) ↔ one = other := by
  rw [joins_nil j]
  constructor
  · intro h
    refine line_uniq h1 h2 fun x => ?_
    have := h x
    unfold gX at this
    revert this
    cases onL one x <;> cases onL other x <;> decide
  · intro e x
    rw [e]
    unfold gX
    cases onL other x <;> rfl
theorem unlike_swap {one other J K : Line} (j : Joins gX one other J) (k : Joins gX other one K) : K = J :=
  line_uniq k.asc j.asc fun x => by
    rw [k.on, j.on]
    unfold gX
    cases onL one x <;> cases onL other x <;> rfl
theorem both_is {one other B J : Line} (h1 : Asc one.2) (b : Joins gA one other B) (j : Joins gB one other J) : B = one ↔ J = (false, []) := by
  rw [joins_nil j]
  constructor
  · intro e x
    have := b.on x
    rw [e] at this
    revert this
    unfold gA gB
    cases onL one x <;> cases onL other x <;> decide
  · intro h
    refine line_uniq b.asc h1 fun x => ?_
    rw [b.on]
    have := h x
    revert this
    unfold gA gB
    cases onL one x <;> cases onL other x <;> decide
theorem either_is {one other B J : Line} (h2 : Asc other.2) (b : Joins gO one other B) (j : Joins gB one other J) : B = other ↔ J = (false, []) := by
  rw [joins_nil j]
  constructor
  · intro e x
    have := b.on x
    rw [e] at this
    revert this
    unfold gO gB
    cases onL one x <;> cases onL other x <;> decide
  · intro h
    refine line_uniq b.asc h2 fun x => ?_
    rw [b.on]
    have := h x
    revert this
    unfold gO gB
    cases onL one x <;> cases onL other x <;> decide
theorem both_beneath {one other B J : Line} (b : Joins gA one other B) (j : Joins gB B one J) : J = (false, []) := by
  rw [joins_nil j]
  intro x
  rw [b.on]
  unfold gA gB
  cases onL one x <;> cases onL other x <;> rfl
theorem either_above {one other B J : Line} (b : Joins gO one other B) (j : Joins gB one B J) : J = (false, []) := by
  rw [joins_nil j]
  intro x
  rw [b.on]
  unfold gO gB
  cases onL one x <;> cases onL other x <;> rfl
end K06

/-! a lambda with parameters, none captured: made as a value, kept by a name, called.
    The words of the made function are HandS.Nested's NF (its statements are not used), its frame is Nested's ncx. -/
namespace K06L
open PySem PySem.Spec PyProof.Rows L2 LamX NdefX
abbrev lamFn (F : NF) (e : Expr) (pm ctv : Value) : FuncData := PySem.W.kla_fn F.name F.qual F.params e F.scope F.cl pm (.ref F.c) ctv
/-- the object at f is the lambda F with the body e -/
def LmO (f : Addr) (F : NF) (e : Expr) : HO := .ext fun h => ∃ od sl pm ctv, h.get? f = some ⟨.type "function", od, .func (lamFn F e pm ctv), sl⟩
theorem lmO_at {P : Program} {w : World} {H : Hp} {h : Heap} {f : Addr} {F : NF} {e : Expr} (ok : HOk P w H h) (at_ : H f = some (LmO f F e)) :
    ∃ od sl pm ctv, h.get? f = some ⟨.type "function", od, .func (lamFn F e pm ctv), sl⟩ := (ok f _ at_).1
/-- a table that a code object of the due name has been added to, and the others, are tables still -/
theorem tabs_more {T : List (Addr × Str)} {H : Hp} {P c' : Addr} {q : Str} {ps : Array Value} {pos : Pos} (tabs : Tabs T H) (here : (P, q) ∈ T) (sole : ∀ p ∈ T, p.1 = P → p.2 = q) (atP : H P = some (.tbl ps)) (newC : H c' = none) :
    Tabs T (upd (upd H P (.tbl (ps ++ #[rawInt pos.line, rawInt pos.col, .ref c']))) c' (CodeO c' q)) := by
  have nPc : P ≠ c' := ne_of_none atP newC
  have code : ∀ {d : Addr} {n : Str}, H d = some (CodeO d n) → upd (upd H P (.tbl (ps ++ #[rawInt pos.line, rawInt pos.col, .ref c']))) c' (CodeO c' q) d = some (CodeO d n) := fun {d n} z => by
    have nd : d ≠ P := ne_of z atP (codeO_ne ps)
    rw [upd_ne (ne_of_none z newC), upd_ne nd, z]
  intro p hp
  obtain ⟨qs, tblQ, tri, codes⟩ := tabs p hp
  by_cases same : p.1 = P
  · obtain rfl : qs = ps := by
      rw [same, atP] at tblQ
      cases tblQ
      rfl
    have enl : (qs ++ #[rawInt pos.line, rawInt pos.col, .ref c']).toList = qs.toList ++ [rawInt pos.line, rawInt pos.col, .ref c'] := by simp
    refine ⟨qs ++ #[rawInt pos.line, rawInt pos.col, .ref c'], ?_, ?_, fun at' cv told => ?_⟩
    · rw [same, upd_ne nPc, upd_same]
    · rw [enl]
      exact PySem.TriplesOk_snoc _ _ _ _ tri
    · rw [enl] at told
      cases among_app _ tri told with
      | inl old => exact (codes at' cv old).imp fun d z => ⟨z.1, code z.2⟩
      | inr new => exact ⟨c', new, by rw [sole p hp same]; exact upd_same⟩
  · refine ⟨qs, ?_, tri, fun at' cv told => (codes at' cv told).imp fun d z => ⟨z.1, code z.2⟩⟩
    rw [upd_ne (ne_of_none tblQ newC), upd_ne same, tblQ]
section
variable {X : Cx} {pins : List (Addr × Obj)} {σ : L2.St} {s : Shared}
/-- the function's object is laid: it is known from now on -/
theorem lam_laid {H0 H : Hp} {T : List (Addr × Str)} {F : NF} {e : Expr} {pm ctv : Value} {tk : Nat} {Q : Value → Shared → Prop} (I : Inv X pins σ H s) (from0 : ExtN H0 H) (tabs : Tabs T H) (new0 : H0 s.heap.objs.size = none) (code : H F.c = some (CodeO F.c F.qual))
    (fin : ∀ f H1 s', Inv X pins σ H1 s' → ExtN H0 H1 → Tabs T H1 → H0 f = none → H1 f = some (LmO f F e) → H1 F.c = some (CodeO F.c F.qual) → Q (.ref f) s') :
    Q (.ref s.heap.objs.size) { s with heap := s.heap.push { cls := .type "function", data := .func (lamFn F e pm ctv) }, toks := tk } := by
  have here : (s.heap.push ({ cls := .type "function", data := .func (lamFn F e pm ctv) } : Obj)).get? s.heap.objs.size = some ({ cls := .type "function", data := .func (lamFn F e pm ctv) } : Obj) := Heap.get?_push_size _ rfl
  have was : H s.heap.objs.size = none := I.hok.fresh (Nat.le_refl _)
  have all : ∀ b o, H b = some o → upd H s.heap.objs.size (LmO s.heap.objs.size F e) b = some o := fun b o z => (upd_ne (ne_of_none z was)).trans z
  refine fin _ (upd H s.heap.objs.size (LmO s.heap.objs.size F e)) _ (I.laid (t' := tk) (fun b o z => Heap.get?_push_of_some _ z) (Nat.le_refl _) ⟨⟨_, _, pm, ctv, here⟩, ⟨_, here⟩, fun g1 g2 ⟨od, sl, a, b, z⟩ st => ⟨od, sl, a, b, st _ z⟩⟩)
    (from0.trans (.of all)) (tabs.ext all) new0 upd_same (all _ _ code)
/-- the lambda is made: its code object is new, or the table tells it -/
theorem lam_mk {H : Hp} {T : List (Addr × Str)} {c P : Addr} {params : Arguments} {body : Expr} {scope : Scope} {pos : Pos} {E Q : Value → Shared → Prop} (I : Inv X pins σ H s) (TB : TabB X.base X.mg c P) (hcode : X.env.code = .ref c)
    (here : (P, X.env.qual ++ "<lambda>") ∈ T) (sole : ∀ p ∈ T, p.1 = P → p.2 = X.env.qual ++ "<lambda>") (tabs : Tabs T H) (noD : defaultsOf params X.env = ([], [])) (noF : ∀ y ∈ scope.names, y.2 ≠ .free)
    (fin : ∀ f c' H1 s', Inv X pins σ H1 s' → ExtN H H1 → Tabs T H1 → H f = none → H1 f = some (LmO f ⟨"<lambda>", X.env.qual ++ "<lambda>", params, [], scope, cloFrom X.env.cells scope.names [], c'⟩ body) → H1 c' = some (CodeO c' (X.env.qual ++ "<lambda>")) → Q (.ref f) s') :
    wpAny (model X.prog X.w) X.A (eval (.Lambda params body scope pos) X.env) Q E s := by
  obtain ⟨ps, tblP, tri, codes⟩ := tabs _ here
  have clo := closure_ok (scope := scope) (env := X.env) fun y hy z => absurd z (noF y hy)
  have glob : s.heap.Ns mainGlobals X.mg := I.mod.glob.keeps I.bk
  have blt : s.heap.BuiltinsAt X.mg P := TB.bm.keeps I.bk
  have hd : PySem.W.CodeHd s.heap c P := TB.code.keeps I.bk
  have objP : s.heap.get? P = some (PySem.W.tabObj ps) := I.hok P _ tblP
  refine PySem.W.kla_eval noD ?_
  cases told : codeAmong pos ps.toList with
  | some cv =>
    obtain ⟨c', rfl, isCode⟩ := codes pos cv told
    refine PySem.W.kla_makeFunctionHit clo I.ok.glob glob hcode hd objP tri told blt fun ctv h1 tk kept _ => ?_
    have I1 := I.kept (t' := tk) kept
    exact lam_laid (F := ⟨_, _, params, [], scope, _, c'⟩) I1 (.refl H) tabs (I1.hok.fresh (Nat.le_refl _)) isCode fun f H1 s' => fin f c' H1 s'
  | none =>
    refine PySem.W.kla_makeFunction clo I.ok.glob glob hcode hd objP tri told TB.gP blt fun c' ctv h1 tk kept above below isCode grown => ?_
    obtain ⟨d, oc, vs, u, eqC, ocAt, ocData, ocName⟩ := isCode
    obtain rfl : d = c' := by cases eqC; rfl
    have newC : H d = none := I.hok.fresh above
    have I1 := inv_table (t' := tk) (more := #[rawInt pos.line, rawInt pos.col, .ref d]) I tblP (fun b o ne z => kept b o ne z) grown above ⟨oc, vs, u, ocAt, ocData, ocName⟩
    refine lam_laid (F := ⟨_, _, params, [], scope, _, d⟩) I1 (fun b o z notT => ?_) (tabs_more tabs here sole tblP newC) (I.hok.fresh (Nat.le_trans above (Nat.le_of_lt below))) upd_same fun f H1 s' => fin f d H1 s'
    have nP : b ≠ P := fun q => notT ps (Option.some.inj (z.symm.trans (q ▸ tblP)))
    rw [upd_ne (ne_of_none z newC), upd_ne nP, z]
end
/-- the words of a lambda that captures nothing -/
def NFl (qual : Str) (params : Arguments) (scope : Scope) (c' : Addr) : NF := ⟨"<lambda>", qual, params, [], scope, [], c'⟩
/-- the reading of «lambda ..: ..»: a new object -/
def tLamV (T : List (Addr × Str)) (mk : Addr → NF) (body : Expr) : TE := fun _ H Q => Tabs T H ∧ ∀ f c' H1, ExtN H H1 → Tabs T H1 → H f = none → H1 f = some (LmO f (mk c') body) → H1 c' = some (CodeO c' (mk c').qual) → Q (.ref f) H1
theorem pe_lam {X : Cx} {T : List (Addr × Str)} {c P : Addr} {params : Arguments} {body : Expr} {scope : Scope} {pos : Pos} {q : Str} (hq : X.env.qual ++ "<lambda>" = q) (TB : TabB X.base X.mg c P) (hcode : X.env.code = .ref c) (here : (P, q) ∈ T) (sole : ∀ p ∈ T, p.1 = P → p.2 = q)
    (noD : defaultsOf params X.env = ([], [])) (noF : scope.names.all (fun y => !decide (y.2 = .free)) = true) (noC : cloFrom X.env.cells scope.names [] = []) : PE X (.Lambda params body scope pos) (tLamV T (NFl q params scope) body) := by
  subst hq
  constructor
  rintro pins s σ H Q I ⟨tabs, after⟩
  refine lam_mk I TB hcode here sole tabs noD (fun y hy z => ?_) fun f c' H1 s' I1 ext tabs1 f0 f1 c1 => ⟨.ref f, H1, I1, rfl, after f c' H1 ext tabs1 f0 ?_ c1⟩
  · have look := List.all_eq_true.mp noF y hy
    simp [z] at look
  · rw [noC] at f1
    exact f1
/-! ### what it promises -/
structure LOk (P : Program) (w : World) (K : PySem.W.Frag) (mg : Str → Option Value) (base : Heap) (k : Nat) (f : Addr) (F : NF) (e : Expr) (sp : Sp) : Prop where
  run : ∀ A outer s H us vs Q E, Room k A → Env0 P w K mg base A outer s H → H f = some (LmO f F e) → H F.c = some (CodeO F.c F.qual) → Vals vs us → sp vs H Q E → codeAny (model P w) A (.call (.ref f) ⟨us, []⟩) (CR CX0 outer P w H s Q E) s
/-- THE RULE: a lambda by its body, an expression -/
theorem lok_of {P : Program} {w : World} {K : PySem.W.Frag} {mg : Str → Option Value} {base : Heap} {N ps : List Str} {F : NF} {e : Expr} {f : Addr} {k : Nat} {sp : Sp} (S : NScope N ps [] F.scope) (noC : F.cl = []) (binds : ∀ pm ctv (us : List Value), us.length = ps.length → bindArgs (lamFn F e pm ctv) ⟨us, []⟩ = pure (ps.zip us))
    (len : ∀ vs H Q E, sp vs H Q E → vs.length = ps.length) (body : ∀ A outer s H vs Q E, Room k (A.deeper (envF F f s.heap.objs.size)) → sp vs H Q E → ∃ t, PE (ncx CX0 P w K mg base N F f A outer s H E) e t ∧ t (startF N vs []) H Q) : LOk P w K mg base (k + 1) f F e sp := by
  constructor
  intro A outer s H us vs Q E room e0 isF isC vals asked
  have many := len _ _ _ _ asked
  obtain ⟨od, sl, pm, ctv, obj⟩ := lmO_at e0.hok isF
  have noCells : CellsAt F.cl [] [] s.heap H := by
    rw [noC]
    exact ⟨rfl, fun _ _ z => (by cases z), fun _ _ _ z => (by cases z), fun _ _ z => (by simp at z)⟩
  obtain ⟨t, ht, read⟩ := body A outer s H vs Q E (room.deeper _) asked
  refine PySem.W.kla_callFunE room.depth obj rfl S.co S.gen rfl (codeO_at e0.hok isC) ?_
  rw [binds pm ctv us (vals.length.symm.trans many)]
  refine wpAny_pure (wpAny_newFunctionEnv S.nocell (fun y hy => S.par y.1 (List.of_mem_zip hy).1) (fun h1 isNs same => ⟨?_, ?_⟩) S.kind)
  · exact Heap.NoLimit.fresh (e0.mod.nolimit.keeps fun b o z => (e0.bs b o z).1) _ same
  · show codeAny _ _ (.expr e (envF F f s.heap.objs.size)) _ _
    have kept : ∀ b o, s.heap.get? b = some o → h1.get? b = some o := fun b o z => same.extBut b o (Nat.ne_of_lt (Heap.lt_size z)) (Heap.get?_push_of_some _ z)
    refine PySem.W.kla_codeExpr (wpAny_mono (ht.run [] _ _ H Q (inv_startN S room.hd e0 many vals noCells isNs kept) read) (fun v s' out => ?_) fun _ _ z => z)
    obtain ⟨x, H', J, rel, q⟩ := out
    exact ⟨x, H', J.os, J.bare, J.base, J.hok, rel, q⟩
/-- f(..), f a name that holds a lambda -/
def tCallLm (X : Cx) (k i : Nat) (t : TA) : TE := fun σ H Q => ∃ f F e sp, LOk X.prog X.w X.K X.mg X.base k f F e sp ∧ σ[i]? = some (some (.ref f)) ∧ H f = some (LmO f F e) ∧
  t σ H fun vs H1 => H1 f = some (LmO f F e) ∧ H1 F.c = some (CodeO F.c F.qual) ∧ sp vs H1 Q (fun _ _ _ => False)
theorem fnAt_lam {P : Program} {w : World} {H : Hp} {h : Heap} {f : Addr} {F : NF} {e : Expr} (ok : HOk P w H h) (at_ : H f = some (LmO f F e)) : PySem.W.FnAt f h := by
  obtain ⟨od, sl, pm, ctv, obj⟩ := lmO_at ok at_
  exact ⟨_, od, _, sl, obj⟩
theorem pe_callLm {X : Cx} {i k : Nat} {x : Str} {t : TA} {e : Expr} {es : List Expr} {p pos : Pos} (room : Room k X.A) (hN : X.N[i]? = some x) (vis : Vis X.env.scope x) (args : PA X (e :: es) t)
    (h1 : (x == ("__debug__" : Str)) = false := by decide) (h2 : (x == ("__classdict__" : Str)) = false := by decide) (h3 : starEach (e :: es) X.env = (false, eval e X.env) :: starEach es X.env := by rfl)
    (h4 : (backTo pos (starEach es X.env)).any (·.1) = false := by rfl) : PE X (.Call (.Name x p) (e :: es) [] pos) (tCallLm X k i t) := by
  constructor
  rintro pins s σ H Q I ⟨f, F, b, sp, L, slot, isF, rest⟩
  have name := (pe_var (pos := p) hN vis h1 h2).run pins s σ H (fun v H1 => v = .ref f ∧ H1 = H) I ⟨.ref f, slot, rfl, rfl⟩
  refine wpAny_Call_Name_kw (thn name fun u s1 => ?_)
  rintro ⟨v, H1, I1, rel, rfl, rfl⟩
  cases rel
  refine PySem.W.callWith_F (first := []) (fnAt_lam I1.hok isF) (thn (args.run pos pins s1 σ H1 _ I1 rest) fun us s2 => ?_) h3 h4
  rintro ⟨vs, H2, I2, vals, isF2, isC2, asked⟩
  refine ⟨fnAt_lam I2.hok isF2, ?_⟩
  show wpAny _ _ (call (.ref f) ([] ++ us)) _ _ s2
  refine wpAny_call (codeAny_mono (L.run X.A X.stack s2 H2 us vs Q _ room I2.env0 isF2 isC2 vals asked) fun r s3 out => ?_)
  match r, out with
  | .ok (.ret u), out => exact I2.after out
  | .ok .next, out => exact out.elim
  | .ok .brk, out => exact out.elim
  | .ok .cont, out => exact out.elim
  | .error _, out => exact False.elim out
end K06L

/-! set(xs) of a list or tuple of ints as a value; min of a tuple of ints -/
namespace K06S
open PySem PySem.Spec PyProof.Rows L2
abbrev emptyS (w : World) : Obj := { cls := .type "set", dict := none, data := .set #[] 0 (.fresh 0 0 (!w.params.followText "set-order")) }
section
variable {P : Program} {w : World} {A : Around} {E : Value → Shared → Prop} {s : Shared}
set_option maxHeartbeats 8000000 in
theorem call_set_lst {l : Addr} {items : Array Value} (ns : List Int) {Q : Value → Shared → Prop} (hh : A.handled = none) (hl : s.heap.IsList l items) (hit : IntsAre items.toList ns) (few : ns.length + 1 < scanBound)
    (fin : ∀ h1 tk c, SetR w h1 s.heap.objs.size (fun j => decide (j ∈ ns)) c → c ≤ ns.length → (∀ b o, s.heap.get? b = some o → h1.get? b = some o) → Q (.ref s.heap.objs.size) { s with heap := h1, toks := tk }) : wpAny (model P w) A (call (.type "set") [.ref l]) Q E s := by
  have size_eq : items.size = ns.length := by rw [← Array.length_toList]; exact IntsAre.length hit
  obtain ⟨mroHead, mroTail, mroEq⟩ := F.called_set.mro
  have isMade := F.called_set.made
  have isSub := F.called_set.sub
  refine wpAny_call (codeAny_of_tree ?_)
  show wpAny _ _ (callAny (.type "set") _) _ _ _
  refine wpAny_pure ⟨Code.quiet_builtin _ (by decide +kernel), codeAny_builtin F.entry_type_call ?_⟩
  rw [Around.under_plain (weight_type_call_type "set" [.ref l] []) rfl]
  have notTy := F.called_set.notType
  have canMake := F.called_set.canCreate
  have oneArg := F.typeCall_set_1 (.ref l)
  repeat (any_goals (first | assumption | wp_step))
  -- the new object
  refine codeAny_mono (code_set_led1 (.ref l) (E := E) (Q₁ := fun obj t => obj = .ref s.heap.objs.size ∧ t = { s with heap := s.heap.push (emptyS w) }) ⟨rfl, rfl⟩) fun r1 t1 made => ?_
  cases r1 with
  | error e => exact made
  | ok fl1 =>
    cases fl1 with
    | ret obj =>
      obtain ⟨rfl, rfl⟩ := made
      have atS : (s.heap.push (emptyS w)).get? s.heap.objs.size = some (emptyS w) := Heap.get?_push_size _ rfl
      have tyS : Shared.TypeIs { s with heap := s.heap.push (emptyS w) } (.ref s.heap.objs.size) "set" := ⟨_, atS, rfl⟩
      have initLook := F.called_set.init.lookup
      have initBind := F.called_set.init.bind (.ref s.heap.objs.size)
      repeat (any_goals (first | assumption | wp_step))
      refine codeAny_mono (codeAny_call_builtin (R := wants (fun r t => r = .none ∧ ∃ h' tk c, t = { s with heap := h', toks := tk } ∧ SetR w h' s.heap.objs.size (fun j => decide (j ∈ ns)) c ∧ c ≤ ns.length ∧
          (∀ b o, s.heap.get? b = some o → h'.get? b = some o)) E) F.called_set.init.plain F.entry_set_init (check_set_init_1 tyS ?_)) fun r2 t2 done => ?_
      · obtain ⟨⟨lc, ld, ldata, lsl⟩, lat, lcls, ln, lseq⟩ := hl
        simp only at lcls lseq
        subst lcls lseq
        have lat2 : (s.heap.push (emptyS w)).get? l = some { cls := .type "list", dict := ld, data := .seq items ln, slots := lsl } := Heap.get?_push_of_some _ lat
        have subList := F.sub_list_set
        have subListF := F.sub_list_frozenset
        have notDict : (Value.type "list" == Value.type "dict") = false := by decide
        have lst2 : (s.heap.push (emptyS w)).IsList l items := ⟨_, lat2, rfl, ln, rfl⟩
        unfold Builtin.«set.__init__» noKeywords Builtin.Frozenset.updateFrom
        generalize hPI : pyIter = PI
        wp_walk
        subst hPI
        refine wpAny_pyIter_list lst2 (wpAny_bind (wpAny_runValue ?_))
        have lLt : l < s.heap.objs.size := Heap.lt_size lat
        have hh3 : A.in1.in1.in1.handled = none := by simp [hh]
        have sz : (s.heap.push (emptyS w)).objs.size = s.heap.objs.size + 1 := Heap.size_push ..
        have lNe : l ≠ (s.heap.push (emptyS w)).objs.size := by
          rw [sz]
          exact Nat.ne_of_lt (Nat.lt_succ_of_lt lLt)
        have outS : s.heap.objs.size ∉ [(s.heap.push (emptyS w)).objs.size, l] := by
          simp only [List.mem_cons, List.not_mem_nil, or_false, not_or]
          rw [sz]
          exact ⟨Nat.ne_of_lt (Nat.lt_succ_self _), Nat.ne_of_gt lLt⟩
        have isInt : ∀ (i : Nat) (v : Value), items[i]? = some v → ∃ k t, ns[i]? = some k ∧ v = .int k t := fun i v hv => by
          have hi : i < ns.length := by rw [← size_eq]; exact (Array.getElem?_eq_some_iff.mp hv).1
          obtain ⟨t, e⟩ := hit.get i ns[i] (List.getElem?_eq_getElem hi)
          rw [Array.getElem?_toList, hv] at e
          exact ⟨ns[i], t, List.getElem?_eq_getElem hi, Option.some.inj e⟩
        have atS2 : ((s.heap.push (emptyS w)).push { cls := .type "list_iterator", data := .fields #[.ref l, .int 0 0] }).get? s.heap.objs.size = some (emptyS w) := Heap.get?_push_of_some _ atS
        refine set_update_ints ((Walks.list hh3 _ l lNe items).toS) s.heap.objs.size outS ns size_eq few isInt (items.size - 0) 0 _ rfl (Nat.zero_le _)
          ⟨⟨_, Heap.get?_push_size _ rfl, rfl, rfl⟩, lst2.push _⟩ ⟨0, Nat.le_refl 0, setR_new_at atS2⟩ fun t3 c mv hc R => ?_
        obtain ⟨h3, g3, d3, k3, o3⟩ := t3
        obtain rfl : g3 = s.gens := mv.gens
        obtain rfl : d3 = s.drawn := mv.drawn
        obtain rfl : o3 = s.os := mv.os
        show wpAny _ _ _ _ _ _
        refine wpAny_pure ?_
        show wpAny _ _ (ret Value.none) _ _ _
        refine wpAny_pure ⟨rfl, h3, k3, c, rfl, R, by omega, fun b o e => ?_⟩
        have bLt : b < s.heap.objs.size := Heap.lt_size e
        refine mv.heap b o ?_ (Heap.get?_push_of_some _ (Heap.get?_push_of_some _ e))
        simp only [List.mem_cons, List.not_mem_nil, or_false, not_or]
        rw [sz]
        exact ⟨Nat.ne_of_lt bLt, Nat.ne_of_lt (Nat.lt_succ_of_lt bLt)⟩
      · cases r2 with
        | error e => exact done
        | ok fl2 =>
          cases fl2 with
          | ret r =>
            obtain ⟨rfl, h', tk, c, rfl, R, hc, kp⟩ := done
            repeat (any_goals (first | assumption | wp_step))
            exact fin _ _ _ R hc kp
          | _ => exact done.elim
    | _ => exact made.elim
end
section
variable {X : Cx}
/-- set(xs), xs a list or a tuple of ints -/
def rSetI (K : PySem.W.Frag) (w : World) : List V → Hp → VK → Prop := fun xs H Q => ∃ (a : Addr) (ns : List Int), xs = [.ref a] ∧ (SqL K H a (ns.map V.int) ∨ SqT K H a (ns.map V.int)) ∧ ns.length ≤ 1000 ∧
  ∀ (p : Addr) (c : Nat), H p = none → c ≤ ns.length → Q (.ref p) (upd H p (SetO w p (fun j => decide (j ∈ ns)) c))
theorem cr_setI (hc : X.calm = true) : CallR X (.type "set") (rSetI X.K X.w) := by
  intro pins s σ H xs us Q I r h
  obtain ⟨a, ns, rfl, hs, hn, q⟩ := h
  rw [Vals.ref1 r]
  have fin : ∀ (h' : Heap) (tk c : Nat), SetR X.w h' s.heap.objs.size (fun j => decide (j ∈ ns)) c → c ≤ ns.length → (∀ b o, s.heap.get? b = some o → h'.get? b = some o) → EP X pins σ Q (.ref s.heap.objs.size) { s with heap := h', toks := tk } :=
    fun h' tk c R hcn kp => ⟨.ref _, _, I.laid (t' := tk) kp (Nat.le_refl _) (setO_new R), rfl, q _ c (I.hok.fresh (Nat.le_refl _)) hcn⟩
  rcases hs with hs | hs
  · obtain ⟨its, rv, pl, _⟩ := I.list hs
    exact call_set_lst ns (I.ok.hd hc) pl.isList (by simpa using rv.ints) (by unfold scanBound; omega) fin
  · obtain ⟨its, rv, pt, _⟩ := I.tuple hs
    exact call_set_tupI ns (I.ok.hd hc) pt (by simpa using ints_of_vals rv) (by unfold scanBound; omega) fin
/-- min(t), t a tuple of ints -/
def rMinT (K : PySem.W.Frag) : List V → Hp → VK → Prop := fun xs H Q => ∃ (a : Addr) (ns : List Int), xs = [.ref a] ∧ SqT K H a (ns.map V.int) ∧ ns ≠ [] ∧ ∀ m, m ∈ ns → (∀ y, y ∈ ns → m ≤ y) → Q (.int m) H
theorem cr_minT (hc : X.calm = true) : CallR X (.builtin "min") (rMinT X.K) := by
  intro pins s σ H xs us Q I r h
  obtain ⟨a, ns, rfl, hs, hne, q⟩ := h
  rw [Vals.ref1 r]
  obtain ⟨its, rv, pt, _⟩ := I.tuple hs
  have hi : IntsAre its ns := ints_of_vals rv
  obtain ⟨xs, e⟩ := hi.allInts.items
  have hn : numsOf (intItems xs).toList = ns := by rw [← e]; exact hi.numsOf
  rw [nums_intItems] at hn
  have hsz : 0 < xs.size := by
    refine Nat.pos_of_ne_zero fun z => hne ?_
    rw [← hn, Array.eq_empty_of_size_eq_zero z]
    rfl
  rw [e] at pt
  have lt : a < s.heap.objs.size := by
    obtain ⟨o, ho, _⟩ := pt
    exact Heap.lt_size ho
  refine call_min_walk (wpAny_pyIter_tuple pt ⟨_, [_, a], [_], _, _, _, _, rfl, Walks.tuple (A := X.A.in1) (I.ok.hd hc) _ a (Nat.ne_of_lt lt) (intItems xs),
    ⟨⟨_, Heap.get?_push_size _ rfl, rfl, rfl⟩, pt.push _⟩, fun b hb => ?_, by simpa [intItems] using hsz, CmpOf.ints_lt (numAt xs) (fun _ _ => intItems_at), fun v h' tk hP hk => ?_⟩)
  · rw [Heap.size_push]
    rcases List.mem_cons.mp hb with z | z
    · rw [z]; exact Nat.lt_succ_self _
    · rw [List.mem_singleton.mp z]; exact Nat.lt_succ_of_lt lt
  · have hv : (intItems xs)[argBest (fun i j => decide (numAt xs i < numAt xs j)) (xs.size - 1)]? = some v := by simpa [intItems] using hP
    obtain ⟨t, rfl⟩ := intItems_at hv
    obtain ⟨h1, h2⟩ := argBest_lt (numAt xs) (xs.size - 1)
    have kp : ∀ b o, s.heap.get? b = some o → h'.get? b = some o := fun b o e => hk b o (by
      rw [List.mem_singleton]
      exact Nat.ne_of_lt (Heap.lt_size e)) (Heap.get?_push_of_some _ e)
    refine ⟨.int _, H, I.kept (t' := tk) kp, ⟨t, rfl⟩, q _ ?_ fun y hy => ?_⟩
    · rw [← hn, numAt_eq]
      exact PySem.getD_mem (by rw [List.length_map, Array.length_toList]; omega)
    · rw [← hn] at hy
      obtain ⟨j, hj, rfl⟩ := mem_getD hy
      rw [List.length_map, Array.length_toList] at hj
      rw [← numAt_eq]
      exact h2 j (by omega)
end
end K06S

namespace K06
open PySem PySem.Spec PyProof.Rows L2
/-! ### the text -/
def topS (i : Nat) : Stmt := PySem.Challenge.pw_lateedges_k06_whole_first_ticks_apart.main.body.getD i (.Pass ⟨0, 0, 0, 0⟩)
abbrev sIsInteger : Stmt := topS 5
abbrev sIsFlag : Stmt := topS 6
abbrev sIsPair : Stmt := topS 7
abbrev sIsRising : Stmt := topS 8
abbrev sCheckTick : Stmt := topS 9
abbrev sIsTold : Stmt := topS 11
abbrev sCheckLine : Stmt := topS 12
abbrev sUpTo : Stmt := topS 13
abbrev sBehind : Stmt := topS 14
abbrev sStateAt : Stmt := topS 15
abbrev sOnAt : Stmt := topS 16
/-! ### heaps -/
def LineAt (H : Hp) (a : Addr) (L : Line) : Prop := ∃ p, H a = some (.tup [.bl L.1, .ref p]) ∧ H p = some (.tup (L.2.map V.int))
/-- tuples stay -/
def Tp (H H' : Hp) : Prop := ∀ b xs, H b = some (.tup xs) → H' b = some (.tup xs)
theorem LineAt.keep {H H' : Hp} {a : Addr} {L : Line} (h : LineAt H a L) (t : Tp H H') : LineAt H' a L := by
  obtain ⟨p, h1, h2⟩ := h
  exact ⟨p, t _ _ h1, t _ _ h2⟩
theorem Tp.of {H H' : Hp} (e : Same H H') : Tp H H' := fun b xs h => e b _ h
theorem same_upd {H : Hp} {p : Addr} {o : HO} (h : H p = none) : Same H (upd H p o) := fun b x e => by
  rw [upd_ne (ne_of_none e h)]
  exact e
theorem bl_ne (a b : Bool) : (!decide (V.bl a = V.bl b)) = (a != b) := by cases a <;> cases b <;> rfl
theorem bl_eq (a b : Bool) : decide (V.bl a = V.bl b) = (a == b) := by cases a <;> cases b <;> rfl
theorem small {n : Nat} (h : n ≤ 1000) : n ≤ sizeLine := Nat.le_of_lt (small1000 h)
theorem ixT {X : Cx} {K : PySem.W.Frag} (h : X.K = K := by rfl) : IxR X (rIxT K) := by
  subst h
  exact ix_tup
theorem ixL {X : Cx} {K : PySem.W.Frag} (h : X.K = K := by rfl) : IxR X (rIxL K) := by
  subst h
  exact ix_list
theorem yesT {σ : L2.St} {H : Hp} {A B : Hp → Prop} (h : A H) : tYes σ H (fun b H' => if b = true then A H' else B H') := by
  show if true = true then A H else B H
  exact iteT h
theorem all_true : ∀ {n : Nat}, ((List.replicate n true).all id) = true
  | 0 => rfl
  | n + 1 => by
    rw [List.replicate_succ, List.all_cons, all_true]
    rfl
section
variable {P : Program} {w : World} {K : PySem.W.Frag} {mg : Str → Option Value} {base : Heap}
/-! ### is_integer -/
theorem scInt : FnScope ["thing"] ["thing"] (defScope sIsInteger) := ⟨rfl, rfl, rfl, by decide +kernel, rfl, by decide +kernel, by decide +kernel⟩
def spInt : Sp := fun vs H Q _ => ∃ i, vs = [.int i] ∧ Q (.bl true) H
theorem ok_int {f : Addr} {fd : FuncData} {k : Nat} (F : Fun K "is_integer" "is_integer" sIsInteger f fd) (mI : mg "isinstance" = none) (mi : mg "int" = none) (mb : mg "bool" = none) : FnOk P w K mg base CX0 (k + 1) f fd ["thing"] spInt := by
  refine F.ok scInt (fun vs H Q E h => ?_) (fun cdv A outer s H vs Q E hr h => ?_)
  · obtain ⟨i, rfl, _⟩ := h
    rfl
  · obtain ⟨i, rfl, q⟩ := h
    refine ⟨_, pss_one (ps_ret (pe_and
        (pe_callB call_isi (by rfl) mI (by decide +kernel) (pa_cons (pv 0) (pa_cons (pe_bltn (v := .ty "int") (by rfl) mi (by decide +kernel) rfl) pa_nil)))
        (pe_one (pe_not (pe_callB call_isi (by rfl) mI (by decide +kernel) (pa_cons (pv 0) (pa_cons (pe_bltn (v := .ty "bool") (by rfl) mb (by decide +kernel) rfl) pa_nil))))))), ?_⟩
    refine ⟨.int i, rfl, .int i, .ty "int", .type "int", .type "int", true, rfl, .ty _, .base (.int i), kit_ty (by decide +kernel), true, rfl, ?_⟩
    refine iteT ⟨.int i, rfl, .int i, .ty "bool", .type "int", .type "bool", false, rfl, .ty _, .base (.int i), kit_ty (by decide +kernel), false, rfl, q⟩
/-! ### is_flag -/
theorem scFlag : FnScope ["thing"] ["thing"] (defScope sIsFlag) := ⟨rfl, rfl, rfl, by decide +kernel, rfl, by decide +kernel, by decide +kernel⟩
def spFlag : Sp := fun vs H Q _ => ∃ b, vs = [.bl b] ∧ Q (.bl true) H
theorem ok_flag {f : Addr} {fd : FuncData} {k : Nat} (F : Fun K "is_flag" "is_flag" sIsFlag f fd) (mI : mg "isinstance" = none) (mb : mg "bool" = none) : FnOk P w K mg base CX0 (k + 1) f fd ["thing"] spFlag := by
  refine F.ok scFlag (fun vs H Q E h => ?_) (fun cdv A outer s H vs Q E hr h => ?_)
  · obtain ⟨i, rfl, _⟩ := h
    rfl
  · obtain ⟨i, rfl, q⟩ := h
    refine ⟨_, pss_one (ps_ret (pe_callB call_isi (by rfl) mI (by decide +kernel) (pa_cons (pv 0) (pa_cons (pe_bltn (v := .ty "bool") (by rfl) mb (by decide +kernel) rfl) pa_nil)))), ?_⟩
    exact ⟨.bl i, rfl, .bl i, .ty "bool", .type "bool", .type "bool", true, rfl, .ty _, .base (.bl i), kit_ty (by decide +kernel), q⟩
/-! ### is_pair -/
theorem scPair : FnScope ["thing"] ["thing"] (defScope sIsPair) := ⟨rfl, rfl, rfl, by decide +kernel, rfl, by decide +kernel, by decide +kernel⟩
def spPair : Sp := fun vs H Q _ => ∃ a x y, vs = [.ref a] ∧ H a = some (.tup [x, y]) ∧ Q (.bl true) H
theorem ok_pair {f : Addr} {fd : FuncData} {k : Nat} (F : Fun K "is_pair" "is_pair" sIsPair f fd) (mI : mg "isinstance" = none) (mt : mg "tuple" = none) (ml : mg "len" = none) : FnOk P w K mg base CX0 (k + 1) f fd ["thing"] spPair := by
  refine F.ok scPair (fun vs H Q E h => ?_) (fun cdv A outer s H vs Q E hr h => ?_)
  · obtain ⟨a, x, y, rfl, _⟩ := h
    rfl
  · obtain ⟨a, x, y, rfl, ha, q⟩ := h
    refine ⟨_, pss_one (ps_ret (pe_and
        (pe_callB call_isi (by rfl) mI (by decide +kernel) (pa_cons (pv 0) (pa_cons (pe_bltn (v := .ty "tuple") (by rfl) mt (by decide +kernel) rfl) pa_nil)))
        (pe_one (pe_cmpR op_eq (pe_callB call_len (by rfl) ml PySem.boot_len (pa_cons (pv 0) pa_nil)) pe_int (nomark _))))), ?_⟩
    refine ⟨.ref a, rfl, .ref a, .ty "tuple", .type "tuple", .type "tuple", true, rfl, .ty _, .base (.tup ha), kit_ty (by decide +kernel), true, rfl, ?_⟩
    exact iteT ⟨.ref a, rfl, .ref a, 2, rfl, .inr ⟨_, SqT.of ha, rfl⟩, rfl, q⟩
/-! ### is_rising -/
theorem scRising : FnScope ["items", "at"] ["items"] (defScope sIsRising) := ⟨rfl, rfl, rfl, by decide +kernel, rfl, by decide +kernel, by decide +kernel⟩
def spRising : Sp := fun vs H Q _ => ∃ a ns, vs = [.ref a] ∧ H a = some (.tup (ns.map V.int)) ∧ ns.length ≤ 1000 ∧ Asc ns ∧ ∀ H', Same H H' → Q (.bl true) H'
theorem ok_rising {f : Addr} {fd : FuncData} {k : Nat} (F : Fun K "is_rising" "is_rising" sIsRising f fd) (ma : mg "all" = none) (mr : mg "range" = none) (ml : mg "len" = none) : FnOk P w K mg base CX0 (k + 1) f fd ["items"] spRising := by
  refine F.ok scRising (fun vs H Q E h => ?_) (fun cdv A outer s H vs Q E hr h => ?_)
  · obtain ⟨a, ns, rfl, _⟩ := h
    rfl
  · obtain ⟨a, ns, rfl, ha, hn, asc, q⟩ := h
    refine ⟨_, pss_one (ps_ret (pe_callB (cr_all rfl) (by rfl) ma (by decide +kernel) (pa_cons
        (pe_lc (own := [("at", 1)]) (g := gName 1) (tt := tYes) rfl scRising.nd (pi_range2 (by rfl) mr (pa_cons pe_int (pa_cons (pe_callB call_len (by rfl) ml PySem.boot_len (pa_cons (pv 0) pa_nil)) pa_nil)))
          (blkOk_by (own := [("at", 1)]) (N := ["items", "at"]) (sc := defScope sIsRising) (by decide +kernel)) (fun _ _ _ _ _ => pg_name (i := 1) scRising.nd rfl (Or.inl rfl)) (fun _ _ _ _ _ => pts_nil)
          (fun _ _ _ _ _ => pe_cmpR op_lt (pe_ix (ixT (K := K)) (pv 0) (pe_op op_sub (pv 1) pe_int) (fun _ _ => rfl)) (pe_ix (ixT (K := K)) (pv 0) (pv 1) (fun _ _ => rfl)) (nomark _))) pa_nil))), ?_⟩
    have lenE : (ns.map V.int).length = ns.length := List.length_map _
    refine ⟨.ref a, rfl, .ref a, _, rfl, .inr ⟨_, SqT.of ha, rfl⟩, 1, _, rfl, ?_, fun D nD => ?_⟩
    · rw [lenE]
      exact ⟨by decide, by decide, by omega, by omega⟩
    · refine lc_range (lo := 1) (n := (((ns.map V.int).length : Int) - 1).toNat) (fun i H2 => Same H H2 ∧ H2 D = some (.lst ((List.replicate i true).map V.bl))) ⟨same_upd nD, upd_same⟩ (fun i H2 hi ⟨sm, hD⟩ => ?_) fun H2 ⟨sm, hD⟩ => ?_
      · rw [lenE] at hi
        have ha2 := sm _ _ ha
        have h0 : i < ns.length := by omega
        have h1 : i + 1 < ns.length := by omega
        have g0 : (ns.map V.int)[i]? = some (.int ns[i]) := by
          rw [List.getElem?_map, List.getElem?_eq_getElem h0]
          rfl
        have g1 : (ns.map V.int)[i + 1]? = some (.int ns[i + 1]) := by
          rw [List.getElem?_map, List.getElem?_eq_getElem h1]
          rfl
        have e0 : (1 + (i : Int)) - 1 = ((i : Nat) : Int) := by omega
        have e1 : (1 + (i : Int)) = ((i + 1 : Nat) : Int) := by omega
        refine ⟨rfl, yesT ?_⟩
        refine ⟨.ref a, rfl, .int (1 + (i : Int)), rfl, _, _, rfl, rfl, a, _, _, .int ns[i], rfl, rfl, SqT.of ha2, ?_, ?_⟩
        · rw [e0]
          exact atI_nat g0
        refine ⟨.ref a, rfl, .int (1 + (i : Int)), rfl, a, _, _, .int ns[i + 1], rfl, rfl, SqT.of ha2, ?_, ?_⟩
        · rw [e1]
          exact atI_nat g1
        refine ⟨_, _, rfl, rfl, _, hD, ?_, ?_⟩
        · rw [List.length_map, List.length_replicate]
          exact small1000 (by omega)
        · have lt : ns[i] < ns[i + 1] := List.pairwise_iff_getElem.mp asc i (i + 1) h0 h1 (Nat.lt_succ_self i)
          have nD' : ∀ b o, H b = some o → b ≠ D := fun b o e => ne_of_none e nD
          refine ⟨fun b o e => ?_, ?_⟩
          · rw [upd_ne (nD' b o e)]
            exact sm b o e
          · have ed : V.bl (decide (ns[i] < ns[i + 1])) = .bl true := by rw [decide_eq_true lt]
            show upd H2 D (.lst (_ ++ [V.bl (decide (ns[i] < ns[i + 1]))])) D = _
            rw [upd_same, ed, List.replicate_succ', List.map_append]
            rfl
      · refine ⟨D, List.replicate _ true, rfl, .inl (.inl hD), ?_⟩
        rw [all_true]
        exact q H2 sm
/-! ### check_tick -/
theorem scTick : FnScope ["thing"] ["thing"] (defScope sCheckTick) := ⟨rfl, rfl, rfl, by decide +kernel, rfl, by decide +kernel, by decide +kernel⟩
def spTick : Sp := fun vs H Q _ => ∃ i, vs = [.int i] ∧ Q .non H
theorem ok_tick {f fI : Addr} {fd fdI : FuncData} {k : Nat} (F : Fun K "check_tick" "check_tick" sCheckTick f fd) (FI : Fun K "is_integer" "is_integer" sIsInteger fI fdI) (bI : Binds K fdI ["thing"] []) (gI : mg "is_integer" = some (.ref fI)) (G : FnOk P w K mg base CX0 1 fI fdI ["thing"] spInt) : FnOk P w K mg base CX0 (k + 2) f fd ["thing"] spTick := by
  refine F.ok scTick (fun vs H Q E h => ?_) (fun cdv A outer s H vs Q E hr h => ?_)
  · obtain ⟨i, rfl, _⟩ := h
    rfl
  · obtain ⟨i, rfl, q⟩ := h
    refine ⟨_, pss_one (ps_if (pt_not (pt_val (pe_call G (hr.mono (by omega)) (by rfl) gI FI.kp bI .nil pass0 (pa_cons (pv 0) pa_nil)))) (pss_one ps_never) pss_nil), ?_⟩
    exact ⟨.int i, rfl, i, rfl, true, rfl, iteF q⟩
/-! ### is_told_line -/
theorem scTold : FnScope ["thing", "edge"] ["thing"] (defScope sIsTold) := ⟨rfl, rfl, rfl, by decide +kernel, rfl, by decide +kernel, by decide +kernel⟩
def spTold (r : V) : Sp := fun vs H Q _ => ∃ a L, vs = [.ref a] ∧ LineAt H a L ∧ L.2.length ≤ 1000 ∧ Asc L.2 ∧ ∀ H', Same H H' → Q r H'
theorem ok_told {f fI fF fP fR : Addr} {fd fdI fdF fdP fdR : FuncData} {k : Nat} (F : Fun K "is_told_line" "is_told_line" sIsTold f fd)
    (FI : Fun K "is_integer" "is_integer" sIsInteger fI fdI) (bI : Binds K fdI ["thing"] []) (gI : mg "is_integer" = some (.ref fI)) (GI : FnOk P w K mg base CX0 1 fI fdI ["thing"] spInt)
    (FF : Fun K "is_flag" "is_flag" sIsFlag fF fdF) (bF : Binds K fdF ["thing"] []) (gF : mg "is_flag" = some (.ref fF)) (GF : FnOk P w K mg base CX0 1 fF fdF ["thing"] spFlag)
    (FP : Fun K "is_pair" "is_pair" sIsPair fP fdP) (bP : Binds K fdP ["thing"] []) (gP : mg "is_pair" = some (.ref fP)) (GP : FnOk P w K mg base CX0 1 fP fdP ["thing"] spPair)
    (FR : Fun K "is_rising" "is_rising" sIsRising fR fdR) (bR : Binds K fdR ["items"] []) (gR : mg "is_rising" = some (.ref fR)) (GR : FnOk P w K mg base CX0 1 fR fdR ["items"] spRising)
    (mI : mg "isinstance" = none) (mt : mg "tuple" = none) (ma : mg "all" = none) : FnOk P w K mg base CX0 (k + 2) f fd ["thing"] (spTold (.bl true)) := by
  refine F.ok scTold (fun vs H Q E h => ?_) (fun cdv A outer s H vs Q E hr h => ?_)
  · obtain ⟨a, L, rfl, _⟩ := h
    rfl
  · obtain ⟨a, L, rfl, ⟨p, ha, hp⟩, hn, asc, q⟩ := h
    have hr1 := hr.mono (j := 1) (by omega)
    refine ⟨_, pss_cons (ps_if (PW.pt (pw_or (pt_not (pt_val (pe_call GP hr1 (by rfl) gP FP.kp bP .nil pass0 (pa_cons (pv 0) pa_nil))))
          (pw_or (pt_not (pt_val (pe_call GF hr1 (by rfl) gF FF.kp bF .nil pass0 (pa_cons (pe_ix ix_tup (pv 0) pe_int (fun _ _ => rfl)) pa_nil))))
          (pw_or1 (pt_not (pt_val (pe_callB call_isi (by rfl) mI (by decide +kernel) (pa_cons (pe_ix ix_tup (pv 0) pe_int (fun _ _ => rfl)) (pa_cons (pe_bltn (v := .ty "tuple") (by rfl) mt (by decide +kernel) rfl) pa_nil)))))))))
        (pss_one ps_never) pss_nil)
      (pss_one (ps_ret (pe_and (pe_callB (cr_all rfl) (by rfl) ma (by decide +kernel) (pa_cons
        (pe_lc (own := [("edge", 1)]) (g := gName 1) (tt := tYes) rfl scTold.nd (pi_tup (pe_ix ix_tup (pv 0) pe_int (fun _ _ => rfl)))
          (blkOk_by (own := [("edge", 1)]) (N := ["thing", "edge"]) (sc := defScope sIsTold) (by decide +kernel)) (fun _ _ _ _ _ => pg_name (i := 1) scTold.nd rfl (Or.inl rfl)) (fun _ _ _ _ _ => pts_nil)
          (fun _ _ _ _ _ => pe_call GI hr1 (by rfl) gI FI.kp bI .nil pass0 (pa_cons (pv 1) pa_nil))) pa_nil))
        (pe_one (pe_call GR hr1 (by rfl) gR FR.kp bR .nil pass0 (pa_cons (pe_ix ix_tup (pv 0) pe_int (fun _ _ => rfl)) pa_nil)))))), ?_⟩
    have at0 : atI [V.bl L.1, V.ref p] 0 = some (.bl L.1) := rfl
    have at1 : atI [V.bl L.1, V.ref p] 1 = some (.ref p) := rfl
    refine ⟨.ref a, rfl, a, _, _, rfl, ha, true, rfl, iteF ?_⟩
    refine ⟨.ref a, rfl, a, _, 0, .bl L.1, rfl, rfl, SqT.of ha, at0, L.1, rfl, true, rfl, iteF ?_⟩
    refine ⟨.ref a, rfl, a, _, 1, .ref p, rfl, rfl, SqT.of ha, at1, .ref p, .ty "tuple", .type "tuple", .type "tuple", true, rfl, .ty _, .base (.tup hp), kit_ty (by decide +kernel), true, rfl, iteF ?_⟩
    refine ⟨.ref a, rfl, a, _, 1, .ref p, rfl, rfl, SqT.of ha, at1, p, rfl, ⟨_, SqT.of hp⟩, fun D nD => ?_⟩
    refine lc_tup (xs := L.2.map V.int) (fun i H2 => Same H H2 ∧ H2 D = some (.lst ((List.replicate i true).map V.bl))) ⟨same_upd nD, upd_same⟩ (fun i H2 _ ⟨sm, _⟩ => SqT.of (sm _ _ hp)) (fun i x H2 hx ⟨sm, hD⟩ => ?_) fun H2 ⟨sm, hD⟩ => ?_
    · have hi := (List.getElem?_eq_some_iff.mp hx).1
      rw [List.length_map] at hi
      rw [List.getElem?_map, List.getElem?_eq_getElem hi] at hx
      obtain rfl : V.int L.2[i] = x := Option.some.inj hx
      refine ⟨rfl, yesT ?_⟩
      refine ⟨.int L.2[i], rfl, L.2[i], rfl, _, hD, ?_, fun b o e => ?_, ?_⟩
      · rw [List.length_map, List.length_replicate]
        exact small1000 (by omega)
      · rw [upd_ne (ne_of_none e nD)]
        exact sm b o e
      · rw [upd_same, List.replicate_succ', List.map_append]
        rfl
    · refine ⟨D, List.replicate _ true, rfl, .inl (.inl hD), ?_⟩
      rw [all_true]
      refine ⟨true, rfl, iteT ?_⟩
      exact ⟨.ref a, rfl, a, _, 1, .ref p, rfl, rfl, SqT.of (sm _ _ ha), at1, p, L.2, rfl, sm _ _ hp, hn, asc, fun H3 sm3 => q H3 (sm.trans sm3)⟩
/-! ### check_line -/
theorem scCheck : FnScope ["thing"] ["thing"] (defScope sCheckLine) := ⟨rfl, rfl, rfl, by decide +kernel, rfl, by decide +kernel, by decide +kernel⟩
theorem ok_check {f fT : Addr} {fd fdT : FuncData} {k : Nat} (F : Fun K "check_line" "check_line" sCheckLine f fd) (FT : Fun K "is_told_line" "is_told_line" sIsTold fT fdT) (bT : Binds K fdT ["thing"] []) (gT : mg "is_told_line" = some (.ref fT))
    (G : FnOk P w K mg base CX0 2 fT fdT ["thing"] (spTold (.bl true))) : FnOk P w K mg base CX0 (k + 3) f fd ["thing"] (spTold .non) := by
  refine F.ok scCheck (fun vs H Q E h => ?_) (fun cdv A outer s H vs Q E hr h => ?_)
  · obtain ⟨a, L, rfl, _⟩ := h
    rfl
  · obtain ⟨a, L, rfl, hL, hn, asc, q⟩ := h
    refine ⟨_, pss_one (ps_if (pt_not (pt_val (pe_call G (hr.mono (by omega)) (by rfl) gT FT.kp bT .nil pass0 (pa_cons (pv 0) pa_nil)))) (pss_one ps_never) pss_nil), ?_⟩
    exact ⟨.ref a, rfl, a, L, rfl, hL, hn, asc, fun H' sm => ⟨true, rfl, iteF (q H' sm)⟩⟩
end
end K06

namespace K06
open PySem PySem.Spec PyProof.Rows L2 LamX NdefX K06L K06S
section
variable {P : Program} {w : World} {K : PySem.W.Frag} {mg : Str → Option Value} {base : Heap}
/-! ### edges_up_to -/
theorem scUp : FnScope ["line", "tick", "least", "most", "middle"] ["line", "tick"] (defScope sUpTo) := ⟨rfl, rfl, rfl, by decide +kernel, rfl, by decide +kernel, by decide +kernel⟩
def spUp : Sp := fun vs H Q _ => ∃ a x L, vs = [.ref a, .int x] ∧ LineAt H a L ∧ Asc L.2 ∧ Q (.int (cnt L.2 x : Nat)) H
def gapOf : L2.St → Hp → Nat := fun σ _ => match σ[2]?, σ[3]? with
  | some (some (V.int lo)), some (some (V.int hi)) => (hi - lo).toNat
  | _, _ => 0
theorem ok_up {f : Addr} {fd : FuncData} {k : Nat} (F : Fun K "edges_up_to" "edges_up_to" sUpTo f fd) (ml : mg "len" = none) : FnOk P w K mg base CX0 (k + 1) f fd ["line", "tick"] spUp := by
  refine F.ok scUp (fun vs H Q E h => ?_) (fun cdv A outer s H vs Q E hr h => ?_)
  · obtain ⟨a, x, L, rfl, _⟩ := h
    rfl
  · obtain ⟨a, x, L, rfl, ⟨p, ha, hp⟩, asc, q⟩ := h
    refine ⟨_, pss_cons (ps_set (i := 2) scUp.nd rfl (.inl rfl) pe_int)
      (pss_cons (ps_set (i := 3) scUp.nd rfl (.inl rfl) (pe_callB call_len (by rfl) ml PySem.boot_len (pa_cons (pe_ix ix_tup (pv 0) pe_int (fun _ _ => rfl)) pa_nil)))
      (pss_cons (ps_while PassesOwn.never (pt_cmpR op_lt (pv 2) (pv 3) (nomark _))
        (pss_cons (ps_set (i := 4) scUp.nd rfl (.inl rfl) (pe_op op_fdiv (pe_op op_add (pv 2) (pv 3)) pe_int))
        (pss_one (ps_if (pt_cmpR op_le (pe_ix ix_tup (pe_ix ix_tup (pv 0) pe_int (fun _ _ => rfl)) (pv 4) (fun _ _ => rfl)) (pv 1) (nomark _))
          (pss_one (ps_set (i := 2) scUp.nd rfl (.inl rfl) (pe_op op_add (pv 4) pe_int)))
          (pss_one (ps_set (i := 3) scUp.nd rfl (.inl rfl) (pv 4)))))))
      (pss_one (ps_ret (pv 2))))), ?_⟩
    have at1 : atI [V.bl L.1, V.ref p] 1 = some (.ref p) := rfl
    have lenE : (L.2.map V.int).length = L.2.length := List.length_map _
    refine ⟨.ref a, rfl, a, _, 1, .ref p, rfl, rfl, SqT.of ha, at1, .ref p, _, rfl, .inr ⟨_, SqT.of hp, rfl⟩, ?_⟩
    refine while_by (fun σ H2 => ∃ (lo hi : Nat) (y : Option V), σ = [some (.ref a), some (.int x), some (.int lo), some (.int hi), y] ∧ H2 = H ∧ lo ≤ hi ∧ hi ≤ L.2.length ∧
        (∀ (k : Nat) (e : Int), k < lo → L.2[k]? = some e → e ≤ x) ∧ (∀ (k : Nat) (e : Int), hi ≤ k → L.2[k]? = some e → x < e)) gapOf
      ⟨0, L.2.length, none, by rw [lenE]; rfl, rfl, Nat.zero_le _, Nat.le_refl _, fun k e hk => absurd hk (Nat.not_lt_zero _), fun k e hk he => absurd (List.getElem?_eq_some_iff.mp he).1 (by omega)⟩
      (fun σ H2 hW => ?_) fun σ H2 R R' f ⟨v, hv, v2, hv2, i, j, e1, e2, k, e3, r⟩ => ⟨v, hv, v2, hv2, i, j, e1, e2, k, e3, f _ _ r⟩
    obtain ⟨lo, hi, y, rfl, rfl, hle, hlen, hl, hh⟩ := hW
    refine ⟨_, rfl, _, rfl, lo, hi, rfl, rfl, _, rfl, ite2 (fun c => ?_) fun c => ?_⟩
    · have hlt : lo < hi := by
        have := of_decide_eq_true c
        omega
      have em : ((lo : Int) + (hi : Int)) / 2 = (((lo + hi) / 2 : Nat) : Int) := by omega
      obtain ⟨m, hm⟩ : ∃ m, m = (lo + hi) / 2 := ⟨_, rfl⟩
      have h1 : lo ≤ m := by omega
      have h2 : m < hi := by omega
      have h3 : m < L.2.length := by omega
      rw [← hm] at em
      have gm : (L.2.map V.int)[m]? = some (.int L.2[m]) := by
        rw [List.getElem?_map, List.getElem?_eq_getElem h3]
        rfl
      refine ⟨_, rfl, _, rfl, lo, hi, rfl, rfl, _, 2, rfl, rfl, ⟨by decide, by decide⟩, ?_⟩
      refine ⟨.ref a, rfl, a, _, 1, .ref p, rfl, rfl, SqT.of ha, at1, _, rfl, p, _, _, .int L.2[m], rfl, rfl, SqT.of hp, ?_, .int x, rfl, L.2[m], x, rfl, rfl, _, rfl, ite2 (fun c2 => ?_) fun c2 => ?_⟩
      · show atI (L.2.map V.int) (((lo : Int) + (hi : Int)) / 2) = _
        rw [em]
        exact atI_nat gm
      · have hc := of_decide_eq_true c2
        refine ⟨_, rfl, _, 1, rfl, rfl, ⟨m + 1, hi, some (V.int (((lo : Int) + (hi : Int)) / 2)), ?_, rfl, by omega, hlen, fun k e hk he => ?_, hh⟩, ?_⟩
        · show [some (V.ref a), some (V.int x), some (V.int (((lo : Int) + (hi : Int)) / 2 + 1)), some (V.int hi), some (V.int (((lo : Int) + (hi : Int)) / 2))] = [some (V.ref a), some (V.int x), some (V.int ((m + 1 : Nat) : Int)), some (V.int hi), _]
          rw [em]
          rfl
        · have hk2 := (List.getElem?_eq_some_iff.mp he).1
          have e3 : e = L.2[k] := (List.getElem?_eq_some_iff.mp he).2.symm
          by_cases hkm : k = m
          · subst hkm
            rw [e3]
            exact hc
          · have := List.pairwise_iff_getElem.mp asc k m hk2 h3 (by omega)
            rw [e3]
            omega
        · show ((hi : Int) - (((lo : Int) + (hi : Int)) / 2 + 1)).toNat < ((hi : Int) - (lo : Int)).toNat
          rw [em]
          omega
      · have hc : ¬ L.2[m] ≤ x := fun z => c2 (decide_eq_true z)
        refine ⟨_, rfl, ⟨lo, m, some (V.int (((lo : Int) + (hi : Int)) / 2)), ?_, rfl, h1, by omega, hl, fun k e hk he => ?_⟩, ?_⟩
        · show [some (V.ref a), some (V.int x), some (V.int lo), some (V.int (((lo : Int) + (hi : Int)) / 2)), some (V.int (((lo : Int) + (hi : Int)) / 2))] = [some (V.ref a), some (V.int x), some (V.int lo), some (V.int ((m : Nat) : Int)), _]
          rw [em]
        · have hk2 := (List.getElem?_eq_some_iff.mp he).1
          have e3 : e = L.2[k] := (List.getElem?_eq_some_iff.mp he).2.symm
          by_cases hkm : k = m
          · subst hkm
            rw [e3]
            omega
          · have := List.pairwise_iff_getElem.mp asc m k h3 hk2 (by omega)
            rw [e3]
            omega
        · show ((((lo : Int) + (hi : Int)) / 2) - (lo : Int)).toNat < ((hi : Int) - (lo : Int)).toNat
          rw [em]
          omega
    · have e : lo = hi := by
        have : ¬ (lo : Int) < hi := fun z => c (decide_eq_true z)
        omega
      subst e
      have hc := cnt_at (es := L.2) (x := x) hlen hl hh
      refine ⟨_, rfl, ?_⟩
      rw [hc] at q
      exact q
/-! ### state_behind, state_at, on_at -/
theorem scBe : FnScope ["line", "many"] ["line", "many"] (defScope sBehind) := ⟨rfl, rfl, rfl, by decide +kernel, rfl, by decide +kernel, by decide +kernel⟩
def spBe : Sp := fun vs H Q _ => ∃ (a : Addr) (n : Nat) (L : Line), vs = [.ref a, .int n] ∧ LineAt H a L ∧ Q (.bl (L.1 != decide (n % 2 = 1))) H
theorem ok_be {f : Addr} {fd : FuncData} {k : Nat} (F : Fun K "state_behind" "state_behind" sBehind f fd) : FnOk P w K mg base CX0 (k + 1) f fd ["line", "many"] spBe := by
  refine F.ok scBe (fun vs H Q E h => ?_) (fun cdv A outer s H vs Q E hr h => ?_)
  · obtain ⟨a, n, L, rfl, _⟩ := h
    rfl
  · obtain ⟨a, n, L, rfl, ⟨p, ha, hp⟩, q⟩ := h
    refine ⟨_, pss_one (ps_ret (pe_cmpR op_ne (pe_ix ix_tup (pv 0) pe_int (fun _ _ => rfl)) (pe_cmpR op_eq (pe_op op_mod (pv 1) pe_int) pe_int (nomark _)) (nomark _))), ?_⟩
    refine ⟨.ref a, rfl, a, _, 0, .bl L.1, rfl, rfl, SqT.of ha, rfl, _, rfl, n, 2, rfl, rfl, (show (0 : Int) < 2 by decide), rfl, rfl, ?_⟩
    have e : decide (V.int ((n : Int) % 2) = V.int 1) = decide (n % 2 = 1) := by
      refine decide_eq_decide.mpr ⟨fun z => ?_, fun z => ?_⟩
      · have := V.int.inj z
        omega
      · have : (n : Int) % 2 = 1 := by omega
        rw [this]
    rw [bl_ne, e]
    exact q
theorem scSt : FnScope ["line", "tick"] ["line", "tick"] (defScope sStateAt) := ⟨rfl, rfl, rfl, by decide +kernel, rfl, by decide +kernel, by decide +kernel⟩
def spSt : Sp := fun vs H Q _ => ∃ a x L, vs = [.ref a, .int x] ∧ LineAt H a L ∧ Asc L.2 ∧ Q (.bl (onL L x)) H
theorem ok_st {f fU fB : Addr} {fd fdU fdB : FuncData} {k : Nat} (F : Fun K "state_at" "state_at" sStateAt f fd)
    (FU : Fun K "edges_up_to" "edges_up_to" sUpTo fU fdU) (bU : Binds K fdU ["line", "tick"] []) (gU : mg "edges_up_to" = some (.ref fU)) (GU : FnOk P w K mg base CX0 1 fU fdU ["line", "tick"] spUp)
    (FB : Fun K "state_behind" "state_behind" sBehind fB fdB) (bB : Binds K fdB ["line", "many"] []) (gB : mg "state_behind" = some (.ref fB)) (GB : FnOk P w K mg base CX0 1 fB fdB ["line", "many"] spBe) :
    FnOk P w K mg base CX0 (k + 2) f fd ["line", "tick"] spSt := by
  refine F.ok scSt (fun vs H Q E h => ?_) (fun cdv A outer s H vs Q E hr h => ?_)
  · obtain ⟨a, n, L, rfl, _⟩ := h
    rfl
  · obtain ⟨a, x, L, rfl, hL, asc, q⟩ := h
    have hr1 := hr.mono (j := 1) (by omega)
    refine ⟨_, pss_one (ps_ret (pe_call GB hr1 (by rfl) gB FB.kp bB .nil pass0 (pa_cons (pv 0) (pa_cons (pe_call GU hr1 (by rfl) gU FU.kp bU .nil pass0 (pa_cons (pv 0) (pa_cons (pv 1) pa_nil))) pa_nil)))), ?_⟩
    exact ⟨.ref a, rfl, .ref a, rfl, .int x, rfl, a, x, L, rfl, hL, asc, a, _, L, rfl, hL, q⟩
theorem scOn : FnScope ["line", "tick"] ["line", "tick"] (defScope sOnAt) := ⟨rfl, rfl, rfl, by decide +kernel, rfl, by decide +kernel, by decide +kernel⟩
def spOn : Sp := fun vs H Q _ => ∃ a x L, vs = [.ref a, .int x] ∧ LineAt H a L ∧ L.2.length ≤ 1000 ∧ Asc L.2 ∧ ∀ H', Same H H' → Q (.bl (onL L x)) H'
theorem ok_on {f fC fT fS : Addr} {fd fdC fdT fdS : FuncData} {k : Nat} (F : Fun K "on_at" "on_at" sOnAt f fd)
    (FC : Fun K "check_line" "check_line" sCheckLine fC fdC) (bC : Binds K fdC ["thing"] []) (gC : mg "check_line" = some (.ref fC)) (GC : FnOk P w K mg base CX0 3 fC fdC ["thing"] (spTold .non))
    (FT : Fun K "check_tick" "check_tick" sCheckTick fT fdT) (bT : Binds K fdT ["thing"] []) (gT : mg "check_tick" = some (.ref fT)) (GT : FnOk P w K mg base CX0 2 fT fdT ["thing"] spTick)
    (FS : Fun K "state_at" "state_at" sStateAt fS fdS) (bS : Binds K fdS ["line", "tick"] []) (gS : mg "state_at" = some (.ref fS)) (GS : FnOk P w K mg base CX0 2 fS fdS ["line", "tick"] spSt) :
    FnOk P w K mg base CX0 (k + 4) f fd ["line", "tick"] spOn := by
  refine F.ok scOn (fun vs H Q E h => ?_) (fun cdv A outer s H vs Q E hr h => ?_)
  · obtain ⟨a, n, L, rfl, _⟩ := h
    rfl
  · obtain ⟨a, x, L, rfl, hL, hn, asc, q⟩ := h
    have hr3 := hr.mono (j := 3) (by omega)
    have hr2 := hr.mono (j := 2) (by omega)
    refine ⟨_, pss_cons (ps_expr (pe_call GC hr3 (by rfl) gC FC.kp bC .nil pass0 (pa_cons (pv 0) pa_nil)))
      (pss_cons (ps_expr (pe_call GT hr2 (by rfl) gT FT.kp bT .nil pass0 (pa_cons (pv 1) pa_nil)))
      (pss_one (ps_ret (pe_call GS hr2 (by rfl) gS FS.kp bS .nil pass0 (pa_cons (pv 0) (pa_cons (pv 1) pa_nil)))))), ?_⟩
    exact ⟨.ref a, rfl, a, L, rfl, hL, hn, asc, fun H' sm => ⟨.int x, rfl, x, rfl, .ref a, rfl, .int x, rfl, a, x, L, rfl, hL.keep (Tp.of sm), asc, q H' sm⟩⟩
end
end K06

namespace K06
open PySem PySem.Spec PyProof.Rows L2 LamX NdefX K06L K06S
abbrev sJoined : Stmt := topS 18
/-! ### the dict of the edges -/
def onK (ks : List Int) : List (Key × V) := ks.map fun k => ((Sum.inl k : Key), V.bl true)
theorem onK_any {k : Int} : ∀ {ks : List Int}, ((onK ks).any fun kv => decide (kv.1 = (Sum.inl k : Key))) = decide (k ∈ ks)
  | [] => rfl
  | a :: r => by
    show (decide ((Sum.inl a : Key) = Sum.inl k) || (onK r).any fun kv => decide (kv.1 = (Sum.inl k : Key))) = _
    rw [onK_any (ks := r), key_ll]
    by_cases h : a = k
    · subst h
      simp
    · have h2 : ¬ k = a := fun z => h z.symm
      simp [h, h2]
theorem onK_same {k : Int} : ∀ {ks : List Int}, (onK ks).map (fun kv => if kv.1 = (Sum.inl k : Key) then (kv.1, V.bl true) else kv) = onK ks
  | [] => rfl
  | a :: r => by
    have ih := onK_same (k := k) (ks := r)
    unfold onK at ih ⊢
    rw [List.map_cons, List.map_cons, ih]
    congr 1
    split <;> rfl
theorem onK_put (ks : List Int) (k : Int) : putK (onK ks) (Sum.inl k : Key) (V.bl true) = onK (if k ∈ ks then ks else ks ++ [k]) := by
  unfold putK
  rw [onK_any]
  by_cases h : k ∈ ks
  · rw [decide_eq_true h, if_pos rfl, if_pos h, onK_same]
  · rw [decide_eq_false h, if_neg Bool.false_ne_true, if_neg h]
    unfold onK
    rw [List.map_append]
    rfl
theorem onK_keys (ks : List Int) : (onK ks).map (·.1) = ks.map Sum.inl := by
  unfold onK
  rw [List.map_map]
  rfl
theorem onK_len (ks : List Int) : (onK ks).length = ks.length := List.length_map _
/-- the keys behind i of the edges -/
structure Keyed (us ks : List Int) (i : Nat) : Prop where
  nd : ks.Nodup
  mem : ∀ k, k ∈ ks ↔ k ∈ us.take i
  len : ks.length ≤ i
theorem keyed_start (us : List Int) : Keyed us [] 0 := ⟨List.nodup_nil, fun k => by simp, Nat.le_refl _⟩
theorem keyed_step {us ks : List Int} {i : Nat} {k : Int} (h : Keyed us ks i) (hk : us[i]? = some k) : Keyed us (if k ∈ ks then ks else ks ++ [k]) (i + 1) := by
  have e : us.take (i + 1) = us.take i ++ [k] := by rw [List.take_add_one, hk]; rfl
  by_cases hm : k ∈ ks
  · rw [if_pos hm]
    refine ⟨h.nd, fun j => ?_, Nat.le_succ_of_le h.len⟩
    rw [e, List.mem_append, ← h.mem j]
    refine ⟨.inl, fun z => z.elim id fun q => ?_⟩
    rw [List.mem_singleton.mp q]
    exact hm
  · rw [if_neg hm]
    refine ⟨List.nodup_append.mpr ⟨h.nd, List.nodup_cons.mpr ⟨by simp, List.nodup_nil⟩, fun a ha b hb z => hm ?_⟩, fun j => ?_, ?_⟩
    · rw [List.mem_singleton.mp hb] at z
      rw [← z]
      exact ha
    · rw [e, List.mem_append, List.mem_append, h.mem j]
    · rw [List.length_append]
      exact Nat.succ_le_succ h.len
theorem asc_of_sorted {ks ts : List Int} (nd : ks.Nodup) (p : ts.Perm ks) (s : ts.Pairwise (· ≤ ·)) : Asc ts := by
  have nd2 : ts.Nodup := p.nodup_iff.mpr nd
  exact (s.and nd2).imp fun {a b} h => by
    have h1 : a ≤ b := h.1
    have h2 : a ≠ b := h.2
    omega
/-! ### tuples joined -/
theorem cat_read {K : PySem.W.Frag} {H : Hp} {Q : VK} {a b : Addr} {xs ys : List Int} (ha : H a = some (.tup (xs.map V.int))) (hb : H b = some (.tup (ys.map V.int))) (hz : xs.length + ys.length ≤ 1000)
    (q : ∀ u H', Same H H' → H' u = some (.tup ((xs ++ ys).map V.int)) → Q (.ref u) H') : rCatA K (.ref a) (.ref b) H Q := by
  refine ⟨a, b, _, _, rfl, rfl, SqT.of ha, SqT.of hb, ?_, fun e => ?_, fun _ e => ?_, fun _ _ p np => ?_⟩
  · rw [List.length_map, List.length_map]
    exact small hz
  · rw [List.map_eq_nil_iff] at e
    subst e
    exact q b H (Same.refl H) hb
  · rw [List.map_eq_nil_iff] at e
    subst e
    refine q a H (Same.refl H) ?_
    rw [List.append_nil]
    exact ha
  · refine q p _ (same_upd np) ?_
    rw [upd_same, List.map_append]
theorem catA {X : Cx} {K : PySem.W.Frag} (h : X.K = K := by rfl) : OpR X (binaryOp .Add) (rCatA K) := by
  subst h
  exact op_catA
def spG (g : Bool → Bool → Bool) : Sp := fun vs H Q _ => ∃ x y, vs = [.bl x, .bl y] ∧ Q (.bl (g x y)) H
section
variable {P : Program} {w : World} {K : PySem.W.Frag} {mg : Str → Option Value} {base : Heap}
def spJoin (P : Program) (w : World) (K : PySem.W.Frag) (mg : Str → Option Value) (base : Heap) : Sp := fun vs H Q _ => ∃ (a b f : Addr) (F : NF) (e : Expr) (one other : Line) (g : Bool → Bool → Bool), vs = [.ref a, .ref b, .ref f] ∧ LineAt H a one ∧ LineAt H b other ∧ Asc one.2 ∧ Asc other.2 ∧
  one.2.length + other.2.length < 64 ∧ H f = some (LmO f F e) ∧ H F.c = some (CodeO F.c F.qual) ∧ LOk P w K mg base 1 f F e (spG g) ∧ ∀ H' r J, Joins g one other J → Same H H' → LineAt H' r J → Q (.ref r) H'
theorem scJo : FnScope ["one", "other", "rule", "ticks", "first", "edges", "state", "tick", "now", "edge"] ["one", "other", "rule"] (defScope sJoined) := ⟨rfl, rfl, rfl, by decide +kernel, rfl, by decide +kernel, by decide +kernel⟩
theorem ok_jo {f fS : Addr} {fd fdS : FuncData} {k : Nat} (F : Fun K "joined" "joined" sJoined f fd)
    (FS : Fun K "state_at" "state_at" sStateAt fS fdS) (bS : Binds K fdS ["line", "tick"] []) (gS : mg "state_at" = some (.ref fS)) (GS : FnOk P w K mg base CX0 2 fS fdS ["line", "tick"] spSt)
    (ms : mg "sorted" = none) (mt : mg "tuple" = none) : FnOk P w K mg base CX0 (k + 3) f fd ["one", "other", "rule"] (spJoin P w K mg base) := by
  refine F.ok scJo (fun vs H Q E h => ?_) (fun cdv A outer s H vs Q E hr h => ?_)
  · obtain ⟨a, b, f, F, e, one, other, g, rfl, _⟩ := h
    rfl
  · obtain ⟨a, b, fl, Fl, el, one, other, g, rfl, ⟨pa, ha, hpa⟩, ⟨pb, hb, hpb⟩, asc1, asc2, hlen, hf, hc, L, q⟩ := h
    have hr1 := hr.mono (j := 1) (by omega)
    have hr2 := hr.mono (j := 2) (by omega)
    refine ⟨_, pss_cons (ps_set (i := 3) scJo.nd rfl (.inl rfl) (pe_callB (call_sortedDI rfl) (by rfl) ms (by decide +kernel) (pa_cons
        (pe_dc (own := [("edge", 9)]) (g := gName 9) (tt := tYes) rfl scJo.nd (pi_tup (pe_op (catA (K := K)) (pe_ix ix_tup (pv 0) pe_int (fun _ _ => rfl)) (pe_ix ix_tup (pv 1) pe_int (fun _ _ => rfl))))
          (blkOk_by (own := [("edge", 9)]) (N := ["one", "other", "rule", "ticks", "first", "edges", "state", "tick", "now", "edge"]) (sc := defScope sJoined) (by decide +kernel)) (fun _ _ _ _ _ => pg_name (i := 9) scJo.nd rfl (Or.inl rfl)) (fun _ _ _ _ _ => pts_nil)
          (fun _ _ _ _ _ => pv 9) (fun _ _ _ _ _ => pe_bl)) pa_nil)))
      <| pss_cons (ps_set (i := 4) scJo.nd rfl (.inl rfl) (pe_callLm (i := 2) hr1 rfl (.inl rfl) (pa_cons (pe_ix ix_tup (pv 0) pe_int (fun _ _ => rfl)) (pa_cons (pe_ix ix_tup (pv 1) pe_int (fun _ _ => rfl)) pa_nil))))
      <| pss_cons (ps_set (i := 5) scJo.nd rfl (.inl rfl) (pe_lst pa_nil))
      <| pss_cons (ps_set (i := 6) scJo.nd rfl (.inl rfl) (pv 4))
      <| pss_cons (ps_for PassesOwn.never rfl (pi_list (pv 3)) (pg_name (i := 7) scJo.nd rfl (.inl rfl))
        (pss_cons (ps_set (i := 8) scJo.nd rfl (.inl rfl) (pe_callLm (i := 2) hr1 rfl (.inl rfl)
            (pa_cons (pe_call GS hr2 (by rfl) gS FS.kp bS .nil pass0 (pa_cons (pv 0) (pa_cons (pv 7) pa_nil))) (pa_cons (pe_call GS hr2 (by rfl) gS FS.kp bS .nil pass0 (pa_cons (pv 1) (pa_cons (pv 7) pa_nil))) pa_nil))))
        <| pss_one (ps_if (pt_cmpR op_ne (pv 8) (pv 6) (nomark _))
          (pss_cons (ps_expr (pe_bm PySem.F.plainAttrs_list PySem.F.slot_list_append PySem.F.type_list_append mt_append (pv 5) (pa_cons (pv 7) pa_nil))) (pss_one (ps_set (i := 6) scJo.nd rfl (.inl rfl) (pv 8)))) pss_nil)))
      <| pss_one (ps_ret (pe_tup (pa_cons (pv 4) (pa_cons (pe_callTy call_tuple_of (by rfl) mt (by decide +kernel) (pa_cons (pv 5) pa_nil)) pa_nil)))), ?_⟩
    have lenU : one.2.length + other.2.length ≤ 1000 := by omega
    -- ticks
    refine ⟨.ref a, rfl, a, _, 1, .ref pa, rfl, rfl, SqT.of ha, rfl, .ref b, rfl, b, _, 1, .ref pb, rfl, rfl, SqT.of hb, rfl, cat_read hpa hpb lenU fun u H1 s1 hu => ⟨u, rfl, ⟨_, SqT.of hu⟩, fun D nD => ?_⟩⟩
    refine dc_tup (xs := (one.2 ++ other.2).map V.int) (fun i H2 => Same H1 H2 ∧ ∃ ks, Keyed (one.2 ++ other.2) ks i ∧ H2 D = some (.dK (onK ks))) ⟨same_upd nD, [], keyed_start _, upd_same⟩ (fun i H2 _ ⟨sm, _⟩ => SqT.of (sm _ _ hu)) (fun i x H2 hx ⟨sm, ks, hk, hD⟩ => ?_) fun H2 ⟨sm, ks, hk, hD⟩ => ?_
    · rw [List.getElem?_map] at hx
      obtain ⟨z, hz, rfl⟩ := Option.map_eq_some_iff.mp hx
      have hi := (List.getElem?_eq_some_iff.mp hz).1
      rw [List.length_append] at hi
      have hkl := hk.len
      refine ⟨rfl, yesT ?_⟩
      refine ⟨.int z, rfl, _, Sum.inl z, rfl, hD, ?_, fun b o e => ?_, _, keyed_step hk hz, ?_⟩
      · rw [onK_len]
        exact small1000 (by omega)
      · rw [upd_ne (ne_of_none e nD)]
        exact sm b o e
      · rw [upd_same, onK_put]
    · rw [List.length_map] at hk
      have hkl := hk.len
      rw [List.length_append] at hkl
      refine ⟨D, onK ks, ks, rfl, .inl hD, onK_keys ks, by omega, fun ts tk perm srt nT => ?_⟩
      have ascT := asc_of_sorted hk.nd perm srt
      have memT : ∀ e, e ∈ ts ↔ e ∈ one.2 ++ other.2 := fun e => by
        rw [perm.mem_iff, hk.mem e, List.take_length]
      have lenT : ts.length ≤ one.2.length + other.2.length := by
        rw [perm.length_eq]
        exact hkl
      have s2 : Same H (upd H2 tk (.lst (ts.map V.int))) := (s1.trans sm).trans (same_upd nT)
      have hT : upd H2 tk (.lst (ts.map V.int)) tk = some (.lst (ts.map V.int)) := upd_same
      revert s2 hT
      generalize upd H2 tk (.lst (ts.map V.int)) = H3
      intro s2 hT
      -- first
      refine ⟨fl, Fl, el, spG g, L, rfl, s2 _ _ hf, .ref a, rfl, a, _, 0, .bl one.1, rfl, rfl, SqT.of (s2 _ _ ha), rfl, .ref b, rfl, b, _, 0, .bl other.1, rfl, rfl, SqT.of (s2 _ _ hb), rfl, s2 _ _ hf, s2 _ _ hc, one.1, other.1, rfl, ?_⟩
      -- edges
      refine ⟨Nat.zero_le _, fun ed nE => ?_⟩
      have nEd : ed ≠ tk := fun z => by
        rw [z, hT] at nE
        cases nE
      have nEH : H ed = none := s2.free nE
      have s3 : Same H (upd H3 ed (.lst [])) := s2.trans (same_upd nE)
      have hT3 : upd H3 ed (.lst []) tk = some (.lst (ts.map V.int)) := by
        rw [upd_ne nEd.symm]
        exact hT
      have hE3 : upd H3 ed (.lst []) ed = some (.lst []) := upd_same
      revert s3 hT3 hE3
      generalize upd H3 ed (.lst []) = H4
      intro s3 hT3 hE3
      -- state
      refine ⟨_, rfl, ?_⟩
      -- the loop
      refine ⟨.ref tk, rfl, tk, rfl, ⟨_, SqL.of hT3⟩, for_list (xs := ts.map V.int) (fun i σ H5 => ∃ (es : List Int) (st : Bool) (y7 y8 y9 : Option V), σ = [some (.ref a), some (.ref b), some (.ref fl), some (.ref tk), some (.bl (g one.1 other.1)), some (.ref ed), some (.bl st), y7, y8, y9] ∧
          Same H H5 ∧ H5 tk = some (.lst (ts.map V.int)) ∧ H5 ed = some (.lst (es.map V.int)) ∧ JInv g one other ts i es st)
        ⟨[], g one.1 other.1, none, none, none, rfl, s3, hT3, hE3, jinv_start memT⟩ (fun i σ H5 _ hW => ?_) (fun i x σ H5 hx hW => ?_) fun σ H5 hW => ?_⟩
      · obtain ⟨es, st, y7, y8, y9, rfl, sm5, hT5, hE5, J⟩ := hW
        exact SqL.of hT5
      · obtain ⟨es, st, y7, y8, y9, rfl, sm5, hT5, hE5, J⟩ := hW
        rw [List.getElem?_map] at hx
        obtain ⟨t, ht, rfl⟩ := Option.map_eq_some_iff.mp hx
        have hi := (List.getElem?_eq_some_iff.mp ht).1
        have h5a : LineAt H5 a one := ⟨pa, sm5 _ _ ha, sm5 _ _ hpa⟩
        have h5b : LineAt H5 b other := ⟨pb, sm5 _ _ hb, sm5 _ _ hpb⟩
        obtain ⟨j1, j2⟩ := jinv_step ascT memT ht J
        refine ⟨fl, Fl, el, spG g, L, rfl, sm5 _ _ hf, .ref a, rfl, .int t, rfl, a, t, one, rfl, h5a, asc1, .ref b, rfl, .int t, rfl, b, t, other, rfl, h5b, asc2, sm5 _ _ hf, sm5 _ _ hc, onL one t, onL other t, rfl, ?_⟩
        refine ⟨_, rfl, _, rfl, rfl, _, rfl, ?_⟩
        rw [bl_ne]
        refine ite2 (fun c => ?_) fun c => ?_
        · have hne : g (onL one t) (onL other t) ≠ st := by
            intro z
            rw [z] at c
            cases st <;> exact absurd c (by decide)
          refine ⟨.ref ed, rfl, .inl ⟨rfl, _, SqL.of hE5⟩, .int t, rfl, ed, _, _, rfl, rfl, hE5, ?_, ?_⟩
          · rw [List.length_map]
            have := J.sub.length_le
            rw [List.length_take] at this
            exact small1000 (by omega)
          · refine ⟨_, rfl, es ++ [t], _, _, _, _, rfl, fun b o e => ?_, ?_, ?_, j1 hne⟩
            · rw [upd_ne (ne_of_none e nEH)]
              exact sm5 b o e
            · rw [upd_ne nEd.symm]
              exact hT5
            · rw [upd_same, List.map_append]
              rfl
        · have heq : g (onL one t) (onL other t) = st := by
            revert c
            generalize g (onL one t) (onL other t) = now
            cases now <;> cases st <;> decide
          exact ⟨es, st, _, _, _, rfl, sm5, hT5, hE5, j2 heq⟩
      · obtain ⟨es, st, y7, y8, y9, rfl, sm5, hT5, hE5, J⟩ := hW
        rw [List.length_map] at J
        have jj := jinv_end ascT memT lenT J
        refine ⟨_, rfl, .ref ed, rfl, ed, _, rfl, .inl ⟨SqL.of hE5, fun l nl => ⟨by show 2 ≤ sizeLine; decide, fun r nr => ?_⟩⟩⟩
        have s6 := same_upd (o := .tup (es.map V.int)) nl
        have s7 := same_upd (o := .tup [V.bl (g one.1 other.1), V.ref l]) nr
        exact q _ r _ jj (sm5.trans (s6.trans s7)) ⟨l, upd_same, s7 _ _ upd_same⟩
end
end K06

namespace K06
open PySem PySem.Spec PyProof.Rows L2 LamX NdefX K06L K06S
abbrev sWBoth : Stmt := topS 19
abbrev sWUnlike : Stmt := topS 20
abbrev sWBeyond : Stmt := topS 21
abbrev sTwo : Stmt := topS 22
abbrev sBoth : Stmt := topS 23
abbrev sEither : Stmt := topS 24
abbrev sUnlike : Stmt := topS 25
abbrev sFirstTick : Stmt := topS 26
abbrev sApart : Stmt := topS 27
abbrev sBeyondAt : Stmt := topS 28
abbrev sNever : Stmt := topS 29
/-! ### the lambda that stands in a def's return -/
def noArgs : Arguments := { posonlyargs := [], args := [], vararg := none, kwonlyargs := [], kw_defaults := [], kwarg := none, defaults := [] }
def noScope : Scope := { kind := .function, names := [], isGenerator := false, isCoroutine := false }
def thirdOf : Stmt → Expr
  | .Return (some (.Call _ (_ :: _ :: e :: _) _ _)) _ => e
  | _ => .Constant .none 0 ⟨0, 0, 0, 0⟩
def lastS : List Stmt → Stmt
  | [] => .Pass ⟨0, 0, 0, 0⟩
  | [x] => x
  | _ :: y :: r => lastS (y :: r)
def lamE (s : Stmt) : Expr := thirdOf (lastS (defBody s))
def lamP (s : Stmt) : Arguments := match lamE s with
  | .Lambda p _ _ _ => p
  | _ => noArgs
def lamB (s : Stmt) : Expr := match lamE s with
  | .Lambda _ b _ _ => b
  | e => e
def lamS (s : Stmt) : Scope := match lamE s with
  | .Lambda _ _ sc _ => sc
  | _ => noScope
/-! ### a def whose code object is known -/
structure FunC (K : PySem.W.Frag) (x qual : Str) (st : Stmt) (f : Addr) (fd : FuncData) (c : Addr) : Prop where
  ex : ∃ (oc : Value) (od : Option Addr) (kV doc pm : Value) (an : Option Addr) (ct : Value) (osl : Array (Option Value)),
    fd = PySem.W.fnOf x qual (defArgs st) (defBody st) (defScope st) .none kV doc pm an (.ref c) ct ∧ K.lookup f = some ⟨oc, od, .func fd, osl⟩ ∧ PySem.W.codeIn K (.ref c) qual = true
  kp : PySem.W.keepIn K (.ref f) = true
theorem FunC.fn {K : PySem.W.Frag} {x qual : Str} {st : Stmt} {f c : Addr} {fd : FuncData} (F : FunC K x qual st f fd c) : Fun K x qual st f fd := by
  obtain ⟨oc, od, kV, doc, pm, an, ct, osl, h1, h2, h3⟩ := F.ex
  exact ⟨⟨oc, od, kV, doc, pm, an, _, ct, osl, h1, h2, h3⟩, F.kp⟩
/-- ExtN leaves tuples -/
theorem Tp.ext {H H' : Hp} (e : ExtN H H') : Tp H H' := fun b xs h => e b _ h fun ps z => by cases z
theorem extN_same {H H' : Hp} (e : Same H H') : ExtN H H' := fun b o h _ => e b o h
def optV : Option Int → V
  | none => .non
  | some i => .int i
/-! ### lines compared -/
def lineD (L : Line) : PyData := .tuple [.bool L.1, .tuple (L.2.map PyData.int)]
theorem canLay_ints : ∀ ns : List Int, PyData.canLayAll0 (ns.map PyData.int) = true
  | [] => by simp [PyData.canLayAll0]
  | n :: r => by simp [PyData.canLayAll0, PyData.canLay0, canLay_ints r]
theorem depth_ints : ∀ ns : List Int, PyData.depthAll (ns.map PyData.int) = 0
  | [] => by simp [PyData.depthAll]
  | n :: r => by simp [PyData.depthAll, PyData.depth, depth_ints r]
theorem shaped_line (L : Line) : SeqAt.shaped (lineD L) = true := by
  unfold SeqAt.shaped lineD
  simp [PyData.canLay0, PyData.canLayAll0, PyData.depth, PyData.depthAll, canLay_ints, depth_ints]
theorem eqv_ints : ∀ ns ms : List Int, PyData.eqvAll (ns.map PyData.int) (ms.map PyData.int) = decide (ns = ms)
  | [], [] => by simp [PyData.eqvAll]
  | [], m :: r => by simp [PyData.eqvAll]
  | n :: r, [] => by simp [PyData.eqvAll]
  | n :: r, m :: q => by
    rw [List.map_cons, List.map_cons, PyData.eqvAll, PyData.eqv, eqv_ints r q]
    by_cases h : n = m
    · subst h
      by_cases h2 : r = q
      · subst h2
        simp
      · simp [h2]
    · simp [h]
theorem eqv_line (L M : Line) : PyData.eqv (lineD L) (lineD M) = decide (L = M) := by
  obtain ⟨a, es⟩ := L
  obtain ⟨b, fs⟩ := M
  unfold lineD
  rw [PyData.eqv, PyData.eqvAll, PyData.eqv, PyData.eqvAll, PyData.eqv, PyData.eqvAll, eqv_ints]
  show (a == b && (decide (es = fs) && true)) = decide ((a, es) = (b, fs))
  by_cases h : a = b
  · subst h
    by_cases h2 : es = fs
    · subst h2
      simp
    · simp [h2]
  · simp [h]
theorem dp_ints {K : PySem.W.Frag} {H : Hp} : ∀ ns : List Int, DpAll K H (ns.map V.int) (ns.map PyData.int)
  | [] => .nil
  | n :: r => .cons (.int n) (dp_ints r)
theorem dp_line {K : PySem.W.Frag} {H : Hp} {a : Addr} {L : Line} (h : LineAt H a L) : Dp K H (.ref a) (lineD L) := by
  obtain ⟨p, h1, h2⟩ := h
  exact .tup (SqT.of h1) (.cons (.bl _) (.cons (.tup (SqT.of h2) (dp_ints _)) .nil))
theorem eqD_read {K : PySem.W.Frag} {H : Hp} {Q : VK} {a b : Addr} {L M : Line} (h1 : LineAt H a L) (h2 : LineAt H b M) (q : Q (.bl (decide (L = M))) H) : rEqD K (.ref a) (.ref b) H Q :=
  ⟨_, _, dp_line h1, dp_line h2, shaped_line L, shaped_line M, by rw [eqv_line]; exact q⟩
section
variable {P : Program} {w : World} {K : PySem.W.Frag} {mg : Str → Option Value} {base : Heap}
/-- a def whose code object is known, by its body -/
theorem FunC.ok {x qual : Str} {st : Stmt} {f c : Addr} {fd : FuncData} {N ps : List Str} {k : Nat} {sp : Sp} (F : FunC K x qual st f fd c) (S : FnScope N ps (defScope st)) (len : ∀ vs H Q E, sp vs H Q E → vs.length = ps.length)
    (hbody : ∀ (A : Around) (outer : List Env) (s : Shared) (H : Hp) (vs : List V) (Q : VK) (E : XK), Room k (A.deeper (envOfC qual (defScope st) s.heap.objs.size f (.ref c))) → sp vs H Q E →
      ∃ t, PSs (cxOf CX0 P w K mg base N qual (defScope st) f (.ref c) A outer s H E).nox (defBody st) t ∧ t { nx := fun _ H' => Q .non H', rt := Q } (start N vs) H) : FnOk P w K mg base CX0 (k + 1) f fd ps sp := by
  obtain ⟨oc, od, kV, doc, pm, an, ct, osl, rfl, lk, hcd⟩ := F.ex
  exact fn_of lk hcd S len fun A outer s H vs Q E hr hsp => (hbody A outer s H vs Q E hr hsp).elim fun t h => ⟨t, h.1.nox, h.2⟩
/-! ### the four lambdas -/
theorem nsL {s : Stmt} (h : nscB ["mine", "its"] ["mine", "its"] [] (lamS s) = true) : NScope ["mine", "its"] ["mine", "its"] [] (lamS s) := nscope_by h
theorem lamA {q : Str} {f c' : Addr} : LOk P w K mg base 1 f (NFl q (lamP sWBoth) (lamS sWBoth) c') (lamB sWBoth) (spG gA) := by
  refine lok_of (N := ["mine", "its"]) (ps := ["mine", "its"]) (k := 0) (nsL (s := sWBoth) (by decide +kernel)) rfl (fun pm ctv us hl => match us, hl with | [_, _], _ => rfl) (fun vs H Q E h => ?_) fun A outer s H vs Q E hr h => ?_
  · obtain ⟨x, y, rfl, _⟩ := h
    rfl
  · obtain ⟨x, y, rfl, q⟩ := h
    refine ⟨_, pe_and (pv 0) (pe_one (pv 1)), .bl x, rfl, x, rfl, ?_⟩
    cases x with
    | true => exact iteT ⟨.bl y, rfl, q⟩
    | false => exact iteF q
theorem lamX {q : Str} {f c' : Addr} : LOk P w K mg base 1 f (NFl q (lamP sWUnlike) (lamS sWUnlike) c') (lamB sWUnlike) (spG gX) := by
  refine lok_of (N := ["mine", "its"]) (ps := ["mine", "its"]) (k := 0) (nsL (s := sWUnlike) (by decide +kernel)) rfl (fun pm ctv us hl => match us, hl with | [_, _], _ => rfl) (fun vs H Q E h => ?_) fun A outer s H vs Q E hr h => ?_
  · obtain ⟨x, y, rfl, _⟩ := h
    rfl
  · obtain ⟨x, y, rfl, q⟩ := h
    refine ⟨_, pe_cmpR op_ne (pv 0) (pv 1) (nomark _), .bl x, rfl, .bl y, rfl, rfl, ?_⟩
    rw [bl_ne]
    exact q
theorem lamBy {q : Str} {f c' : Addr} : LOk P w K mg base 1 f (NFl q (lamP sWBeyond) (lamS sWBeyond) c') (lamB sWBeyond) (spG gB) := by
  refine lok_of (N := ["mine", "its"]) (ps := ["mine", "its"]) (k := 0) (nsL (s := sWBeyond) (by decide +kernel)) rfl (fun pm ctv us hl => match us, hl with | [_, _], _ => rfl) (fun vs H Q E h => ?_) fun A outer s H vs Q E hr h => ?_
  · obtain ⟨x, y, rfl, _⟩ := h
    rfl
  · obtain ⟨x, y, rfl, q⟩ := h
    refine ⟨_, pe_and (pv 0) (pe_one (pe_not (pv 1))), .bl x, rfl, x, rfl, ?_⟩
    cases x with
    | true => exact iteT ⟨.bl y, rfl, y, rfl, q⟩
    | false => exact iteF q
theorem lamO {q : Str} {f c' : Addr} : LOk P w K mg base 1 f (NFl q (lamP sEither) (lamS sEither) c') (lamB sEither) (spG gO) := by
  refine lok_of (N := ["mine", "its"]) (ps := ["mine", "its"]) (k := 0) (nsL (s := sEither) (by decide +kernel)) rfl (fun pm ctv us hl => match us, hl with | [_, _], _ => rfl) (fun vs H Q E h => ?_) fun A outer s H vs Q E hr h => ?_
  · obtain ⟨x, y, rfl, _⟩ := h
    rfl
  · obtain ⟨x, y, rfl, q⟩ := h
    refine ⟨_, pe_or (pv 0) (pe_one (pv 1)), .bl x, rfl, x, rfl, ?_⟩
    cases x with
    | true => exact iteT q
    | false => exact iteF ⟨.bl y, rfl, q⟩
/-! ### where_both, where_unlike, where_beyond -/
def TwoLines (H : Hp) (vs : List V) (a b : Addr) (one other : Line) : Prop := vs = [.ref a, .ref b] ∧ LineAt H a one ∧ LineAt H b other ∧ Asc one.2 ∧ Asc other.2 ∧ one.2.length + other.2.length < 64
def spWh (T : List (Addr × Str)) (g : Bool → Bool → Bool) : Sp := fun vs H Q _ => ∃ a b one other, TwoLines H vs a b one other ∧ Tabs T H ∧ ∀ H' r J, Joins g one other J → ExtN H H' → Tabs T H' → LineAt H' r J → Q (.ref r) H'
theorem sp_len {H : Hp} {vs : List V} {a b : Addr} {one other : Line} (h : TwoLines H vs a b one other) : vs.length = 2 := by
  rw [h.1]
  rfl
/-- what follows the making of the lambda -/
theorem wh_fin {T : List (Addr × Str)} {g : Bool → Bool → Bool} {H H1 : Hp} {a b f : Addr} {one other : Line} {F : NF} {e : Expr} {Q : VK} {vs : List V} (t : TwoLines H vs a b one other) (eN : ExtN H H1) (T1 : Tabs T H1) (f1 : H1 f = some (LmO f F e)) (c1 : H1 F.c = some (CodeO F.c F.qual)) (L : LOk P w K mg base 1 f F e (spG g))
    (q : ∀ H' r J, Joins g one other J → ExtN H H' → Tabs T H' → LineAt H' r J → Q (.ref r) H') : spJoin P w K mg base [.ref a, .ref b, .ref f] H1 Q E0 := by
  obtain ⟨_, h1, h2, a1, a2, hl⟩ := t
  exact ⟨a, b, f, F, e, one, other, g, rfl, h1.keep (Tp.ext eN), h2.keep (Tp.ext eN), a1, a2, hl, f1, c1, L, fun H' r J j sm hr => q H' r J j (eN.trans (extN_same sm)) (T1.ext sm) hr⟩
theorem scW (i : Nat) (h1 : (defScope (topS i)).kind = .function := by rfl) (h2 : (defScope (topS i)).isCoroutine = false := by rfl) (h3 : (defScope (topS i)).isGenerator = false := by rfl)
    (h4 : ∀ x ∈ (["one", "other"] : List Str), (defScope (topS i)).names.lookup x = some .local ∨ (defScope (topS i)).names.lookup x = some .cell := by decide +kernel) (h5 : ∀ y ∈ (defScope (topS i)).names, y.2 ≠ .free := by decide +kernel) : FnScope ["one", "other"] ["one", "other"] (defScope (topS i)) := ⟨h1, h2, h3, by decide +kernel, rfl, h4, h5⟩
/-- joined, at hand -/
structure JoinAt (P : Program) (w : World) (K : PySem.W.Frag) (mg : Str → Option Value) (base : Heap) (fJ : Addr) (fdJ : FuncData) : Prop where
  F : Fun K "joined" "joined" sJoined fJ fdJ
  b : Binds K fdJ ["one", "other", "rule"] []
  g : mg "joined" = some (.ref fJ)
  ok : FnOk P w K mg base CX0 3 fJ fdJ ["one", "other", "rule"] (spJoin P w K mg base)
/-- a maker's table -/
structure TabOk (base : Heap) (mg : Str → Option Value) (T : List (Addr × Str)) (q : Str) (c P : Addr) : Prop where
  tb : TabB base mg c P
  mem : (P, q) ∈ T
  one : ∀ p ∈ T, p.1 = P → p.2 = q
theorem ok_wboth {f c p fJ : Addr} {fd fdJ : FuncData} {T : List (Addr × Str)} {k : Nat} (F : FunC K "where_both" "where_both" sWBoth f fd c) (J : JoinAt P w K mg base fJ fdJ) (TB : TabOk base mg T "where_both.<locals>.<lambda>" c p) :
    FnOk P w K mg base CX0 (k + 4) f fd ["one", "other"] (spWh T gA) := by
  refine F.ok (scW 19) (fun vs H Q E h => ?_) (fun A outer s H vs Q E hr h => ?_)
  · obtain ⟨a, b, one, other, t, _⟩ := h
    exact sp_len t
  · obtain ⟨a, b, one, other, t, hT, q⟩ := h
    obtain rfl := t.1
    refine ⟨_, pss_one (ps_ret (pe_call J.ok (hr.mono (by omega)) (by rfl) J.g J.F.kp J.b .nil pass0 (pa_cons (pv 0) (pa_cons (pv 1) (pa_cons (pe_lam (q := "where_both.<locals>.<lambda>") (by rfl) TB.tb (by rfl) TB.mem TB.one (by rfl) (by decide +kernel) (by rfl)) pa_nil))))), ?_⟩
    exact ⟨.ref a, rfl, .ref b, rfl, hT, fun fl c' H1 eN T1 _ f1 c1 => wh_fin t eN T1 f1 c1 lamA q⟩
theorem ok_wunlike {f c p fJ : Addr} {fd fdJ : FuncData} {T : List (Addr × Str)} {k : Nat} (F : FunC K "where_unlike" "where_unlike" sWUnlike f fd c) (J : JoinAt P w K mg base fJ fdJ) (TB : TabOk base mg T "where_unlike.<locals>.<lambda>" c p) :
    FnOk P w K mg base CX0 (k + 4) f fd ["one", "other"] (spWh T gX) := by
  refine F.ok (scW 20) (fun vs H Q E h => ?_) (fun A outer s H vs Q E hr h => ?_)
  · obtain ⟨a, b, one, other, t, _⟩ := h
    exact sp_len t
  · obtain ⟨a, b, one, other, t, hT, q⟩ := h
    obtain rfl := t.1
    refine ⟨_, pss_one (ps_ret (pe_call J.ok (hr.mono (by omega)) (by rfl) J.g J.F.kp J.b .nil pass0 (pa_cons (pv 0) (pa_cons (pv 1) (pa_cons (pe_lam (q := "where_unlike.<locals>.<lambda>") (by rfl) TB.tb (by rfl) TB.mem TB.one (by rfl) (by decide +kernel) (by rfl)) pa_nil))))), ?_⟩
    exact ⟨.ref a, rfl, .ref b, rfl, hT, fun fl c' H1 eN T1 _ f1 c1 => wh_fin t eN T1 f1 c1 lamX q⟩
theorem ok_wbeyond {f c p fJ : Addr} {fd fdJ : FuncData} {T : List (Addr × Str)} {k : Nat} (F : FunC K "where_beyond" "where_beyond" sWBeyond f fd c) (J : JoinAt P w K mg base fJ fdJ) (TB : TabOk base mg T "where_beyond.<locals>.<lambda>" c p) :
    FnOk P w K mg base CX0 (k + 4) f fd ["one", "other"] (spWh T gB) := by
  refine F.ok (scW 21) (fun vs H Q E h => ?_) (fun A outer s H vs Q E hr h => ?_)
  · obtain ⟨a, b, one, other, t, _⟩ := h
    exact sp_len t
  · obtain ⟨a, b, one, other, t, hT, q⟩ := h
    obtain rfl := t.1
    refine ⟨_, pss_one (ps_ret (pe_call J.ok (hr.mono (by omega)) (by rfl) J.g J.F.kp J.b .nil pass0 (pa_cons (pv 0) (pa_cons (pv 1) (pa_cons (pe_lam (q := "where_beyond.<locals>.<lambda>") (by rfl) TB.tb (by rfl) TB.mem TB.one (by rfl) (by decide +kernel) (by rfl)) pa_nil))))), ?_⟩
    exact ⟨.ref a, rfl, .ref b, rfl, hT, fun fl c' H1 eN T1 _ f1 c1 => wh_fin t eN T1 f1 c1 lamBy q⟩
/-! ### check_two -/
def spTwo : Sp := fun vs H Q _ => ∃ a b one other, TwoLines H vs a b one other ∧ ∀ H', Same H H' → Q .non H'
theorem ok_two {f fC : Addr} {fd fdC : FuncData} {k : Nat} (F : Fun K "check_two" "check_two" sTwo f fd)
    (FC : Fun K "check_line" "check_line" sCheckLine fC fdC) (bC : Binds K fdC ["thing"] []) (gC : mg "check_line" = some (.ref fC)) (GC : FnOk P w K mg base CX0 3 fC fdC ["thing"] (spTold .non)) : FnOk P w K mg base CX0 (k + 4) f fd ["one", "other"] spTwo := by
  refine F.ok (scW 22) (fun vs H Q E h => ?_) (fun cdv A outer s H vs Q E hr h => ?_)
  · obtain ⟨a, b, one, other, t, _⟩ := h
    exact sp_len t
  · obtain ⟨a, b, one, other, ⟨rfl, h1, h2, a1, a2, hl⟩, q⟩ := h
    have hr3 := hr.mono (j := 3) (by omega)
    refine ⟨_, pss_cons (ps_expr (pe_call GC hr3 (by rfl) gC FC.kp bC .nil pass0 (pa_cons (pv 0) pa_nil))) (pss_one (ps_expr (pe_call GC hr3 (by rfl) gC FC.kp bC .nil pass0 (pa_cons (pv 1) pa_nil)))), ?_⟩
    exact ⟨.ref a, rfl, a, one, rfl, h1, by omega, a1, fun H1 s1 => ⟨.ref b, rfl, b, other, rfl, h2.keep (Tp.of s1), by omega, a2, fun H2 s2 => q H2 (s1.trans s2)⟩⟩
structure TwoAt (P : Program) (w : World) (K : PySem.W.Frag) (mg : Str → Option Value) (base : Heap) (fT : Addr) (fdT : FuncData) : Prop where
  F : Fun K "check_two" "check_two" sTwo fT fdT
  b : Binds K fdT ["one", "other"] []
  g : mg "check_two" = some (.ref fT)
  ok : FnOk P w K mg base CX0 4 fT fdT ["one", "other"] spTwo
theorem TwoLines.keep {H H' : Hp} {vs : List V} {a b : Addr} {one other : Line} (t : TwoLines H vs a b one other) (e : ExtN H H') : TwoLines H' vs a b one other := by
  obtain ⟨h0, h1, h2, r⟩ := t
  exact ⟨h0, h1.keep (Tp.ext e), h2.keep (Tp.ext e), r⟩
/-! ### both, unlike, either -/
/-- where_both, .. at hand -/
structure WhAt (P : Program) (w : World) (K : PySem.W.Frag) (mg : Str → Option Value) (base : Heap) (T : List (Addr × Str)) (g : Bool → Bool → Bool) (x : Str) (fW : Addr) (fdW : FuncData) : Prop where
  kp : PySem.W.keepIn K (.ref fW) = true
  b : Binds K fdW ["one", "other"] []
  gl : mg x = some (.ref fW)
  ok : FnOk P w K mg base CX0 4 fW fdW ["one", "other"] (spWh T g)
theorem ok_both {f fT fW : Addr} {fd fdT fdW : FuncData} {T : List (Addr × Str)} {k : Nat} (F : Fun K "both" "both" sBoth f fd) (C : TwoAt P w K mg base fT fdT) (W : WhAt P w K mg base T gA "where_both" fW fdW) : FnOk P w K mg base CX0 (k + 5) f fd ["one", "other"] (spWh T gA) := by
  refine F.ok (scW 23) (fun vs H Q E h => ?_) (fun cdv A outer s H vs Q E hr h => ?_)
  · obtain ⟨a, b, one, other, t, _⟩ := h
    exact sp_len t
  · obtain ⟨a, b, one, other, t, hT, q⟩ := h
    obtain rfl := t.1
    have hr4 := hr.mono (j := 4) (by omega)
    refine ⟨_, pss_cons (ps_expr (pe_call C.ok hr4 (by rfl) C.g C.F.kp C.b .nil pass0 (pa_cons (pv 0) (pa_cons (pv 1) pa_nil)))) (pss_one (ps_ret (pe_call W.ok hr4 (by rfl) W.gl W.kp W.b .nil pass0 (pa_cons (pv 0) (pa_cons (pv 1) pa_nil))))), ?_⟩
    exact ⟨.ref a, rfl, .ref b, rfl, a, b, one, other, t, fun H1 s1 => ⟨.ref a, rfl, .ref b, rfl, a, b, one, other, t.keep (extN_same s1), hT.ext s1, fun H' r J j eN T' hr => q H' r J j ((extN_same s1).trans eN) T' hr⟩⟩
theorem ok_unlike {f fT fW : Addr} {fd fdT fdW : FuncData} {T : List (Addr × Str)} {k : Nat} (F : Fun K "unlike" "unlike" sUnlike f fd) (C : TwoAt P w K mg base fT fdT) (W : WhAt P w K mg base T gX "where_unlike" fW fdW) : FnOk P w K mg base CX0 (k + 5) f fd ["one", "other"] (spWh T gX) := by
  refine F.ok (scW 25) (fun vs H Q E h => ?_) (fun cdv A outer s H vs Q E hr h => ?_)
  · obtain ⟨a, b, one, other, t, _⟩ := h
    exact sp_len t
  · obtain ⟨a, b, one, other, t, hT, q⟩ := h
    obtain rfl := t.1
    have hr4 := hr.mono (j := 4) (by omega)
    refine ⟨_, pss_cons (ps_expr (pe_call C.ok hr4 (by rfl) C.g C.F.kp C.b .nil pass0 (pa_cons (pv 0) (pa_cons (pv 1) pa_nil)))) (pss_one (ps_ret (pe_call W.ok hr4 (by rfl) W.gl W.kp W.b .nil pass0 (pa_cons (pv 0) (pa_cons (pv 1) pa_nil))))), ?_⟩
    exact ⟨.ref a, rfl, .ref b, rfl, a, b, one, other, t, fun H1 s1 => ⟨.ref a, rfl, .ref b, rfl, a, b, one, other, t.keep (extN_same s1), hT.ext s1, fun H' r J j eN T' hr => q H' r J j ((extN_same s1).trans eN) T' hr⟩⟩
theorem ok_either {f c p fT fJ : Addr} {fd fdT fdJ : FuncData} {T : List (Addr × Str)} {k : Nat} (F : FunC K "either" "either" sEither f fd c) (C : TwoAt P w K mg base fT fdT) (J : JoinAt P w K mg base fJ fdJ) (TB : TabOk base mg T "either.<locals>.<lambda>" c p) : FnOk P w K mg base CX0 (k + 5) f fd ["one", "other"] (spWh T gO) := by
  refine F.ok (scW 24) (fun vs H Q E h => ?_) (fun A outer s H vs Q E hr h => ?_)
  · obtain ⟨a, b, one, other, t, _⟩ := h
    exact sp_len t
  · obtain ⟨a, b, one, other, t, hT, q⟩ := h
    obtain rfl := t.1
    have hr4 := hr.mono (j := 4) (by omega)
    refine ⟨_, pss_cons (ps_expr (pe_call C.ok hr4 (by rfl) C.g C.F.kp C.b .nil pass0 (pa_cons (pv 0) (pa_cons (pv 1) pa_nil))))
      (pss_one (ps_ret (pe_call J.ok (hr.mono (by omega)) (by rfl) J.g J.F.kp J.b .nil pass0 (pa_cons (pv 0) (pa_cons (pv 1) (pa_cons (pe_lam (q := "either.<locals>.<lambda>") (by rfl) TB.tb (by rfl) TB.mem TB.one (by rfl) (by decide +kernel) (by rfl)) pa_nil)))))), ?_⟩
    exact ⟨.ref a, rfl, .ref b, rfl, a, b, one, other, t, fun H1 s1 => ⟨.ref a, rfl, .ref b, rfl, hT.ext s1, fun fl c' H2 eN T1 _ f1 c1 => wh_fin (t.keep (extN_same s1)) eN T1 f1 c1 lamO fun H' r J j eN2 T2 hr => q H' r J j ((extN_same s1).trans eN2) T2 hr⟩⟩
/-! ### first_tick -/
theorem scFi : FnScope ["line", "one", "other", "edges"] ["line", "one", "other"] (defScope sFirstTick) := ⟨rfl, rfl, rfl, by decide +kernel, rfl, by decide +kernel, by decide +kernel⟩
def spFi : Sp := fun vs H Q _ => ∃ c a b J one other, vs = [.ref c, .ref a, .ref b] ∧ LineAt H c J ∧ LineAt H a one ∧ LineAt H b other ∧ one.2.length + other.2.length < 64 ∧ ∀ H', Same H H' → Q (optV (firstT J (one.2 ++ other.2))) H'
theorem ok_fi {f : Addr} {fd : FuncData} {k : Nat} (F : Fun K "first_tick" "first_tick" sFirstTick f fd) (ml : mg "len" = none) (mm : mg "min" = none) : FnOk P w K mg base CX0 (k + 1) f fd ["line", "one", "other"] spFi := by
  refine F.ok scFi (fun vs H Q E h => ?_) (fun cdv A outer s H vs Q E hr h => ?_)
  · obtain ⟨c, a, b, J, one, other, rfl, _⟩ := h
    rfl
  · obtain ⟨c, a, b, J, one, other, rfl, ⟨pc, hc, hpc⟩, ⟨pa, ha, hpa⟩, ⟨pb, hb, hpb⟩, hl, q⟩ := h
    refine ⟨_, pss_cons (ps_if (pt_not (pt_val (pe_ix ix_tup (pv 0) pe_int (fun _ _ => rfl))))
          (pss_one (ps_ret (pe_ifExp (pt_cmpR op_gt (pe_callB call_len (by rfl) ml PySem.boot_len (pa_cons (pe_ix ix_tup (pv 0) pe_int (fun _ _ => rfl)) pa_nil)) pe_int (nomark _)) (pe_ix ix_tup (pe_ix ix_tup (pv 0) pe_int (fun _ _ => rfl)) pe_int (fun _ _ => rfl)) pe_non))) pss_nil)
      <| pss_cons (ps_set (i := 3) scFi.nd rfl (.inl rfl) (pe_op (catA (K := K)) (pe_ix ix_tup (pv 1) pe_int (fun _ _ => rfl)) (pe_ix ix_tup (pv 2) pe_int (fun _ _ => rfl))))
      <| pss_one (ps_ret (pe_ifExp (pt_cmpR op_gt (pe_callB call_len (by rfl) ml PySem.boot_len (pa_cons (pv 3) pa_nil)) pe_int (nomark _)) (pe_op op_sub (pe_callB (cr_minT rfl) (by rfl) mm (by decide +kernel) (pa_cons (pv 3) pa_nil)) pe_int) pe_int)), ?_⟩
    refine ⟨.ref c, rfl, c, _, 0, .bl J.1, rfl, rfl, SqT.of hc, rfl, J.1, rfl, ?_⟩
    obtain ⟨j, js⟩ := J
    cases j with
    | false =>
      refine iteT ⟨.ref c, rfl, c, _, 1, .ref pc, rfl, rfl, SqT.of hc, rfl, .ref pc, _, rfl, .inr ⟨_, SqT.of hpc, rfl⟩, _, 0, rfl, rfl, _, rfl, ?_⟩
      cases js with
      | nil => exact iteF (q H (Same.refl H))
      | cons e r =>
        have c0 : decide ((0 : Int) < (((List.map V.int (e :: r)).length : Nat) : Int)) = true := by
          rw [List.length_map, List.length_cons]
          exact decide_eq_true (by omega)
        show if decide ((0 : Int) < (((List.map V.int (e :: r)).length : Nat) : Int)) = true then _ else _
        rw [c0]
        exact iteT ⟨.ref c, rfl, c, _, 1, .ref pc, rfl, rfl, SqT.of hc, rfl, pc, _, 0, .int e, rfl, rfl, SqT.of hpc, atI_nat (j := 0) rfl, q H (Same.refl H)⟩
    | true =>
      refine iteF ⟨.ref a, rfl, a, _, 1, .ref pa, rfl, rfl, SqT.of ha, rfl, .ref b, rfl, b, _, 1, .ref pb, rfl, rfl, SqT.of hb, rfl, cat_read hpa hpb (by omega) fun u H1 s1 hu => ?_⟩
      refine ⟨.ref u, rfl, .ref u, _, rfl, .inr ⟨_, SqT.of hu, rfl⟩, _, 0, rfl, rfl, _, rfl, ?_⟩
      rw [List.length_map]
      by_cases hus : one.2 ++ other.2 = []
      · rw [hus]
        have qq := q H1 s1
        rw [hus] at qq
        exact iteF qq
      · have c0 : decide ((0 : Int) < (((one.2 ++ other.2).length : Nat) : Int)) = true := by
          refine decide_eq_true ?_
          have := List.length_pos_iff.mpr hus
          omega
        rw [c0]
        refine iteT ⟨.ref u, rfl, u, _, rfl, SqT.of hu, hus, fun m hm hle => ⟨m, 1, rfl, rfl, ?_⟩⟩
        rw [least_is hm hle]
        exact q H1 s1
structure FiAt (P : Program) (w : World) (K : PySem.W.Frag) (mg : Str → Option Value) (base : Heap) (fF : Addr) (fdF : FuncData) : Prop where
  F : Fun K "first_tick" "first_tick" sFirstTick fF fdF
  b : Binds K fdF ["line", "one", "other"] []
  g : mg "first_tick" = some (.ref fF)
  ok : FnOk P w K mg base CX0 1 fF fdF ["line", "one", "other"] spFi
/-! ### apart_at, beyond_at, never_beyond -/
def spAt (T : List (Addr × Str)) (g : Bool → Bool → Bool) : Sp := fun vs H Q _ => ∃ a b one other, TwoLines H vs a b one other ∧ Tabs T H ∧ ∀ H' J, Joins g one other J → ExtN H H' → Tabs T H' → Q (optV (firstT J (one.2 ++ other.2))) H'
theorem ok_apart {f fT fW fF : Addr} {fd fdT fdW fdF : FuncData} {T : List (Addr × Str)} {k : Nat} (F : Fun K "apart_at" "apart_at" sApart f fd) (C : TwoAt P w K mg base fT fdT) (W : WhAt P w K mg base T gX "where_unlike" fW fdW) (I : FiAt P w K mg base fF fdF) : FnOk P w K mg base CX0 (k + 5) f fd ["one", "other"] (spAt T gX) := by
  refine F.ok (scW 27) (fun vs H Q E h => ?_) (fun cdv A outer s H vs Q E hr h => ?_)
  · obtain ⟨a, b, one, other, t, _⟩ := h
    exact sp_len t
  · obtain ⟨a, b, one, other, t, hT, q⟩ := h
    obtain rfl := t.1
    have hr4 := hr.mono (j := 4) (by omega)
    have hr1 := hr.mono (j := 1) (by omega)
    refine ⟨_, pss_cons (ps_expr (pe_call C.ok hr4 (by rfl) C.g C.F.kp C.b .nil pass0 (pa_cons (pv 0) (pa_cons (pv 1) pa_nil))))
      (pss_one (ps_ret (pe_call I.ok hr1 (by rfl) I.g I.F.kp I.b .nil pass0 (pa_cons (pe_call W.ok hr4 (by rfl) W.gl W.kp W.b .nil pass0 (pa_cons (pv 0) (pa_cons (pv 1) pa_nil))) (pa_cons (pv 0) (pa_cons (pv 1) pa_nil)))))), ?_⟩
    refine ⟨.ref a, rfl, .ref b, rfl, a, b, one, other, t, fun H1 s1 => ⟨.ref a, rfl, .ref b, rfl, a, b, one, other, t.keep (extN_same s1), hT.ext s1, fun H2 r J j eN T2 hr2 => ?_⟩⟩
    have e2 := (extN_same s1).trans eN
    obtain ⟨_, k1, k2, _⟩ := t.keep e2
    exact ⟨.ref a, rfl, .ref b, rfl, r, a, b, J, one, other, rfl, hr2, k1, k2, t.2.2.2.2.2, fun H3 s3 => q H3 J j (e2.trans (extN_same s3)) (T2.ext s3)⟩
theorem ok_beyond {f fT fW fF : Addr} {fd fdT fdW fdF : FuncData} {T : List (Addr × Str)} {k : Nat} (F : Fun K "beyond_at" "beyond_at" sBeyondAt f fd) (C : TwoAt P w K mg base fT fdT) (W : WhAt P w K mg base T gB "where_beyond" fW fdW) (I : FiAt P w K mg base fF fdF) : FnOk P w K mg base CX0 (k + 5) f fd ["one", "other"] (spAt T gB) := by
  refine F.ok (scW 28) (fun vs H Q E h => ?_) (fun cdv A outer s H vs Q E hr h => ?_)
  · obtain ⟨a, b, one, other, t, _⟩ := h
    exact sp_len t
  · obtain ⟨a, b, one, other, t, hT, q⟩ := h
    obtain rfl := t.1
    have hr4 := hr.mono (j := 4) (by omega)
    have hr1 := hr.mono (j := 1) (by omega)
    refine ⟨_, pss_cons (ps_expr (pe_call C.ok hr4 (by rfl) C.g C.F.kp C.b .nil pass0 (pa_cons (pv 0) (pa_cons (pv 1) pa_nil))))
      (pss_one (ps_ret (pe_call I.ok hr1 (by rfl) I.g I.F.kp I.b .nil pass0 (pa_cons (pe_call W.ok hr4 (by rfl) W.gl W.kp W.b .nil pass0 (pa_cons (pv 0) (pa_cons (pv 1) pa_nil))) (pa_cons (pv 0) (pa_cons (pv 1) pa_nil)))))), ?_⟩
    refine ⟨.ref a, rfl, .ref b, rfl, a, b, one, other, t, fun H1 s1 => ⟨.ref a, rfl, .ref b, rfl, a, b, one, other, t.keep (extN_same s1), hT.ext s1, fun H2 r J j eN T2 hr2 => ?_⟩⟩
    have e2 := (extN_same s1).trans eN
    obtain ⟨_, k1, k2, _⟩ := t.keep e2
    exact ⟨.ref a, rfl, .ref b, rfl, r, a, b, J, one, other, rfl, hr2, k1, k2, t.2.2.2.2.2, fun H3 s3 => q H3 J j (e2.trans (extN_same s3)) (T2.ext s3)⟩
def spNv (T : List (Addr × Str)) : Sp := fun vs H Q _ => ∃ a b one other, TwoLines H vs a b one other ∧ Tabs T H ∧ ∀ H' J, Joins gB one other J → ExtN H H' → Tabs T H' → Q (.bl (decide (J = (false, [])))) H'
theorem ok_never {f fT fW : Addr} {fd fdT fdW : FuncData} {T : List (Addr × Str)} {k : Nat} (F : Fun K "never_beyond" "never_beyond" sNever f fd) (C : TwoAt P w K mg base fT fdT) (W : WhAt P w K mg base T gB "where_beyond" fW fdW) : FnOk P w K mg base CX0 (k + 5) f fd ["one", "other"] (spNv T) := by
  refine F.ok (scW 29) (fun vs H Q E h => ?_) (fun cdv A outer s H vs Q E hr h => ?_)
  · obtain ⟨a, b, one, other, t, _⟩ := h
    exact sp_len t
  · obtain ⟨a, b, one, other, t, hT, q⟩ := h
    obtain rfl := t.1
    have hr4 := hr.mono (j := 4) (by omega)
    refine ⟨_, pss_cons (ps_expr (pe_call C.ok hr4 (by rfl) C.g C.F.kp C.b .nil pass0 (pa_cons (pv 0) (pa_cons (pv 1) pa_nil))))
      (pss_one (ps_ret (pe_cmpR (op_eqD hr.units) (pe_call W.ok hr4 (by rfl) W.gl W.kp W.b .nil pass0 (pa_cons (pv 0) (pa_cons (pv 1) pa_nil))) (pe_tup (pa_cons pe_bl (pa_cons (pe_tup pa_nil) pa_nil))) (nomark _)))), ?_⟩
    refine ⟨.ref a, rfl, .ref b, rfl, a, b, one, other, t, fun H1 s1 => ⟨.ref a, rfl, .ref b, rfl, a, b, one, other, t.keep (extN_same s1), hT.ext s1, fun H2 r J j eN T2 hr2 => ?_⟩⟩
    refine ⟨Nat.zero_le _, fun l nl => ⟨by show 2 ≤ sizeLine; decide, fun m nm => ?_⟩⟩
    have s3 := same_upd (o := .tup []) nl
    have s4 := same_upd (o := .tup [V.bl false, V.ref l]) nm
    have s5 := s3.trans s4
    refine eqD_read (M := (false, [])) (hr2.keep (Tp.of s5)) ⟨l, upd_same, s4 _ _ upd_same⟩ ?_
    exact q _ J j ((extN_same s1).trans (eN.trans (extN_same s5))) (T2.ext s5)
end
end K06

namespace K06
open PySem PySem.Spec PyProof.Rows L2 LamX K06S
abbrev sTape : Stmt := topS 31
abbrev sPick : Stmt := topS 32
abbrev sEdges : Stmt := topS 33
abbrev sLine : Stmt := topS 34
abbrev sNear : Stmt := topS 37
/-! ### the tape -/
def TapeS (H : Hp) (t l : Addr) (pos bank mix turns : Int) (ns : List Int) : Prop := H t = some (.lst [.ref l, .int pos, .int bank, .int mix, .int turns]) ∧ H l = some (.lst (ns.map V.int)) ∧ l ≠ t ∧ 0 ≤ pos
/-- the tape at t with its cells at l -/
def TapeL (H : Hp) (t l : Addr) : Prop := ∃ pos bank mix turns ns, TapeS H t l pos bank mix turns ns
/-- all but the tape stays -/
def SameB (t : Addr) (H H' : Hp) : Prop := ∀ b o, H b = some o → b ≠ t → H' b = some o
theorem SameB.refl {t : Addr} {H : Hp} : SameB t H H := fun _ _ e _ => e
theorem SameB.trans {t : Addr} {H H1 H2 : Hp} (a : SameB t H H1) (b : SameB t H1 H2) : SameB t H H2 := fun c o e n => b c o (a c o e n) n
theorem SameB.of {t : Addr} {H H' : Hp} (e : Same H H') : SameB t H H' := fun b o h _ => e b o h
theorem sameB_upd {t : Addr} {H : Hp} {o : HO} : SameB t H (upd H t o) := fun b x e n => (upd_ne n).trans e
theorem TapeL.same {t l : Addr} {H H' : Hp} (h : TapeL H t l) (e : Same H H') : TapeL H' t l := by
  obtain ⟨pos, bank, mix, turns, ns, h1, h2, h3⟩ := h
  exact ⟨pos, bank, mix, turns, ns, e _ _ h1, e _ _ h2, h3⟩
theorem TapeL.ne_tup {t l : Addr} {H : Hp} (h : TapeL H t l) {b : Addr} {xs : List V} (e : H b = some (.tup xs)) : b ≠ t := by
  obtain ⟨pos, bank, mix, turns, ns, h1, _⟩ := h
  exact ne_of e h1 (fun z => by cases z)
theorem TapeL.ne_none {t l : Addr} {H : Hp} (h : TapeL H t l) {b : Addr} (e : H b = none) : b ≠ t ∧ b ≠ l := by
  obtain ⟨pos, bank, mix, turns, ns, h1, h2, _⟩ := h
  exact ⟨(ne_of_none h1 e).symm, (ne_of_none h2 e).symm⟩
/-- a list of ours, not the tape's, is written -/
theorem TapeL.own {t l p : Addr} {H : Hp} {o : HO} (h : TapeL H t l) (n : p ≠ t ∧ p ≠ l) : TapeL (upd H p o) t l := by
  obtain ⟨pos, bank, mix, turns, ns, h1, h2, h3⟩ := h
  exact ⟨pos, bank, mix, turns, ns, (upd_ne n.1.symm).trans h1, (upd_ne n.2.symm).trans h2, h3⟩
theorem LineAt.sameB {t l : Addr} {H H' : Hp} {a : Addr} {L : Line} (h : LineAt H a L) (T : TapeL H t l) (e : SameB t H H') : LineAt H' a L := by
  obtain ⟨p, h1, h2⟩ := h
  exact ⟨p, e _ _ h1 (T.ne_tup h1), e _ _ h2 (T.ne_tup h2)⟩
theorem TapeS.set1 {H : Hp} {t l : Addr} {pos bank mix turns : Int} {ns : List Int} (h : TapeS H t l pos bank mix turns ns) {v : Int} (hv : 0 ≤ v) : TapeS (upd H t (.lst ([V.ref l, .int pos, .int bank, .int mix, .int turns].set 1 (.int v)))) t l v bank mix turns ns :=
  ⟨upd_same, (upd_ne h.2.2.1).trans h.2.1, h.2.2.1, hv⟩
theorem TapeS.set2 {H : Hp} {t l : Addr} {pos bank mix turns : Int} {ns : List Int} (h : TapeS H t l pos bank mix turns ns) {v : Int} : TapeS (upd H t (.lst ([V.ref l, .int pos, .int bank, .int mix, .int turns].set 2 (.int v)))) t l pos v mix turns ns :=
  ⟨upd_same, (upd_ne h.2.2.1).trans h.2.1, h.2.2.1, h.2.2.2⟩
theorem TapeS.set3 {H : Hp} {t l : Addr} {pos bank mix turns : Int} {ns : List Int} (h : TapeS H t l pos bank mix turns ns) {v : Int} : TapeS (upd H t (.lst ([V.ref l, .int pos, .int bank, .int mix, .int turns].set 3 (.int v)))) t l pos bank v turns ns :=
  ⟨upd_same, (upd_ne h.2.2.1).trans h.2.1, h.2.2.1, h.2.2.2⟩
theorem TapeS.set4 {H : Hp} {t l : Addr} {pos bank mix turns : Int} {ns : List Int} (h : TapeS H t l pos bank mix turns ns) {v : Int} : TapeS (upd H t (.lst ([V.ref l, .int pos, .int bank, .int mix, .int turns].set 4 (.int v)))) t l pos bank mix v ns :=
  ⟨upd_same, (upd_ne h.2.2.1).trans h.2.1, h.2.2.1, h.2.2.2⟩
section
variable {P : Program} {w : World} {K : PySem.W.Frag} {mg : Str → Option Value} {base : Heap}
theorem scTa : FnScope ["_law_script"] ["_law_script"] (defScope sTape) := ⟨rfl, rfl, rfl, by decide +kernel, rfl, by decide +kernel, by decide +kernel⟩
def spTape (K : PySem.W.Frag) : Sp := fun vs H Q _ => ∃ (a : Addr) (ns : List Int), vs = [.ref a] ∧ SqL K H a (ns.map V.int) ∧ ∀ H' t l, Same H H' → H t = none → TapeL H' t l → Q (.ref t) H'
theorem ok_tape {f : Addr} {fd : FuncData} {k : Nat} (F : Fun K "_law_tape" "_law_tape" sTape f fd) (ml : mg "list" = none) : FnOk P w K mg base CX0 (k + 1) f fd ["_law_script"] (spTape K) := by
  refine F.ok scTa (fun vs H Q E h => ?_) (fun cdv A outer s H vs Q E hr h => ?_)
  · obtain ⟨a, ns, rfl, _⟩ := h
    rfl
  · obtain ⟨a, ns, rfl, hS, q⟩ := h
    refine ⟨_, pss_one (ps_ret (pe_lst (pa_cons (pe_callTy call_list_of (by rfl) ml (by decide +kernel) (pa_cons (pv 0) pa_nil)) (pa_cons pe_int (pa_cons pe_int (pa_cons pe_int (pa_cons pe_int pa_nil))))))), ?_⟩
    refine ⟨.ref a, rfl, a, _, rfl, .inl hS, fun l nl => ⟨by show 5 ≤ sizeLine; decide, fun t nt => ?_⟩⟩
    have s1 := same_upd (o := .lst (ns.map V.int)) nl
    have s2 := same_upd (o := .lst [V.ref l, .int 0, .int 0, .int 1, .int 0]) nt
    have nlt : l ≠ t := fun z => by
      rw [← z, upd_same] at nt
      cases nt
    exact q _ t l (s1.trans s2) (s1.free nt) ⟨0, 0, 1, 0, ns, upd_same, (upd_ne nlt).trans upd_same, nlt, Int.le_refl 0⟩
/-! ### pick -/
theorem scPi : FnScope ["_law_tape_here", "_law_many", "_law_digit", "_law_cell", "_law_mixed"] ["_law_tape_here", "_law_many"] (defScope sPick) := ⟨rfl, rfl, rfl, by decide +kernel, rfl, by decide +kernel, by decide +kernel⟩
def spPick : Sp := fun vs H Q _ => ∃ (t l : Addr) (m : Int), vs = [.ref t, .int m] ∧ TapeL H t l ∧ 0 < m ∧ m.natAbs.log2 < 9000 ∧ ∀ r H', 0 ≤ r → r < m → SameB t H H' → TapeL H' t l → Q (.int r) H'
theorem ok_pick {f : Addr} {fd : FuncData} {k : Nat} (F : Fun K "_law_pick" "_law_pick" sPick f fd) (mi : mg "int" = none) (ml : mg "len" = none) : FnOk P w K mg base CX0 (k + 1) f fd ["_law_tape_here", "_law_many"] spPick := by
  refine F.ok scPi (fun vs H Q E h => ?_) (fun cdv A outer s H vs Q E hr h => ?_)
  · obtain ⟨t, l, m, rfl, _⟩ := h
    rfl
  · obtain ⟨t, l, m, rfl, ⟨pos, bank, mix, turns, ns, T⟩, m0, ml2, q⟩ := h
    refine ⟨_, pss_cons (ps_if (pt_cmpR op_gt (pe_ix ix_list (pv 0) pe_int (fun _ _ => rfl)) pe_int (nomark _))
        (pss_cons (ps_set (i := 2) scPi.nd rfl (.inl rfl) (pe_op op_mod (pe_callTy call_int1 (by rfl) mi (by decide +kernel) (pa_cons (pe_ix ix_list (pv 0) pe_int (fun _ _ => rfl)) pa_nil)) (pv 1)))
        <| pss_cons (ps_asg (pe_op op_fdivW (pe_ix ix_list (pv 0) pe_int (fun _ _ => rfl)) (pv 1)) (pg_sub (pv 0) pe_int set_list))
        <| pss_one (ps_ret (pv 2))) pss_nil)
      <| pss_cons (ps_asg (pe_op op_add (pe_ix ix_list (pv 0) pe_int (fun _ _ => rfl)) pe_int) (pg_sub (pv 0) pe_int set_list))
      <| pss_cons (ps_set (i := 3) scPi.nd rfl (.inl rfl) pe_int)
      <| C8.pss_cut (ps_if (pt_cmpR op_lt (pe_ix ix_list (pv 0) pe_int (fun _ _ => rfl)) (pe_callB call_len (by rfl) ml PySem.boot_len (pa_cons (pe_ix ix_list (pv 0) pe_int (fun _ _ => rfl)) pa_nil)) (nomark _))
        (pss_cons (ps_set (i := 3) scPi.nd rfl (.inl rfl) (pe_ix ix_list (pe_ix ix_list (pv 0) pe_int (fun _ _ => rfl)) (pe_ix ix_list (pv 0) pe_int (fun _ _ => rfl)) (fun _ _ => rfl)))
        <| pss_one (ps_asg (pe_op op_add (pe_ix ix_list (pv 0) pe_int (fun _ _ => rfl)) pe_int) (pg_sub (pv 0) pe_int set_list))) pss_nil)
      <| pss_cons (ps_if (pt_cmpR op_ge (pv 3) (pe_op op_pow pe_int pe_int) (nomark _))
        (pss_cons (ps_asg (pe_op op_fdivW (pv 3) (pv 1)) (pg_sub (pv 0) pe_int set_list))
        <| pss_one (ps_ret (pe_op op_mod (pe_callTy call_int1 (by rfl) mi (by decide +kernel) (pa_cons (pv 3) pa_nil)) (pv 1)))) pss_nil)
      <| pss_cons (ps_set (i := 4) scPi.nd rfl (.inl rfl) (pe_op op_mod (pe_callTy call_int1 (by rfl) mi (by decide +kernel) (pa_cons (pe_op op_add (pe_op op_add (pe_op op_mul (pe_ix ix_list (pv 0) pe_int (fun _ _ => rfl)) pe_int)
          (pe_op op_mod (pe_callTy call_int1 (by rfl) mi (by decide +kernel) (pa_cons (pv 3) pa_nil)) pe_int)) (pe_op op_mul (pe_ix ix_list (pv 0) pe_int (fun _ _ => rfl)) pe_int)) pa_nil)) pe_int))
      <| pss_cons (ps_set (i := 4) scPi.nd rfl (.inl rfl) (pe_op op_mod (pe_callTy call_int1 (by rfl) mi (by decide +kernel) (pa_cons (pe_op op_mul (pv 4) (pe_op op_add (pe_op op_fdiv (pv 4) pe_int) pe_int)) pa_nil)) pe_int))
      <| pss_cons (ps_asg (pv 4) (pg_sub (pv 0) pe_int set_list))
      <| pss_one (ps_ret (pe_op op_mod (pe_callTy call_int1 (by rfl) mi (by decide +kernel) (pa_cons (pe_op op_fdiv (pv 4) pe_int) pa_nil)) (pv 1))), ?_⟩
    refine ⟨.ref t, rfl, t, _, 2, .int bank, rfl, rfl, SqL.of T.1, rfl, bank, 1, rfl, rfl, _, rfl, ite2 (fun _ => ?_) fun _ => ?_⟩
    · refine ⟨.ref t, rfl, t, _, 2, .int bank, rfl, rfl, SqL.of T.1, rfl, .inl ⟨bank, rfl, .int m, rfl, bank, m, rfl, rfl, m0, ?_⟩⟩
      refine ⟨.ref t, rfl, t, _, 2, .int bank, rfl, rfl, SqL.of T.1, rfl, .int m, rfl, bank, m, rfl, rfl, ⟨m0, ml2⟩, .ref t, rfl, t, _, 2, 2, rfl, rfl, T.1, rfl, ?_⟩
      exact ⟨_, rfl, q _ _ (Int.emod_nonneg _ (by omega)) (Int.emod_lt_of_pos _ m0) sameB_upd ⟨_, _, _, _, _, T.set2⟩⟩
    · refine ⟨.ref t, rfl, t, _, 4, .int turns, rfl, rfl, SqL.of T.1, rfl, turns, 1, rfl, rfl, .ref t, rfl, t, _, 4, 4, rfl, rfl, T.1, rfl, ?_⟩
      have T4 := T.set4 (v := turns + 1)
      have B4 : SameB t H (upd H t (.lst ([V.ref l, .int pos, .int bank, .int mix, .int turns].set 4 (.int (turns + 1))))) := sameB_upd
      revert T4 B4
      generalize upd H t (.lst ([V.ref l, .int pos, .int bank, .int mix, .int turns].set 4 (.int (turns + 1)))) = H1
      intro T4 B4
      refine ⟨fun σ H2 => ∃ c : Int, σ = [some (.ref t), some (.int m), none, some (.int c), none] ∧ SameB t H H2 ∧ TapeL H2 t l, ?_, fun σ H2 hM => ?_⟩
      · refine ⟨.ref t, rfl, t, _, 1, .int pos, rfl, rfl, SqL.of T4.1, rfl, .ref t, rfl, t, _, 0, .ref l, rfl, rfl, SqL.of T4.1, rfl, .ref l, _, rfl, .inl ⟨_, SqL.of T4.2.1, rfl⟩, pos, _, rfl, rfl, _, rfl, ite2 (fun c => ?_) fun c => ?_⟩
        · have hc := of_decide_eq_true c
          have hp := T4.2.2.2
          obtain ⟨n, rfl⟩ : ∃ n : Nat, pos = (n : Int) := ⟨pos.toNat, by omega⟩
          have hn : n < ns.length := by
            rw [List.length_map] at hc
            omega
          have gn : (ns.map V.int)[n]? = some (.int ns[n]) := by
            rw [List.getElem?_map, List.getElem?_eq_getElem hn]
            rfl
          refine ⟨.ref t, rfl, t, _, 0, .ref l, rfl, rfl, SqL.of T4.1, rfl, .ref t, rfl, t, _, 1, .int n, rfl, rfl, SqL.of T4.1, rfl, l, _, n, .int ns[n], rfl, rfl, SqL.of T4.2.1, atI_nat gn, ?_⟩
          refine ⟨.ref t, rfl, t, _, 1, .int n, rfl, rfl, SqL.of T4.1, rfl, n, 1, rfl, rfl, .ref t, rfl, t, _, 1, 1, rfl, rfl, T4.1, rfl, ?_⟩
          exact ⟨ns[n], rfl, B4.trans sameB_upd, _, _, _, _, _, T4.set1 (by omega)⟩
        · exact ⟨0, rfl, B4, _, _, _, _, _, T4⟩
      · obtain ⟨c, rfl, B, pos2, bank2, mix2, turns2, ns2, T2⟩ := hM
        refine ⟨.int c, rfl, 10, 18, rfl, rfl, ⟨by decide, by decide, by decide⟩, c, _, rfl, rfl, _, rfl, ite2 (fun _ => ?_) fun _ => ?_⟩
        · refine ⟨.int c, rfl, .int m, rfl, c, m, rfl, rfl, ⟨m0, ml2⟩, .ref t, rfl, t, _, 2, 2, rfl, rfl, T2.1, rfl, ?_⟩
          exact ⟨.int c, rfl, .inl ⟨c, rfl, .int m, rfl, c, m, rfl, rfl, m0, q _ _ (Int.emod_nonneg _ (by omega)) (Int.emod_lt_of_pos _ m0) (B.trans sameB_upd) ⟨_, _, _, _, _, T2.set2⟩⟩⟩
        · refine ⟨.ref t, rfl, t, _, 3, .int mix2, rfl, rfl, SqL.of T2.1, rfl, mix2, 48271, rfl, rfl, .inr ⟨by decide, by decide⟩, ?_⟩
          refine ⟨.int c, rfl, .inl ⟨c, rfl, c, 2147483629, rfl, rfl, (show (0 : Int) < 2147483629 by decide), _, _, rfl, rfl, ?_⟩⟩
          refine ⟨.ref t, rfl, t, _, 4, .int turns2, rfl, rfl, SqL.of T2.1, rfl, turns2, 69621, rfl, rfl, .inr ⟨by decide, by decide⟩, _, _, rfl, rfl, .inl ⟨_, rfl, _, 2147483647, rfl, rfl, (show (0 : Int) < 2147483647 by decide), ?_⟩⟩
          generalize mix2 * 48271 + c % 2147483629 + turns2 * 69621 = z
          have z0 := Int.emod_nonneg z (show (2147483647 : Int) ≠ 0 by decide)
          have z1 := Int.emod_lt_of_pos z (show (0 : Int) < 2147483647 by decide)
          show _
          refine ⟨_, rfl, _, rfl, _, 1009, rfl, rfl, ⟨by decide, by decide⟩, _, 40692, rfl, rfl, _, _, rfl, rfl, .inl ⟨by omega, by omega⟩, .inl ⟨_, rfl, _, 2147483399, rfl, rfl, (show (0 : Int) < 2147483399 by decide), ?_⟩⟩
          generalize z % 2147483647 * (z % 2147483647 / 1009 + 40692) = y
          refine ⟨_, rfl, .ref t, rfl, t, _, 3, 3, rfl, rfl, T2.1, rfl, ?_⟩
          exact ⟨_, rfl, _, 16, rfl, rfl, ⟨by decide, by decide⟩, .inl ⟨_, rfl, .int m, rfl, _, m, rfl, rfl, m0, q _ _ (Int.emod_nonneg _ (by omega)) (Int.emod_lt_of_pos _ m0) (B.trans sameB_upd) ⟨_, _, _, _, _, T2.set3⟩⟩⟩
structure PickAt (P : Program) (w : World) (K : PySem.W.Frag) (mg : Str → Option Value) (base : Heap) (fP : Addr) (fdP : FuncData) : Prop where
  F : Fun K "_law_pick" "_law_pick" sPick fP fdP
  b : Binds K fdP ["_law_tape_here", "_law_many"] []
  g : mg "_law_pick" = some (.ref fP)
  ok : FnOk P w K mg base CX0 1 fP fdP ["_law_tape_here", "_law_many"] spPick
end
end K06

namespace K06
open PySem PySem.Spec PyProof.Rows L2 LamX K06S
theorem setI {X : Cx} {K : PySem.W.Frag} {w : World} (hc : X.calm = true) (h : X.K = K := by rfl) (hw : X.w = w := by rfl) : CallR X (.type "set") (rSetI K w) := by
  subst h hw
  exact cr_setI hc
theorem srtS {X : Cx} {w : World} (hc : X.calm = true) (hw : X.w = w := by rfl) : CallR X (.builtin "sorted") (rSortedSet w) := by
  subst hw
  exact cr_sortedSet hc
theorem log_small {m : Int} (h0 : 0 < m) (h : m < 2 ^ 200) : m.natAbs.log2 < 9000 := by
  have h2 : m.natAbs < 2 ^ 200 := by omega
  have h3 : m.natAbs ≠ 0 := by omega
  have := (Nat.log2_lt h3).mpr h2
  omega
theorem menu6 {wide r : Int} (hw : 0 ≤ wide) (h0 : 0 ≤ r) (h1 : r < 6) : ∃ d : Int, 0 ≤ d ∧ atI [V.int 0, .int 0, .int 1, .int 2, .int 4, .int wide] r = some (.int d) := by
  have h : r = 0 ∨ r = 1 ∨ r = 2 ∨ r = 3 ∨ r = 4 ∨ r = 5 := by omega
  rcases h with rfl | rfl | rfl | rfl | rfl | rfl
  · exact ⟨0, by omega, rfl⟩
  · exact ⟨0, by omega, rfl⟩
  · exact ⟨1, by omega, rfl⟩
  · exact ⟨2, by omega, rfl⟩
  · exact ⟨4, by omega, rfl⟩
  · exact ⟨wide, hw, rfl⟩
theorem menu5 {r a b : Int} (ha : 0 ≤ a ∧ a ≤ 10 ^ 30) (hb : 0 ≤ b ∧ b ≤ 10 ^ 30) (h0 : 0 ≤ r) (h1 : r < 5) : ∃ d : Int, (0 ≤ d ∧ d ≤ 10 ^ 30) ∧ atI [V.int 5, .int 5, .int 9, .int a, .int b] r = some (.int d) := by
  have h : r = 0 ∨ r = 1 ∨ r = 2 ∨ r = 3 ∨ r = 4 := by omega
  rcases h with rfl | rfl | rfl | rfl | rfl
  · exact ⟨5, by decide, rfl⟩
  · exact ⟨5, by decide, rfl⟩
  · exact ⟨9, by decide, rfl⟩
  · exact ⟨a, ha, rfl⟩
  · exact ⟨b, hb, rfl⟩
theorem menu4 {r : Int} (h0 : 0 ≤ r) (h1 : r < 4) : ∃ d : Int, atI [V.int 0, .int 0, .int 0, .int 1] r = some (.int d) := by
  have h : r = 0 ∨ r = 1 ∨ r = 2 ∨ r = 3 := by omega
  rcases h with rfl | rfl | rfl | rfl
  · exact ⟨0, rfl⟩
  · exact ⟨0, rfl⟩
  · exact ⟨0, rfl⟩
  · exact ⟨1, rfl⟩
theorem TapeL.new {H : Hp} {t l p : Addr} {o : HO} (h : TapeL H t l) (n : H p = none) : TapeL (upd H p o) t l := h.same (same_upd n)
/-- nothing stood at p ahead, where all but the tape is kept -/
theorem SameB.free {H H1 : Hp} {t p : Addr} (B : SameB t H H1) (n : H1 p = none) (h : p ≠ t) : H p = none := by
  cases q : H p with
  | none => rfl
  | some o =>
    rw [B p o q h] at n
    cases n
theorem SameB.own {H H1 : Hp} {t p : Addr} {o : HO} (B : SameB t H H1) (n : H p = none) : SameB t H (upd H1 p o) := fun b x e h => (upd_ne (ne_of_none e n)).trans (B b x e h)
theorem asc_snoc {es : List Int} {x : Int} (h : Asc es) (lt : ∀ e ∈ es, e < x) : Asc (es ++ [x]) :=
  List.pairwise_append.mpr ⟨h, List.pairwise_cons.mpr ⟨fun _ z => (by cases z), List.Pairwise.nil⟩, fun a ha b hb => by
    rw [List.mem_singleton.mp hb]
    exact lt a ha⟩
section
variable {P : Program} {w : World} {K : PySem.W.Frag} {mg : Str → Option Value} {base : Heap}
/-! ### edges -/
theorem scEd : FnScope ["_law_tape_here", "_law_most", "_law_wide", "_law_tick", "_law_found", "_law_turn"] ["_law_tape_here", "_law_most", "_law_wide"] (defScope sEdges) := ⟨rfl, rfl, rfl, by decide +kernel, rfl, by decide +kernel, by decide +kernel⟩
def spEd : Sp := fun vs H Q _ => ∃ (t l : Addr) (most wide : Int), vs = [.ref t, .int most, .int wide] ∧ TapeL H t l ∧ 0 ≤ most ∧ most ≤ 100 ∧ 0 ≤ wide ∧ wide ≤ 10 ^ 30 ∧
  ∀ H' r es, SameB t H H' → TapeL H' t l → H' r = some (.tup (es.map V.int)) → Asc es → (es.length : Int) ≤ most → Q (.ref r) H'
theorem ok_ed {f fP : Addr} {fd fdP : FuncData} {k : Nat} (F : Fun K "_law_edges" "_law_edges" sEdges f fd) (C : PickAt P w K mg base fP fdP) (mr : mg "range" = none) (mt : mg "tuple" = none) : FnOk P w K mg base CX0 (k + 2) f fd ["_law_tape_here", "_law_most", "_law_wide"] spEd := by
  refine F.ok scEd (fun vs H Q E h => ?_) (fun cdv A outer s H vs Q E hr h => ?_)
  · obtain ⟨t, l, m, wd, rfl, _⟩ := h
    rfl
  · obtain ⟨t, l, most, wide, rfl, T, m0, m1, w0, w1, q⟩ := h
    have hr1 := hr.mono (j := 1) (by omega)
    have wide2 : (10 : Int) ^ 30 < 2 ^ 198 := by decide
    refine ⟨_, pss_cons (ps_set (i := 3) scEd.nd rfl (.inl rfl) (pe_op op_sub (pe_call C.ok hr1 (by rfl) C.g C.F.kp C.b .nil pass0 (pa_cons (pv 0) (pa_cons (pe_op op_add (pe_op op_mul pe_int (pv 2)) pe_int) pa_nil))) (pv 2)))
      <| pss_cons (ps_set (i := 4) scEd.nd rfl (.inl rfl) (pe_lst pa_nil))
      <| pss_cons (ps_for PassesOwn.never rfl (pi_range1 (by rfl) mr (pa_cons (pe_call C.ok hr1 (by rfl) C.g C.F.kp C.b .nil pass0 (pa_cons (pv 0) (pa_cons (pe_op op_add (pv 1) pe_int) pa_nil))) pa_nil)) (pg_name (i := 5) scEd.nd rfl (.inl rfl))
        (pss_cons (ps_expr (pe_bm PySem.F.plainAttrs_list PySem.F.slot_list_append PySem.F.type_list_append mt_append (pv 4) (pa_cons (pv 3) pa_nil)))
        <| pss_one (ps_set (i := 3) scEd.nd rfl (.inl rfl) (pe_op op_add (pe_op op_add (pv 3) pe_int) (pe_ix ix_list (pe_lst (pa_cons pe_int (pa_cons pe_int (pa_cons pe_int (pa_cons pe_int (pa_cons pe_int (pa_cons (pv 2) pa_nil)))))))
            (pe_call C.ok hr1 (by rfl) C.g C.F.kp C.b .nil pass0 (pa_cons (pv 0) (pa_cons pe_int pa_nil))) (fun _ _ => rfl))))))
      <| pss_one (ps_ret (pe_callTy call_tuple_of (by rfl) mt (by decide +kernel) (pa_cons (pv 4) pa_nil))), ?_⟩
    -- the first tick
    refine ⟨.ref t, rfl, .int wide, rfl, 2, wide, rfl, rfl, .inl ⟨by decide, by decide⟩, _, 1, rfl, rfl, t, l, 2 * wide + 1, rfl, T, by omega, log_small (by omega) (by omega), fun r H1 r0 r1 B1 T1 => ?_⟩
    refine ⟨.int wide, rfl, r, wide, rfl, rfl, Nat.zero_le _, fun fd nF => ?_⟩
    have nFt := T1.ne_none nF
    have nFH : H fd = none := B1.free nF nFt.1
    have B2 : SameB t H (upd H1 fd (.lst [])) := B1.own nFH
    have T2 : TapeL (upd H1 fd (.lst [])) t l := T1.new nF
    have hF2 : upd H1 fd (.lst []) fd = some (.lst []) := upd_same
    revert B2 T2 hF2
    generalize upd H1 fd (.lst []) = H2
    intro B2 T2 hF2
    -- how many
    refine ⟨.ref t, rfl, .int most, rfl, most, 1, rfl, rfl, t, l, most + 1, rfl, T2, by omega, log_small (by omega) (by omega), fun n H3 n0 n1 B3 T3 => ?_⟩
    have hF3 : H3 fd = some (.lst []) := B3 _ _ hF2 nFt.1
    refine ⟨n, rfl, by omega, by omega, ?_⟩
    refine for_range (lo := 0) (n := n.toNat) (fun i σ H4 => ∃ (es : List Int) (x : Int) (y5 : Option V), σ = [some (.ref t), some (.int most), some (.int wide), some (.int x), some (.ref fd), y5] ∧
        SameB t H H4 ∧ TapeL H4 t l ∧ H4 fd = some (.lst (es.map V.int)) ∧ Asc es ∧ (∀ e ∈ es, e < x) ∧ es.length = i) ⟨[], _, none, rfl, B2.trans B3, T3, hF3, List.Pairwise.nil, fun e he => (by cases he), rfl⟩ (fun i σ H4 hi hW => ?_) fun σ H4 hW => ?_
    · obtain ⟨es, x, y5, rfl, B4, T4, hF4, asc, lt, len⟩ := hW
      refine ⟨.ref fd, rfl, .inl ⟨rfl, _, SqL.of hF4⟩, .int x, rfl, fd, _, _, rfl, rfl, hF4, ?_, ?_⟩
      · rw [List.length_map]
        exact small1000 (by omega)
      · have T5 : TapeL (upd H4 fd (.lst (es.map V.int ++ [V.int x]))) t l := T4.own nFt
        have B5 : SameB t H (upd H4 fd (.lst (es.map V.int ++ [V.int x]))) := B4.own nFH
        have hF5 : upd H4 fd (.lst (es.map V.int ++ [V.int x])) fd = some (.lst ((es ++ [x]).map V.int)) := by
          rw [upd_same, List.map_append]
          rfl
        revert T5 B5 hF5
        generalize upd H4 fd (.lst (es.map V.int ++ [V.int x])) = H5
        intro T5 B5 hF5
        refine ⟨.int x, rfl, x, 1, rfl, rfl, .int wide, rfl, by show 6 ≤ sizeLine; decide, fun p nP => ?_⟩
        have nPt := T5.ne_none nP
        have nPF : p ≠ fd := fun z => by
          rw [z, hF5] at nP
          cases nP
        refine ⟨.ref t, rfl, t, l, 6, rfl, T5.new nP, by decide, log_small (by decide) (by decide), fun r6 H6 a0 a1 B6 T6 => ?_⟩
        obtain ⟨d, d0, hd⟩ := menu6 w0 a0 a1
        have hP6 := B6 _ _ upd_same nPt.1
        have hF6 := B6 _ _ ((upd_ne nPF.symm).trans hF5) nFt.1
        refine ⟨p, _, r6, .int d, rfl, rfl, SqL.of hP6, hd, x + 1, d, rfl, rfl, es ++ [x], x + 1 + d, _, rfl, (B5.trans (SameB.of (same_upd nP))).trans B6, T6, hF6, asc_snoc asc lt, fun e he => ?_, by rw [List.length_append, len]; rfl⟩
        rcases List.mem_append.mp he with z | z
        · have := lt e z
          omega
        · rw [List.mem_singleton.mp z]
          omega
    · obtain ⟨es, x, y5, rfl, B4, T4, hF4, asc, lt, len⟩ := hW
      refine ⟨.ref fd, rfl, fd, _, rfl, .inl ⟨SqL.of hF4, fun r nr => ?_⟩⟩
      have nrt := T4.ne_none nr
      exact q _ r es (B4.trans (SameB.of (same_upd nr))) (T4.new nr) upd_same asc (by omega)
structure EdAt (P : Program) (w : World) (K : PySem.W.Frag) (mg : Str → Option Value) (base : Heap) (fE : Addr) (fdE : FuncData) : Prop where
  F : Fun K "_law_edges" "_law_edges" sEdges fE fdE
  b : Binds K fdE ["_law_tape_here", "_law_most", "_law_wide"] []
  g : mg "_law_edges" = some (.ref fE)
  ok : FnOk P w K mg base CX0 2 fE fdE ["_law_tape_here", "_law_most", "_law_wide"] spEd
/-! ### a line -/
theorem scLi : FnScope ["_law_tape_here", "_law_most", "_law_wide"] ["_law_tape_here", "_law_most"] (defScope sLine) := ⟨rfl, rfl, rfl, by decide +kernel, rfl, by decide +kernel, by decide +kernel⟩
def Drawn (t l : Addr) (H : Hp) (Q : VK) : Prop := ∀ H' r L, SameB t H H' → TapeL H' t l → LineAt H' r L → Asc L.2 → L.2.length ≤ 10 → Q (.ref r) H'
def spLi : Sp := fun vs H Q _ => ∃ t l, vs = [.ref t, .int 10] ∧ TapeL H t l ∧ Drawn t l H Q
theorem ok_li {f fP fE : Addr} {fd fdP fdE : FuncData} {k : Nat} (F : Fun K "_law_line" "_law_line" sLine f fd) (C : PickAt P w K mg base fP fdP) (D : EdAt P w K mg base fE fdE) : FnOk P w K mg base CX0 (k + 3) f fd ["_law_tape_here", "_law_most"] spLi := by
  refine F.ok scLi (fun vs H Q E h => ?_) (fun cdv A outer s H vs Q E hr h => ?_)
  · obtain ⟨t, l, rfl, _⟩ := h
    rfl
  · obtain ⟨t, l, rfl, T, q⟩ := h
    have hr1 := hr.mono (j := 1) (by omega)
    have hr2 := hr.mono (j := 2) (by omega)
    refine ⟨_, pss_cons (ps_set (i := 2) scLi.nd rfl (.inl rfl) (pe_ix ix_list (pe_lst (pa_cons pe_int (pa_cons pe_int (pa_cons pe_int (pa_cons (pe_op op_pow pe_int pe_int) (pa_cons (pe_op op_pow pe_int pe_int) pa_nil))))))
          (pe_call C.ok hr1 (by rfl) C.g C.F.kp C.b .nil pass0 (pa_cons (pv 0) (pa_cons pe_int pa_nil))) (fun _ _ => rfl)))
      <| pss_one (ps_ret (pe_tup (pa_cons (pe_cmpR op_eq (pe_call C.ok hr1 (by rfl) C.g C.F.kp C.b .nil pass0 (pa_cons (pv 0) (pa_cons pe_int pa_nil))) pe_int (nomark _))
          (pa_cons (pe_call D.ok hr2 (by rfl) D.g D.F.kp D.b .nil pass0 (pa_cons (pv 0) (pa_cons (pv 1) (pa_cons (pv 2) pa_nil)))) pa_nil)))), ?_⟩
    refine ⟨10, 6, rfl, rfl, ⟨by decide, by decide, by decide⟩, 10, 30, rfl, rfl, ⟨by decide, by decide, by decide⟩, by show 5 ≤ sizeLine; decide, fun p nP => ?_⟩
    have nPt := T.ne_none nP
    refine ⟨.ref t, rfl, t, l, 5, rfl, T.new nP, by decide, log_small (by decide) (by decide), fun r H1 r0 r1 B1 T1 => ?_⟩
    have hP1 := B1 _ _ upd_same nPt.1
    obtain ⟨d, ⟨d0, d1⟩, hd⟩ := menu5 (r := r) (a := 10 ^ (6 : Int).toNat) (b := 10 ^ (30 : Int).toNat) (by decide) (by decide) r0 r1
    have Ba := (SameB.of (same_upd nP)).trans B1
    refine ⟨p, _, r, .int d, rfl, rfl, SqL.of hP1, hd, ?_⟩
    refine ⟨.ref t, rfl, t, l, 2, rfl, T1, by decide, log_small (by decide) (by decide), fun b H2 _ _ B2 T2 => ⟨rfl, ?_⟩⟩
    refine ⟨.ref t, rfl, .int 10, rfl, .int d, rfl, t, l, 10, d, rfl, T2, by decide, by decide, d0, d1, fun H3 r3 es B3 T3 h3 asc len => ⟨by show 2 ≤ sizeLine; decide, fun o nO => ?_⟩⟩
    have nOt := T3.ne_none nO
    exact q _ o (_, es) (((Ba.trans B2).trans B3).trans (SameB.of (same_upd nO))) (T3.new nO) ⟨r3, upd_same, same_upd nO _ _ h3⟩ asc (by show es.length ≤ 10; omega)
structure LiAt (P : Program) (w : World) (K : PySem.W.Frag) (mg : Str → Option Value) (base : Heap) (fL : Addr) (fdL : FuncData) : Prop where
  F : Fun K "_law_line" "_law_line" sLine fL fdL
  b : Binds K fdL ["_law_tape_here", "_law_most"] []
  g : mg "_law_line" = some (.ref fL)
  ok : FnOk P w K mg base CX0 3 fL fdL ["_law_tape_here", "_law_most"] spLi
/-! ### a line near another -/
theorem scNe : FnScope ["_law_tape_here", "_law_line_here", "_law_edges_here", "_law_edge"] ["_law_tape_here", "_law_line_here"] (defScope sNear) := ⟨rfl, rfl, rfl, by decide +kernel, rfl, by decide +kernel, by decide +kernel⟩
def spNe : Sp := fun vs H Q _ => ∃ t l a L, vs = [.ref t, .ref a] ∧ TapeL H t l ∧ LineAt H a L ∧ L.2.length ≤ 10 ∧ Drawn t l H Q
theorem ok_ne {f fP fL : Addr} {fd fdP fdL : FuncData} {k : Nat} (F : Fun K "_law_near" "_law_near" sNear f fd) (C : PickAt P w K mg base fP fdP) (D : LiAt P w K mg base fL fdL) (mt : mg "tuple" = none) (ms : mg "sorted" = none) (mset : mg "set" = none) :
    FnOk P w K mg base CX0 (k + 4) f fd ["_law_tape_here", "_law_line_here"] spNe := by
  refine F.ok scNe (fun vs H Q E h => ?_) (fun cdv A outer s H vs Q E hr h => ?_)
  · obtain ⟨t, l, a, L, rfl, _⟩ := h
    rfl
  · obtain ⟨t, l, a, L, rfl, T, ⟨pa, ha, hpa⟩, len, q⟩ := h
    have hr1 := hr.mono (j := 1) (by omega)
    have hr3 := hr.mono (j := 3) (by omega)
    refine ⟨_, pss_cons (ps_if (pt_cmpR op_eq (pe_call C.ok hr1 (by rfl) C.g C.F.kp C.b .nil pass0 (pa_cons (pv 0) (pa_cons pe_int pa_nil))) pe_int (nomark _))
        (pss_one (ps_ret (pe_call D.ok hr3 (by rfl) D.g D.F.kp D.b .nil pass0 (pa_cons (pv 0) (pa_cons pe_int pa_nil))))) pss_nil)
      <| pss_cons (ps_setLc (i := 2) (own := [("_law_edge", 3)]) (g := gName 3) rfl scNe.nd rfl rfl (sw_true rfl rfl rfl (by decide +kernel)) (pi_tup (pe_ix ix_tup (pv 1) pe_int (fun _ _ => rfl)))
          (blkOk_by (own := [("_law_edge", 3)]) (N := ["_law_tape_here", "_law_line_here", "_law_edges_here", "_law_edge"]) (sc := defScope sNear) (by decide +kernel)) (fun _ _ _ _ _ => pg_name (i := 3) scNe.nd rfl (Or.inl rfl))
          (fun _ _ _ _ _ => pts_one (pt_cmpR op_gt (pe_call C.ok hr1 (by rfl) C.g C.F.kp C.b .nil pass0 (pa_cons (pv 0) (pa_cons pe_int pa_nil))) pe_int (nomark _)))
          (fun _ _ _ _ _ => pe_op op_add (pv 3) (pe_ix (ixL (K := K)) (pe_lst (pa_cons pe_int (pa_cons pe_int (pa_cons pe_int (pa_cons pe_int pa_nil))))) (pe_call C.ok hr1 (by rfl) C.g C.F.kp C.b .nil pass0 (pa_cons (pv 0) (pa_cons pe_int pa_nil))) (fun _ _ => rfl))))
      <| pss_one (ps_ret (pe_tup (pa_cons (pe_cmpR op_eq (pe_call C.ok hr1 (by rfl) C.g C.F.kp C.b .nil pass0 (pa_cons (pv 0) (pa_cons pe_int pa_nil))) pe_int (nomark _))
          (pa_cons (pe_callTy call_tuple_of (by rfl) mt (by decide +kernel) (pa_cons (pe_callB (srtS (w := w) rfl) (by rfl) ms (by decide +kernel) (pa_cons (pe_callTy (setI (K := K) (w := w) rfl) (by rfl) mset (by decide +kernel) (pa_cons (pv 2) pa_nil)) pa_nil)) pa_nil)) pa_nil)))), ?_⟩
    refine ⟨.ref t, rfl, t, l, 3, rfl, T, by decide, log_small (by decide) (by decide), fun r H1 r0 r1 B1 T1 => ⟨rfl, _, rfl, ite2 (fun _ => ?_) fun _ => ?_⟩⟩
    · exact ⟨.ref t, rfl, t, l, rfl, T1, fun H2 o M B2 T2 hL asc ln => q H2 o M (B1.trans B2) T2 hL asc ln⟩
    · have ha1 := B1 _ _ ha (T.ne_tup ha)
      have hpa1 := B1 _ _ hpa (T.ne_tup hpa)
      refine ⟨.ref a, rfl, a, _, 1, .ref pa, rfl, rfl, SqT.of ha1, rfl, pa, rfl, ⟨_, SqT.of hpa1⟩, fun D nD => ?_⟩
      have nDt := T1.ne_none nD
      have nDH : H D = none := B1.free nD nDt.1
      refine lc_tup (xs := L.2.map V.int) (fun i H2 => SameB t H H2 ∧ TapeL H2 t l ∧ ∃ zs : List Int, H2 D = some (.lst (zs.map V.int)) ∧ zs.length ≤ i) ⟨B1.own nDH, T1.new nD, [], upd_same, Nat.le_refl _⟩
        (fun i H2 _ ⟨B2, _⟩ => SqT.of (B2 _ _ hpa (T.ne_tup hpa))) (fun i x H2 hx ⟨B2, T2, zs, hD, hz⟩ => ?_) fun H2 ⟨B2, T2, zs, hD, hz⟩ => ?_
      · have hi := (List.getElem?_eq_some_iff.mp hx).1
        rw [List.length_map] at hi
        rw [List.getElem?_map, List.getElem?_eq_getElem hi] at hx
        obtain rfl : V.int L.2[i] = x := Option.some.inj hx
        refine ⟨rfl, .ref t, rfl, t, l, 3, rfl, T2, by decide, log_small (by decide) (by decide), fun b H3 b0 b1 B3 T3 => ⟨b, 0, rfl, rfl, _, rfl, ?_⟩⟩
        have hD3 := B3 _ _ hD nDt.1
        refine ite2 (fun _ => ?_) fun _ => ⟨B2.trans B3, T3, zs, hD3, by omega⟩
        refine ⟨.int L.2[i], rfl, by show 4 ≤ sizeLine; decide, fun p nP => ?_⟩
        have nPt := T3.ne_none nP
        have nPD : p ≠ D := fun z => by
          rw [z, hD3] at nP
          cases nP
        refine ⟨.ref t, rfl, t, l, 4, rfl, T3.new nP, by decide, log_small (by decide) (by decide), fun r4 H4 a0 a1 B4 T4 => ?_⟩
        obtain ⟨d, hd⟩ := menu4 a0 a1
        have hP4 := B4 _ _ upd_same nPt.1
        have hD4 := B4 _ _ ((upd_ne nPD.symm).trans hD3) nDt.1
        refine ⟨p, _, r4, .int d, rfl, rfl, SqL.of hP4, hd, L.2[i], d, rfl, rfl, _, hD4, ?_, ?_, T4.own nDt, zs ++ [L.2[i] + d], ?_, ?_⟩
        · rw [List.length_map]
          exact small1000 (by omega)
        · exact SameB.own (((B2.trans B3).trans (SameB.of (same_upd nP))).trans B4) nDH
        · rw [upd_same, List.map_append]
          rfl
        · rw [List.length_append]
          exact Nat.succ_le_succ hz
      · rw [List.length_map] at hz
        refine ⟨.ref t, rfl, t, l, 2, rfl, T2, by decide, log_small (by decide) (by decide), fun b H3 _ _ B3 T3 => ⟨rfl, ?_⟩⟩
        have hD3 := B3 _ _ hD nDt.1
        refine ⟨.ref D, rfl, D, zs, rfl, .inl (SqL.of hD3), by omega, fun S c nS hc => ⟨S, _, c, rfl, upd_same, by omega, fun es o asc mem ln nO => ⟨o, _, rfl, .inl ⟨SqL.of upd_same, fun u nU => ⟨by show 2 ≤ sizeLine; decide, fun o2 nO2 => ?_⟩⟩⟩⟩⟩
        refine q _ o2 (_, es) ((B2.trans B3).trans ((SameB.of (same_upd nS)).trans ((SameB.of (same_upd nO)).trans ((SameB.of (same_upd nU)).trans (SameB.of (same_upd nO2)))))) ((((T3.new nS).new nO).new nU).new nO2) ⟨u, upd_same, same_upd nO2 _ _ upd_same⟩ asc ?_
        show es.length ≤ 10
        omega
end
end K06

namespace K06
open PySem PySem.Spec PyProof.Rows L2 LamX K06S
abbrev sOnL : Stmt := topS 36
abbrev sTicks : Stmt := topS 38
abbrev sDue : Stmt := topS 39
abbrev sDue2 : Stmt := topS 41
/-- what the law reckons is what first_tick tells -/
def IsDue (g : Bool → Bool → Bool) (one other : Line) (d : Option Int) : Prop := ∀ J, Joins g one other J → d = firstT J (one.2 ++ other.2)
theorem isDue_far {g : Bool → Bool → Bool} {one other : Line} (h : g one.1 other.1 = true) : IsDue g one other (some (least (one.2 ++ other.2) - 1)) := fun J j => by
  unfold firstT
  rw [j.first, h, if_pos rfl]
theorem isDue_find {g : Bool → Bool → Bool} {one other : Line} {ts : List Int} (h : g one.1 other.1 = false) (asc : Asc ts) (mem : ∀ e, e ∈ ts ↔ e ∈ one.2 ++ other.2) : IsDue g one other (ts.find? fun t => g (onL one t) (onL other t)) := fun J j =>
  due_is j asc mem (by rw [j.first, h]) _
theorem find_at {p : Int → Bool} {t : Int} : ∀ {ts : List Int} {i : Nat}, (∀ x ∈ ts.take i, p x = false) → ts[i]? = some t → p t = true → ts.find? p = some t
  | [], i, _, h, _ => by simp at h
  | a :: r, 0, _, h, ht => by
    have e : a = t := Option.some.inj h
    subst e
    exact List.find?_cons_of_pos ht
  | a :: r, i + 1, hl, h, ht => by
    have h0 := hl a (by rw [List.take_succ_cons]; exact List.mem_cons_self)
    rw [List.find?_cons_of_neg (by rw [h0]; exact Bool.false_ne_true)]
    exact find_at (fun x hx => hl x (by rw [List.take_succ_cons]; exact List.mem_cons_of_mem _ hx)) h ht
theorem find_no {p : Int → Bool} {ts : List Int} (h : ∀ x ∈ ts, p x = false) : ts.find? p = none := by
  rw [List.find?_eq_none]
  intro x hx
  rw [h x hx]
  exact Bool.false_ne_true
theorem and_read {u : TT} {σ : L2.St} {H : Hp} {R : Bool → Hp → Prop} (c1 c2 : Bool) (h : ∀ R' : Bool → Hp → Prop, R' c2 H → u σ H R') (r : R (c1 && c2) H) : if c1 = true then u σ H R else R false H := by
  cases c1 with
  | true => exact iteT (h R r)
  | false => exact iteF r
section
variable {P : Program} {w : World} {K : PySem.W.Frag} {mg : Str → Option Value} {base : Heap}
/-! ### whether a line is ON, by counting -/
theorem scOnL : FnScope ["_law_line_here", "_law_tick", "_law_edge"] ["_law_line_here", "_law_tick"] (defScope sOnL) := ⟨rfl, rfl, rfl, by decide +kernel, rfl, by decide +kernel, by decide +kernel⟩
def spOnL : Sp := fun vs H Q _ => ∃ a x L, vs = [.ref a, .int x] ∧ LineAt H a L ∧ L.2.length ≤ 1000 ∧ ∀ H', Same H H' → Q (.bl (onL L x)) H'
theorem ok_onL {f : Addr} {fd : FuncData} {k : Nat} (F : Fun K "_law_on" "_law_on" sOnL f fd) (ml : mg "len" = none) : FnOk P w K mg base CX0 (k + 1) f fd ["_law_line_here", "_law_tick"] spOnL := by
  refine F.ok scOnL (fun vs H Q E h => ?_) (fun cdv A outer s H vs Q E hr h => ?_)
  · obtain ⟨a, x, L, rfl, _⟩ := h
    rfl
  · obtain ⟨a, x, L, rfl, ⟨p, ha, hp⟩, hn, q⟩ := h
    refine ⟨_, pss_one (ps_ret (pe_cmpR op_ne (pe_ix ix_tup (pv 0) pe_int (fun _ _ => rfl)) (pe_cmpR op_eq (pe_op op_mod (pe_callB call_len (by rfl) ml PySem.boot_len (pa_cons
        (pe_lc (own := [("_law_edge", 2)]) (g := gName 2) rfl scOnL.nd (pi_tup (pe_ix ix_tup (pv 0) pe_int (fun _ _ => rfl)))
          (blkOk_by (own := [("_law_edge", 2)]) (N := ["_law_line_here", "_law_tick", "_law_edge"]) (sc := defScope sOnL) (by decide +kernel)) (fun _ _ _ _ _ => pg_name (i := 2) scOnL.nd rfl (Or.inl rfl))
          (fun _ _ _ _ _ => pts_one (pt_cmpR op_le (pv 2) (pv 1) (nomark _))) (fun _ _ _ _ _ => pv 2)) pa_nil)) pe_int) pe_int (nomark _)) (nomark _))), ?_⟩
    refine ⟨.ref a, rfl, a, _, 0, .bl L.1, rfl, rfl, SqT.of ha, rfl, .ref a, rfl, a, _, 1, .ref p, rfl, rfl, SqT.of ha, rfl, p, rfl, ⟨_, SqT.of hp⟩, fun D nD => ?_⟩
    refine lc_tup (xs := L.2.map V.int) (fun i H2 => Same H H2 ∧ H2 D = some (.lst (((L.2.take i).filter fun e => decide (e ≤ x)).map V.int))) ⟨same_upd nD, upd_same⟩ (fun i H2 _ ⟨sm, _⟩ => SqT.of (sm _ _ hp)) (fun i v H2 hv ⟨sm, hD⟩ => ?_) fun H2 ⟨sm, hD⟩ => ?_
    · have hi := (List.getElem?_eq_some_iff.mp hv).1
      rw [List.length_map] at hi
      rw [List.getElem?_map, List.getElem?_eq_getElem hi] at hv
      obtain rfl : V.int L.2[i] = v := Option.some.inj hv
      have tk : L.2.take (i + 1) = L.2.take i ++ [L.2[i]] := by rw [List.take_add_one, List.getElem?_eq_getElem hi]; rfl
      refine ⟨rfl, .int L.2[i], rfl, .int x, rfl, L.2[i], x, rfl, rfl, _, rfl, ite2 (fun c => ?_) fun c => ?_⟩
      · refine ⟨.int L.2[i], rfl, _, hD, ?_, fun b o e => ?_, ?_⟩
        · rw [List.length_map]
          have h1 := List.length_filter_le (fun e => decide (e ≤ x)) (L.2.take i)
          rw [List.length_take] at h1
          exact small1000 (by omega)
        · rw [upd_ne (ne_of_none e nD)]
          exact sm b o e
        · have c1 : ([L.2[i]].filter fun e => decide (e ≤ x)) = [L.2[i]] := by simp [of_decide_eq_true c]
          rw [upd_same, tk, List.filter_append, c1, List.map_append]
          rfl
      · refine ⟨sm, ?_⟩
        have c0 : ¬ L.2[i] ≤ x := fun z => c (decide_eq_true z)
        have c1 : ([L.2[i]].filter fun e => decide (e ≤ x)) = [] := by simp [c0]
        rw [tk, List.filter_append, c1, List.append_nil]
        exact hD
    · rw [List.length_map, List.take_length] at hD
      refine ⟨.ref D, _, rfl, .inl ⟨_, SqL.of hD, rfl⟩, _, 2, rfl, rfl, (show (0 : Int) < 2 by decide), rfl, rfl, ?_⟩
      rw [List.length_map]
      have e : decide (V.int (((cnt L.2 x : Nat) : Int) % 2) = V.int 1) = decide (cnt L.2 x % 2 = 1) := by
        refine decide_eq_decide.mpr ⟨fun z => ?_, fun z => ?_⟩
        · have := V.int.inj z
          omega
        · have : ((cnt L.2 x : Nat) : Int) % 2 = 1 := by omega
          rw [this]
      show Q (.bl (!decide (V.bl L.1 = V.bl (decide (V.int (((cnt L.2 x : Nat) : Int) % 2) = V.int 1))))) H2
      rw [bl_ne, e]
      exact q H2 sm
structure OnLAt (P : Program) (w : World) (K : PySem.W.Frag) (mg : Str → Option Value) (base : Heap) (fO : Addr) (fdO : FuncData) : Prop where
  F : Fun K "_law_on" "_law_on" sOnL fO fdO
  b : Binds K fdO ["_law_line_here", "_law_tick"] []
  g : mg "_law_on" = some (.ref fO)
  ok : FnOk P w K mg base CX0 1 fO fdO ["_law_line_here", "_law_tick"] spOnL
/-! ### the ticks -/
theorem scTi : FnScope ["_law_one", "_law_other"] ["_law_one", "_law_other"] (defScope sTicks) := ⟨rfl, rfl, rfl, by decide +kernel, rfl, by decide +kernel, by decide +kernel⟩
def spTi : Sp := fun vs H Q _ => ∃ a b one other, vs = [.ref a, .ref b] ∧ LineAt H a one ∧ LineAt H b other ∧ one.2.length + other.2.length < 64 ∧ ∀ H' r z ts, Same H H' → H' r = some (.lst (V.int z :: ts.map V.int)) → Asc ts → (∀ e, e ∈ ts ↔ e ∈ one.2 ++ other.2) → Q (.ref r) H'
theorem ok_ti {f : Addr} {fd : FuncData} {k : Nat} (F : Fun K "_law_ticks" "_law_ticks" sTicks f fd) (ms : mg "sorted" = none) (mset : mg "set" = none) : FnOk P w K mg base CX0 (k + 1) f fd ["_law_one", "_law_other"] spTi := by
  refine F.ok scTi (fun vs H Q E h => ?_) (fun cdv A outer s H vs Q E hr h => ?_)
  · obtain ⟨a, b, one, other, rfl, _⟩ := h
    rfl
  · obtain ⟨a, b, one, other, rfl, ⟨pa, ha, hpa⟩, ⟨pb, hb, hpb⟩, hl, q⟩ := h
    refine ⟨_, pss_one (ps_ret (pe_op op_cat (pe_lst (pa_cons (pe_un un_neg (pe_op op_pow pe_int pe_int)) pa_nil)) (pe_callB (srtS (w := w) rfl) (by rfl) ms (by decide +kernel) (pa_cons (pe_callTy (setI (K := K) (w := w) rfl) (by rfl) mset (by decide +kernel) (pa_cons
        (pe_op (catA (K := K)) (pe_ix ix_tup (pv 0) pe_int (fun _ _ => rfl)) (pe_ix ix_tup (pv 1) pe_int (fun _ _ => rfl))) pa_nil)) pa_nil)))), ?_⟩
    refine ⟨10, 60, rfl, rfl, ⟨by decide, by decide, by decide⟩, _, rfl, by show 1 ≤ sizeLine; decide, fun n nN => ?_⟩
    have s1 := same_upd (o := .lst [V.int (-(10 ^ (60 : Int).toNat))]) nN
    refine ⟨.ref a, rfl, a, _, 1, .ref pa, rfl, rfl, SqT.of (s1 _ _ ha), rfl, .ref b, rfl, b, _, 1, .ref pb, rfl, rfl, SqT.of (s1 _ _ hb), rfl, cat_read (s1 _ _ hpa) (s1 _ _ hpb) (by omega) fun u H1 s2 hu => ?_⟩
    have hlu : (one.2 ++ other.2).length = one.2.length + other.2.length := List.length_append
    refine ⟨u, _, rfl, .inr (SqT.of hu), by omega, fun S c nS hc => ⟨S, _, c, rfl, upd_same, by omega, fun ts o asc mem ln nO => ?_⟩⟩
    have s3 := (s1.trans s2).trans (same_upd (o := SetO w S (fun j => decide (j ∈ one.2 ++ other.2)) c) nS)
    have hn1 := s2 _ _ (upd_same (H := H) (a := n) (o := .lst [V.int (-(10 ^ (60 : Int).toNat))]))
    have hn2 := same_upd (o := .lst (ts.map V.int)) nO _ _ (same_upd (o := SetO w S (fun j => decide (j ∈ one.2 ++ other.2)) c) nS _ _ hn1)
    refine ⟨n, o, _, _, rfl, rfl, hn2, upd_same, ?_, fun r nR => ?_⟩
    · rw [List.length_map]
      exact small (by show 1 + ts.length ≤ 1000; omega)
    · refine q _ r (-(10 ^ (60 : Int).toNat)) ts (s3.trans ((same_upd nO).trans (same_upd nR))) upd_same asc fun e => ?_
      rw [mem e, decide_eq_true_eq]
structure TiAt (P : Program) (w : World) (K : PySem.W.Frag) (mg : Str → Option Value) (base : Heap) (fT : Addr) (fdT : FuncData) : Prop where
  F : Fun K "_law_ticks" "_law_ticks" sTicks fT fdT
  b : Binds K fdT ["_law_one", "_law_other"] []
  g : mg "_law_ticks" = some (.ref fT)
  ok : FnOk P w K mg base CX0 1 fT fdT ["_law_one", "_law_other"] spTi
theorem cut_cons (z : V) (xs : List V) : cutV (z :: xs) (some 1) none = xs := by
  unfold cutV
  rw [show HT.sIx (z :: xs).length 0 (some 1) = min 1 (z :: xs).length from HT.sIx_nat _ 0 1, HT.sIx_none]
  have e : min 1 (z :: xs).length = 1 := by
    rw [List.length_cons]
    omega
  rw [e, List.length_cons, Nat.add_sub_cancel]
  exact List.take_length
/-! ### due -/
theorem scDu : FnScope ["_law_one", "_law_other", "_law_edges_here", "_law_tick"] ["_law_one", "_law_other"] (defScope sDue) := ⟨rfl, rfl, rfl, by decide +kernel, rfl, by decide +kernel, by decide +kernel⟩
def spDu (g : Bool → Bool → Bool) : Sp := fun vs H Q _ => ∃ a b one other, vs = [.ref a, .ref b] ∧ LineAt H a one ∧ LineAt H b other ∧ one.2.length + other.2.length < 64 ∧ ∀ H' d, IsDue g one other d → Same H H' → Q (optV d) H'
theorem ok_du {f fO fT : Addr} {fd fdO fdT : FuncData} {k : Nat} (F : Fun K "_law_due" "_law_due" sDue f fd) (C : OnLAt P w K mg base fO fdO) (D : TiAt P w K mg base fT fdT) (ml : mg "len" = none) (mm : mg "min" = none) : FnOk P w K mg base CX0 (k + 2) f fd ["_law_one", "_law_other"] (spDu gX) := by
  refine F.ok scDu (fun vs H Q E h => ?_) (fun cdv A outer s H vs Q E hr h => ?_)
  · obtain ⟨a, b, one, other, rfl, _⟩ := h
    rfl
  · obtain ⟨a, b, one, other, rfl, hA, hB, hl, q⟩ := h
    obtain ⟨pa, ha, hpa⟩ := id hA
    obtain ⟨pb, hb, hpb⟩ := id hB
    have hr1 := hr.mono (j := 1) (by omega)
    refine ⟨_, pss_cons (ps_if (pt_cmpR op_ne (pe_ix ix_tup (pv 0) pe_int (fun _ _ => rfl)) (pe_ix ix_tup (pv 1) pe_int (fun _ _ => rfl)) (nomark _))
        (pss_cons (ps_set (i := 2) scDu.nd rfl (.inl rfl) (pe_op (catA (K := K)) (pe_ix ix_tup (pv 0) pe_int (fun _ _ => rfl)) (pe_ix ix_tup (pv 1) pe_int (fun _ _ => rfl))))
        <| pss_cons (ps_if (pt_cmpR op_eq (pe_callB call_len (by rfl) ml PySem.boot_len (pa_cons (pv 2) pa_nil)) pe_int (nomark _)) (pss_one (ps_ret pe_int)) pss_nil)
        <| pss_one (ps_ret (pe_op op_sub (pe_callB (cr_minT rfl) (by rfl) mm (by decide +kernel) (pa_cons (pv 2) pa_nil)) pe_int))) pss_nil)
      <| pss_cons (ps_for PassesOwn.never rfl (pi_list (pe_slice sl_list (pe_call D.ok hr1 (by rfl) D.g D.F.kp D.b .nil pass0 (pa_cons (pv 0) (pa_cons (pv 1) pa_nil))) (po_some pe_int) po_none)) (pg_name (i := 3) scDu.nd rfl (.inl rfl))
        (pss_one (ps_if (pt_cmpR op_ne (pe_call C.ok hr1 (by rfl) C.g C.F.kp C.b .nil pass0 (pa_cons (pv 0) (pa_cons (pv 3) pa_nil))) (pe_call C.ok hr1 (by rfl) C.g C.F.kp C.b .nil pass0 (pa_cons (pv 1) (pa_cons (pv 3) pa_nil))) (nomark _)) (pss_one (ps_ret (pv 3))) pss_nil)))
      <| pss_one (ps_ret pe_non), ?_⟩
    refine ⟨.ref a, rfl, a, _, 0, .bl one.1, rfl, rfl, SqT.of ha, rfl, .ref b, rfl, b, _, 0, .bl other.1, rfl, rfl, SqT.of hb, rfl, rfl, _, rfl, ?_⟩
    rw [bl_ne]
    refine ite2 (fun c => ?_) fun c => ?_
    · have far := isDue_far (g := gX) (one := one) (other := other) c
      refine ⟨.ref a, rfl, a, _, 1, .ref pa, rfl, rfl, SqT.of ha, rfl, .ref b, rfl, b, _, 1, .ref pb, rfl, rfl, SqT.of hb, rfl, cat_read hpa hpb (by omega) fun u H1 s1 hu => ?_⟩
      refine ⟨.ref u, rfl, .ref u, _, rfl, .inr ⟨_, SqT.of hu, rfl⟩, rfl, _, rfl, ?_⟩
      rw [List.length_map]
      by_cases hus : one.2 ++ other.2 = []
      · rw [hus] at far ⊢
        exact iteT (q H1 _ far s1)
      · have c0 : decide (V.int (((one.2 ++ other.2).length : Nat) : Int) = V.int 0) = false := by
          refine decide_eq_false fun z => ?_
          have := List.length_pos_iff.mpr hus
          have := V.int.inj z
          omega
        rw [c0]
        refine iteF ⟨.ref u, rfl, u, _, rfl, SqT.of hu, hus, fun m hm hle => ⟨m, 1, rfl, rfl, ?_⟩⟩
        rw [least_is hm hle]
        exact q H1 _ far s1
    · have c1 : gX one.1 other.1 = false := by
        revert c
        unfold gX
        cases one.1 <;> cases other.1 <;> decide
      refine ⟨.ref a, rfl, .ref b, rfl, a, b, one, other, rfl, hA, hB, hl, fun H1 r z ts s1 hR asc mem => ?_⟩
      refine ⟨1, rfl, r, _, rfl, SqL.of hR, fun p nP => ?_⟩
      have s2 := s1.trans (same_upd (o := .lst (cutV (V.int z :: ts.map V.int) (some 1) none)) nP)
      have hP2 : upd H1 p (.lst (cutV (V.int z :: ts.map V.int) (some 1) none)) p = some (.lst (ts.map V.int)) := by rw [upd_same, cut_cons]
      refine ⟨p, rfl, ⟨_, SqL.of hP2⟩, for_list (xs := ts.map V.int) (fun i σ H2 => ∃ y3 : Option V, σ = [some (.ref a), some (.ref b), none, y3] ∧ Same H H2 ∧ H2 p = some (.lst (ts.map V.int)) ∧ ∀ x ∈ ts.take i, gX (onL one x) (onL other x) = false)
        ⟨none, rfl, s2, hP2, fun x hx => by rw [List.take_zero] at hx; cases hx⟩ (fun i σ H2 _ hW => ?_) (fun i x σ H2 hx hW => ?_) fun σ H2 hW => ?_⟩
      · obtain ⟨y3, rfl, _, hP3, _⟩ := hW
        exact SqL.of hP3
      · obtain ⟨y3, rfl, s3, hP3, no⟩ := hW
        rw [List.getElem?_map] at hx
        obtain ⟨t, ht, rfl⟩ := Option.map_eq_some_iff.mp hx
        refine ⟨.ref a, rfl, .int t, rfl, a, t, one, rfl, hA.keep (Tp.of s3), by omega, fun H3 s4 => ⟨.ref b, rfl, .int t, rfl, b, t, other, rfl, hB.keep (Tp.of (s3.trans s4)), by omega, fun H4 s5 => ⟨rfl, _, rfl, ?_⟩⟩⟩
        have s6 := s4.trans s5
        rw [bl_ne]
        refine ite2 (fun c2 => ?_) fun c2 => ?_
        · refine ⟨.int t, rfl, q H4 (some t) ?_ (s3.trans s6)⟩
          have e := find_at (p := fun t => gX (onL one t) (onL other t)) no ht c2
          rw [← e]
          exact isDue_find c1 asc mem
        · refine ⟨_, rfl, s3.trans s6, s6 _ _ hP3, fun x hx => ?_⟩
          rw [List.take_add_one, ht] at hx
          rcases List.mem_append.mp hx with z2 | z2
          · exact no x z2
          · have e : x = t := List.mem_singleton.mp z2
            rw [e]
            revert c2
            unfold gX
            cases onL one t <;> cases onL other t <;> decide
      · obtain ⟨y3, rfl, s3, hP3, no⟩ := hW
        rw [List.length_map, List.take_length] at no
        refine q H2 none ?_ s3
        rw [← find_no no]
        exact isDue_find c1 asc mem
theorem scDv : FnScope ["_law_one", "_law_other", "_law_edges_here", "_law_tick"] ["_law_one", "_law_other"] (defScope sDue2) := ⟨rfl, rfl, rfl, by decide +kernel, rfl, by decide +kernel, by decide +kernel⟩
theorem ok_dv {f fO fT : Addr} {fd fdO fdT : FuncData} {k : Nat} (F : Fun K "_law_due_two" "_law_due_two" sDue2 f fd) (C : OnLAt P w K mg base fO fdO) (D : TiAt P w K mg base fT fdT) (ml : mg "len" = none) (mm : mg "min" = none) : FnOk P w K mg base CX0 (k + 2) f fd ["_law_one", "_law_other"] (spDu gB) := by
  refine F.ok scDv (fun vs H Q E h => ?_) (fun cdv A outer s H vs Q E hr h => ?_)
  · obtain ⟨a, b, one, other, rfl, _⟩ := h
    rfl
  · obtain ⟨a, b, one, other, rfl, hA, hB, hl, q⟩ := h
    obtain ⟨pa, ha, hpa⟩ := id hA
    obtain ⟨pb, hb, hpb⟩ := id hB
    have hr1 := hr.mono (j := 1) (by omega)
    refine ⟨_, pss_cons (ps_if (PW.pt (pw_and (pt_val (pe_ix ix_tup (pv 0) pe_int (fun _ _ => rfl))) (pw_and1 (pt_not (pt_val (pe_ix ix_tup (pv 1) pe_int (fun _ _ => rfl)))))))
        (pss_cons (ps_set (i := 2) scDv.nd rfl (.inl rfl) (pe_op (catA (K := K)) (pe_ix ix_tup (pv 0) pe_int (fun _ _ => rfl)) (pe_ix ix_tup (pv 1) pe_int (fun _ _ => rfl))))
        <| pss_cons (ps_if (pt_cmpR op_eq (pe_callB call_len (by rfl) ml PySem.boot_len (pa_cons (pv 2) pa_nil)) pe_int (nomark _)) (pss_one (ps_ret pe_int)) pss_nil)
        <| pss_one (ps_ret (pe_op op_sub (pe_callB (cr_minT rfl) (by rfl) mm (by decide +kernel) (pa_cons (pv 2) pa_nil)) pe_int))) pss_nil)
      <| pss_cons (ps_for PassesOwn.never rfl (pi_list (pe_slice sl_list (pe_call D.ok hr1 (by rfl) D.g D.F.kp D.b .nil pass0 (pa_cons (pv 0) (pa_cons (pv 1) pa_nil))) (po_some pe_int) po_none)) (pg_name (i := 3) scDv.nd rfl (.inl rfl))
        (pss_one (ps_if (PW.pt (pw_and (pt_val (pe_call C.ok hr1 (by rfl) C.g C.F.kp C.b .nil pass0 (pa_cons (pv 0) (pa_cons (pv 3) pa_nil)))) (pw_and1 (pt_not (pt_val (pe_call C.ok hr1 (by rfl) C.g C.F.kp C.b .nil pass0 (pa_cons (pv 1) (pa_cons (pv 3) pa_nil)))))))) (pss_one (ps_ret (pv 3))) pss_nil)))
      <| pss_one (ps_ret pe_non), ?_⟩
    refine ⟨.ref a, rfl, a, _, 0, .bl one.1, rfl, rfl, SqT.of ha, rfl, one.1, rfl, and_read one.1 (!other.1) (fun R' r => ⟨.ref b, rfl, b, _, 0, .bl other.1, rfl, rfl, SqT.of hb, rfl, other.1, rfl, r⟩) (ite2 (fun c => ?_) fun c => ?_)⟩
    · have far := isDue_far (g := gB) (one := one) (other := other) c
      refine ⟨.ref a, rfl, a, _, 1, .ref pa, rfl, rfl, SqT.of ha, rfl, .ref b, rfl, b, _, 1, .ref pb, rfl, rfl, SqT.of hb, rfl, cat_read hpa hpb (by omega) fun u H1 s1 hu => ?_⟩
      refine ⟨.ref u, rfl, .ref u, _, rfl, .inr ⟨_, SqT.of hu, rfl⟩, rfl, _, rfl, ?_⟩
      rw [List.length_map]
      by_cases hus : one.2 ++ other.2 = []
      · rw [hus] at far ⊢
        exact iteT (q H1 _ far s1)
      · have c0 : decide (V.int (((one.2 ++ other.2).length : Nat) : Int) = V.int 0) = false := by
          refine decide_eq_false fun z => ?_
          have := List.length_pos_iff.mpr hus
          have := V.int.inj z
          omega
        rw [c0]
        refine iteF ⟨.ref u, rfl, u, _, rfl, SqT.of hu, hus, fun m hm hle => ⟨m, 1, rfl, rfl, ?_⟩⟩
        rw [least_is hm hle]
        exact q H1 _ far s1
    · have c1 : gB one.1 other.1 = false := by
        revert c
        unfold gB
        cases one.1 <;> cases other.1 <;> decide
      refine ⟨.ref a, rfl, .ref b, rfl, a, b, one, other, rfl, hA, hB, hl, fun H1 r z ts s1 hR asc mem => ?_⟩
      refine ⟨1, rfl, r, _, rfl, SqL.of hR, fun p nP => ?_⟩
      have s2 := s1.trans (same_upd (o := .lst (cutV (V.int z :: ts.map V.int) (some 1) none)) nP)
      have hP2 : upd H1 p (.lst (cutV (V.int z :: ts.map V.int) (some 1) none)) p = some (.lst (ts.map V.int)) := by rw [upd_same, cut_cons]
      refine ⟨p, rfl, ⟨_, SqL.of hP2⟩, for_list (xs := ts.map V.int) (fun i σ H2 => ∃ y3 : Option V, σ = [some (.ref a), some (.ref b), none, y3] ∧ Same H H2 ∧ H2 p = some (.lst (ts.map V.int)) ∧ ∀ x ∈ ts.take i, gB (onL one x) (onL other x) = false)
        ⟨none, rfl, s2, hP2, fun x hx => by rw [List.take_zero] at hx; cases hx⟩ (fun i σ H2 _ hW => ?_) (fun i x σ H2 hx hW => ?_) fun σ H2 hW => ?_⟩
      · obtain ⟨y3, rfl, _, hP3, _⟩ := hW
        exact SqL.of hP3
      · obtain ⟨y3, rfl, s3, hP3, no⟩ := hW
        rw [List.getElem?_map] at hx
        obtain ⟨t, ht, rfl⟩ := Option.map_eq_some_iff.mp hx
        have hit : ∀ H4, Same H2 H4 → gB (onL one t) (onL other t) = true → Q (.int t) H4 := fun H4 s4 c2 => by
          refine q H4 (some t) ?_ (s3.trans s4)
          have e := find_at (p := fun t => gB (onL one t) (onL other t)) no ht c2
          rw [← e]
          exact isDue_find c1 asc mem
        have miss : gB (onL one t) (onL other t) = false → ∀ x ∈ ts.take (i + 1), gB (onL one x) (onL other x) = false := fun c2 x hx => by
          rw [List.take_add_one, ht] at hx
          rcases List.mem_append.mp hx with z2 | z2
          · exact no x z2
          · have e : x = t := List.mem_singleton.mp z2
            rw [e]
            exact c2
        refine ⟨.ref a, rfl, .int t, rfl, a, t, one, rfl, hA.keep (Tp.of s3), by omega, fun H3 s4 => ⟨onL one t, rfl, ?_⟩⟩
        cases o1 : onL one t with
        | false =>
          refine iteF (iteF ⟨_, rfl, s3.trans s4, s4 _ _ hP3, miss ?_⟩)
          rw [o1]
          rfl
        | true =>
          refine iteT ⟨.ref b, rfl, .int t, rfl, b, t, other, rfl, hB.keep (Tp.of (s3.trans s4)), by omega, fun H4 s5 => ⟨onL other t, rfl, ?_⟩⟩
          have s6 := s4.trans s5
          cases o2 : onL other t with
          | false =>
            refine iteT ⟨.int t, rfl, hit H4 s6 ?_⟩
            rw [o1, o2]
            rfl
          | true =>
            refine iteF ⟨_, rfl, s3.trans s6, s6 _ _ hP3, miss ?_⟩
            rw [o1, o2]
            rfl
      · obtain ⟨y3, rfl, s3, hP3, no⟩ := hW
        rw [List.length_map, List.take_length] at no
        refine q H2 none ?_ s3
        rw [← find_no no]
        exact isDue_find c1 asc mem
end
end K06

namespace K06
open PySem PySem.Spec PyProof.Rows L2 LamX K06S
abbrev sFirst : Stmt := topS 40
abbrev sSecond : Stmt := topS 42
abbrev sLaw : Stmt := topS 43
/-! ### values -/
theorem optV_scal (d e : Option Int) : scal (optV d) (optV e) = true := by cases d <;> cases e <;> rfl
theorem optV_non (d : Option Int) : decide (optV d = V.non) = decide (d = none) := by
  cases d with
  | none => rfl
  | some i => exact (decide_eq_false fun z => by cases z).trans (decide_eq_false fun z => by cases z).symm
theorem ty_opt {K : PySem.W.Frag} {H : Hp} (d : Option Int) : ∃ t : Value, TyX K H (optV d) t ∧ PySem.W.kitOne K t (.type "bool") = some false := by
  cases d with
  | none => exact ⟨.type "NoneType", .base .non, kit_ty (by decide +kernel)⟩
  | some i => exact ⟨.type "int", .base (.int i), kit_ty (by decide +kernel)⟩
theorem iteB {b : Bool} {A B : Prop} (e : b = false) (h : B) : if b = true then A else B := by
  rw [e]
  exact iteF h
/-! ### heaps -/
theorem SqL.ext {K : PySem.W.Frag} {H H' : Hp} {a : Addr} {xs : List V} (h : SqL K H a xs) (e : ExtN H H') : SqL K H' a xs := by
  rcases h with (h | ⟨o, h⟩) | h
  · exact .inl (.inl (e _ _ h fun ps z => by cases z))
  · exact .inl (.inr ⟨o, e _ _ h fun ps z => by cases z⟩)
  · exact .inr h
/-- the tables stay where all but the tape does -/
theorem tabs_sameB {T : List (Addr × Str)} {H H' : Hp} {t l : Addr} (h : Tabs T H) (tp : TapeL H t l) (e : SameB t H H') : Tabs T H' := fun p hp => by
  obtain ⟨ps, h1, h2, h3⟩ := h p hp
  obtain ⟨pos, bank, mix, turns, ns, t1, _⟩ := tp
  refine ⟨ps, e _ _ h1 (ne_of h1 t1 fun z => by cases z), h2, fun pos cv hc => ?_⟩
  obtain ⟨c, e1, e2⟩ := h3 pos cv hc
  exact ⟨c, e1, e _ _ e2 (ne_of e2 t1 fun z => by unfold CodeO at z; cases z)⟩
/-- what holds between the turns -/
structure Sound (T : List (Addr × Str)) (H0 : Hp) (t l : Addr) (H : Hp) : Prop where
  ext : ExtN H0 H
  tabs : Tabs T H
  tape : TapeL H t l
  new : H0 t = none
section
variable {T : List (Addr × Str)} {H0 H H' : Hp} {t l : Addr}
theorem Sound.byTape (S : Sound T H0 t l H) (e : SameB t H H') (tp : TapeL H' t l) : Sound T H0 t l H' :=
  ⟨fun b o h n => e b o (S.ext b o h n) (ne_of_none h S.new), tabs_sameB S.tabs S.tape e, tp, S.new⟩
theorem Sound.same (S : Sound T H0 t l H) (e : Same H H') : Sound T H0 t l H' := ⟨S.ext.trans (extN_same e), S.tabs.ext e, S.tape.same e, S.new⟩
theorem Sound.by (S : Sound T H0 t l H) (e : ExtN H H') (tb : Tabs T H') : Sound T H0 t l H' := by
  refine ⟨S.ext.trans e, tb, ?_, S.new⟩
  obtain ⟨pos, bank, mix, turns, ns, h1, h2, h3⟩ := S.tape
  exact ⟨pos, bank, mix, turns, ns, e _ _ h1 (fun ps z => by cases z), e _ _ h2 (fun ps z => by cases z), h3⟩
end
/-! ### a def at hand -/
structure At (P : Program) (w : World) (K : PySem.W.Frag) (mg : Str → Option Value) (base : Heap) (x : Str) (k : Nat) (ps : List Str) (sp : Sp) (f : Addr) (fd : FuncData) : Prop where
  kp : PySem.W.keepIn K (.ref f) = true
  b : Binds K fd ps []
  g : mg x = some (.ref f)
  ok : FnOk P w K mg base CX0 k f fd ps sp
/-- a pair that is displayed: a line without edges -/
theorem lone_at {H : Hp} {b : Bool} {p o : Addr} (n1 : H p = none) (n2 : upd H p (.tup []) o = none) : LineAt (upd (upd H p (.tup [])) o (.tup [.bl b, .ref p])) o (b, []) := ⟨p, upd_same, same_upd n2 _ _ upd_same⟩
theorem two_len {n m : Nat} (h : n ≤ 20) (h2 : m ≤ 30) : n + m < 64 := by omega
section
variable {P : Program} {w : World} {K : PySem.W.Frag} {mg : Str → Option Value} {base : Heap}
def spPart (K : PySem.W.Frag) (T : List (Addr × Str)) : Sp := fun vs H Q _ => ∃ (a : Addr) (ns : List Int), vs = [.ref a] ∧ SqL K H a (ns.map V.int) ∧ Tabs T H ∧ ∀ H', ExtN H H' → Tabs T H' → Q (.bl true) H'
theorem scF1 : FnScope ["_law_script", "_law_tape_here", "_law_turn", "_law_one", "_law_other", "_law_due_here", "_law_told"] ["_law_script"] (defScope sFirst) := ⟨rfl, rfl, rfl, by decide +kernel, rfl, by decide +kernel, by decide +kernel⟩
theorem ok_first {T : List (Addr × Str)} {f fTa fLi fNe fPi fDu fAp fUn fOn : Addr} {fd dTa dLi dNe dPi dDu dAp dUn dOn : FuncData} {k : Nat} (F : Fun K "_law_first" "_law_first" sFirst f fd)
    (Ta : At P w K mg base "_law_tape" 1 ["_law_script"] (spTape K) fTa dTa) (Li : At P w K mg base "_law_line" 3 ["_law_tape_here", "_law_most"] spLi fLi dLi) (Ne : At P w K mg base "_law_near" 4 ["_law_tape_here", "_law_line_here"] spNe fNe dNe)
    (Pi : At P w K mg base "_law_pick" 1 ["_law_tape_here", "_law_many"] spPick fPi dPi) (Du : At P w K mg base "_law_due" 2 ["_law_one", "_law_other"] (spDu gX) fDu dDu) (Ap : At P w K mg base "apart_at" 5 ["one", "other"] (spAt T gX) fAp dAp)
    (Un : At P w K mg base "unlike" 5 ["one", "other"] (spWh T gX) fUn dUn) (On : At P w K mg base "on_at" 4 ["line", "tick"] spOn fOn dOn)
    (mr : mg "range" = none) (mt : mg "tuple" = none) (ml : mg "list" = none) (mI : mg "isinstance" = none) (mb : mg "bool" = none) : FnOk P w K mg base CX0 (k + 6) f fd ["_law_script"] (spPart K T) := by
  refine F.ok scF1 (fun vs H Q E h => ?_) (fun cdv A outer s H vs Q E hr h => ?_)
  · obtain ⟨a, ns, rfl, _⟩ := h
    rfl
  · obtain ⟨a, ns, rfl, hS, hT, q⟩ := h
    have hr1 := hr.mono (j := 1) (by omega)
    have hr2 := hr.mono (j := 2) (by omega)
    have hr3 := hr.mono (j := 3) (by omega)
    have hr4 := hr.mono (j := 4) (by omega)
    have hr5 := hr.mono (j := 5) (by omega)
    refine ⟨_, pss_cons (ps_set (i := 1) scF1.nd rfl (.inl rfl) (pe_call Ta.ok hr1 (by rfl) Ta.g Ta.kp Ta.b .nil pass0 (pa_cons (pv 0) pa_nil)))
      <| pss_cons (ps_for PassesOwn.never rfl (pi_range1 (by rfl) mr (pa_cons pe_int pa_nil)) (pg_name (i := 2) scF1.nd rfl (.inl rfl))
        (pss_cons (ps_set (i := 3) scF1.nd rfl (.inl rfl) (pe_call Li.ok hr3 (by rfl) Li.g Li.kp Li.b .nil pass0 (pa_cons (pv 1) (pa_cons pe_int pa_nil))))
        <| pss_cons (ps_set (i := 4) scF1.nd rfl (.inl rfl) (pe_call Ne.ok hr4 (by rfl) Ne.g Ne.kp Ne.b .nil pass0 (pa_cons (pv 1) (pa_cons (pv 3) pa_nil))))
        <| C8.pss_cut (ps_if (pt_cmpR op_eq (pe_call Pi.ok hr1 (by rfl) Pi.g Pi.kp Pi.b .nil pass0 (pa_cons (pv 1) (pa_cons pe_int pa_nil))) pe_int (nomark _))
            (pss_one (ps_set (i := 4) scF1.nd rfl (.inl rfl) (pe_tup (pa_cons (pe_ix ix_tup (pv 3) pe_int (fun _ _ => rfl))
              (pa_cons (pe_callTy call_tuple_of (by rfl) mt (by decide +kernel) (pa_cons (pe_callTy call_list_of (by rfl) ml (by decide +kernel) (pa_cons (pe_ix ix_tup (pv 3) pe_int (fun _ _ => rfl)) pa_nil)) pa_nil)) pa_nil))))) pss_nil)
        <| pss_cons (ps_set (i := 5) scF1.nd rfl (.inl rfl) (pe_call Du.ok hr2 (by rfl) Du.g Du.kp Du.b .nil pass0 (pa_cons (pv 3) (pa_cons (pv 4) pa_nil))))
        <| pss_cons (ps_set (i := 6) scF1.nd rfl (.inl rfl) (pe_call Ap.ok hr5 (by rfl) Ap.g Ap.kp Ap.b .nil pass0 (pa_cons (pv 3) (pa_cons (pv 4) pa_nil))))
        <| pss_cons (ps_if (PW.pt (pw_or (pt_cmpR op_ne (pv 6) (pv 5) (nomark _)) (pw_or (pt_val (pe_callB call_isi (by rfl) mI (by decide +kernel) (pa_cons (pv 6) (pa_cons (pe_bltn (v := .ty "bool") (by rfl) mb (by decide +kernel) rfl) pa_nil))))
            (pw_or (pt_cmpR op_ne (pe_call Ap.ok hr5 (by rfl) Ap.g Ap.kp Ap.b .nil pass0 (pa_cons (pv 4) (pa_cons (pv 3) pa_nil))) (pv 5) (nomark _))
            (pw_or1 (pt_cmpR op_ne (pe_cmpR op_isN (pv 6) pe_non (nomark _)) (pe_cmpR (op_eqD hr.units) (pv 3) (pv 4) (nomark _)) (nomark _))))))) (pss_one ps_never) pss_nil)
        <| pss_one (ps_if (PW.pt (pw_and (pt_cmpR op_notN (pv 6) pe_non (nomark _)) (pw_and1 (pt_cmpR op_isnot_bl (pe_call On.ok hr4 (by rfl) On.g On.kp On.b .nil pass0
            (pa_cons (pe_call Un.ok hr5 (by rfl) Un.g Un.kp Un.b .nil pass0 (pa_cons (pv 3) (pa_cons (pv 4) pa_nil))) (pa_cons (pv 6) pa_nil))) pe_bl (nomark _))))) (pss_one ps_never) pss_nil)))
      <| pss_one (ps_ret (pe_cmpR op_eq (pe_call Ap.ok hr5 (by rfl) Ap.g Ap.kp Ap.b .nil pass0 (pa_cons (pe_tup (pa_cons pe_bl (pa_cons (pe_tup pa_nil) pa_nil))) (pa_cons (pe_tup (pa_cons pe_bl (pa_cons (pe_tup pa_nil) pa_nil))) pa_nil))) pe_int (nomark _))), ?_⟩
    refine ⟨.ref a, rfl, a, ns, rfl, hS, fun H1 t l s1 nT tp => ?_⟩
    have S1 : Sound T H t l H1 := ⟨extN_same s1, hT.ext s1, tp, nT⟩
    refine ⟨6, rfl, by decide, by decide, for_range (lo := 0) (n := 6) (fun i σ H2 => ∃ y2 y3 y4 y5 y6 : Option V, σ = [some (.ref a), some (.ref t), y2, y3, y4, y5, y6] ∧ Sound T H t l H2) ⟨none, none, none, none, none, rfl, S1⟩ (fun i σ H2 _ hW => ?_) fun σ H2 hW => ?_⟩
    · obtain ⟨y2, y3, y4, y5, y6, rfl, S2⟩ := hW
      refine ⟨.ref t, rfl, t, l, rfl, S2.tape, fun H3 r1 L1 B3 T3 hL1 as1 n1 => ?_⟩
      have S3 := S2.byTape B3 T3
      refine ⟨.ref t, rfl, .ref r1, rfl, t, l, r1, L1, rfl, S3.tape, hL1, n1, fun H4 r2 L2 B4 T4 hL2 as2 n2 => ?_⟩
      have S4 := S3.byTape B4 T4
      have hL1b := hL1.sameB S3.tape B4
      refine ⟨fun σ H5 => ∃ (r : Addr) (M : Line) (y5 y6 : Option V), σ = [some (.ref a), some (.ref t), some (.int (0 + (i : Int))), some (.ref r1), some (.ref r), y5, y6] ∧ Sound T H t l H5 ∧ LineAt H5 r1 L1 ∧ LineAt H5 r M ∧ Asc M.2 ∧ M.2.length ≤ 10, ?_, fun σ H5 hM => ?_⟩
      · refine ⟨.ref t, rfl, t, l, 6, rfl, S4.tape, by decide, log_small (by decide) (by decide), fun x H5 _ _ B5 T5 => ⟨rfl, _, rfl, ite2 (fun _ => ?_) fun _ => ?_⟩⟩
        · have S5 := S4.byTape B5 T5
          have hL1c := hL1b.sameB S4.tape B5
          obtain ⟨p1, h1, h2⟩ := id hL1c
          refine ⟨.ref r1, rfl, r1, _, 0, .bl L1.1, rfl, rfl, SqT.of h1, rfl, .ref r1, rfl, r1, _, 1, .ref p1, rfl, rfl, SqT.of h1, rfl, p1, _, rfl, .inr (SqT.of h2), fun ll nl => ⟨ll, _, rfl, .inl ⟨SqL.of upd_same, fun u nu => ⟨by show 2 ≤ sizeLine; decide, fun o nO => ?_⟩⟩⟩⟩
          have e1 := same_upd (o := .lst (L1.2.map V.int)) nl
          have e2 := same_upd (o := .tup (L1.2.map V.int)) nu
          have e3 := same_upd (o := .tup [V.bl L1.1, V.ref u]) nO
          have e4 := e1.trans (e2.trans e3)
          exact ⟨o, L1, _, _, rfl, S5.same e4, hL1c.keep (Tp.of e4), ⟨u, upd_same, e3 _ _ upd_same⟩, as1, n1⟩
        · exact ⟨r2, L2, _, _, rfl, S4.byTape B5 T5, hL1b.sameB S4.tape B5, hL2.sameB S4.tape B5, as2, n2⟩
      · obtain ⟨r, M, y5b, y6b, rfl, S5, h1, h2, asM, nM⟩ := hM
        have len : L1.2.length + M.2.length < 64 := by omega
        have len2 : M.2.length + L1.2.length < 64 := by omega
        refine ⟨.ref r1, rfl, .ref r, rfl, r1, r, L1, M, rfl, h1, h2, len, fun H6 d hd s6 => ?_⟩
        have S6 := S5.same s6
        have k1 := h1.keep (Tp.of s6)
        have k2 := h2.keep (Tp.of s6)
        refine ⟨.ref r1, rfl, .ref r, rfl, r1, r, L1, M, ⟨rfl, k1, k2, as1, asM, len⟩, S6.tabs, fun H7 J j e7 T7 => ?_⟩
        obtain rfl := hd J j
        have S7 := S6.by e7 T7
        have g1 := k1.keep (Tp.ext e7)
        have g2 := k2.keep (Tp.ext e7)
        refine ⟨_, rfl, _, rfl, optV_scal _ _, _, rfl, iteNS rfl ?_⟩
        obtain ⟨ty, tyX, kit⟩ := ty_opt (K := K) (H := H7) (firstT J (L1.2 ++ M.2))
        refine ⟨optV (firstT J (L1.2 ++ M.2)), rfl, _, .ty "bool", ty, .type "bool", false, rfl, .ty _, tyX, kit, false, rfl, iteF ?_⟩
        refine ⟨.ref r, rfl, .ref r1, rfl, r, r1, M, L1, ⟨rfl, g2, g1, asM, as1, len2⟩, S7.tabs, fun H8 J2 j2 e8 T8 => ?_⟩
        have S8 := S7.by e8 T8
        have m1 := g1.keep (Tp.ext e8)
        have m2 := g2.keep (Tp.ext e8)
        have eJ : J2 = J := unlike_swap j j2
        have eD : firstT J2 (M.2 ++ L1.2) = firstT J (L1.2 ++ M.2) := by
          rw [eJ]
          unfold firstT
          rw [least_swap]
        refine ⟨_, rfl, optV_scal _ _, _, rfl, iteNS (by rw [eD]) ?_⟩
        refine ⟨_, rfl, rfl, .ref r1, rfl, .ref r, rfl, eqD_read m1 m2 ⟨rfl, _, rfl, ?_⟩⟩
        have eN : decide (optV (firstT J (L1.2 ++ M.2)) = V.non) = decide (L1 = M) := by
          rw [optV_non]
          exact decide_eq_decide.mpr (firstT_none.trans (unlike_nil as1 asM j))
        refine iteNS (by rw [eN]) ?_
        -- the second if
        refine ⟨_, rfl, rfl, _, rfl, ?_⟩
        have fin : ∀ H9, Sound T H t l H9 → ∃ y2 y3 y4 y5 y6 : Option V, [some (V.ref a), some (V.ref t), some (V.int (0 + (i : Int))), some (V.ref r1), some (V.ref r), some (optV (firstT J (L1.2 ++ M.2))), some (optV (firstT J (L1.2 ++ M.2)))] = [some (V.ref a), some (V.ref t), y2, y3, y4, y5, y6] ∧ Sound T H t l H9 := fun H9 S9 => ⟨_, _, _, _, _, rfl, S9⟩
        cases hf : firstT J (L1.2 ++ M.2) with
        | none =>
          rw [hf] at fin
          exact iteF (iteF (fin H8 S8))
        | some v =>
          rw [hf] at fin
          refine iteT ⟨.ref r1, rfl, .ref r, rfl, r1, r, L1, M, ⟨rfl, m1, m2, as1, asM, len⟩, S8.tabs, fun H9 r9 J3 j3 e9 T9 h9 => ?_⟩
          have eJ3 : J3 = J := joins_uniq j3 j
          have S9 := S8.by e9 T9
          refine ⟨.int v, rfl, r9, v, J3, rfl, h9, ?_, j3.asc, fun H10 s10 => ?_⟩
          · have := j3.len
            omega
          · have on1 : onL J3 v = true := by
              rw [eJ3]
              exact on_first j.asc j.sub hf
            rw [on1]
            exact ⟨true, true, rfl, rfl, _, rfl, iteF (fin H10 (S9.same s10))⟩
    · obtain ⟨y2, y3, y4, y5, y6, rfl, S2⟩ := hW
      refine ⟨Nat.zero_le _, fun p1 n1 => ⟨by show 2 ≤ sizeLine; decide, fun o1 n2 => ⟨Nat.zero_le _, fun p2 n3 => ⟨by show 2 ≤ sizeLine; decide, fun o2 n4 => ?_⟩⟩⟩⟩
      have e1 := (same_upd (o := .tup []) n1).trans (same_upd (o := .tup [V.bl false, V.ref p1]) n2)
      have e2 := (same_upd (o := .tup []) n3).trans (same_upd (o := .tup [V.bl true, V.ref p2]) n4)
      have S3 := S2.same (e1.trans e2)
      refine ⟨o1, o2, (false, []), (true, []), ⟨rfl, (lone_at n1 n2).keep (Tp.of e2), lone_at n3 n4, List.Pairwise.nil, List.Pairwise.nil, by decide⟩, S3.tabs, fun H5 J j e5 T5 => ?_⟩
      have S5 := S3.by e5 T5
      have hJ : firstT J (([] : List Int) ++ []) = some 0 := by
        unfold firstT
        rw [j.first]
        rfl
      show scal (optV (firstT J (([] : List Int) ++ []))) (V.int 0) = true ∧ Q (.bl (decide (optV (firstT J (([] : List Int) ++ [])) = V.int 0))) H5
      rw [hJ]
      exact ⟨rfl, q H5 S5.ext S5.tabs⟩
end
end K06

namespace K06
open PySem PySem.Spec PyProof.Rows L2 LamX K06S
section
variable {P : Program} {w : World} {K : PySem.W.Frag} {mg : Str → Option Value} {base : Heap}
theorem scF2 : FnScope ["_law_script", "_law_tape_here", "_law_turn", "_law_one", "_law_other", "_law_due_here", "_law_told", "_law_flag"] ["_law_script"] (defScope sSecond) := ⟨rfl, rfl, rfl, by decide +kernel, rfl, by decide +kernel, by decide +kernel⟩
theorem firstT_nil (us : List Int) : optV (firstT (false, []) us) = V.non := rfl
theorem ok_second {T : List (Addr × Str)} {f fTa fLi fNe fPi fDu fBe fBo fEi fNv : Addr} {fd dTa dLi dNe dPi dDu dBe dBo dEi dNv : FuncData} {k : Nat} (F : Fun K "_law_second" "_law_second" sSecond f fd)
    (Ta : At P w K mg base "_law_tape" 1 ["_law_script"] (spTape K) fTa dTa) (Li : At P w K mg base "_law_line" 3 ["_law_tape_here", "_law_most"] spLi fLi dLi) (Ne : At P w K mg base "_law_near" 4 ["_law_tape_here", "_law_line_here"] spNe fNe dNe)
    (Pi : At P w K mg base "_law_pick" 1 ["_law_tape_here", "_law_many"] spPick fPi dPi) (Du : At P w K mg base "_law_due_two" 2 ["_law_one", "_law_other"] (spDu gB) fDu dDu) (Be : At P w K mg base "beyond_at" 5 ["one", "other"] (spAt T gB) fBe dBe)
    (Bo : At P w K mg base "both" 5 ["one", "other"] (spWh T gA) fBo dBo) (Ei : At P w K mg base "either" 5 ["one", "other"] (spWh T gO) fEi dEi) (Nv : At P w K mg base "never_beyond" 5 ["one", "other"] (spNv T) fNv dNv)
    (mr : mg "range" = none) (mI : mg "isinstance" = none) (mb : mg "bool" = none) : FnOk P w K mg base CX0 (k + 6) f fd ["_law_script"] (spPart K T) := by
  refine F.ok scF2 (fun vs H Q E h => ?_) (fun cdv A outer s H vs Q E hr h => ?_)
  · obtain ⟨a, ns, rfl, _⟩ := h
    rfl
  · obtain ⟨a, ns, rfl, hS, hT, q⟩ := h
    have hr1 := hr.mono (j := 1) (by omega)
    have hr2 := hr.mono (j := 2) (by omega)
    have hr3 := hr.mono (j := 3) (by omega)
    have hr4 := hr.mono (j := 4) (by omega)
    have hr5 := hr.mono (j := 5) (by omega)
    refine ⟨_, pss_cons (ps_set (i := 1) scF2.nd rfl (.inl rfl) (pe_call Ta.ok hr1 (by rfl) Ta.g Ta.kp Ta.b .nil pass0 (pa_cons (pv 0) pa_nil)))
      <| pss_cons (ps_for PassesOwn.never rfl (pi_range1 (by rfl) mr (pa_cons pe_int pa_nil)) (pg_name (i := 2) scF2.nd rfl (.inl rfl))
        (pss_cons (ps_set (i := 3) scF2.nd rfl (.inl rfl) (pe_call Li.ok hr3 (by rfl) Li.g Li.kp Li.b .nil pass0 (pa_cons (pv 1) (pa_cons pe_int pa_nil))))
        <| pss_cons (ps_set (i := 4) scF2.nd rfl (.inl rfl) (pe_call Ne.ok hr4 (by rfl) Ne.g Ne.kp Ne.b .nil pass0 (pa_cons (pv 1) (pa_cons (pv 3) pa_nil))))
        <| C8.pss_cut (ps_if (pt_cmpR op_eq (pe_call Pi.ok hr1 (by rfl) Pi.g Pi.kp Pi.b .nil pass0 (pa_cons (pv 1) (pa_cons pe_int pa_nil))) pe_int (nomark _))
            (pss_one (ps_set (i := 3) scF2.nd rfl (.inl rfl) (pe_call Bo.ok hr5 (by rfl) Bo.g Bo.kp Bo.b .nil pass0 (pa_cons (pv 3) (pa_cons (pv 4) pa_nil))))) pss_nil)
        <| pss_cons (ps_set (i := 5) scF2.nd rfl (.inl rfl) (pe_call Du.ok hr2 (by rfl) Du.g Du.kp Du.b .nil pass0 (pa_cons (pv 3) (pa_cons (pv 4) pa_nil))))
        <| pss_cons (ps_set (i := 6) scF2.nd rfl (.inl rfl) (pe_call Be.ok hr5 (by rfl) Be.g Be.kp Be.b .nil pass0 (pa_cons (pv 3) (pa_cons (pv 4) pa_nil))))
        <| pss_cons (ps_set (i := 7) scF2.nd rfl (.inl rfl) (pe_call Nv.ok hr5 (by rfl) Nv.g Nv.kp Nv.b .nil pass0 (pa_cons (pv 3) (pa_cons (pv 4) pa_nil))))
        <| pss_cons (ps_if (PW.pt (pw_or (pt_cmpR op_ne (pv 6) (pv 5) (nomark _)) (pw_or (pt_val (pe_callB call_isi (by rfl) mI (by decide +kernel) (pa_cons (pv 6) (pa_cons (pe_bltn (v := .ty "bool") (by rfl) mb (by decide +kernel) rfl) pa_nil))))
            (pw_or (pt_not (pt_val (pe_callB call_isi (by rfl) mI (by decide +kernel) (pa_cons (pv 7) (pa_cons (pe_bltn (v := .ty "bool") (by rfl) mb (by decide +kernel) rfl) pa_nil)))))
            (pw_or1 (pt_cmpR op_ne (pv 7) (pe_cmpR op_isN (pv 5) pe_non (nomark _)) (nomark _))))))) (pss_one ps_never) pss_nil)
        <| pss_cons (ps_if (PW.pt (pw_or (pt_cmpR op_notN (pe_call Be.ok hr5 (by rfl) Be.g Be.kp Be.b .nil pass0 (pa_cons (pe_call Bo.ok hr5 (by rfl) Bo.g Bo.kp Bo.b .nil pass0 (pa_cons (pv 3) (pa_cons (pv 4) pa_nil))) (pa_cons (pv 3) pa_nil))) pe_non (nomark _))
            (pw_or1 (pt_cmpR op_notN (pe_call Be.ok hr5 (by rfl) Be.g Be.kp Be.b .nil pass0 (pa_cons (pv 3) (pa_cons (pe_call Ei.ok hr5 (by rfl) Ei.g Ei.kp Ei.b .nil pass0 (pa_cons (pv 3) (pa_cons (pv 4) pa_nil))) pa_nil))) pe_non (nomark _))))) (pss_one ps_never) pss_nil)
        <| pss_one (ps_if (PW.pt (pw_or (pt_cmpR op_ne (pe_cmpR (op_eqD hr.units) (pe_call Bo.ok hr5 (by rfl) Bo.g Bo.kp Bo.b .nil pass0 (pa_cons (pv 3) (pa_cons (pv 4) pa_nil))) (pv 3) (nomark _)) (pv 7) (nomark _))
            (pw_or1 (pt_cmpR op_ne (pe_cmpR (op_eqD hr.units) (pe_call Ei.ok hr5 (by rfl) Ei.g Ei.kp Ei.b .nil pass0 (pa_cons (pv 3) (pa_cons (pv 4) pa_nil))) (pv 4) (nomark _)) (pv 7) (nomark _))))) (pss_one ps_never) pss_nil)))
      <| pss_one (ps_ret (pe_and (pe_cmpR op_eq (pe_call Be.ok hr5 (by rfl) Be.g Be.kp Be.b .nil pass0 (pa_cons (pe_tup (pa_cons pe_bl (pa_cons (pe_tup pa_nil) pa_nil))) (pa_cons (pe_tup (pa_cons pe_bl (pa_cons (pe_tup pa_nil) pa_nil))) pa_nil))) pe_int (nomark _))
          (pe_one (pe_cmpR op_isN (pe_call Be.ok hr5 (by rfl) Be.g Be.kp Be.b .nil pass0 (pa_cons (pe_tup (pa_cons pe_bl (pa_cons (pe_tup pa_nil) pa_nil))) (pa_cons (pe_tup (pa_cons pe_bl (pa_cons (pe_tup pa_nil) pa_nil))) pa_nil))) pe_non (nomark _))))), ?_⟩
    refine ⟨.ref a, rfl, a, ns, rfl, hS, fun H1 t l s1 nT tp => ?_⟩
    have S1 : Sound T H t l H1 := ⟨extN_same s1, hT.ext s1, tp, nT⟩
    refine ⟨6, rfl, by decide, by decide, for_range (lo := 0) (n := 6) (fun i σ H2 => ∃ y2 y3 y4 y5 y6 y7 : Option V, σ = [some (.ref a), some (.ref t), y2, y3, y4, y5, y6, y7] ∧ Sound T H t l H2) ⟨none, none, none, none, none, none, rfl, S1⟩ (fun i σ H2 _ hW => ?_) fun σ H2 hW => ?_⟩
    · obtain ⟨y2, y3, y4, y5, y6, y7, rfl, S2⟩ := hW
      refine ⟨.ref t, rfl, t, l, rfl, S2.tape, fun H3 r1 L1 B3 T3 hL1 as1 n1 => ?_⟩
      have S3 := S2.byTape B3 T3
      refine ⟨.ref t, rfl, .ref r1, rfl, t, l, r1, L1, rfl, S3.tape, hL1, n1, fun H4 r2 M B4 T4 hL2 asM nM => ?_⟩
      have S4 := S3.byTape B4 T4
      have hL1b := hL1.sameB S3.tape B4
      refine ⟨fun σ H5 => ∃ (r : Addr) (L : Line) (y5 y6 y7 : Option V), σ = [some (.ref a), some (.ref t), some (.int (0 + (i : Int))), some (.ref r), some (.ref r2), y5, y6, y7] ∧ Sound T H t l H5 ∧ LineAt H5 r L ∧ LineAt H5 r2 M ∧ Asc L.2 ∧ L.2.length ≤ 20, ?_, fun σ H5 hM => ?_⟩
      · refine ⟨.ref t, rfl, t, l, 4, rfl, S4.tape, by decide, log_small (by decide) (by decide), fun x H5 _ _ B5 T5 => ⟨rfl, _, rfl, ite2 (fun _ => ?_) fun _ => ?_⟩⟩
        · have S5 := S4.byTape B5 T5
          have k1 := hL1b.sameB S4.tape B5
          have k2 := hL2.sameB S4.tape B5
          refine ⟨.ref r1, rfl, .ref r2, rfl, r1, r2, L1, M, ⟨rfl, k1, k2, as1, asM, by omega⟩, S5.tabs, fun H6 r6 J j e6 T6 h6 => ?_⟩
          have jl := j.len
          exact ⟨r6, J, _, _, _, rfl, S5.by e6 T6, h6, k2.keep (Tp.ext e6), j.asc, by omega⟩
        · exact ⟨r1, L1, _, _, _, rfl, S4.byTape B5 T5, hL1b.sameB S4.tape B5, hL2.sameB S4.tape B5, as1, by omega⟩
      · obtain ⟨r, L, y5b, y6b, y7b, rfl, S5, h1, h2, asL, nL⟩ := hM
        have len : L.2.length + M.2.length < 64 := by omega
        -- due, told, flag
        refine ⟨.ref r, rfl, .ref r2, rfl, r, r2, L, M, rfl, h1, h2, len, fun H6 d hd s6 => ?_⟩
        have S6 := S5.same s6
        have h1 := h1.keep (Tp.of s6)
        have h2 := h2.keep (Tp.of s6)
        refine ⟨.ref r, rfl, .ref r2, rfl, r, r2, L, M, ⟨rfl, h1, h2, asL, asM, len⟩, S6.tabs, fun H7 J j e7 T7 => ?_⟩
        obtain rfl := hd J j
        have S7 := S6.by e7 T7
        have h1 := h1.keep (Tp.ext e7)
        have h2 := h2.keep (Tp.ext e7)
        refine ⟨.ref r, rfl, .ref r2, rfl, r, r2, L, M, ⟨rfl, h1, h2, asL, asM, len⟩, S7.tabs, fun H8 J2 j2 e8 T8 => ?_⟩
        obtain rfl := joins_uniq j2 j
        have S8 := S7.by e8 T8
        have h1 := h1.keep (Tp.ext e8)
        have h2 := h2.keep (Tp.ext e8)
        -- the first if
        refine ⟨_, rfl, _, rfl, optV_scal _ _, _, rfl, iteNS rfl ?_⟩
        obtain ⟨ty, tyX, kit⟩ := ty_opt (K := K) (H := H8) (firstT J2 (L.2 ++ M.2))
        refine ⟨optV (firstT J2 (L.2 ++ M.2)), rfl, _, .ty "bool", ty, .type "bool", false, rfl, .ty _, tyX, kit, false, rfl, iteF ?_⟩
        refine ⟨.bl (decide (J2 = (false, []))), rfl, _, .ty "bool", .type "bool", .type "bool", true, rfl, .ty _, .base (.bl _), kit_ty (by decide +kernel), true, rfl, iteF ?_⟩
        have eN : decide (optV (firstT J2 (L.2 ++ M.2)) = V.non) = decide (J2 = (false, [])) := by
          rw [optV_non]
          exact decide_eq_decide.mpr firstT_none
        refine ⟨_, rfl, _, rfl, rfl, rfl, _, rfl, iteNS (by rw [eN]) ?_⟩
        -- the second if
        have len3 : ∀ B : Line, B.2.length ≤ L.2.length + M.2.length → B.2.length + L.2.length < 64 := fun B hB => by omega
        refine ⟨.ref r, rfl, .ref r2, rfl, r, r2, L, M, ⟨rfl, h1, h2, asL, asM, len⟩, S8.tabs, fun H9 b9 B jb e9 T9 h9 => ?_⟩
        have S9 := S8.by e9 T9
        have h1 := h1.keep (Tp.ext e9)
        have h2 := h2.keep (Tp.ext e9)
        refine ⟨.ref r, rfl, b9, r, B, L, ⟨rfl, h9, h1, jb.asc, asL, len3 B jb.len⟩, S9.tabs, fun H10 Jb jjb e10 T10 => ?_⟩
        have S10 := S9.by e10 T10
        have h1 := h1.keep (Tp.ext e10)
        have h2 := h2.keep (Tp.ext e10)
        obtain rfl := both_beneath jb jjb
        refine ⟨rfl, _, rfl, iteF ?_⟩
        refine ⟨.ref r, rfl, .ref r, rfl, .ref r2, rfl, r, r2, L, M, ⟨rfl, h1, h2, asL, asM, len⟩, S10.tabs, fun H11 b11 O jo e11 T11 h11 => ?_⟩
        have S11 := S10.by e11 T11
        have h1 := h1.keep (Tp.ext e11)
        have h2 := h2.keep (Tp.ext e11)
        refine ⟨r, b11, L, O, ⟨rfl, h1, h11, asL, jo.asc, by have := len3 O jo.len; omega⟩, S11.tabs, fun H12 Jo jjo e12 T12 => ?_⟩
        have S12 := S11.by e12 T12
        have h1 := h1.keep (Tp.ext e12)
        have h2 := h2.keep (Tp.ext e12)
        obtain rfl := either_above jo jjo
        refine ⟨rfl, _, rfl, iteF ?_⟩
        -- the third if
        refine ⟨.ref r, rfl, .ref r2, rfl, r, r2, L, M, ⟨rfl, h1, h2, asL, asM, len⟩, S12.tabs, fun H13 b13 B2 jb2 e13 T13 h13 => ?_⟩
        have S13 := S12.by e13 T13
        have h1 := h1.keep (Tp.ext e13)
        have h2 := h2.keep (Tp.ext e13)
        have eB : decide (B2 = L) = decide (J2 = (false, [])) := decide_eq_decide.mpr (both_is asL jb2 j2)
        refine ⟨.ref r, rfl, eqD_read h13 h1 ⟨_, rfl, rfl, _, rfl, iteNS (by rw [eB]) ?_⟩⟩
        refine ⟨.ref r, rfl, .ref r2, rfl, r, r2, L, M, ⟨rfl, h1, h2, asL, asM, len⟩, S13.tabs, fun H14 b14 O2 jo2 e14 T14 h14 => ?_⟩
        have S14 := S13.by e14 T14
        have h2 := h2.keep (Tp.ext e14)
        have eO : decide (O2 = M) = decide (J2 = (false, [])) := decide_eq_decide.mpr (either_is asM jo2 j2)
        exact ⟨.ref r2, rfl, eqD_read h14 h2 ⟨_, rfl, rfl, _, rfl, iteNS (by rw [eO]) ⟨_, _, _, _, _, _, rfl, S14⟩⟩⟩
    · obtain ⟨y2, y3, y4, y5, y6, y7, rfl, S2⟩ := hW
      refine ⟨Nat.zero_le _, fun p1 n1 => ⟨by show 2 ≤ sizeLine; decide, fun o1 n2 => ⟨Nat.zero_le _, fun p2 n3 => ⟨by show 2 ≤ sizeLine; decide, fun o2 n4 => ?_⟩⟩⟩⟩
      have e1 := (same_upd (o := .tup []) n1).trans (same_upd (o := .tup [V.bl true, V.ref p1]) n2)
      have e2 := (same_upd (o := .tup []) n3).trans (same_upd (o := .tup [V.bl false, V.ref p2]) n4)
      have S3 := S2.same (e1.trans e2)
      refine ⟨o1, o2, (true, []), (false, []), ⟨rfl, (lone_at n1 n2).keep (Tp.of e2), lone_at n3 n4, List.Pairwise.nil, List.Pairwise.nil, by decide⟩, S3.tabs, fun H5 J j e5 T5 => ?_⟩
      have S5 := S3.by e5 T5
      have hJ : firstT J (([] : List Int) ++ []) = some 0 := by
        unfold firstT
        rw [j.first]
        rfl
      show scal (optV (firstT J (([] : List Int) ++ []))) (V.int 0) = true ∧ _
      rw [hJ]
      refine ⟨rfl, true, rfl, iteT ?_⟩
      refine ⟨Nat.zero_le _, fun p3 m1 => ⟨by show 2 ≤ sizeLine; decide, fun o3 m2 => ⟨Nat.zero_le _, fun p4 m3 => ⟨by show 2 ≤ sizeLine; decide, fun o4 m4 => ?_⟩⟩⟩⟩
      have e6 := (same_upd (o := .tup []) m1).trans (same_upd (o := .tup [V.bl false, V.ref p3]) m2)
      have e7 := (same_upd (o := .tup []) m3).trans (same_upd (o := .tup [V.bl true, V.ref p4]) m4)
      have S6 := S5.same (e6.trans e7)
      refine ⟨o3, o4, (false, []), (true, []), ⟨rfl, (lone_at m1 m2).keep (Tp.of e7), lone_at m3 m4, List.Pairwise.nil, List.Pairwise.nil, by decide⟩, S6.tabs, fun H8 J2 j2 e8 T8 => ?_⟩
      have S8 := S6.by e8 T8
      obtain rfl : J2 = (false, []) := (joins_nil j2).mpr fun x => rfl
      exact ⟨rfl, q H8 S8.ext S8.tabs⟩
/-! ### the law -/
theorem scLw : FnScope ["_law_script"] ["_law_script"] (defScope sLaw) := ⟨rfl, rfl, rfl, by decide +kernel, rfl, by decide +kernel, by decide +kernel⟩
theorem ok_law {T : List (Addr × Str)} {f f1 f2 : Addr} {fd d1 d2 : FuncData} {k : Nat} (F : Fun K "law" "law" sLaw f fd) (A1 : At P w K mg base "_law_first" 6 ["_law_script"] (spPart K T) f1 d1) (A2 : At P w K mg base "_law_second" 6 ["_law_script"] (spPart K T) f2 d2) : FnOk P w K mg base CX0 (k + 7) f fd ["_law_script"] (spPart K T) := by
  refine F.ok scLw (fun vs H Q E h => ?_) (fun cdv A outer s H vs Q E hr h => ?_)
  · obtain ⟨a, ns, rfl, _⟩ := h
    rfl
  · obtain ⟨a, ns, rfl, hS, hT, q⟩ := h
    have hr6 := hr.mono (j := 6) (by omega)
    refine ⟨_, pss_one (ps_ret (pe_and (pe_call A1.ok hr6 (by rfl) A1.g A1.kp A1.b .nil pass0 (pa_cons (pv 0) pa_nil)) (pe_one (pe_call A2.ok hr6 (by rfl) A2.g A2.kp A2.b .nil pass0 (pa_cons (pv 0) pa_nil))))), ?_⟩
    exact ⟨.ref a, rfl, a, ns, rfl, hS, hT, fun H1 e1 T1 => ⟨true, rfl, iteT ⟨.ref a, rfl, a, ns, rfl, K06.SqL.ext hS e1, T1, fun H2 e2 T2 => q H2 (e1.trans e2) T2⟩⟩⟩
end
end K06

namespace K06
open PySem PySem.Spec PyProof.Rows L2 LamX K06S
/-! ### what the top has written -/
def DefAt (K : PySem.W.Frag) (x : Str) (st : Stmt) : Prop := ∃ f fd, PySem.W.nsIn K mainGlobals x = some (some (.ref f)) ∧ Fun K x x st f fd
theorem defAt_mk {K : PySem.W.Frag} {x : Str} {st : Stmt} {f : Addr} {oc kV doc pm cdv ct : Value} {od an : Option Addr} {osl : Array (Option Value)} (a : PySem.W.nsIn K mainGlobals x = some (some (.ref f)))
    (l : K.lookup f = some ⟨oc, od, .func (PySem.W.fnOf x x (defArgs st) (defBody st) (defScope st) .none kV doc pm an cdv ct), osl⟩) (c : PySem.W.codeIn K cdv x = true) (k : PySem.W.keepIn K (.ref f) = true) : DefAt K x st := ⟨f, _, a, fun_mk l c k⟩
/-- a def that makes a lambda: its code object at c, that one's table at T -/
def MakAt (K : PySem.W.Frag) (x : Str) (st : Stmt) (c T : Addr) : Prop := ∃ f fd, PySem.W.nsIn K mainGlobals x = some (some (.ref f)) ∧ FunC K x x st f fd c
theorem makAt_mk {K : PySem.W.Frag} {x : Str} {st : Stmt} {f c T : Addr} {oc kV doc pm ct e : Value} {od an dd : Option Addr} {osl sl : Array (Option Value)} {vs : Array Value} (a : PySem.W.nsIn K mainGlobals x = some (some (.ref f)))
    (l : K.lookup f = some ⟨oc, od, .func (PySem.W.fnOf x x (defArgs st) (defBody st) (defScope st) .none kV doc pm an (.ref c) ct), osl⟩) (cd : PySem.W.codeIn K (.ref c) x = true) (k : PySem.W.keepIn K (.ref f) = true)
    (_ : K.lookup c = some ⟨e, dd, .fields vs, sl⟩) (_ : vs[11]? = some (.ref T)) : MakAt K x st c T := ⟨f, _, a, ⟨oc, od, kV, doc, pm, an, ct, osl, rfl, l, cd⟩, k⟩

theorem all_mk {l : PySem.W.OpenLaw} {w : World} {K : PySem.W.Frag} {h : Heap} {mg : Str → Option Value} {fa c1 c2 c3 c4 T1 T2 T3 T4 : Addr} {ts : List Addr} (X : K.In h) (G : h.Ns mainGlobals mg) (hfa : mg "law" = some (.ref fa))
    (tb : ∀ T ∈ ts, h.get? T = some { cls := .none, data := .fields #[] })
    (D_is_integer : DefAt K "is_integer" sIsInteger)
    (D_is_flag : DefAt K "is_flag" sIsFlag)
    (D_is_pair : DefAt K "is_pair" sIsPair)
    (D_is_rising : DefAt K "is_rising" sIsRising)
    (D_check_tick : DefAt K "check_tick" sCheckTick)
    (D_is_told_line : DefAt K "is_told_line" sIsTold)
    (D_check_line : DefAt K "check_line" sCheckLine)
    (D_edges_up_to : DefAt K "edges_up_to" sUpTo)
    (D_state_behind : DefAt K "state_behind" sBehind)
    (D_state_at : DefAt K "state_at" sStateAt)
    (D_on_at : DefAt K "on_at" sOnAt)
    (D_joined : DefAt K "joined" sJoined)
    (D_check_two : DefAt K "check_two" sTwo)
    (D_both : DefAt K "both" sBoth)
    (D_unlike : DefAt K "unlike" sUnlike)
    (D_first_tick : DefAt K "first_tick" sFirstTick)
    (D_apart_at : DefAt K "apart_at" sApart)
    (D_beyond_at : DefAt K "beyond_at" sBeyondAt)
    (D_never_beyond : DefAt K "never_beyond" sNever)
    (D_law_tape : DefAt K "_law_tape" sTape)
    (D_law_pick : DefAt K "_law_pick" sPick)
    (D_law_edges : DefAt K "_law_edges" sEdges)
    (D_law_line : DefAt K "_law_line" sLine)
    (D_law_on : DefAt K "_law_on" sOnL)
    (D_law_near : DefAt K "_law_near" sNear)
    (D_law_ticks : DefAt K "_law_ticks" sTicks)
    (D_law_due : DefAt K "_law_due" sDue)
    (D_law_first : DefAt K "_law_first" sFirst)
    (D_law_due_two : DefAt K "_law_due_two" sDue2)
    (D_law_second : DefAt K "_law_second" sSecond)
    (D_law : DefAt K "law" sLaw)
    (M_where_both : MakAt K "where_both" sWBoth c1 T1)
    (M_where_unlike : MakAt K "where_unlike" sWUnlike c2 T2)
    (M_where_beyond : MakAt K "where_beyond" sWBeyond c3 T3)
    (M_either : MakAt K "either" sEither c4 T4)
    (z_isinstance : PySem.W.nsIn K mainGlobals "isinstance" = some none)
    (z_int : PySem.W.nsIn K mainGlobals "int" = some none)
    (z_bool : PySem.W.nsIn K mainGlobals "bool" = some none)
    (z_tuple : PySem.W.nsIn K mainGlobals "tuple" = some none)
    (z_len : PySem.W.nsIn K mainGlobals "len" = some none)
    (z_all : PySem.W.nsIn K mainGlobals "all" = some none)
    (z_range : PySem.W.nsIn K mainGlobals "range" = some none)
    (z_sorted : PySem.W.nsIn K mainGlobals "sorted" = some none)
    (z_min : PySem.W.nsIn K mainGlobals "min" = some none)
    (z_list : PySem.W.nsIn K mainGlobals "list" = some none)
    (z_set : PySem.W.nsIn K mainGlobals "set" = some none)
    (n1 : K.lookup T1 = none)
    (n2 : K.lookup T2 = none)
    (n3 : K.lookup T3 = none)
    (n4 : K.lookup T4 = none)
    (e12 : T1 ≠ T2)
    (e13 : T1 ≠ T3)
    (e14 : T1 ≠ T4)
    (e23 : T2 ≠ T3)
    (e24 : T2 ≠ T4)
    (e34 : T3 ≠ T4)
    (h1 : PySem.W.codeHdIn K c1 T1 = true)
    (h2 : PySem.W.codeHdIn K c2 T2 = true)
    (h3 : PySem.W.codeHdIn K c3 T3 = true)
    (h4 : PySem.W.codeHdIn K c4 T4 = true)
    (u1 : T1 ∈ ts)
    (u2 : T2 ∈ ts)
    (u3 : T3 ∈ ts)
    (u4 : T4 ∈ ts)
    : LawAtS l w K CX0 7 63 "_law_script" mg fa h := by
  obtain ⟨f_is_integer, d_is_integer, a_is_integer, F_is_integer⟩ := D_is_integer
  have g_is_integer := PySem.W.mg_of X G a_is_integer
  have b_is_integer := F_is_integer.binds (ps := ["thing"]) fun _ _ _ _ _ _ us hl => match us, hl with | [_], _ => rfl
  obtain ⟨f_is_flag, d_is_flag, a_is_flag, F_is_flag⟩ := D_is_flag
  have g_is_flag := PySem.W.mg_of X G a_is_flag
  have b_is_flag := F_is_flag.binds (ps := ["thing"]) fun _ _ _ _ _ _ us hl => match us, hl with | [_], _ => rfl
  obtain ⟨f_is_pair, d_is_pair, a_is_pair, F_is_pair⟩ := D_is_pair
  have g_is_pair := PySem.W.mg_of X G a_is_pair
  have b_is_pair := F_is_pair.binds (ps := ["thing"]) fun _ _ _ _ _ _ us hl => match us, hl with | [_], _ => rfl
  obtain ⟨f_is_rising, d_is_rising, a_is_rising, F_is_rising⟩ := D_is_rising
  have g_is_rising := PySem.W.mg_of X G a_is_rising
  have b_is_rising := F_is_rising.binds (ps := ["items"]) fun _ _ _ _ _ _ us hl => match us, hl with | [_], _ => rfl
  obtain ⟨f_check_tick, d_check_tick, a_check_tick, F_check_tick⟩ := D_check_tick
  have g_check_tick := PySem.W.mg_of X G a_check_tick
  have b_check_tick := F_check_tick.binds (ps := ["thing"]) fun _ _ _ _ _ _ us hl => match us, hl with | [_], _ => rfl
  obtain ⟨f_is_told_line, d_is_told_line, a_is_told_line, F_is_told_line⟩ := D_is_told_line
  have g_is_told_line := PySem.W.mg_of X G a_is_told_line
  have b_is_told_line := F_is_told_line.binds (ps := ["thing"]) fun _ _ _ _ _ _ us hl => match us, hl with | [_], _ => rfl
  obtain ⟨f_check_line, d_check_line, a_check_line, F_check_line⟩ := D_check_line
  have g_check_line := PySem.W.mg_of X G a_check_line
  have b_check_line := F_check_line.binds (ps := ["thing"]) fun _ _ _ _ _ _ us hl => match us, hl with | [_], _ => rfl
  obtain ⟨f_edges_up_to, d_edges_up_to, a_edges_up_to, F_edges_up_to⟩ := D_edges_up_to
  have g_edges_up_to := PySem.W.mg_of X G a_edges_up_to
  have b_edges_up_to := F_edges_up_to.binds (ps := ["line", "tick"]) fun _ _ _ _ _ _ us hl => match us, hl with | [_, _], _ => rfl
  obtain ⟨f_state_behind, d_state_behind, a_state_behind, F_state_behind⟩ := D_state_behind
  have g_state_behind := PySem.W.mg_of X G a_state_behind
  have b_state_behind := F_state_behind.binds (ps := ["line", "many"]) fun _ _ _ _ _ _ us hl => match us, hl with | [_, _], _ => rfl
  obtain ⟨f_state_at, d_state_at, a_state_at, F_state_at⟩ := D_state_at
  have g_state_at := PySem.W.mg_of X G a_state_at
  have b_state_at := F_state_at.binds (ps := ["line", "tick"]) fun _ _ _ _ _ _ us hl => match us, hl with | [_, _], _ => rfl
  obtain ⟨f_on_at, d_on_at, a_on_at, F_on_at⟩ := D_on_at
  have g_on_at := PySem.W.mg_of X G a_on_at
  have b_on_at := F_on_at.binds (ps := ["line", "tick"]) fun _ _ _ _ _ _ us hl => match us, hl with | [_, _], _ => rfl
  obtain ⟨f_joined, d_joined, a_joined, F_joined⟩ := D_joined
  have g_joined := PySem.W.mg_of X G a_joined
  have b_joined := F_joined.binds (ps := ["one", "other", "rule"]) fun _ _ _ _ _ _ us hl => match us, hl with | [_, _, _], _ => rfl
  obtain ⟨f_check_two, d_check_two, a_check_two, F_check_two⟩ := D_check_two
  have g_check_two := PySem.W.mg_of X G a_check_two
  have b_check_two := F_check_two.binds (ps := ["one", "other"]) fun _ _ _ _ _ _ us hl => match us, hl with | [_, _], _ => rfl
  obtain ⟨f_both, d_both, a_both, F_both⟩ := D_both
  have g_both := PySem.W.mg_of X G a_both
  have b_both := F_both.binds (ps := ["one", "other"]) fun _ _ _ _ _ _ us hl => match us, hl with | [_, _], _ => rfl
  obtain ⟨f_unlike, d_unlike, a_unlike, F_unlike⟩ := D_unlike
  have g_unlike := PySem.W.mg_of X G a_unlike
  have b_unlike := F_unlike.binds (ps := ["one", "other"]) fun _ _ _ _ _ _ us hl => match us, hl with | [_, _], _ => rfl
  obtain ⟨f_first_tick, d_first_tick, a_first_tick, F_first_tick⟩ := D_first_tick
  have g_first_tick := PySem.W.mg_of X G a_first_tick
  have b_first_tick := F_first_tick.binds (ps := ["line", "one", "other"]) fun _ _ _ _ _ _ us hl => match us, hl with | [_, _, _], _ => rfl
  obtain ⟨f_apart_at, d_apart_at, a_apart_at, F_apart_at⟩ := D_apart_at
  have g_apart_at := PySem.W.mg_of X G a_apart_at
  have b_apart_at := F_apart_at.binds (ps := ["one", "other"]) fun _ _ _ _ _ _ us hl => match us, hl with | [_, _], _ => rfl
  obtain ⟨f_beyond_at, d_beyond_at, a_beyond_at, F_beyond_at⟩ := D_beyond_at
  have g_beyond_at := PySem.W.mg_of X G a_beyond_at
  have b_beyond_at := F_beyond_at.binds (ps := ["one", "other"]) fun _ _ _ _ _ _ us hl => match us, hl with | [_, _], _ => rfl
  obtain ⟨f_never_beyond, d_never_beyond, a_never_beyond, F_never_beyond⟩ := D_never_beyond
  have g_never_beyond := PySem.W.mg_of X G a_never_beyond
  have b_never_beyond := F_never_beyond.binds (ps := ["one", "other"]) fun _ _ _ _ _ _ us hl => match us, hl with | [_, _], _ => rfl
  obtain ⟨f_law_tape, d_law_tape, a_law_tape, F_law_tape⟩ := D_law_tape
  have g_law_tape := PySem.W.mg_of X G a_law_tape
  have b_law_tape := F_law_tape.binds (ps := ["_law_script"]) fun _ _ _ _ _ _ us hl => match us, hl with | [_], _ => rfl
  obtain ⟨f_law_pick, d_law_pick, a_law_pick, F_law_pick⟩ := D_law_pick
  have g_law_pick := PySem.W.mg_of X G a_law_pick
  have b_law_pick := F_law_pick.binds (ps := ["_law_tape_here", "_law_many"]) fun _ _ _ _ _ _ us hl => match us, hl with | [_, _], _ => rfl
  obtain ⟨f_law_edges, d_law_edges, a_law_edges, F_law_edges⟩ := D_law_edges
  have g_law_edges := PySem.W.mg_of X G a_law_edges
  have b_law_edges := F_law_edges.binds (ps := ["_law_tape_here", "_law_most", "_law_wide"]) fun _ _ _ _ _ _ us hl => match us, hl with | [_, _, _], _ => rfl
  obtain ⟨f_law_line, d_law_line, a_law_line, F_law_line⟩ := D_law_line
  have g_law_line := PySem.W.mg_of X G a_law_line
  have b_law_line := F_law_line.binds (ps := ["_law_tape_here", "_law_most"]) fun _ _ _ _ _ _ us hl => match us, hl with | [_, _], _ => rfl
  obtain ⟨f_law_on, d_law_on, a_law_on, F_law_on⟩ := D_law_on
  have g_law_on := PySem.W.mg_of X G a_law_on
  have b_law_on := F_law_on.binds (ps := ["_law_line_here", "_law_tick"]) fun _ _ _ _ _ _ us hl => match us, hl with | [_, _], _ => rfl
  obtain ⟨f_law_near, d_law_near, a_law_near, F_law_near⟩ := D_law_near
  have g_law_near := PySem.W.mg_of X G a_law_near
  have b_law_near := F_law_near.binds (ps := ["_law_tape_here", "_law_line_here"]) fun _ _ _ _ _ _ us hl => match us, hl with | [_, _], _ => rfl
  obtain ⟨f_law_ticks, d_law_ticks, a_law_ticks, F_law_ticks⟩ := D_law_ticks
  have g_law_ticks := PySem.W.mg_of X G a_law_ticks
  have b_law_ticks := F_law_ticks.binds (ps := ["_law_one", "_law_other"]) fun _ _ _ _ _ _ us hl => match us, hl with | [_, _], _ => rfl
  obtain ⟨f_law_due, d_law_due, a_law_due, F_law_due⟩ := D_law_due
  have g_law_due := PySem.W.mg_of X G a_law_due
  have b_law_due := F_law_due.binds (ps := ["_law_one", "_law_other"]) fun _ _ _ _ _ _ us hl => match us, hl with | [_, _], _ => rfl
  obtain ⟨f_law_first, d_law_first, a_law_first, F_law_first⟩ := D_law_first
  have g_law_first := PySem.W.mg_of X G a_law_first
  have b_law_first := F_law_first.binds (ps := ["_law_script"]) fun _ _ _ _ _ _ us hl => match us, hl with | [_], _ => rfl
  obtain ⟨f_law_due_two, d_law_due_two, a_law_due_two, F_law_due_two⟩ := D_law_due_two
  have g_law_due_two := PySem.W.mg_of X G a_law_due_two
  have b_law_due_two := F_law_due_two.binds (ps := ["_law_one", "_law_other"]) fun _ _ _ _ _ _ us hl => match us, hl with | [_, _], _ => rfl
  obtain ⟨f_law_second, d_law_second, a_law_second, F_law_second⟩ := D_law_second
  have g_law_second := PySem.W.mg_of X G a_law_second
  have b_law_second := F_law_second.binds (ps := ["_law_script"]) fun _ _ _ _ _ _ us hl => match us, hl with | [_], _ => rfl
  obtain ⟨f_law, d_law, a_law, F_law⟩ := D_law
  have hq := hfa.symm.trans (PySem.W.mg_of X G a_law)
  obtain rfl : fa = f_law := by cases hq; rfl
  obtain ⟨f_where_both, d_where_both, a_where_both, F_where_both⟩ := M_where_both
  have g_where_both := PySem.W.mg_of X G a_where_both
  have b_where_both := F_where_both.fn.binds (ps := ["one", "other"]) fun _ _ _ _ _ _ us hl => match us, hl with | [_, _], _ => rfl
  have C1 := PySem.W.codeHd_of_K X h1
  have P1 := tb _ u1
  obtain ⟨f_where_unlike, d_where_unlike, a_where_unlike, F_where_unlike⟩ := M_where_unlike
  have g_where_unlike := PySem.W.mg_of X G a_where_unlike
  have b_where_unlike := F_where_unlike.fn.binds (ps := ["one", "other"]) fun _ _ _ _ _ _ us hl => match us, hl with | [_, _], _ => rfl
  have C2 := PySem.W.codeHd_of_K X h2
  have P2 := tb _ u2
  obtain ⟨f_where_beyond, d_where_beyond, a_where_beyond, F_where_beyond⟩ := M_where_beyond
  have g_where_beyond := PySem.W.mg_of X G a_where_beyond
  have b_where_beyond := F_where_beyond.fn.binds (ps := ["one", "other"]) fun _ _ _ _ _ _ us hl => match us, hl with | [_, _], _ => rfl
  have C3 := PySem.W.codeHd_of_K X h3
  have P3 := tb _ u3
  obtain ⟨f_either, d_either, a_either, F_either⟩ := M_either
  have g_either := PySem.W.mg_of X G a_either
  have b_either := F_either.fn.binds (ps := ["one", "other"]) fun _ _ _ _ _ _ us hl => match us, hl with | [_, _], _ => rfl
  have C4 := PySem.W.codeHd_of_K X h4
  have P4 := tb _ u4
  have m_isinstance := PySem.W.mg_none_of X G z_isinstance
  have m_int := PySem.W.mg_none_of X G z_int
  have m_bool := PySem.W.mg_none_of X G z_bool
  have m_tuple := PySem.W.mg_none_of X G z_tuple
  have m_len := PySem.W.mg_none_of X G z_len
  have m_all := PySem.W.mg_none_of X G z_all
  have m_range := PySem.W.mg_none_of X G z_range
  have m_sorted := PySem.W.mg_none_of X G z_sorted
  have m_min := PySem.W.mg_none_of X G z_min
  have m_list := PySem.W.mg_none_of X G z_list
  have m_set := PySem.W.mg_none_of X G z_set
  refine ⟨d_law, [(c1, T1), (c2, T2), (c3, T3), (c4, T4)], spPart K [(T1, "where_both.<locals>.<lambda>"), (T2, "where_unlike.<locals>.<lambda>"), (T3, "where_beyond.<locals>.<lambda>"), (T4, "either.<locals>.<lambda>")], ?_, ?_, ?_, ?_, ?_, ?_⟩
  · intro p hp
    simp only [List.mem_cons, List.not_mem_nil, or_false] at hp
    rcases hp with rfl | rfl | rfl | rfl
    · exact P1
    · exact P2
    · exact P3
    · exact P4
  · intro p hp
    simp only [List.mem_cons, List.not_mem_nil, or_false] at hp
    rcases hp with rfl | rfl | rfl | rfl
    · exact n1
    · exact n2
    · exact n3
    · exact n4
  · intro p hp
    simp only [List.mem_cons, List.not_mem_nil, or_false] at hp
    rcases hp with rfl | rfl | rfl | rfl
    · exact C1
    · exact C2
    · exact C3
    · exact C4
  · intro s u
    obtain ⟨oc, od, kV, doc, pm, an, cdv, ct, osl, rfl, _, _⟩ := F_law.ex
    exact .of_eq rfl
  · intro H a ns _ _ hH hS
    refine ⟨a, ns, rfl, hS, fun p hp => ?_, fun _ _ _ => rfl⟩
    simp only [List.mem_cons, List.not_mem_nil, or_false] at hp
    rcases hp with rfl | rfl | rfl | rfl
    · exact TabS.nil (hH (c1, T1) (by simp))
    · exact TabS.nil (hH (c2, T2) (by simp))
    · exact TabS.nil (hH (c3, T3) (by simp))
    · exact TabS.nil (hH (c4, T4) (by simp))
  · intro base KB GB hB
    have one : ∀ {T : Addr} {z : Str}, (T, z) ∈ [(T1, ("where_both.<locals>.<lambda>" : Str)), (T2, "where_unlike.<locals>.<lambda>"), (T3, "where_beyond.<locals>.<lambda>"), (T4, "either.<locals>.<lambda>")] → ∀ p ∈ [(T1, ("where_both.<locals>.<lambda>" : Str)), (T2, "where_unlike.<locals>.<lambda>"), (T3, "where_beyond.<locals>.<lambda>"), (T4, "either.<locals>.<lambda>")], p.1 = T → p.2 = z := by
      intro T z hz p hp e
      simp only [List.mem_cons, List.not_mem_nil, or_false, Prod.mk.injEq] at hz hp
      rcases hz with ⟨rfl, rfl⟩ | ⟨rfl, rfl⟩ | ⟨rfl, rfl⟩ | ⟨rfl, rfl⟩ <;> rcases hp with rfl | rfl | rfl | rfl <;> first | rfl | exact absurd e e12 | exact absurd e e13 | exact absurd e e14 | exact absurd e e23 | exact absurd e e24 | exact absurd e e34 | exact absurd e.symm e12 | exact absurd e.symm e13 | exact absurd e.symm e14 | exact absurd e.symm e23 | exact absurd e.symm e24 | exact absurd e.symm e34
    have tk : ∀ {c T : Addr} {z : Str}, (c, T) ∈ [(c1, T1), (c2, T2), (c3, T3), (c4, T4)] → (T, z) ∈ [(T1, ("where_both.<locals>.<lambda>" : Str)), (T2, "where_unlike.<locals>.<lambda>"), (T3, "where_beyond.<locals>.<lambda>"), (T4, "either.<locals>.<lambda>")] → TabOk base mg [(T1, ("where_both.<locals>.<lambda>" : Str)), (T2, "where_unlike.<locals>.<lambda>"), (T3, "where_beyond.<locals>.<lambda>"), (T4, "either.<locals>.<lambda>")] z c T :=
      fun h1 h2 => ⟨hB _ h1, h2, one h2⟩
    have k_int : FnOk l.prog w K mg base CX0 1 f_is_integer d_is_integer ["thing"] spInt := ok_int F_is_integer m_isinstance m_int m_bool
    have k_flag : FnOk l.prog w K mg base CX0 1 f_is_flag d_is_flag ["thing"] spFlag := ok_flag F_is_flag m_isinstance m_bool
    have k_pair : FnOk l.prog w K mg base CX0 1 f_is_pair d_is_pair ["thing"] spPair := ok_pair F_is_pair m_isinstance m_tuple m_len
    have k_rise : FnOk l.prog w K mg base CX0 1 f_is_rising d_is_rising ["items"] spRising := ok_rising F_is_rising m_all m_range m_len
    have k_tick : FnOk l.prog w K mg base CX0 2 f_check_tick d_check_tick ["thing"] spTick := ok_tick F_check_tick F_is_integer b_is_integer g_is_integer k_int
    have k_told : FnOk l.prog w K mg base CX0 2 f_is_told_line d_is_told_line ["thing"] (spTold (.bl true)) := ok_told F_is_told_line F_is_integer b_is_integer g_is_integer k_int F_is_flag b_is_flag g_is_flag k_flag F_is_pair b_is_pair g_is_pair k_pair F_is_rising b_is_rising g_is_rising k_rise m_isinstance m_tuple m_all
    have k_check : FnOk l.prog w K mg base CX0 3 f_check_line d_check_line ["thing"] (spTold .non) := ok_check F_check_line F_is_told_line b_is_told_line g_is_told_line k_told
    have k_up : FnOk l.prog w K mg base CX0 1 f_edges_up_to d_edges_up_to ["line", "tick"] spUp := ok_up F_edges_up_to m_len
    have k_be : FnOk l.prog w K mg base CX0 1 f_state_behind d_state_behind ["line", "many"] spBe := ok_be F_state_behind
    have k_st : FnOk l.prog w K mg base CX0 2 f_state_at d_state_at ["line", "tick"] spSt := ok_st F_state_at F_edges_up_to b_edges_up_to g_edges_up_to k_up F_state_behind b_state_behind g_state_behind k_be
    have k_on : FnOk l.prog w K mg base CX0 4 f_on_at d_on_at ["line", "tick"] spOn := ok_on F_on_at F_check_line b_check_line g_check_line k_check F_check_tick b_check_tick g_check_tick k_tick F_state_at b_state_at g_state_at k_st
    have J : JoinAt l.prog w K mg base f_joined d_joined := ⟨F_joined, b_joined, g_joined, ok_jo F_joined F_state_at b_state_at g_state_at k_st m_sorted m_tuple⟩
    have C : TwoAt l.prog w K mg base f_check_two d_check_two := ⟨F_check_two, b_check_two, g_check_two, ok_two F_check_two F_check_line b_check_line g_check_line k_check⟩
    have WB := (WhAt.mk F_where_both.kp b_where_both g_where_both (ok_wboth (P := l.prog) (w := w) (k := 0) F_where_both J (tk (.head _) (.head _))))
    have WX := (WhAt.mk F_where_unlike.kp b_where_unlike g_where_unlike (ok_wunlike (P := l.prog) (w := w) (k := 0) F_where_unlike J (tk (.tail _ (.head _)) (.tail _ (.head _)))))
    have WY := (WhAt.mk F_where_beyond.kp b_where_beyond g_where_beyond (ok_wbeyond (P := l.prog) (w := w) (k := 0) F_where_beyond J (tk (.tail _ (.tail _ (.head _))) (.tail _ (.tail _ (.head _))))))
    have I : FiAt l.prog w K mg base f_first_tick d_first_tick := ⟨F_first_tick, b_first_tick, g_first_tick, ok_fi F_first_tick m_len m_min⟩
    have A_bo := At.mk F_both.kp b_both g_both (ok_both (P := l.prog) (w := w) (k := 0) F_both C WB)
    have A_un := At.mk F_unlike.kp b_unlike g_unlike (ok_unlike (P := l.prog) (w := w) (k := 0) F_unlike C WX)
    have A_ei := At.mk F_either.kp b_either g_either (ok_either (P := l.prog) (w := w) (k := 0) F_either C J (tk (.tail _ (.tail _ (.tail _ (.head _)))) (.tail _ (.tail _ (.tail _ (.head _))))))
    have A_ap := At.mk F_apart_at.kp b_apart_at g_apart_at (ok_apart (P := l.prog) (w := w) (k := 0) F_apart_at C WX I)
    have A_be := At.mk F_beyond_at.kp b_beyond_at g_beyond_at (ok_beyond (P := l.prog) (w := w) (k := 0) F_beyond_at C WY I)
    have A_nv := At.mk F_never_beyond.kp b_never_beyond g_never_beyond (ok_never (P := l.prog) (w := w) (k := 0) F_never_beyond C WY)
    have A_on := At.mk F_on_at.kp b_on_at g_on_at k_on
    have A_ta := At.mk F_law_tape.kp b_law_tape g_law_tape (ok_tape (P := l.prog) (w := w) (base := base) (k := 0) F_law_tape m_list)
    have Pk : PickAt l.prog w K mg base f_law_pick d_law_pick := ⟨F_law_pick, b_law_pick, g_law_pick, ok_pick F_law_pick m_int m_len⟩
    have A_pi := At.mk Pk.F.kp b_law_pick g_law_pick Pk.ok
    have Ed : EdAt l.prog w K mg base f_law_edges d_law_edges := ⟨F_law_edges, b_law_edges, g_law_edges, ok_ed F_law_edges Pk m_range m_tuple⟩
    have Li : LiAt l.prog w K mg base f_law_line d_law_line := ⟨F_law_line, b_law_line, g_law_line, ok_li F_law_line Pk Ed⟩
    have A_li := At.mk Li.F.kp b_law_line g_law_line Li.ok
    have A_ne := At.mk F_law_near.kp b_law_near g_law_near (ok_ne (k := 0) F_law_near Pk Li m_tuple m_sorted m_set)
    have OL : OnLAt l.prog w K mg base f_law_on d_law_on := ⟨F_law_on, b_law_on, g_law_on, ok_onL F_law_on m_len⟩
    have TI : TiAt l.prog w K mg base f_law_ticks d_law_ticks := ⟨F_law_ticks, b_law_ticks, g_law_ticks, ok_ti F_law_ticks m_sorted m_set⟩
    have A_du := At.mk F_law_due.kp b_law_due g_law_due (ok_du (k := 0) F_law_due OL TI m_len m_min)
    have A_dv := At.mk F_law_due_two.kp b_law_due_two g_law_due_two (ok_dv (k := 0) F_law_due_two OL TI m_len m_min)
    have A1 := At.mk F_law_first.kp b_law_first g_law_first (ok_first (k := 0) F_law_first A_ta A_li A_ne A_pi A_du A_ap A_un A_on m_range m_tuple m_list m_isinstance m_bool)
    have A2 := At.mk F_law_second.kp b_law_second g_law_second (ok_second (k := 0) F_law_second A_ta A_li A_ne A_pi A_dv A_be A_bo A_ei A_nv m_range m_isinstance m_bool)
    exact ok_law (k := 0) F_law A1 A2
end K06

open PySem PySem.W PyProof.Rows
set_option maxRecDepth 100000 in
set_option maxHeartbeats 0 in
theorem PySem.Challenge.cw_lateedges_k06_whole_first_ticks_apart_holds : PySem.Challenge.rw_lateedges_k06_whole_first_ticks_apart.Holds := by
  w_on; o_law; k_head; (case hw => w_witness2)
  k_fill
  refine LamX.walk_ofTs (l := PySem.Challenge.rw_lateedges_k06_whole_first_ticks_apart) (n := 63) (k := 7) (x := "_law_script") (CX := fun _ => L2.CX0) rfl (by decide) rfl ⟨rfl, by decide, by decide⟩ (fun w h Y => PySem.W.km_in_of Y) ?F (fun _ _ _ _ _ h => h)
  case F =>
    intro w mg fa h Y KX G hmg
    refine' K06.all_mk KX G hmg (PySem.W.km_tabs_of Y) (K06.defAt_mk ?a_is_integer ?l_is_integer ?c_is_integer ?k_is_integer) (K06.defAt_mk ?a_is_flag ?l_is_flag ?c_is_flag ?k_is_flag) (K06.defAt_mk ?a_is_pair ?l_is_pair ?c_is_pair ?k_is_pair) (K06.defAt_mk ?a_is_rising ?l_is_rising ?c_is_rising ?k_is_rising) (K06.defAt_mk ?a_check_tick ?l_check_tick ?c_check_tick ?k_check_tick) (K06.defAt_mk ?a_is_told_line ?l_is_told_line ?c_is_told_line ?k_is_told_line) (K06.defAt_mk ?a_check_line ?l_check_line ?c_check_line ?k_check_line) (K06.defAt_mk ?a_edges_up_to ?l_edges_up_to ?c_edges_up_to ?k_edges_up_to) (K06.defAt_mk ?a_state_behind ?l_state_behind ?c_state_behind ?k_state_behind) (K06.defAt_mk ?a_state_at ?l_state_at ?c_state_at ?k_state_at) (K06.defAt_mk ?a_on_at ?l_on_at ?c_on_at ?k_on_at) (K06.defAt_mk ?a_joined ?l_joined ?c_joined ?k_joined) (K06.defAt_mk ?a_check_two ?l_check_two ?c_check_two ?k_check_two) (K06.defAt_mk ?a_both ?l_both ?c_both ?k_both) (K06.defAt_mk ?a_unlike ?l_unlike ?c_unlike ?k_unlike) (K06.defAt_mk ?a_first_tick ?l_first_tick ?c_first_tick ?k_first_tick) (K06.defAt_mk ?a_apart_at ?l_apart_at ?c_apart_at ?k_apart_at) (K06.defAt_mk ?a_beyond_at ?l_beyond_at ?c_beyond_at ?k_beyond_at) (K06.defAt_mk ?a_never_beyond ?l_never_beyond ?c_never_beyond ?k_never_beyond) (K06.defAt_mk ?a_law_tape ?l_law_tape ?c_law_tape ?k_law_tape) (K06.defAt_mk ?a_law_pick ?l_law_pick ?c_law_pick ?k_law_pick) (K06.defAt_mk ?a_law_edges ?l_law_edges ?c_law_edges ?k_law_edges) (K06.defAt_mk ?a_law_line ?l_law_line ?c_law_line ?k_law_line) (K06.defAt_mk ?a_law_on ?l_law_on ?c_law_on ?k_law_on) (K06.defAt_mk ?a_law_near ?l_law_near ?c_law_near ?k_law_near) (K06.defAt_mk ?a_law_ticks ?l_law_ticks ?c_law_ticks ?k_law_ticks) (K06.defAt_mk ?a_law_due ?l_law_due ?c_law_due ?k_law_due) (K06.defAt_mk ?a_law_first ?l_law_first ?c_law_first ?k_law_first) (K06.defAt_mk ?a_law_due_two ?l_law_due_two ?c_law_due_two ?k_law_due_two) (K06.defAt_mk ?a_law_second ?l_law_second ?c_law_second ?k_law_second) (K06.defAt_mk ?a_law ?l_law ?c_law ?k_law) (K06.makAt_mk ?a_where_both ?l_where_both ?c_where_both ?k_where_both ?t_where_both ?p_where_both) (K06.makAt_mk ?a_where_unlike ?l_where_unlike ?c_where_unlike ?k_where_unlike ?t_where_unlike ?p_where_unlike) (K06.makAt_mk ?a_where_beyond ?l_where_beyond ?c_where_beyond ?k_where_beyond ?t_where_beyond ?p_where_beyond) (K06.makAt_mk ?a_either ?l_either ?c_either ?k_either ?t_either ?p_either) ?z_isinstance ?z_int ?z_bool ?z_tuple ?z_len ?z_all ?z_range ?z_sorted ?z_min ?z_list ?z_set ?n1 ?n2 ?n3 ?n4 ?e12 ?e13 ?e14 ?e23 ?e24 ?e34 ?h1 ?h2 ?h3 ?h4 ?u1 ?u2 ?u3 ?u4
    (case a_is_integer => k_is)
    (case l_is_integer => k_is)
    (case c_is_integer => k_is)
    (case k_is_integer => k_is)
    (case a_is_flag => k_is)
    (case l_is_flag => k_is)
    (case c_is_flag => k_is)
    (case k_is_flag => k_is)
    (case a_is_pair => k_is)
    (case l_is_pair => k_is)
    (case c_is_pair => k_is)
    (case k_is_pair => k_is)
    (case a_is_rising => k_is)
    (case l_is_rising => k_is)
    (case c_is_rising => k_is)
    (case k_is_rising => k_is)
    (case a_check_tick => k_is)
    (case l_check_tick => k_is)
    (case c_check_tick => k_is)
    (case k_check_tick => k_is)
    (case a_is_told_line => k_is)
    (case l_is_told_line => k_is)
    (case c_is_told_line => k_is)
    (case k_is_told_line => k_is)
    (case a_check_line => k_is)
    (case l_check_line => k_is)
    (case c_check_line => k_is)
    (case k_check_line => k_is)
    (case a_edges_up_to => k_is)
    (case l_edges_up_to => k_is)
    (case c_edges_up_to => k_is)
    (case k_edges_up_to => k_is)
    (case a_state_behind => k_is)
    (case l_state_behind => k_is)
    (case c_state_behind => k_is)
    (case k_state_behind => k_is)
    (case a_state_at => k_is)
    (case l_state_at => k_is)
    (case c_state_at => k_is)
    (case k_state_at => k_is)
    (case a_on_at => k_is)
    (case l_on_at => k_is)
    (case c_on_at => k_is)
    (case k_on_at => k_is)
    (case a_joined => k_is)
    (case l_joined => k_is)
    (case c_joined => k_is)
    (case k_joined => k_is)
    (case a_check_two => k_is)
    (case l_check_two => k_is)
    (case c_check_two => k_is)
    (case k_check_two => k_is)
    (case a_both => k_is)
    (case l_both => k_is)
    (case c_both => k_is)
    (case k_both => k_is)
    (case a_unlike => k_is)
    (case l_unlike => k_is)
    (case c_unlike => k_is)
    (case k_unlike => k_is)
    (case a_first_tick => k_is)
    (case l_first_tick => k_is)
    (case c_first_tick => k_is)
    (case k_first_tick => k_is)
    (case a_apart_at => k_is)
    (case l_apart_at => k_is)
    (case c_apart_at => k_is)
    (case k_apart_at => k_is)
    (case a_beyond_at => k_is)
    (case l_beyond_at => k_is)
    (case c_beyond_at => k_is)
    (case k_beyond_at => k_is)
    (case a_never_beyond => k_is)
    (case l_never_beyond => k_is)
    (case c_never_beyond => k_is)
    (case k_never_beyond => k_is)
    (case a_law_tape => k_is)
    (case l_law_tape => k_is)
    (case c_law_tape => k_is)
    (case k_law_tape => k_is)
    (case a_law_pick => k_is)
    (case l_law_pick => k_is)
    (case c_law_pick => k_is)
    (case k_law_pick => k_is)
    (case a_law_edges => k_is)
    (case l_law_edges => k_is)
    (case c_law_edges => k_is)
    (case k_law_edges => k_is)
    (case a_law_line => k_is)
    (case l_law_line => k_is)
    (case c_law_line => k_is)
    (case k_law_line => k_is)
    (case a_law_on => k_is)
    (case l_law_on => k_is)
    (case c_law_on => k_is)
    (case k_law_on => k_is)
    (case a_law_near => k_is)
    (case l_law_near => k_is)
    (case c_law_near => k_is)
    (case k_law_near => k_is)
    (case a_law_ticks => k_is)
    (case l_law_ticks => k_is)
    (case c_law_ticks => k_is)
    (case k_law_ticks => k_is)
    (case a_law_due => k_is)
    (case l_law_due => k_is)
    (case c_law_due => k_is)
    (case k_law_due => k_is)
    (case a_law_first => k_is)
    (case l_law_first => k_is)
    (case c_law_first => k_is)
    (case k_law_first => k_is)
    (case a_law_due_two => k_is)
    (case l_law_due_two => k_is)
    (case c_law_due_two => k_is)
    (case k_law_due_two => k_is)
    (case a_law_second => k_is)
    (case l_law_second => k_is)
    (case c_law_second => k_is)
    (case k_law_second => k_is)
    (case a_law => k_is)
    (case l_law => k_is)
    (case c_law => k_is)
    (case k_law => k_is)
    (case a_where_both => k_is)
    (case l_where_both => k_is)
    (case c_where_both => k_is)
    (case k_where_both => k_is)
    (case t_where_both => k_is)
    (case a_where_unlike => k_is)
    (case l_where_unlike => k_is)
    (case c_where_unlike => k_is)
    (case k_where_unlike => k_is)
    (case t_where_unlike => k_is)
    (case a_where_beyond => k_is)
    (case l_where_beyond => k_is)
    (case c_where_beyond => k_is)
    (case k_where_beyond => k_is)
    (case t_where_beyond => k_is)
    (case a_either => k_is)
    (case l_either => k_is)
    (case c_either => k_is)
    (case k_either => k_is)
    (case t_either => k_is)
    (case z_isinstance => k_is)
    (case z_int => k_is)
    (case z_bool => k_is)
    (case z_tuple => k_is)
    (case z_len => k_is)
    (case z_all => k_is)
    (case z_range => k_is)
    (case z_sorted => k_is)
    (case z_min => k_is)
    (case z_list => k_is)
    (case z_set => k_is)
    (case p_where_both => rfl)
    (case p_where_unlike => rfl)
    (case p_where_beyond => rfl)
    (case p_either => rfl)
    (case n1 => kernel_rfl)
    (case n2 => kernel_rfl)
    (case n3 => kernel_rfl)
    (case n4 => kernel_rfl)
    (case e12 => decide)
    (case e13 => decide)
    (case e14 => decide)
    (case e23 => decide)
    (case e24 => decide)
    (case e34 => decide)
    (case h1 => kernel_rfl)
    (case h2 => kernel_rfl)
    (case h3 => kernel_rfl)
    (case h4 => kernel_rfl)
    (case u1 => decide)
    (case u2 => decide)
    (case u3 => decide)
    (case u4 => decide)

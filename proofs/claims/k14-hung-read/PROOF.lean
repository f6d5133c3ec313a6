import PyProof.Rows.All
import Wide.All
import OpenK.AllK
import Wide.FinOn
import HandS.ForMost
import HandS.Exc
import HandS.IsInst
import HandS.Walk
import HandS.StrMore
import HandS.Wide
import HandS.Codes
import PySem.Challenge.RW_boughdraw_k14_whole_hung_read
set_option Elab.async false
set_option linter.all false
set_option maxRecDepth 100000
set_option maxHeartbeats 4000000
/-! Trees as lists of nodes, their hung lists, in plain Lean. -/
namespace Hr

structure Nd where
  e : Int
  lab : List Nat
  tall : Int
  deriving DecidableEq, Inhabited

def isL (c : Nat) : Bool := decide (97 ≤ c) && decide (c ≤ 122)
def name (d : Nd) : List Nat := d.lab ++ List.replicate (d.tall - 1).toNat 58

structure LabOk (l : List Nat) : Prop where
  lo : 1 ≤ l.length
  hi : l.length ≤ 9
  az : ∀ c ∈ l, isL c = true
structure NdOk (d : Nd) : Prop where
  lab : LabOk d.lab
  lo : 1 ≤ d.tall
  hi : d.tall ≤ 9

/-- a tree, perhaps an empty one: W i the way ahead of node i, lv i the level of node i -/
structure PTree (t : List Nd) (W : Nat → List Int) (lv : Nat → Nat) : Prop where
  hi : t.length ≤ 40
  nd : ∀ (i : Nat) (d : Nd), t[i]? = some d → NdOk d
  w0 : W 0 = []
  root : ∀ (d : Nd), t[0]? = some d → d.e = -1
  lv0 : lv 0 = 0
  step : ∀ (i : Nat), i < t.length → W (i + 1) = (W i).take (lv i) ++ [(i : Int)]
  eld : ∀ (i : Nat) (d : Nd), 0 < i → t[i]? = some d → 1 ≤ lv i ∧ lv i ≤ 8 ∧ (W i)[lv i - 1]? = some d.e

variable {t u : List Nd} {W W' : Nat → List Int} {lv lv' : Nat → Nat}

theorem PTree.nil (W0 : Nat → List Int) (h : W0 0 = []) (l0 : Nat → Nat) (h0 : l0 0 = 0) : PTree [] W0 l0 :=
  ⟨Nat.zero_le _, fun i d h => by simp at h, h, fun d h => by simp at h, h0, fun i h => by simp at h, fun i d _ h => by simp at h⟩

theorem get_lt {α : Type} {l : List α} {i : Nat} {x : α} (h : l[i]? = some x) : i < l.length := (List.getElem?_eq_some_iff.mp h).1
theorem get_some {α : Type} {l : List α} {i : Nat} (h : i < l.length) : ∃ x, l[i]? = some x := ⟨l[i], List.getElem?_eq_getElem h⟩

theorem PTree.lvle (T : PTree t W lv) {i : Nat} (hi : i < t.length) : lv i ≤ (W i).length := by
  by_cases h : i = 0
  · subst h; rw [T.lv0]; exact Nat.zero_le _
  · obtain ⟨d, hd⟩ := get_some hi
    obtain ⟨a, b, c⟩ := T.eld i d (by omega) hd
    have := get_lt c
    omega
theorem PTree.wlen (T : PTree t W lv) {i : Nat} (hi : i < t.length) : (W (i + 1)).length = lv i + 1 := by
  rw [T.step i hi, List.length_append, List.length_take]
  have := T.lvle hi
  simp only [List.length_cons, List.length_nil]
  omega
theorem PTree.lv8 (T : PTree t W lv) {i : Nat} (hi : i < t.length) : lv i ≤ 8 := by
  by_cases h : i = 0
  · subst h; rw [T.lv0]; exact Nat.zero_le _
  · obtain ⟨d, hd⟩ := get_some hi
    exact (T.eld i d (by omega) hd).2.1
theorem PTree.wmem (T : PTree t W lv) : ∀ (i : Nat), i ≤ t.length → ∀ (p : Nat) (n : Int), (W i)[p]? = some n → 0 ≤ n ∧ n < i ∧ lv n.toNat = p
  | 0, _, p, n, h => by rw [T.w0] at h; simp at h
  | i + 1, hi, p, n, h => by
    have hi' : i < t.length := hi
    have ih := PTree.wmem T i (Nat.le_of_lt hi')
    rw [T.step i hi'] at h
    have hl := T.lvle hi'
    have hlen : ((W i).take (lv i)).length = lv i := by rw [List.length_take]; omega
    by_cases hp : p < lv i
    · rw [List.getElem?_append_left (by rw [hlen]; exact hp), List.getElem?_take_of_lt hp] at h
      obtain ⟨a, b, c⟩ := ih p n h
      exact ⟨a, by omega, c⟩
    · rw [List.getElem?_append_right (by rw [hlen]; omega), hlen] at h
      have hlt := get_lt h
      simp only [List.length_cons, List.length_nil] at hlt
      have hp0 : p - lv i = 0 := by omega
      rw [hp0] at h
      have e : (i : Int) = n := by simpa using h
      subst e
      refine ⟨by omega, by omega, ?_⟩
      show lv i = p
      omega
theorem PTree.wlast (T : PTree t W lv) {i : Nat} (hi : i < t.length) : (W (i + 1))[lv i]? = some (i : Int) := by
  have hl := T.lvle hi
  have hlen : ((W i).take (lv i)).length = lv i := by rw [List.length_take]; omega
  rw [T.step i hi, List.getElem?_append_right (by omega), hlen, Nat.sub_self]
  rfl
/-- the elder of a node but the root -/
theorem PTree.elder (T : PTree t W lv) {i : Nat} {d : Nd} (h0 : 0 < i) (hd : t[i]? = some d) : 0 ≤ d.e ∧ d.e < i ∧ lv d.e.toNat + 1 = lv i := by
  obtain ⟨a, b, c⟩ := T.eld i d h0 hd
  obtain ⟨p, q, r⟩ := T.wmem i (Nat.le_of_lt (get_lt hd)) _ _ c
  exact ⟨p, q, by omega⟩
/-- none ahead of the elder's place on the way is the elder -/
theorem PTree.first (T : PTree t W lv) {i : Nat} (hi : i ≤ t.length) {p q : Nat} {n : Int} (h : (W i)[p]? = some n) (h' : (W i)[q]? = some n) : p = q := by
  have a := (T.wmem i hi p n h).2.2
  have b := (T.wmem i hi q n h').2.2
  omega

theorem PTree.push (T : PTree t W lv) {d : Nd} {l : Nat} (h40 : t.length < 40) (hd : NdOk d) (hr : t.length = 0 → d.e = -1 ∧ l = 0)
    (he : 0 < t.length → 1 ≤ l ∧ l ≤ 8 ∧ (W t.length)[l - 1]? = some d.e) :
    PTree (t ++ [d]) (fun j => if j ≤ t.length then W j else (W t.length).take l ++ [(t.length : Int)]) (fun j => if j < t.length then lv j else l) := by
  refine ⟨?_, fun i x h => ?_, ?_, fun x h => ?_, ?_, fun i h => ?_, fun i x h0 h => ?_⟩
  · rw [List.length_append]; simp only [List.length_cons, List.length_nil]; omega
  · by_cases hi : i < t.length
    · rw [List.getElem?_append_left hi] at h
      exact T.nd i x h
    · rw [List.getElem?_append_right (by omega)] at h
      have := get_lt h
      simp only [List.length_cons, List.length_nil] at this
      have e0 : i - t.length = 0 := by omega
      rw [e0] at h
      have e : d = x := by simpa using h
      subst e
      exact hd
  · show (if 0 ≤ t.length then W 0 else _) = []
    rw [if_pos (Nat.zero_le _)]
    exact T.w0
  · by_cases hi : 0 < t.length
    · rw [List.getElem?_append_left hi] at h
      exact T.root x h
    · have e : t = [] := List.length_eq_zero_iff.mp (by omega)
      subst e
      have e : d = x := by simpa using h
      subst e
      exact (hr rfl).1
  · show (if 0 < t.length then lv 0 else l) = 0
    by_cases hi : 0 < t.length
    · rw [if_pos hi]; exact T.lv0
    · rw [if_neg hi]; exact (hr (by omega)).2
  · rw [List.length_append] at h
    simp only [List.length_cons, List.length_nil] at h
    by_cases hi : i < t.length
    · show (if i + 1 ≤ t.length then W (i + 1) else _) = (if i ≤ t.length then W i else _).take (if i < t.length then lv i else l) ++ [(i : Int)]
      rw [if_pos (show i + 1 ≤ t.length from hi), if_pos (Nat.le_of_lt hi), if_pos hi]
      exact T.step i hi
    · have e : i = t.length := by omega
      subst e
      show (if t.length + 1 ≤ t.length then W (t.length + 1) else _) = (if t.length ≤ t.length then W t.length else _).take (if t.length < t.length then lv t.length else l) ++ [(t.length : Int)]
      rw [if_neg (by omega), if_pos (Nat.le_refl _), if_neg (by omega)]
  · by_cases hi : i < t.length
    · rw [List.getElem?_append_left hi] at h
      show 1 ≤ (if i < t.length then lv i else l) ∧ (if i < t.length then lv i else l) ≤ 8 ∧ (if i ≤ t.length then W i else _)[(if i < t.length then lv i else l) - 1]? = some x.e
      rw [if_pos hi, if_pos (Nat.le_of_lt hi)]
      exact T.eld i x h0 h
    · rw [List.getElem?_append_right (by omega)] at h
      have := get_lt h
      simp only [List.length_cons, List.length_nil] at this
      have e1 : i = t.length := by omega
      subst e1
      rw [Nat.sub_self] at h
      have e : d = x := by simpa using h
      subst e
      show 1 ≤ (if t.length < t.length then lv t.length else l) ∧ (if t.length < t.length then lv t.length else l) ≤ 8 ∧ (if t.length ≤ t.length then W t.length else _)[(if t.length < t.length then lv t.length else l) - 1]? = some d.e
      rw [if_neg (Nat.lt_irrefl _), if_pos (Nat.le_refl _)]
      exact he h0

theorem PTree.relabel (T : PTree t W lv) {a : Nat} {d : Nd} {l : List Nat} (hd : t[a]? = some d) (hl : LabOk l) : PTree (t.set a { d with lab := l }) W lv := by
  have key : ∀ (i : Nat) (x : Nd), (t.set a { d with lab := l })[i]? = some x → ∃ y : Nd, t[i]? = some y ∧ x.e = y.e ∧ NdOk x := fun i x h => by
    by_cases e : a = i
    · subst e
      rw [List.getElem?_set_self (get_lt hd)] at h
      have e : ({ d with lab := l } : Nd) = x := Option.some.inj h
      subst e
      have := T.nd a d hd
      exact ⟨d, hd, rfl, hl, this.lo, this.hi⟩
    · rw [List.getElem?_set_ne e] at h
      exact ⟨x, h, rfl, T.nd i x h⟩
  refine ⟨by rw [List.length_set]; exact T.hi, fun i x h => ?_, T.w0, fun x h => ?_, T.lv0, fun i h => T.step i (by rw [List.length_set] at h; exact h), fun i x h0 h => ?_⟩
  · obtain ⟨y, _, _, h3⟩ := key i x h
    exact h3
  · obtain ⟨y, h1, h2, _⟩ := key 0 x h
    rw [h2]
    exact T.root y h1
  · obtain ⟨y, h1, h2, _⟩ := key i x h
    rw [h2]
    exact T.eld i y h0 h1
theorem get_dropLast {α : Type} {l : List α} {i : Nat} {x : α} (h : l.dropLast[i]? = some x) : l[i]? = some x := by
  have h1 := get_lt h
  rw [List.length_dropLast] at h1
  rw [List.getElem?_dropLast] at h
  rw [if_pos (by omega)] at h
  exact h
theorem PTree.less (T : PTree t W lv) : PTree t.dropLast W lv :=
  ⟨by rw [List.length_dropLast]; have := T.hi; omega, fun i x h => T.nd i x (get_dropLast h), T.w0, fun x h => T.root x (get_dropLast h), T.lv0,
    fun i h => T.step i (by rw [List.length_dropLast] at h; omega), fun i x h0 h => T.eld i x h0 (get_dropLast h)⟩

/-! ### the hung list -/
def ndAt (t : List Nd) (i : Nat) : Nd := t.getD i default
theorem ndAt_of {i : Nat} {d : Nd} (h : t[i]? = some d) : ndAt t i = d := by unfold ndAt; rw [List.getD_eq_getElem?_getD, h]; rfl
def kids (t : List Nd) (n : Int) : List Int := ((List.range' (n.toNat + 1) (t.length - (n.toNat + 1))).filter fun c => decide ((ndAt t c).e = n)).map fun (c : Nat) => (c : Int)
def lastB (t : List Nd) (i : Nat) : Bool := decide ((kids t (ndAt t i).e).getLast? = some (i : Int))
def bf (hs : List (List Nat)) (d : Nd) : List Nat := hs.getD d.e.toNat []
def hang (b : Bool) : List Nat := if b then [32, 32] else [124, 32]
def mark (b : Bool) : List Nat := if b then [39, 45] else [43, 45]
def hg (t : List Nd) : Nat → List (List Nat)
  | 0 => [[]]
  | m + 1 => hg t m ++ [bf (hg t m) (ndAt t (m + 1)) ++ hang (lastB t (m + 1))]
def rws (t : List Nd) : Nat → List (List Nat)
  | 0 => [name (ndAt t 0)]
  | m + 1 => rws t m ++ [bf (hg t m) (ndAt t (m + 1)) ++ mark (lastB t (m + 1)) ++ name (ndAt t (m + 1))]
def hung (t : List Nd) : List (List Nat) := rws t (t.length - 1)
theorem hg_len (t : List Nd) : ∀ m, (hg t m).length = m + 1
  | 0 => rfl
  | m + 1 => by unfold hg; rw [List.length_append, hg_len t m]; rfl
theorem rws_len (t : List Nd) : ∀ m, (rws t m).length = m + 1
  | 0 => rfl
  | m + 1 => by unfold rws; rw [List.length_append, rws_len t m]; rfl
theorem hung_len (h : 1 ≤ t.length) : (hung t).length = t.length := by unfold hung; rw [rws_len]; omega

theorem mem_kids {i : Nat} {d : Nd} (hd : t[i]? = some d) (h0 : 0 ≤ d.e) (h1 : d.e < i) : (i : Int) ∈ kids t d.e := by
  unfold kids
  refine List.mem_map.mpr ⟨i, List.mem_filter.mpr ⟨?_, ?_⟩, rfl⟩
  · rw [List.mem_range'_1]
    have := get_lt hd
    omega
  · rw [ndAt_of hd]; exact decide_eq_true rfl

/-- signs that are no letters -/
def noL (l : List Nat) : Prop := ∀ c ∈ l, isL c = false ∧ c < 128
theorem noL_app {a b : List Nat} (ha : noL a) (hb : noL b) : noL (a ++ b) := fun c h => by
  rcases List.mem_append.mp h with h | h
  · exact ha c h
  · exact hb c h
theorem noL_hang (b : Bool) : noL (hang b) := by unfold noL; cases b <;> decide
theorem noL_mark (b : Bool) : noL (mark b) := by unfold noL; cases b <;> decide
theorem len_hang (b : Bool) : (hang b).length = 2 := by cases b <;> rfl
theorem len_mark (b : Bool) : (mark b).length = 2 := by cases b <;> rfl

theorem PTree.hgOk (T : PTree t W lv) : ∀ m, m < t.length → ∀ j h, (hg t m)[j]? = some h → h.length = 2 * lv j ∧ noL h
  | 0, _, j, h, e => by
    have hj := get_lt e
    have hj0 : j = 0 := by simp only [hg, List.length_cons, List.length_nil] at hj; omega
    subst hj0
    have e' : ([] : List Nat) = h := by simpa [hg] using e
    subst e'
    rw [T.lv0]
    exact ⟨rfl, fun c h => by simp at h⟩
  | m + 1, hm, j, h, e => by
    have ih := PTree.hgOk T m (by omega)
    unfold hg at e
    have hl := hg_len t m
    by_cases hj : j < m + 1
    · rw [List.getElem?_append_left (by omega)] at e
      exact ih j h e
    · rw [List.getElem?_append_right (by omega), hl] at e
      have hj2 := get_lt e
      simp only [List.length_cons, List.length_nil] at hj2
      have ej : j = m + 1 := by omega
      subst ej
      rw [Nat.sub_self] at e
      have e' : bf (hg t m) (ndAt t (m + 1)) ++ hang (lastB t (m + 1)) = h := by simpa using e
      subst e'
      obtain ⟨d, hd⟩ := get_some hm
      rw [ndAt_of hd]
      obtain ⟨p, q, r⟩ := T.elder (show 0 < m + 1 by omega) hd
      have hlt : d.e.toNat < (hg t m).length := by rw [hl]; omega
      obtain ⟨b, hb⟩ := get_some hlt
      have hbf : bf (hg t m) d = b := by unfold bf; rw [List.getD_eq_getElem?_getD, hb]; rfl
      obtain ⟨x, y⟩ := ih _ _ hb
      rw [hbf]
      refine ⟨?_, noL_app y (noL_hang _)⟩
      rw [List.length_append, len_hang, x]
      omega

/-- a row: what stands ahead of the label has two signs a level, none a letter -/
def RowOk (l : Nat) (d : Nd) (row : List Nat) : Prop := ∃ pre, row = pre ++ name d ∧ pre.length = 2 * l ∧ noL pre

theorem PTree.rwsOk (T : PTree t W lv) : ∀ m, m < t.length → ∀ j d, j ≤ m → t[j]? = some d → ∃ row, (rws t m)[j]? = some row ∧ RowOk (lv j) d row
  | 0, _, j, d, hj, hd => by
    have hj0 : j = 0 := by omega
    subst hj0
    refine ⟨name (ndAt t 0), rfl, [], ?_, by rw [T.lv0]; rfl, fun c h => by simp at h⟩
    rw [ndAt_of hd]; rfl
  | m + 1, hm, j, d, hj, hd => by
    have ih := PTree.rwsOk T m (by omega)
    have hl := rws_len t m
    unfold rws
    by_cases h : j ≤ m
    · obtain ⟨row, h1, h2⟩ := ih j d h hd
      exact ⟨row, by rw [List.getElem?_append_left (by omega)]; exact h1, h2⟩
    · have ej : j = m + 1 := by omega
      subst ej
      rw [List.getElem?_append_right (by omega), hl, Nat.sub_self]
      refine ⟨_, rfl, ?_⟩
      rw [ndAt_of hd]
      obtain ⟨p, q, r⟩ := T.elder (show 0 < m + 1 by omega) hd
      have hlt : d.e.toNat < (hg t m).length := by rw [hg_len]; omega
      obtain ⟨b, hb⟩ := get_some hlt
      have hbf : bf (hg t m) d = b := by unfold bf; rw [List.getD_eq_getElem?_getD, hb]; rfl
      obtain ⟨x, y⟩ := T.hgOk m (by omega) _ _ hb
      rw [hbf]
      refine ⟨b ++ mark (lastB t (m + 1)), rfl, ?_, noL_app y (noL_mark _)⟩
      rw [List.length_append, len_mark, x]
      omega
theorem PTree.hungOk (T : PTree t W lv) {j : Nat} {d : Nd} (hd : t[j]? = some d) : ∃ row, (hung t)[j]? = some row ∧ RowOk (lv j) d row := by
  have := get_lt hd
  exact T.rwsOk (t.length - 1) (by omega) j d (by omega) hd

theorem isL_lt {c : Nat} (h : isL c = true) : c < 128 := by
  unfold isL at h
  rw [Bool.and_eq_true, decide_eq_true_eq, decide_eq_true_eq] at h
  omega
theorem name_len {d : Nd} (h : NdOk d) : (name d).length ≤ 17 := by
  unfold name
  rw [List.length_append, List.length_replicate]
  have := h.lab.hi
  have := h.hi
  omega
theorem name_lt {d : Nd} (h : NdOk d) : ∀ c ∈ name d, c < 128 := fun c hc => by
  unfold name at hc
  rcases List.mem_append.mp hc with hc | hc
  · exact isL_lt (h.lab.az c hc)
  · rw [(List.mem_replicate.mp hc).2]; decide
theorem RowOk.lt {l : Nat} {d : Nd} {row : List Nat} (r : RowOk l d row) (h : NdOk d) : ∀ c ∈ row, c < 128 := fun c hc => by
  obtain ⟨p, rfl, _, e3⟩ := r
  rcases List.mem_append.mp hc with hc | hc
  · exact (e3 c hc).2
  · exact name_lt h c hc
theorem RowOk.len {l : Nat} {d : Nd} {row : List Nat} (r : RowOk l d row) (h : NdOk d) (hl : l ≤ 8) : row.length ≤ 33 := by
  obtain ⟨p, rfl, e, _⟩ := r
  rw [List.length_append]
  have := name_len h
  omega
theorem PTree.hungAt (T : PTree t W lv) (h1 : 1 ≤ t.length) {j : Nat} {row : List Nat} (h : (hung t)[j]? = some row) : ∃ d, t[j]? = some d ∧ RowOk (lv j) d row := by
  have := get_lt h
  rw [hung_len h1] at this
  obtain ⟨d, hd⟩ := get_some this
  obtain ⟨row', a, b⟩ := T.hungOk hd
  rw [h] at a
  cases a
  exact ⟨d, hd, b⟩

/-! ### reading a row -/
theorem span_of {pre rest : List Nat} {c : Nat} (h : noL pre) (hc : isL c = true) : (pre ++ c :: rest).takeWhile (fun x => !isL x) = pre := by
  induction pre with
  | nil => simp [hc]
  | cons a r ih =>
    have ha : isL a = false := (h a List.mem_cons_self).1
    rw [List.cons_append, List.takeWhile_cons, ha]
    simp only [Bool.not_false, if_true]
    rw [ih fun x hx => h x (List.mem_cons_of_mem _ hx)]
theorem pre_inj {p p' r r' : List Nat} {c c' : Nat} (h : noL p) (h' : noL p') (hc : isL c = true) (hc' : isL c' = true) (e : p ++ c :: r = p' ++ c' :: r') : p = p' ∧ c :: r = c' :: r' := by
  have a := span_of (rest := r) h hc
  rw [e, span_of h' hc'] at a
  subst a
  exact ⟨rfl, List.append_cancel_left e⟩
theorem lab_span {l : List Nat} {n : Nat} (h : ∀ c ∈ l, isL c = true) : (l ++ List.replicate n 58).takeWhile isL = l := by
  induction l with
  | nil =>
    cases n with
    | zero => rfl
    | succ n => rfl
  | cons a r ih =>
    rw [List.cons_append, List.takeWhile_cons, h a List.mem_cons_self]
    simp only [if_true]
    rw [ih fun x hx => h x (List.mem_cons_of_mem _ hx)]
theorem name_inj {d d' : Nd} (h : NdOk d) (h' : NdOk d') (e : name d = name d') : d.lab = d'.lab ∧ d.tall = d'.tall := by
  unfold name at e
  have a := lab_span (n := (d.tall - 1).toNat) h.lab.az
  rw [e, lab_span h'.lab.az] at a
  rw [a] at e
  have b := List.append_cancel_left e
  have c := congrArg List.length b
  rw [List.length_replicate, List.length_replicate] at c
  have := h.lo
  have := h'.lo
  exact ⟨a.symm, by omega⟩
theorem NdOk.cons {d : Nd} (h : NdOk d) : ∃ c r, d.lab = c :: r ∧ isL c = true ∧ name d = c :: (r ++ List.replicate (d.tall - 1).toNat 58) := by
  have lo := h.lab.lo
  have az := h.lab.az
  unfold name
  cases e : d.lab with
  | nil => rw [e] at lo; simp at lo
  | cons c r => exact ⟨c, r, rfl, az c (by rw [e]; exact List.mem_cons_self), rfl⟩
theorem row_inj {l l' : Nat} {d d' : Nd} {row : List Nat} (h : NdOk d) (h' : NdOk d') (r : RowOk l d row) (r' : RowOk l' d' row) : l = l' ∧ d.lab = d'.lab ∧ d.tall = d'.tall := by
  obtain ⟨p, e1, e2, e3⟩ := r
  obtain ⟨p', f1, f2, f3⟩ := r'
  obtain ⟨c, k, _, hc, hn⟩ := h.cons
  obtain ⟨c', k', _, hc', hn'⟩ := h'.cons
  have e := e1.symm.trans f1
  rw [hn, hn'] at e
  obtain ⟨a, b⟩ := pre_inj e3 f3 hc hc' e
  rw [← hn, ← hn'] at b
  obtain ⟨x, y⟩ := name_inj h h' b
  subst a
  exact ⟨by omega, x, y⟩

theorem hung_inj (T : PTree t W lv) (U : PTree u W' lv') (h1 : 1 ≤ t.length) (h2 : 1 ≤ u.length) (e : hung t = hung u) : t = u := by
  have el : t.length = u.length := by rw [← hung_len h1, ← hung_len h2, e]
  have key : ∀ (i : Nat) d d', t[i]? = some d → u[i]? = some d' → lv i = lv' i ∧ d.lab = d'.lab ∧ d.tall = d'.tall := fun i d d' hd hd' => by
    obtain ⟨row, a, b⟩ := T.hungOk hd
    obtain ⟨row', a', b'⟩ := U.hungOk hd'
    rw [e, a'] at a
    cases a
    exact row_inj (T.nd _ _ hd) (U.nd _ _ hd') b b'
  have ways : ∀ i, i ≤ t.length → W i = W' i := fun i => by
    induction i with
    | zero => intro _; rw [T.w0, U.w0]
    | succ i ih =>
      intro hi
      obtain ⟨d, hd⟩ := get_some (show i < t.length from hi)
      obtain ⟨d', hd'⟩ := get_some (show i < u.length by omega)
      rw [T.step i hi, U.step i (by omega), ih (by omega), (key i d d' hd hd').1]
  refine List.ext_getElem? fun i => ?_
  by_cases hi : i < t.length
  · obtain ⟨d, hd⟩ := get_some hi
    obtain ⟨d', hd'⟩ := get_some (show i < u.length by omega)
    rw [hd, hd']
    obtain ⟨a, b, c⟩ := key i d d' hd hd'
    have ee : d.e = d'.e := by
      by_cases h0 : i = 0
      · subst h0
        rw [T.root d hd, U.root d' hd']
      · have x := (T.eld i d (by omega) hd).2.2
        have y := (U.eld i d' (by omega) hd').2.2
        rw [ways i (by omega), a, y] at x
        exact (Option.some.inj x).symm
    cases d
    cases d'
    simp only at ee b c
    subst ee b c
    rfl
  · rw [List.getElem?_eq_none (by omega), List.getElem?_eq_none (by omega)]

/-! ### what the machine's slices and strips come to -/
/-- colons go from the end -/
theorem strip_name {l : List Nat} (n : Nat) (h : ∀ c ∈ l, isL c = true) : ((l ++ List.replicate n 58).reverse.dropWhile fun c => decide (c = 58)).reverse = l := by
  have a : ∀ n (r : List Nat), (∀ c ∈ r, isL c = true) → (List.replicate n 58 ++ r).dropWhile (fun c => decide (c = 58)) = r := fun n => by
    induction n with
    | zero =>
      intro r hr
      cases r with
      | nil => rfl
      | cons x r =>
        have hx := hr x List.mem_cons_self
        have : ¬ x = 58 := fun z => by rw [z] at hx; exact absurd hx (by decide)
        simp [this]
    | succ n ih =>
      intro r hr
      rw [List.replicate_succ, List.cons_append, List.dropWhile_cons]
      simp only [decide_true, if_true]
      exact ih r hr
  rw [List.reverse_append, List.reverse_replicate, a n l.reverse fun c hc => h c (List.mem_reverse.mp hc), List.reverse_reverse]
end Hr
/-! Texts as lists of codes; rows of tuples in the heap; data that are compared. -/
namespace Hr
open PySem PySem.Spec PyProof.Rows L2

/-! ### texts -/
def T (l : List Nat) : Str := ⟨l.toArray⟩
theorem T_list (l : List Nat) : (T l).cps.toList = l := by simp [T]
theorem T_len (l : List Nat) : (T l).length = l.length := by simp [T, Str.length]
theorem T_of (x : Str) : x = T x.cps.toList := by cases x; simp [T]
theorem T_ext {x : Str} {l : List Nat} (h : x.cps.toList = l) : x = T l := by rw [← h]; exact T_of x
theorem T_inj {a b : List Nat} (h : T a = T b) : a = b := by rw [← T_list a, ← T_list b, h]
theorem T_app (a b : List Nat) : T a ++ T b = T (a ++ b) := by
  refine T_ext ?_
  show ((T a).cps ++ (T b).cps).toList = a ++ b
  rw [Array.toList_append, T_list, T_list]
theorem T_sub (l : List Nat) (j : Nat) : Builtin.Str.strSub (T l) 0 j = T (l.take j) := by
  refine T_ext ?_
  rw [PySem.StrLaws.strSub_toList, T_list]
  simp
theorem cutS_from (l : List Nat) (k : Nat) : cutS (T l) (some (k : Int)) none = T (l.drop k) := by
  refine T_ext ?_
  show (((T l).cps.toList.drop (HT.sIx (T l).length 0 (some (k : Int)))).take (HT.sIx (T l).length (T l).length none - HT.sIx (T l).length 0 (some (k : Int)))).toArray.toList = l.drop k
  rw [HT.sIx_nat, HT.sIx_none, T_list, T_len]
  show (l.drop (min k l.length)).take (l.length - min k l.length) = l.drop k
  rw [List.take_of_length_le (by rw [List.length_drop]; omega)]
  by_cases h : k ≤ l.length
  · rw [Nat.min_eq_left h]
  · rw [Nat.min_eq_right (by omega), List.drop_length, List.drop_eq_nil_of_le (by omega)]
theorem goes_run : ∀ (n : Nat) (r : List Nat), (∀ c ∈ r, isL c = true) → ((List.replicate n 58 ++ r).takeWhile ((T [58]).cps.contains ·)).length = n
  | 0, [], _ => rfl
  | 0, x :: r, h => by
    have hx := h x List.mem_cons_self
    have e : (T [58]).cps.contains x = false := by
      have : ¬ 58 = x := fun z => by rw [← z] at hx; exact absurd hx (by decide)
      have : ¬ x = 58 := fun z => this z.symm
      simp [T, this]
    show ((x :: r).takeWhile _).length = 0
    rw [List.takeWhile_cons, e]
    rfl
  | n + 1, r, h => by
    have e : (T [58]).cps.contains 58 = true := by simp [T]
    rw [List.replicate_succ, List.cons_append, List.takeWhile_cons, e]
    show ((List.replicate n 58 ++ r).takeWhile _).length + 1 = n + 1
    rw [goes_run n r h]
theorem rstrip_name {d : Nd} (h : NdOk d) : Txt.rstripChars (T (name d)) (T [58]) = T d.lab := by
  unfold Txt.rstripChars
  rw [PyProof.Rows.stripBy_eq]
  show Builtin.Str.strSub (T (name d)) 0 ((T (name d)).length - (((T (name d)).cps.toList.drop 0).reverse.takeWhile ((T [58]).cps.contains ·)).length) = T d.lab
  rw [T_list, List.drop_zero, T_len]
  unfold name
  rw [List.reverse_append, List.reverse_replicate, goes_run _ _ (fun c hc => h.lab.az c (List.mem_reverse.mp hc)), T_sub, List.length_append, List.length_replicate, Nat.add_sub_cancel, List.take_left]
theorem ends_of (a b : List Nat) : Txt.endswith (T (a ++ b)) (T b) = true := by
  unfold Txt.endswith
  rw [PySem.StrLaws.subAt_eq, T_list, T_list, T_len, T_len, List.length_append, Nat.add_sub_cancel, List.drop_left, List.take_length]
  simp
theorem join_T : ∀ ls : List (List Nat), Txt.join (T []) (ls.map T) = T ls.flatten := by
  have a : ∀ ls : List (List Nat), Str.join (T []) (ls.map T) = T ls.flatten := fun ls => by
    induction ls with
    | nil => rfl
    | cons x r ih =>
      cases r with
      | nil => simp [Str.join]
      | cons y r =>
        show T x ++ T [] ++ Str.join (T []) ((y :: r).map T) = _
        rw [ih, T_app, T_app, List.append_nil]
        rfl
  intro ls
  show Builtin.Str.glued (T []) (ls.map T) = _
  rw [PySem.StrLaws.glued_eq_join]
  exact a ls

/-! ### lists cut -/
theorem cutV_to (xs : List V) (j : Nat) : cutV xs none (some (j : Int)) = xs.take j := by
  unfold cutV
  rw [HT.sIx_nat, HT.sIx_none]
  show (xs.drop 0).take (min j xs.length - 0) = xs.take j
  rw [List.drop_zero, Nat.sub_zero]
  by_cases h : j ≤ xs.length
  · rw [Nat.min_eq_left h]
  · rw [Nat.min_eq_right (by omega), List.take_length, List.take_of_length_le (by omega)]
theorem cutV_from (xs : List V) (k : Nat) : cutV xs (some (k : Int)) none = xs.drop k := by
  unfold cutV
  rw [HT.sIx_nat, HT.sIx_none]
  rw [List.take_of_length_le (by rw [List.length_drop]; omega)]
  by_cases h : k ≤ xs.length
  · rw [Nat.min_eq_left h]
  · rw [Nat.min_eq_right (by omega), List.drop_length, List.drop_eq_nil_of_le (by omega)]
theorem cutV_less (xs : List V) : cutV xs none (some (-1)) = xs.dropLast := by
  unfold cutV
  show (xs.drop 0).take ((if (-1 : Int) < 0 then ((-1 : Int) + (xs.length : Int)).toNat else min (-1 : Int).toNat xs.length) - 0) = _
  rw [if_pos (by decide), List.drop_zero, Nat.sub_zero, List.dropLast_eq_take]
  congr 1
  omega

/-! ### rows of tuples -/
def nv (d : Nd) : List V := [.int d.e, .str (T d.lab), .int d.tall]
inductive Tups (H : Hp) : List V → List Nd → Prop
  | nil : Tups H [] []
  | cons {p : Addr} {d : Nd} {vs : List V} {ds : List Nd} : H p = some (.tup (nv d)) → Tups H vs ds → Tups H (.ref p :: vs) (d :: ds)
section
variable {H H' : Hp} {vs ws : List V} {t u : List Nd}
theorem Tups.same (s : Same H H') : ∀ {vs : List V} {t : List Nd}, Tups H vs t → Tups H' vs t
  | _, _, .nil => .nil
  | _, _, .cons h r => .cons (s _ _ h) (Tups.same s r)
theorem Tups.len : ∀ {vs : List V} {t : List Nd}, Tups H vs t → vs.length = t.length
  | _, _, .nil => rfl
  | _, _, .cons _ r => congrArg (· + 1) (Tups.len r)
theorem Tups.get : ∀ {vs : List V} {t : List Nd} {i : Nat} {d : Nd}, Tups H vs t → t[i]? = some d → ∃ p, vs[i]? = some (.ref p) ∧ H p = some (.tup (nv d))
  | _, _, i, d, .nil, e => by simp at e
  | _, _, 0, d, .cons h r, e => by
    have e' := Option.some.inj e
    subst e'
    exact ⟨_, rfl, h⟩
  | _, _, i + 1, d, .cons h r, e => Tups.get (i := i) r e
theorem Tups.getV {i : Nat} {v : V} (h : Tups H vs t) (e : vs[i]? = some v) : ∃ d p, t[i]? = some d ∧ v = .ref p ∧ H p = some (.tup (nv d)) := by
  have hl := get_lt e
  rw [h.len] at hl
  obtain ⟨d, hd⟩ := get_some hl
  obtain ⟨p, a, b⟩ := h.get hd
  rw [e] at a
  exact ⟨d, p, hd, Option.some.inj a, b⟩
theorem Tups.app : ∀ {vs : List V} {t : List Nd}, Tups H vs t → Tups H ws u → Tups H (vs ++ ws) (t ++ u)
  | _, _, .nil, s => s
  | _, _, .cons h r, s => .cons h (Tups.app r s)
theorem Tups.take : ∀ {vs : List V} {t : List Nd} (n : Nat), Tups H vs t → Tups H (vs.take n) (t.take n)
  | _, _, 0, _ => .nil
  | _, _, n + 1, .nil => .nil
  | _, _, n + 1, .cons h r => .cons h (Tups.take n r)
theorem Tups.drop : ∀ {vs : List V} {t : List Nd} (n : Nat), Tups H vs t → Tups H (vs.drop n) (t.drop n)
  | _, _, 0, r => r
  | _, _, n + 1, .nil => .nil
  | _, _, n + 1, .cons h r => Tups.drop n r
theorem Tups.less (h : Tups H vs t) : Tups H vs.dropLast t.dropLast := by
  rw [List.dropLast_eq_take, List.dropLast_eq_take, h.len]
  exact h.take _
theorem Tups.push {p : Addr} {d : Nd} (h : Tups H vs t) (hp : H p = some (.tup (nv d))) : Tups H (vs ++ [.ref p]) (t ++ [d]) := h.app (.cons hp .nil)
/-- a list changed elsewhere leaves the tuples -/
theorem Tups.upd {p : Addr} {xs ys : List V} (h : Tups H vs t) (e : H p = some (.lst xs)) : Tups (upd H p (.lst ys)) vs t := by
  induction h with
  | nil => exact .nil
  | cons q _ ih =>
    refine .cons ?_ ih
    rw [upd_ne (ne_of q e (by intro z; cases z))]
    exact q
end
theorem same_upd {H : Hp} {p : Addr} {o : HO} (h : H p = none) : Same H (L2.upd H p o) := fun b x e => by
  rw [upd_ne (ne_of_none e h)]
  exact e
/-- H' keeps all of H, but for a list of its own at p, which was not there in H -/
theorem same_own {H H1 : Hp} {p : Addr} {o : HO} (s : Same H H1) (h : H p = none) : Same H (L2.upd H1 p o) := fun b x e => by
  rw [upd_ne (ne_of_none e h)]
  exact s _ _ e

/-! ### data that are compared -/
def ndD (d : Nd) : PyData := .tuple [.int d.e, .str (T d.lab), .int d.tall]
def trD (t : List Nd) : PyData := .list (t.map ndD)
def rsV (r : List (List Nat)) : List V := r.map fun l => V.str (T l)
def rsD (r : List (List Nat)) : PyData := .list (r.map fun l => PyData.str (T l))
def inD (r : List Int) : PyData := .list (r.map PyData.int)
def Low (l : List Nat) : Prop := ∀ c ∈ l, c < 128
theorem strOk_T {l : List Nat} (h : Low l) : PyData.strOk (T l) = true := by
  unfold PyData.strOk
  rw [← Array.all_toList, T_list, List.all_eq_true]
  intro c hc
  exact decide_eq_true (Nat.lt_of_lt_of_le (h c hc) (by decide))
theorem str_beq (a b : List Nat) : (T a == T b) = decide (a = b) := by
  by_cases h : a = b
  · subst h; simp
  · have : ¬ T a = T b := fun z => h (T_inj z)
    simp [h, this]
theorem eqv_nd (d e : Nd) : PyData.eqv (ndD d) (ndD e) = decide (d = e) := by
  unfold ndD
  simp only [PyData.eqv, PyData.eqvAll, str_beq, Bool.and_true]
  cases d
  cases e
  rw [Bool.eq_iff_iff]
  simp only [Bool.and_eq_true, beq_iff_eq, decide_eq_true_eq, Nd.mk.injEq]
theorem eqv_tr (t u : List Nd) : PyData.eqv (trD t) (trD u) = decide (t = u) := by
  unfold trD
  simp only [PyData.eqv]
  induction t generalizing u with
  | nil => cases u <;> simp [PyData.eqvAll]
  | cons d t ih =>
    cases u with
    | nil => simp [PyData.eqvAll]
    | cons e u =>
      simp only [List.map_cons, PyData.eqvAll, ih, eqv_nd]
      rw [Bool.eq_iff_iff]
      simp only [Bool.and_eq_true, decide_eq_true_eq, List.cons.injEq]
theorem eqv_rs (t u : List (List Nat)) : PyData.eqv (rsD t) (rsD u) = decide (t = u) := by
  unfold rsD
  simp only [PyData.eqv]
  induction t generalizing u with
  | nil => cases u <;> simp [PyData.eqvAll]
  | cons d t ih =>
    cases u with
    | nil => simp [PyData.eqvAll]
    | cons e u =>
      simp only [List.map_cons, PyData.eqvAll, ih, PyData.eqv, str_beq]
      rw [Bool.eq_iff_iff]
      simp only [Bool.and_eq_true, decide_eq_true_eq, List.cons.injEq]
theorem eqv_in (t u : List Int) : PyData.eqv (inD t) (inD u) = decide (t = u) := by
  unfold inD
  simp only [PyData.eqv]
  induction t generalizing u with
  | nil => cases u <;> simp [PyData.eqvAll]
  | cons d t ih =>
    cases u with
    | nil => simp [PyData.eqvAll]
    | cons e u =>
      simp only [List.map_cons, PyData.eqvAll, ih, PyData.eqv]
      rw [Bool.eq_iff_iff]
      simp only [Bool.and_eq_true, decide_eq_true_eq, beq_iff_eq, List.cons.injEq]
theorem shaped_nd {d : Nd} (h : Low d.lab) : SeqAt.shaped (ndD d) = true := by
  simp [SeqAt.shaped, ndD, PyData.canLay0, PyData.canLayAll0, PyData.depth, PyData.depthAll, strOk_T h]
theorem shaped_tr {t : List Nd} (h : ∀ d ∈ t, Low d.lab) : SeqAt.shaped (trD t) = true := by
  have a : PyData.canLayAll0 (t.map ndD) = true ∧ PyData.depthAll (t.map ndD) ≤ 1 := by
    induction t with
    | nil => simp [PyData.canLayAll0, PyData.depthAll]
    | cons d t ih =>
      obtain ⟨x, y⟩ := ih fun e he => h e (List.mem_cons_of_mem _ he)
      have z := strOk_T (h d List.mem_cons_self)
      simp only [List.map_cons, PyData.canLayAll0, PyData.depthAll, x, Bool.and_true]
      refine ⟨by simp [ndD, PyData.canLay0, PyData.canLayAll0, z], ?_⟩
      have : (ndD d).depth = 1 := by simp [ndD, PyData.depth, PyData.depthAll]
      omega
  unfold SeqAt.shaped trD
  rw [Bool.and_eq_true]
  refine ⟨by simp only [PyData.canLay0]; exact a.1, decide_eq_true ?_⟩
  simp only [PyData.depth]
  have := a.2
  omega
theorem shaped_rs {t : List (List Nat)} (h : ∀ l ∈ t, Low l) : SeqAt.shaped (rsD t) = true := by
  have a : PyData.canLayAll0 (t.map fun l => PyData.str (T l)) = true ∧ PyData.depthAll (t.map fun l => PyData.str (T l)) ≤ 0 := by
    induction t with
    | nil => simp [PyData.canLayAll0, PyData.depthAll]
    | cons d t ih =>
      obtain ⟨x, y⟩ := ih fun e he => h e (List.mem_cons_of_mem _ he)
      have z := strOk_T (h d List.mem_cons_self)
      simp only [List.map_cons, PyData.canLayAll0, PyData.depthAll, x, Bool.and_true, PyData.canLay0, PyData.depth]
      exact ⟨z, by omega⟩
  unfold SeqAt.shaped rsD
  rw [Bool.and_eq_true]
  refine ⟨by simp only [PyData.canLay0]; exact a.1, decide_eq_true ?_⟩
  simp only [PyData.depth]
  have := a.2
  omega
theorem shaped_in (t : List Int) : SeqAt.shaped (inD t) = true := by
  have a : PyData.canLayAll0 (t.map PyData.int) = true ∧ PyData.depthAll (t.map PyData.int) ≤ 0 := by
    induction t with
    | nil => simp [PyData.canLayAll0, PyData.depthAll]
    | cons d t ih =>
      simp only [List.map_cons, PyData.canLayAll0, PyData.depthAll, ih.1, Bool.and_true, PyData.canLay0, PyData.depth]
      exact ⟨trivial, by omega⟩
  unfold SeqAt.shaped inD
  rw [Bool.and_eq_true]
  refine ⟨by simp only [PyData.canLay0]; exact a.1, decide_eq_true ?_⟩
  simp only [PyData.depth]
  have := a.2
  omega
section
variable {K : PySem.W.Frag} {H : Hp}
theorem dp_nd {p : Addr} {d : Nd} (h : H p = some (.tup (nv d))) : Dp K H (.ref p) (ndD d) := .tup (SqT.of h) (.cons (.int _) (.cons (.str _) (.cons (.int _) .nil)))
theorem dps_tr : ∀ {vs : List V} {t : List Nd}, Tups H vs t → DpAll K H vs (t.map ndD)
  | _, _, .nil => .nil
  | _, _, .cons h r => .cons (dp_nd h) (dps_tr r)
theorem dp_tr {a : Addr} {vs : List V} {t : List Nd} (h : SqL K H a vs) (r : Tups H vs t) : Dp K H (.ref a) (trD t) := .lst h (dps_tr r)
theorem dps_rs : ∀ r : List (List Nat), DpAll K H (rsV r) (r.map fun l => PyData.str (T l))
  | [] => .nil
  | _ :: r => .cons (.str _) (dps_rs r)
theorem dp_rs {a : Addr} {r : List (List Nat)} (h : SqL K H a (rsV r)) : Dp K H (.ref a) (rsD r) := .lst h (dps_rs r)
theorem dps_in : ∀ r : List Int, DpAll K H (r.map V.int) (r.map PyData.int)
  | [] => .nil
  | _ :: r => .cons (.int _) (dps_in r)
theorem dp_in {a : Addr} {r : List Int} (h : SqL K H a (r.map V.int)) : Dp K H (.ref a) (inD r) := .lst h (dps_in r)
end

/-! ### a sign repeated -/
theorem rep_fold (c : Nat) : ∀ (n : Nat) (acc : Array Nat), ((List.replicate n (T [c]).cps).foldl (· ++ ·) acc).toList = acc.toList ++ List.replicate n c
  | 0, acc => by simp
  | n + 1, acc => by
    rw [List.replicate_succ, List.foldl_cons, rep_fold c n, Array.toList_append, T_list, List.replicate_succ, List.append_assoc]
    rfl
section
variable {X : Cx}
/-- a text of one sign, times n -/
theorem op_mulS : OpR X (binaryOp .Mult) (fun x y H Q => ∃ (c : Nat) (n : Int), x = .str (T [c]) ∧ y = .int n ∧ 0 ≤ n ∧ n ≤ 1000 ∧ Q (.str (T (List.replicate n.toNat c))) H) := by
  intro pins s σ H x y v u Q I rx ry h
  obtain ⟨c, n, rfl, rfl, h0, h1, q⟩ := h
  obtain ⟨t, rfl⟩ := rx
  obtain ⟨t', rfl⟩ := ry
  have l1 : (T [c]).length = 1 := T_len [c]
  refine P.mul_str ?_ ?_ ?_ ?_
  · rw [decide_eq_false (by omega), decide_eq_false (by omega)]; rfl
  · intro a b
    rw [l1]
    have : (1 : Int) ≤ (2 ^ 63 - 1) / n := by
      rw [Int.le_ediv_iff_mul_le (by omega)]
      omega
    omega
  · intro a b
    rw [l1]
    unfold Builtin.Str.tooLong
    refine decide_eq_false ?_
    rw [sizeLine_eq]
    omega
  · by_cases a : n < 1
    · rw [if_pos a]
      have e : n = 0 := by omega
      subst e
      exact ⟨by decide, .str (T []), H, I.tok _, ⟨_, rfl⟩, q⟩
    · rw [if_neg a]
      by_cases b : n = 1
      · subst b
        exact ⟨.str (T [c]), H, I, ⟨t, rfl⟩, q⟩
      · have e : (n == 1 || (T [c]).length == 0) = false := by
          rw [l1]
          simp [b]
        rw [e]
        have e2 : (⟨(List.replicate n.toNat (T [c]).cps).foldl (· ++ ·) #[]⟩ : Str) = T (List.replicate n.toNat c) := T_ext (by
          rw [rep_fold]
          rfl)
        rw [if_neg Bool.false_ne_true, e2]
        refine ⟨?_, .str (T (List.replicate n.toNat c)), H, I.tok _, ⟨_, rfl⟩, q⟩
        rw [T_len, List.length_replicate, sizeLine_eq]
        omega
end
end Hr
/-! The program's defs by their places; what the top has written; a call of a def by its promise. -/
namespace Hr
open PySem PySem.Spec PyProof.Rows L2
def topS (i : Nat) : Stmt := PySem.Challenge.pw_boughdraw_k14_whole_hung_read.main.body.getD i (.Pass ⟨0, 0, 0, 0⟩)
abbrev sis_label : Stmt := topS 11
theorem scis_label : FnScope ["label", "sign"] ["label"] (defScope sis_label) := ⟨rfl, rfl, rfl, by decide +kernel, rfl, by decide +kernel, by decide +kernel⟩
abbrev sway_to : Stmt := topS 12
theorem scway_to : FnScope ["way", "elder", "at", "node"] ["way", "elder"] (defScope sway_to) := ⟨rfl, rfl, rfl, by decide +kernel, rfl, by decide +kernel, by decide +kernel⟩
abbrev smade_tree : Stmt := topS 13
theorem scmade_tree : FnScope ["rows", "way", "node", "row", "elder", "label", "tall"] ["rows"] (defScope smade_tree) := ⟨rfl, rfl, rfl, by decide +kernel, rfl, by decide +kernel, by decide +kernel⟩
abbrev sask_node : Stmt := topS 14
theorem scask_node : FnScope ["tree", "node"] ["tree", "node"] (defScope sask_node) := ⟨rfl, rfl, rfl, by decide +kernel, rfl, by decide +kernel, by decide +kernel⟩
abbrev schildren_of : Stmt := topS 15
theorem scchildren_of : FnScope ["tree", "node", "child"] ["tree", "node"] (defScope schildren_of) := ⟨rfl, rfl, rfl, by decide +kernel, rfl, by decide +kernel, by decide +kernel⟩
abbrev sname_row : Stmt := topS 17
theorem scname_row : FnScope ["row"] ["row"] (defScope sname_row) := ⟨rfl, rfl, rfl, by decide +kernel, rfl, by decide +kernel, by decide +kernel⟩
abbrev sare_last : Stmt := topS 18
theorem scare_last : FnScope ["tree", "found", "node"] ["tree"] (defScope sare_last) := ⟨rfl, rfl, rfl, by decide +kernel, rfl, by decide +kernel, by decide +kernel⟩
abbrev shung_rows : Stmt := topS 19
theorem schung_rows : FnScope ["tree", "last", "hangs", "rows", "node", "before", "mark", "hang"] ["tree"] (defScope shung_rows) := ⟨rfl, rfl, rfl, by decide +kernel, rfl, by decide +kernel, by decide +kernel⟩
abbrev sname_begin : Stmt := topS 20
theorem scname_begin : FnScope ["text", "at"] ["text"] (defScope sname_begin) := ⟨rfl, rfl, rfl, by decide +kernel, rfl, by decide +kernel, by decide +kernel⟩
abbrev sguessed_node : Stmt := topS 21
theorem scguessed_node : FnScope ["way", "text", "begin", "level", "name", "elder"] ["way", "text"] (defScope sguessed_node) := ⟨rfl, rfl, rfl, by decide +kernel, rfl, by decide +kernel, by decide +kernel⟩
abbrev sread_hung : Stmt := topS 22
theorem scread_hung : FnScope ["rows", "guess", "way", "node", "text", "row", "tree"] ["rows"] (defScope sread_hung) := ⟨rfl, rfl, rfl, by decide +kernel, rfl, by decide +kernel, by decide +kernel⟩
abbrev s_law_draws : Stmt := topS 24
theorem sc_law_draws : FnScope ["_law_script", "_law_many", "_law_cells", "_law_found", "_law_left", "_law_k", "_law_at", "_law_cell", "_law_one", "_law_other"] ["_law_script", "_law_many"] (defScope s_law_draws) := ⟨rfl, rfl, rfl, by decide +kernel, rfl, by decide +kernel, by decide +kernel⟩
abbrev s_law_letters : Stmt := topS 25
theorem sc_law_letters : FnScope ["_law_number", "_law_size", "_law_letters_here", "_law_label_here", "_law_k"] ["_law_number", "_law_size"] (defScope s_law_letters) := ⟨rfl, rfl, rfl, by decide +kernel, rfl, by decide +kernel, by decide +kernel⟩
abbrev s_law_label : Stmt := topS 26
theorem sc_law_label : FnScope ["_law_number", "_law_most"] ["_law_number", "_law_most"] (defScope s_law_label) := ⟨rfl, rfl, rfl, by decide +kernel, rfl, by decide +kernel, by decide +kernel⟩
abbrev s_law_tree : Stmt := topS 27
theorem sc_law_tree : FnScope ["_law_draws_here", "_law_start", "_law_many", "_law_most", "_law_deep", "_law_tree_here", "_law_way", "_law_k", "_law_number", "_law_tall", "_law_elder", "_law_keep"] ["_law_draws_here", "_law_start", "_law_many", "_law_most", "_law_deep"] (defScope s_law_tree) := ⟨rfl, rfl, rfl, by decide +kernel, rfl, by decide +kernel, by decide +kernel⟩
abbrev s_law_whole : Stmt := topS 28
theorem sc_law_whole : FnScope ["_law_found"] ["_law_found"] (defScope s_law_whole) := ⟨rfl, rfl, rfl, by decide +kernel, rfl, by decide +kernel, by decide +kernel⟩
abbrev s_law_rows : Stmt := topS 29
theorem sc_law_rows : FnScope ["_law_found", "_law_due", "_law_row", "_law_other"] ["_law_found", "_law_due"] (defScope s_law_rows) := ⟨rfl, rfl, rfl, by decide +kernel, rfl, by decide +kernel, by decide +kernel⟩
abbrev s_law_other_label : Stmt := topS 30
theorem sc_law_other_label : FnScope ["_law_tree_here", "_law_at", "_law_number", "_law_elder", "_law_label_here", "_law_tall", "_law_many", "_law_other", "_law_k"] ["_law_tree_here", "_law_at", "_law_number"] (defScope s_law_other_label) := ⟨rfl, rfl, rfl, by decide +kernel, rfl, by decide +kernel, by decide +kernel⟩
abbrev s_law_ends : Stmt := topS 31
theorem sc_law_ends : FnScope ["_law_rows_here", "_law_tree_here", "_law_text", "_law_row"] ["_law_rows_here", "_law_tree_here"] (defScope s_law_ends) := ⟨rfl, rfl, rfl, by decide +kernel, rfl, by decide +kernel, by decide +kernel⟩
abbrev slaw : Stmt := topS 32
theorem sclaw : FnScope ["_law_script", "_law_draws_here", "_law_tree_here", "_law_number", "_law_some", "_law_held", "_law_lists", "_law_one", "_law_handed", "_law_rows_here", "_law_kept", "_law_found", "_law_k", "_law_j"] ["_law_script"] (defScope slaw) := ⟨rfl, rfl, rfl, by decide +kernel, rfl, by decide +kernel, by decide +kernel⟩
def azs : List Nat := [97, 98, 99, 100, 101, 102, 103, 104, 105, 106, 107, 108, 109, 110, 111, 112, 113, 114, 115, 116, 117, 118, 119, 120, 121, 122]
theorem mem_azs {c : Nat} : c ∈ azs ↔ isL c = true := by
  constructor
  · intro h
    have a : ∀ x ∈ azs, isL x = true := by decide
    exact a c h
  · intro h
    unfold isL at h
    rw [Bool.and_eq_true, decide_eq_true_eq, decide_eq_true_eq] at h
    have a : ∀ k, k < 26 → 97 + k ∈ azs := by decide
    have := a (c - 97) (by omega)
    rw [show 97 + (c - 97) = c by omega] at this
    exact this
/-- the names of the top, and the built-in ones that it leaves -/
structure Gls (mg : Str → Option Value) : Prop where
  len : mg "len" = none
  range : mg "range" = none
  enumerate : mg "enumerate" = none
  zip : mg "zip" = none
  isinstance : mg "isinstance" = none
  int : mg "int" = none
  bool : mg "bool" = none
  list : mg "list" = none
  str : mg "str" = none
  tuple : mg "tuple" = none
  min : mg "min" = none
  max : mg "max" = none
  nodes : ∃ t, mg "MOST_NODES" = some (.int 40 t)
  level : ∃ t, mg "MOST_LEVEL" = some (.int 8 t)
  signs : ∃ t, mg "MOST_SIGNS" = some (.int 9 t)
  tall : ∃ t, mg "MOST_TALL" = some (.int 9 t)
  letters : ∃ t, mg "LETTERS" = some (.str (T azs) t)
/-- the def of that name holds the promise -/
structure Has (P : Program) (w : World) (K : PySem.W.Frag) (mg : Str → Option Value) (base : Heap) (k : Nat) (x : Str) (ps : List Str) (sp : Sp) : Prop where
  ex : ∃ (f : Addr) (fd : FuncData), FnOk P w K mg base CX0 k f fd ps sp ∧ mg x = some (.ref f) ∧ PySem.W.keepIn K (.ref f) = true ∧ Binds K fd ps []
theorem has_of {P : Program} {w : World} {K : PySem.W.Frag} {mg : Str → Option Value} {base : Heap} {k : Nat} {x q : Str} {st : Stmt} {f : Addr} {fd : FuncData} {ps : List Str} {sp : Sp} (F : Fun K x q st f fd) (m : mg x = some (.ref f)) (b : Binds K fd ps [])
    (h : FnOk P w K mg base CX0 k f fd ps sp) : Has P w K mg base k x ps sp := ⟨f, fd, h, m, F.kp, b⟩
theorem pe_own {X : Cx} {j k : Nat} {x : Str} {ps : List Str} {sp : Sp} {e : Expr} {es : List Expr} {t : TA} {p pos : Pos} (h : Has X.prog X.w X.K X.mg X.base k x ps sp) (hr : Room j X.A) (hj : k ≤ j) (hg : Gl X x) (ha : PA X (e :: es) t) (hdb : (x == ("__debug__" : Str)) = false := by decide)
    (hs : starEach (e :: es) X.env = (false, eval e X.env) :: starEach es X.env := by rfl) (hpl : (backTo pos (starEach es X.env)).any (·.1) = false := by rfl) :
    PE X (.Call (.Name x p) (e :: es) [] pos) (tCall sp [] E0 t) := by
  obtain ⟨f, fd, F, m, kp, b⟩ := h.ex
  exact pe_call F (hr.mono hj) hg m kp b .nil pass0 ha hdb hs hpl
/-! ### tests that are known -/
theorem ifN {c A B : Prop} [Decidable c] (hc : ¬ c) (h : B) : if decide c = true then A else B := by
  rw [decide_eq_false hc]
  exact iteF h
theorem ifY {c A B : Prop} [Decidable c] (hc : c) (h : A) : if decide c = true then A else B := by
  rw [decide_eq_true hc]
  exact iteT h
theorem ifb {b : Bool} {A B : Prop} (h1 : b = true → A) (h2 : b = false → B) : if b = true then A else B := by
  cases b with
  | true => exact iteT (h1 rfl)
  | false => exact iteF (h2 rfl)
theorem ifF {b : Bool} {A B : Prop} (hb : b = false) (h : B) : if b = true then A else B := by
  subst hb
  exact iteF h
theorem ifT {b : Bool} {A B : Prop} (hb : b = true) (h : A) : if b = true then A else B := by
  subst hb
  exact iteT h
theorem small {n : Nat} (h : n ≤ 1000) : n ≤ sizeLine := Nat.le_of_lt (small1000 h)
theorem smallT {l : List Nat} (h : l.length ≤ 1000) : (T l).length ≤ sizeLine := by rw [T_len]; exact small h
/-! ### the written texts -/
theorem s_empty : (Str.ofString "") = T [] := by decide +kernel
theorem s_colon : (Str.ofString ":") = T [58] := by decide +kernel
theorem s_bar : (Str.ofString "| ") = T [124, 32] := by decide +kernel
theorem s_two : (Str.ofString "  ") = T [32, 32] := by decide +kernel
theorem s_plus : (Str.ofString "+-") = T [43, 45] := by decide +kernel
theorem s_tick : (Str.ofString "'-") = T [39, 45] := by decide +kernel
theorem s_azs : (Str.ofString "abcdefghijklmnopqrstuvwxyz") = T azs := by decide +kernel
theorem s_zyx : (Str.ofString "zyxwv") = T [122, 121, 120, 119, 118] := by decide +kernel
end Hr
namespace Hr
open PySem PySem.Spec PyProof.Rows L2
section
variable {P : Program} {w : World} {K : PySem.W.Frag} {mg : Str → Option Value} {base : Heap}

/-! ### is_label -/
def spLabel : Sp := fun vs H Q _ => ∃ l : List Nat, vs = [.str (T l)] ∧ LabOk l ∧ Q (.bl true) H
theorem ok_is_label (G : Gls mg) {f : Addr} {fd : FuncData} (F : Fun K "is_label" "is_label" sis_label f fd) : FnOk P w K mg base CX0 1 f fd ["label"] spLabel := by
  obtain ⟨t1, m_MOST_SIGNS⟩ := G.signs
  obtain ⟨t2, m_LETTERS⟩ := G.letters
  refine F.ok scis_label (fun vs H Q E h => ?_) (fun cdv A outer s H vs Q E hr h => ?_)
  · obtain ⟨l, rfl, _⟩ := h
    rfl
  · obtain ⟨l, rfl, L, q⟩ := h
    have lo := L.lo
    have hi := L.hi
    have hz : (T l).length ≤ sizeLine := smallT (by omega)
    refine ⟨_, (pss_cons (ps_if (PW.pt (pw_or (pt_cmpR op_lt (pe_callB call_len_str (by rfl) G.len (by decide +kernel) (pa_cons (pv 0) pa_nil)) pe_int (nomark _)) (pw_or1 (pt_cmpR op_gt (pe_callB call_len_str (by rfl) G.len (by decide +kernel) (pa_cons (pv 0) pa_nil)) (pe_glob (v := .int 9) rfl m_MOST_SIGNS ⟨_, rfl⟩) (nomark _))))) (pss_one (ps_ret pe_bl)) pss_nil)
      (pss_cons (ps_for PassesOwn.never rfl (pi_str (pv 0)) (pg_name (i := 1) scis_label.nd rfl (.inl rfl))
        (pss_one (ps_if (pt_cmpR op_notIn_sign (pv 1) (pe_glob (v := .str (T azs)) rfl m_LETTERS ⟨_, rfl⟩) (by rfl)) (pss_one (ps_ret pe_bl)) pss_nil)))
      (pss_one (ps_ret pe_bl)))), ?_⟩
    refine ⟨_, rfl, _, rfl, hz, _, _, rfl, rfl, _, rfl, ifN (by rw [T_len]; omega) ⟨_, rfl, _, rfl, hz, _, _, rfl, rfl, _, rfl, ifN (by rw [T_len]; omega) ?_⟩⟩
    refine ⟨_, rfl, _, rfl, for_it walk_str (fun i σ H' => ∃ y, σ = [some (.str (T l)), y] ∧ H' = H) ⟨none, rfl, rfl⟩ (fun _ _ _ _ _ => trivial) ?_ ?_⟩
    · rintro i x σ H1 H2 hi ⟨y, rfl, rfl⟩ ⟨rfl, c, hc, rfl⟩
      have hm : c ∈ azs := mem_azs.mpr (L.az c (by
        have := List.mem_of_getElem? (l := (T l).cps.toList) (i := i) (by rw [Array.getElem?_toList]; exact hc)
        rw [T_list] at this
        exact this))
      refine ⟨_, rfl, c, T azs, rfl, rfl, _, rfl, iteNS (by rw [T_list]; exact hm) ?_⟩
      exact ⟨_, rfl, rfl⟩
    · rintro σ H1 ⟨y, rfl, rfl⟩
      exact q

/-! ### way_to -/
def spWay : Sp := fun vs H Q _ => ∃ (a : Addr) (ns : List Int) (e : Int) (out : List Int), vs = [.ref a, .int e] ∧ H a = some (.lst (ns.map V.int)) ∧
  (∀ j : Nat, ns[j]? = some e → (∀ m : Nat, m < j → ns[m]? ≠ some e) → out = ns.take (j + 1)) ∧ ((∀ m : Nat, ns[m]? ≠ some e) → out = []) ∧
  ∀ (H' : Hp) (p : Addr), Same H H' → H p = none → H' p = some (.lst (out.map V.int)) → Q (.ref p) H'
theorem ok_way_to (G : Gls mg) {f : Addr} {fd : FuncData} (F : Fun K "way_to" "way_to" sway_to f fd) : FnOk P w K mg base CX0 1 f fd ["way", "elder"] spWay := by
  refine F.ok scway_to (fun vs H Q E h => ?_) (fun cdv A outer s H vs Q E hr h => ?_)
  · obtain ⟨a, ns, e, out, rfl, _⟩ := h
    rfl
  · obtain ⟨a, ns, e, out, rfl, ha, h1, h2, q⟩ := h
    refine ⟨_, (pss_cons (ps_for PassesOwn.never rfl (pi_enum (by rfl) G.enumerate (pa_cons (pv 0) pa_nil)) (pg_tup rfl (pgs_cons (pg_name (i := 2) scway_to.nd rfl (.inl rfl)) (pgs_cons (pg_name (i := 3) scway_to.nd rfl (.inl rfl)) pgs_nil)))
        (pss_one (ps_if (pt_cmpR op_eq (pv 3) (pv 1) (nomark _)) (pss_one (ps_ret (pe_slice sl_list (pv 0) po_none (po_some (pe_op op_add (pv 2) pe_int))))) pss_nil)))
      (pss_one (ps_ret (pe_lst pa_nil)))), ?_⟩
    refine ⟨_, rfl, a, _, rfl, SqL.of ha, for_it walk_enum (fun i σ H' => (∃ y2 y3, σ = [some (.ref a), some (.int e), y2, y3]) ∧ Same H H' ∧ ∀ m : Nat, m < i → ns[m]? ≠ some e) ⟨⟨none, none, rfl⟩, Same.refl H, fun m hm => absurd hm (Nat.not_lt_zero _)⟩
      (fun i σ H' _ ⟨_, sm, _⟩ => SqL.of (sm _ _ ha)) ?_ ?_⟩
    · rintro i x σ H1 H2 hi ⟨⟨y2, y3, rfl⟩, sm, no⟩ ⟨t, x1, x2, rfl, nt, rfl, e1, e2⟩
      obtain rfl := Option.some.inj e1
      have e2 : (ns.map V.int)[i]? = some x2 := e2
      rw [List.getElem?_map] at e2
      obtain ⟨n, hn, rfl⟩ : ∃ n, ns[i]? = some n ∧ x2 = V.int n := by
        cases q : ns[i]? with
        | none => rw [q] at e2; cases e2
        | some n => rw [q] at e2; exact ⟨n, rfl, (Option.some.inj e2).symm⟩
      have sm2 : Same H (upd H1 t (.tup [.int (i : Nat), .int n])) := sm.trans (same_upd nt)
      refine ⟨t, _, rfl, SqT.of upd_same, rfl, _, _, rfl, _, _, rfl, rfl, ?_⟩
      refine ⟨_, rfl, _, rfl, rfl, _, rfl, ite2 (fun c => ?_) (fun c => ?_)⟩
      · have c2 : n = e := V.int.inj (of_decide_eq_true c)
        subst c2
        refine ⟨_, rfl, _, rfl, _, _, rfl, rfl, _, rfl, a, _, rfl, SqL.of (sm2 _ _ ha), fun p np => ?_⟩
        refine q _ p (sm2.trans (same_upd np)) (sm2.free np) ?_
        rw [upd_same, h1 i hn no, show ((i : Nat) : Int) + 1 = ((i + 1 : Nat) : Int) by omega, cutV_to, List.map_take]
      · have c2 : n ≠ e := fun z => c (decide_eq_true (by rw [z]))
        refine ⟨⟨_, _, rfl⟩, sm2, fun m hm => ?_⟩
        by_cases z : m = i
        · rw [z, hn]
          exact fun w => c2 (Option.some.inj w)
        · exact no m (by omega)
    · rintro σ H1 ⟨⟨y2, y3, rfl⟩, sm, no⟩
      rw [List.length_map] at no
      refine ⟨Nat.zero_le _, fun p np => q _ p (sm.trans (same_upd np)) (sm.free np) ?_⟩
      rw [upd_same, h2 fun m hm => no m (get_lt hm) hm]
      rfl

/-! ### ask_node -/
def spAsk (K : PySem.W.Frag) : Sp := fun vs H Q _ => ∃ (a : Addr) (xs : List V) (n : Int), vs = [.ref a, .int n] ∧ SqL K H a xs ∧ 0 ≤ n ∧ n < xs.length ∧ Q .non H
theorem ok_ask_node (G : Gls mg) {f : Addr} {fd : FuncData} (F : Fun K "ask_node" "ask_node" sask_node f fd) : FnOk P w K mg base CX0 1 f fd ["tree", "node"] (spAsk K) := by
  refine F.ok scask_node (fun vs H Q E h => ?_) (fun cdv A outer s H vs Q E hr h => ?_)
  · obtain ⟨a, xs, n, rfl, _⟩ := h
    rfl
  · obtain ⟨a, xs, n, rfl, ha, h0, h1, q⟩ := h
    refine ⟨_, (pss_one (ps_if (PW.pt (pw_or (pt_cmpR op_lt (pv 1) pe_int (nomark _)) (pw_or1 (pt_cmpR op_ge (pv 1) (pe_callB call_len_seq (by rfl) G.len (by decide +kernel) (pa_cons (pv 0) pa_nil)) (nomark _))))) (pss_one ps_never) pss_nil)), ?_⟩
    refine ⟨_, rfl, _, _, rfl, rfl, _, rfl, ifN (by omega) ⟨_, rfl, _, rfl, a, _, rfl, .inl ha, _, _, rfl, rfl, _, rfl, ifN (by omega) q⟩⟩

/-! ### name_row -/
def spName : Sp := fun vs H Q _ => ∃ (p : Addr) (d : Nd), vs = [.ref p] ∧ H p = some (.tup (nv d)) ∧ NdOk d ∧ Q (.str (T (name d))) H
theorem ok_name_row (G : Gls mg) {f : Addr} {fd : FuncData} (F : Fun K "name_row" "name_row" sname_row f fd) : FnOk P w K mg base CX0 1 f fd ["row"] spName := by
  refine F.ok scname_row (fun vs H Q E h => ?_) (fun cdv A outer s H vs Q E hr h => ?_)
  · obtain ⟨p, d, rfl, _⟩ := h
    rfl
  · obtain ⟨p, d, rfl, hp, D, q⟩ := h
    have lo := D.lo
    have hi := D.hi
    have nl := name_len D
    unfold name at nl
    rw [List.length_append] at nl
    refine ⟨_, (pss_one (ps_ret (pe_op op_add_str (pe_ix ix_tup (pv 0) pe_int (fun _ _ => rfl)) (pe_op op_mulS pe_str (pe_op op_sub (pe_ix ix_tup (pv 0) pe_int (fun _ _ => rfl)) pe_int))))), ?_⟩
    refine ⟨_, rfl, p, nv d, 1, .str (T d.lab), rfl, rfl, SqT.of hp, atI_nat (j := 1) rfl, _, rfl, p, nv d, 2, .int d.tall, rfl, rfl, SqT.of hp, atI_nat (j := 2) rfl, _, _, rfl, rfl, 58, _, congrArg V.str s_colon, rfl, by omega, by omega, _, _, rfl, rfl, ?_, ?_⟩
    · rw [T_len, T_len]
      exact small (by omega)
    · rw [T_app]
      exact q

/-! ### name_begin -/
def spBegin : Sp := fun vs H Q _ => ∃ (pre r : List Nat) (c : Nat), vs = [.str (T (pre ++ c :: r))] ∧ noL pre ∧ isL c = true ∧ (pre ++ c :: r).length ≤ 1000 ∧ Q (.int (pre.length : Nat)) H
theorem ok_name_begin (G : Gls mg) {f : Addr} {fd : FuncData} (F : Fun K "name_begin" "name_begin" sname_begin f fd) : FnOk P w K mg base CX0 1 f fd ["text"] spBegin := by
  obtain ⟨t2, m_LETTERS⟩ := G.letters
  refine F.ok scname_begin (fun vs H Q E h => ?_) (fun cdv A outer s H vs Q E hr h => ?_)
  · obtain ⟨pre, r, c, rfl, _⟩ := h
    rfl
  · obtain ⟨pre, r, c, rfl, hn, hc, hl, q⟩ := h
    have hz : (T (pre ++ c :: r)).length ≤ sizeLine := smallT hl
    refine ⟨_, (pss_cons (ps_set (i := 1) scname_begin.nd rfl (.inl rfl) pe_int)
      (pss_cons (ps_while PassesOwn.never (PW.pt (pw_and (pt_cmpR op_lt (pv 1) (pe_callB call_len_str (by rfl) G.len (by decide +kernel) (pa_cons (pv 0) pa_nil)) (nomark _)) (pw_and1 (pt_cmpR op_notIn_sign (pe_ix ix_str (pv 0) (pv 1) (fun _ _ => rfl)) (pe_glob (v := .str (T azs)) rfl m_LETTERS ⟨_, rfl⟩) (by rfl))))) (pss_one (ps_aug (i := 1) scname_begin.nd rfl (.inl rfl) pe_int ip_add)))
      (pss_one (ps_ret (pv 1))))), ?_⟩
    refine ⟨fun m σ H' => ∃ k : Nat, m = pre.length - k ∧ k ≤ pre.length ∧ σ = [some (.str (T (pre ++ c :: r))), some (.int (k : Nat))] ∧ H' = H, ⟨_, 0, rfl, Nat.zero_le _, rfl, rfl⟩, ?_⟩
    rintro m σ H' ⟨k, rfl, hk, rfl, rfl⟩
    have hkl : k < (pre ++ c :: r).length := by rw [List.length_append, List.length_cons]; omega
    obtain ⟨x, hx⟩ := get_some hkl
    refine ⟨_, rfl, _, rfl, _, rfl, hz, _, _, rfl, rfl, _, rfl, ifY (by rw [T_len]; omega) ?_⟩
    refine ⟨_, rfl, _, rfl, T (pre ++ c :: r), (k : Int), x, rfl, rfl, hz, atI_nat (by rw [T_list]; exact hx), x, T azs, rfl, rfl, _, rfl, ?_⟩
    rw [T_list]
    by_cases hk2 : k < pre.length
    · rw [List.getElem?_append_left hk2] at hx
      have hx2 := (hn x (List.mem_of_getElem? hx)).1
      have hm : ¬ x ∈ azs := fun z => by
        rw [mem_azs, hx2] at z
        cases z
      rw [decide_eq_false hm]
      refine iteT ⟨fun σ' H'' => σ' = [some (.str (T (pre ++ c :: r))), some (.int ((k + 1 : Nat) : Int))] ∧ H'' = H', fun σ' H'' ⟨e1, e2⟩ => ⟨_, by omega, k + 1, rfl, by omega, e1, e2⟩, ?_⟩
      exact ⟨_, rfl, _, _, rfl, rfl, rfl, rfl⟩
    · have ek : k = pre.length := by omega
      subst ek
      rw [List.getElem?_append_right (Nat.le_refl _), Nat.sub_self] at hx
      have ex : c = x := Option.some.inj hx
      subst ex
      rw [decide_eq_true (mem_azs.mpr hc)]
      exact iteF ⟨_, rfl, q⟩
end
end Hr
namespace Hr
open PySem PySem.Spec PyProof.Rows L2
section
variable {P : Program} {w : World} {K : PySem.W.Frag} {mg : Str → Option Value} {base : Heap}

/-! ### children_of -/
def spKids (K : PySem.W.Frag) : Sp := fun vs H Q _ => ∃ (a : Addr) (n : Int) (xs : List V) (t : List Nd), vs = [.ref a, .int n] ∧ SqL K H a xs ∧ Tups H xs t ∧ 0 ≤ n ∧ n < t.length ∧ t.length ≤ 1000 ∧
  ∀ (H' : Hp) (p : Addr), Same H H' → H p = none → H' p = some (.lst ((kids t n).map V.int)) → Q (.ref p) H'
theorem ok_children_of (G : Gls mg) (Hask_node : Has P w K mg base 1 "ask_node" ["tree", "node"] (spAsk K)) {f : Addr} {fd : FuncData} (F : Fun K "children_of" "children_of" schildren_of f fd) : FnOk P w K mg base CX0 2 f fd ["tree", "node"] (spKids K) := by
  refine F.ok scchildren_of (fun vs H Q E h => ?_) (fun cdv A outer s H vs Q E hr h => ?_)
  · obtain ⟨a, n, xs, t, rfl, _⟩ := h
    rfl
  · obtain ⟨a, n, xs, t, rfl, ha, tu, h0, h1, h2, q⟩ := h
    have xl := tu.len
    refine ⟨_, (pss_cons (ps_expr (pe_own Hask_node hr (by decide) (by rfl) (pa_cons (pv 0) (pa_cons (pv 1) pa_nil))))
      (pss_one (ps_ret (pe_lc (own := [("child", 2)]) (g := gName 2) (by rfl) scchildren_of.nd (pi_range2 (by rfl) G.range (pa_cons (pe_op op_add (pv 1) pe_int) (pa_cons (pe_callB call_len_seq (by rfl) G.len (by decide +kernel) (pa_cons (pv 0) pa_nil)) pa_nil))) (blkOk_by (own := [("child", 2)]) (N := ["tree", "node", "child"]) (sc := defScope schildren_of) (by decide +kernel)) (fun _ _ _ _ _ => pg_name (i := 2) scchildren_of.nd rfl (Or.inl rfl)) (fun _ _ _ _ _ => pts_one (pt_cmpR op_eq (pe_ix (r := rIxT K) ix_tup (pe_ix (r := rIxL K) ix_list (pv 0) (pv 2) (fun _ _ => rfl)) pe_int (fun _ _ => rfl)) (pv 1) (nomark _))) (fun _ _ _ _ _ => (pv 2)))))), ?_⟩
    refine ⟨_, rfl, _, rfl, a, xs, n, rfl, ha, h0, by omega, ?_⟩
    refine ⟨_, rfl, _, _, rfl, rfl, _, rfl, a, xs, rfl, .inl ha, n + 1, (xs.length : Int), rfl, ⟨by omega, by omega, by omega, by omega⟩, fun D hD => ?_⟩
    have ek : ((xs.length : Int) - (n + 1)).toNat = t.length - (n.toNat + 1) := by omega
    refine lc_range (lo := n + 1) (n := ((xs.length : Int) - (n + 1)).toNat) (fun i H' => Same H H' ∧ H' D = some (.lst (((List.range' (n.toNat + 1) i).filter fun c => decide ((ndAt t c).e = n)).map fun (c : Nat) => V.int (c : Int))))
      ⟨same_upd hD, upd_same⟩ ?_ ?_
    · rintro i H1 hi ⟨sm, e1⟩
      have hit : n.toNat + 1 + i < t.length := by omega
      obtain ⟨d, hd⟩ := get_some hit
      obtain ⟨p, hp, hpd⟩ := (tu.same sm).get hd
      have ei : n + 1 + (i : Int) = ((n.toNat + 1 + i : Nat) : Int) := by omega
      have er : List.range' (n.toNat + 1) (i + 1) = List.range' (n.toNat + 1) i ++ [n.toNat + 1 + i] := by rw [List.range'_concat]; simp
      refine ⟨rfl, ?_⟩
      refine ⟨_, rfl, _, rfl, a, xs, n + 1 + (i : Int), .ref p, rfl, rfl, sm.seq ha, at_of ei hp, p, nv d, 0, .int d.e, rfl, rfl, SqT.of hpd, atI_nat (j := 0) rfl, _, rfl, rfl, _, rfl, ite2 (fun c => ?_) (fun c => ?_)⟩
      · have c2 : d.e = n := V.int.inj (of_decide_eq_true c)
        have hlen : (((List.range' (n.toNat + 1) i).filter fun c => decide ((ndAt t c).e = n)).map fun (c : Nat) => V.int (c : Int)).length < sizeLine := by
          rw [List.length_map]
          have := List.length_filter_le (fun c => decide ((ndAt t c).e = n)) (List.range' (n.toNat + 1) i)
          rw [List.length_range'] at this
          exact small1000 (by omega)
        refine ⟨_, rfl, _, e1, hlen, same_own sm hD, ?_⟩
        rw [upd_same, er, List.filter_append, List.map_append]
        have : [n.toNat + 1 + i].filter (fun c => decide ((ndAt t c).e = n)) = [n.toNat + 1 + i] := by
          simp [ndAt_of hd, c2]
        rw [this, ei]
        rfl
      · have c2 : d.e ≠ n := fun z => c (decide_eq_true (by rw [z]))
        refine ⟨sm, ?_⟩
        rw [e1, er, List.filter_append]
        have : [n.toNat + 1 + i].filter (fun c => decide ((ndAt t c).e = n)) = [] := by
          simp [ndAt_of hd, c2]
        rw [this, List.append_nil]
    · rintro H1 ⟨sm, e1⟩
      refine q _ D sm hD ?_
      rw [e1, ek]
      unfold kids
      rw [List.map_map]
      rfl

/-! ### are_last -/
def lasts (t : List Nd) : List Bool := true :: (List.range' 1 (t.length - 1)).map (lastB t)
theorem lasts_get {t : List Nd} {i : Nat} (h : i + 1 < t.length) : (lasts t)[i + 1]? = some (lastB t (i + 1)) := by
  unfold lasts
  rw [List.getElem?_cons_succ, List.getElem?_map, List.getElem?_range' (by omega)]
  simp [Nat.add_comm]
def spLast (K : PySem.W.Frag) : Sp := fun vs H Q _ => ∃ (a : Addr) (xs : List V) (t : List Nd) (W : Nat → List Int) (lv : Nat → Nat), vs = [.ref a] ∧ SqL K H a xs ∧ Tups H xs t ∧ PTree t W lv ∧ 1 ≤ t.length ∧
  ∀ (H' : Hp) (p : Addr), Same H H' → H p = none → H' p = some (.lst ((lasts t).map V.bl)) → Q (.ref p) H'
theorem ok_are_last (G : Gls mg) (Hchildren_of : Has P w K mg base 2 "children_of" ["tree", "node"] (spKids K)) {f : Addr} {fd : FuncData} (F : Fun K "are_last" "are_last" sare_last f fd) : FnOk P w K mg base CX0 3 f fd ["tree"] (spLast K) := by
  refine F.ok scare_last (fun vs H Q E h => ?_) (fun cdv A outer s H vs Q E hr h => ?_)
  · obtain ⟨a, xs, t, W, lv, rfl, _⟩ := h
    rfl
  · obtain ⟨a, xs, t, W, lv, rfl, ha, tu, PT, h1, q⟩ := h
    have xl := tu.len
    have t40 := PT.hi
    refine ⟨_, (pss_cons (ps_set (i := 1) scare_last.nd rfl (.inl rfl) (pe_lst (pa_cons pe_bl pa_nil)))
      (pss_cons (ps_for PassesOwn.never rfl (pi_range2 (by rfl) G.range (pa_cons pe_int (pa_cons (pe_callB call_len_seq (by rfl) G.len (by decide +kernel) (pa_cons (pv 0) pa_nil)) pa_nil))) (pg_name (i := 2) scare_last.nd rfl (.inl rfl))
        (pss_one (ps_expr (pe_bm PySem.F.plainAttrs_list PySem.F.slot_list_append PySem.F.type_list_append mt_append (pv 1) (pa_cons (pe_cmpR op_eq (pe_ix (r := rIxL K) ix_list (pe_own Hchildren_of hr (by decide) (by rfl) (pa_cons (pv 0) (pa_cons (pe_ix (r := rIxT K) ix_tup (pe_ix (r := rIxL K) ix_list (pv 0) (pv 2) (fun _ _ => rfl)) pe_int (fun _ _ => rfl)) pa_nil))) (pe_un un_neg pe_int) (fun _ _ => rfl)) (pv 2) (nomark _)) pa_nil)))))
      (pss_one (ps_ret (pv 1))))), ?_⟩
    refine ⟨by show 1 ≤ sizeLine; decide, fun p np => ?_⟩
    refine ⟨_, rfl, a, xs, rfl, .inl ((same_upd np).seq ha), 1, (xs.length : Int), rfl, ⟨by omega, by omega, by omega, by omega⟩, ?_⟩
    have ek : ((xs.length : Int) - 1).toNat = t.length - 1 := by omega
    refine for_range (lo := 1) (n := ((xs.length : Int) - 1).toNat) (fun i σ H' => (∃ y, σ = [some (.ref a), some (.ref p), y]) ∧ Same H H' ∧ H' p = some (.lst (V.bl true :: (List.range' 1 i).map fun c => V.bl (lastB t c)))) ?_ ?_ ?_
    · exact ⟨⟨none, rfl⟩, same_upd np, upd_same⟩
    · rintro i σ H1 hi ⟨⟨y, rfl⟩, sm, e1⟩
      have hit : i + 1 < t.length := by omega
      obtain ⟨d, hd⟩ := get_some hit
      obtain ⟨z, hz, hzd⟩ := (tu.same sm).get hd
      obtain ⟨d0, d1, _⟩ := PT.elder (Nat.succ_pos i) hd
      have ei : (1 : Int) + (i : Int) = ((i + 1 : Nat) : Int) := by omega
      refine ⟨_, rfl, .inl ⟨rfl, _, SqL.of e1⟩, _, rfl, _, rfl, _, rfl, a, xs, (1 : Int) + (i : Int), .ref z, rfl, rfl, sm.seq ha, at_of ei hz, z, nv d, 0, .int d.e, rfl, rfl, SqT.of hzd, atI_nat (j := 0) rfl, ?_⟩
      refine ⟨a, d.e, xs, t, rfl, sm.seq ha, tu.same sm, d0, by omega, by omega, fun H2 p2 sm2 np2 e2 => ?_⟩
      have hk := mem_kids hd d0 d1
      obtain ⟨ks, kz, hks⟩ : ∃ ks kz, kids t d.e = ks ++ [kz] := by
        rcases List.eq_nil_or_concat (kids t d.e) with z | ⟨ks, kz, z⟩
        · rw [z] at hk; simp at hk
        · exact ⟨ks, kz, by rw [z, List.concat_eq_append]⟩
      rw [hks, List.map_append] at e2
      have lb : V.bl (decide (V.int kz = V.int ((1 : Int) + (i : Int)))) = V.bl (lastB t (i + 1)) := by
        unfold lastB
        rw [ndAt_of hd, hks, List.getLast?_append, ei]
        simp
      refine ⟨_, rfl, p2, _, -1, _, rfl, rfl, SqL.of e2, atI_last _ _, _, rfl, rfl, p, _, _, rfl, rfl, sm2 _ _ e1, ?_, ?_⟩
      · rw [List.length_cons, List.length_map, List.length_range']
        exact small1000 (by omega)
      · refine ⟨⟨_, rfl⟩, same_own (sm.trans sm2) np, ?_⟩
        rw [upd_same, List.range'_concat, List.map_append, lb, Nat.one_mul, Nat.add_comm 1 i]
        rfl
    · rintro σ H1 ⟨⟨y, rfl⟩, sm, e1⟩
      refine ⟨_, rfl, q H1 p sm np ?_⟩
      rw [e1, ek]
      unfold lasts
      rw [List.map_cons, List.map_map]
      rfl
end
end Hr
namespace Hr
open PySem PySem.Spec PyProof.Rows L2
section
variable {P : Program} {w : World} {K : PySem.W.Frag} {mg : Str → Option Value} {base : Heap}

theorem PTree.low {t : List Nd} {W : Nat → List Int} {lv : Nat → Nat} (PT : PTree t W lv) : ∀ d ∈ t, Low d.lab := fun d hd c hc => by
  obtain ⟨i, hi⟩ := List.getElem?_of_mem hd
  exact isL_lt ((PT.nd i d hi).lab.az c hc)
theorem PTree.lowR {t : List Nd} {W : Nat → List Int} {lv : Nat → Nat} (PT : PTree t W lv) (h1 : 1 ≤ t.length) : ∀ l ∈ hung t, Low l := fun l hl => by
  obtain ⟨i, hi⟩ := List.getElem?_of_mem hl
  obtain ⟨d, hd, r⟩ := PT.hungAt h1 hi
  exact r.lt (PT.nd i d hd)
theorem rsV_get {r : List (List Nat)} {i : Nat} {l : List Nat} (h : r[i]? = some l) : (rsV r)[i]? = some (.str (T l)) := by
  unfold rsV
  rw [List.getElem?_map, h]
  rfl
theorem rsV_of {r : List (List Nat)} {i : Nat} {v : V} (h : (rsV r)[i]? = some v) : ∃ l, r[i]? = some l ∧ v = .str (T l) := by
  unfold rsV at h
  rw [List.getElem?_map] at h
  cases q : r[i]? with
  | none => rw [q] at h; cases h
  | some l => rw [q] at h; exact ⟨l, rfl, (Option.some.inj h).symm⟩
theorem rsV_len (r : List (List Nat)) : (rsV r).length = r.length := List.length_map _
theorem in_of {r : List Int} {i : Nat} {v : V} (h : (r.map V.int)[i]? = some v) : ∃ n, r[i]? = some n ∧ v = .int n := by
  rw [List.getElem?_map] at h
  cases q : r[i]? with
  | none => rw [q] at h; cases h
  | some l => rw [q] at h; exact ⟨l, rfl, (Option.some.inj h).symm⟩
theorem in_get {r : List Int} {i : Nat} {n : Int} (h : r[i]? = some n) : (r.map V.int)[i]? = some (.int n) := by rw [List.getElem?_map, h]; rfl

theorem hg_succ (t : List Nd) (m : Nat) : hg t (m + 1) = hg t m ++ [bf (hg t m) (ndAt t (m + 1)) ++ hang (lastB t (m + 1))] := rfl
theorem rws_succ (t : List Nd) (m : Nat) : rws t (m + 1) = rws t m ++ [bf (hg t m) (ndAt t (m + 1)) ++ mark (lastB t (m + 1)) ++ name (ndAt t (m + 1))] := rfl
theorem rsV_app (a b : List (List Nat)) : rsV (a ++ b) = rsV a ++ rsV b := List.map_append

/-! ### hung_rows -/
def spHung (K : PySem.W.Frag) : Sp := fun vs H Q _ => ∃ (a : Addr) (xs : List V) (t : List Nd) (W : Nat → List Int) (lv : Nat → Nat), vs = [.ref a] ∧ SqL K H a xs ∧ Tups H xs t ∧ PTree t W lv ∧ 1 ≤ t.length ∧
  ∀ (H' : Hp) (p : Addr), Same H H' → H p = none → H' p = some (.lst (rsV (hung t))) → Q (.ref p) H'
def rowAt (b : List Nat) (l : Bool) (d : Nd) : List Nat := b ++ mark l ++ name d
theorem ok_hung_rows (G : Gls mg) (Hare_last : Has P w K mg base 3 "are_last" ["tree"] (spLast K)) (Hname_row : Has P w K mg base 1 "name_row" ["row"] spName) {f : Addr} {fd : FuncData} (F : Fun K "hung_rows" "hung_rows" shung_rows f fd) : FnOk P w K mg base CX0 4 f fd ["tree"] (spHung K) := by
  refine F.ok schung_rows (fun vs H Q E h => ?_) (fun cdv A outer s H vs Q E hr h => ?_)
  · obtain ⟨a, xs, t, W, lv, rfl, _⟩ := h
    rfl
  · obtain ⟨a, xs, t, W, lv, rfl, ha, tu, PT, h1, q⟩ := h
    have xl := tu.len
    have t40 := PT.hi
    refine ⟨_, (pss_cons (ps_set (i := 1) schung_rows.nd rfl (.inl rfl) (pe_own Hare_last hr (by decide) (by rfl) (pa_cons (pv 0) pa_nil)))
      (pss_cons (ps_set (i := 2) schung_rows.nd rfl (.inl rfl) (pe_lst (pa_cons pe_str pa_nil)))
      (pss_cons (ps_set (i := 3) schung_rows.nd rfl (.inl rfl) (pe_lst (pa_cons (pe_own Hname_row hr (by decide) (by rfl) (pa_cons (pe_ix (r := rIxL K) ix_list (pv 0) pe_int (fun _ _ => rfl)) pa_nil)) pa_nil)))
      (pss_cons (ps_for PassesOwn.never rfl (pi_range2 (by rfl) G.range (pa_cons pe_int (pa_cons (pe_callB call_len_seq (by rfl) G.len (by decide +kernel) (pa_cons (pv 0) pa_nil)) pa_nil))) (pg_name (i := 4) schung_rows.nd rfl (.inl rfl))
        (pss_cons (ps_set (i := 5) schung_rows.nd rfl (.inl rfl) (pe_ix (r := rIxL K) ix_list (pv 2) (pe_ix (r := rIxT K) ix_tup (pe_ix (r := rIxL K) ix_list (pv 0) (pv 4) (fun _ _ => rfl)) pe_int (fun _ _ => rfl)) (fun _ _ => rfl)))
        (pss_cons (ps_set (i := 6) schung_rows.nd rfl (.inl rfl) pe_str)
        (pss_cons (ps_set (i := 7) schung_rows.nd rfl (.inl rfl) (pe_op op_add_str (pv 5) pe_str))
        (pss_cons (ps_if (pt_val (pe_ix (r := rIxL K) ix_list (pv 1) (pv 4) (fun _ _ => rfl))) (pss_cons (ps_set (i := 6) schung_rows.nd rfl (.inl rfl) pe_str)
          (pss_one (ps_set (i := 7) schung_rows.nd rfl (.inl rfl) (pe_op op_add_str (pv 5) pe_str)))) pss_nil)
        (pss_cons (ps_expr (pe_bm PySem.F.plainAttrs_list PySem.F.slot_list_append PySem.F.type_list_append mt_append (pv 3) (pa_cons (pe_op op_add_str (pe_op op_add_str (pv 5) (pv 6)) (pe_own Hname_row hr (by decide) (by rfl) (pa_cons (pe_ix (r := rIxL K) ix_list (pv 0) (pv 4) (fun _ _ => rfl)) pa_nil))) pa_nil)))
        (pss_one (ps_expr (pe_bm PySem.F.plainAttrs_list PySem.F.slot_list_append PySem.F.type_list_append mt_append (pv 2) (pa_cons (pv 7) pa_nil))))))))))
      (pss_one (ps_ret (pv 3))))))), ?_⟩
    refine ⟨_, rfl, a, xs, t, W, lv, rfl, ha, tu, PT, h1, fun H1 p1 sm1 np1 e1 => ?_⟩
    refine ⟨by show 1 ≤ sizeLine; decide, fun p2 np2 => ?_⟩
    obtain ⟨d0, hd0⟩ := get_some (show 0 < t.length by omega)
    have tu1 := (tu.same sm1).same (same_upd (o := .lst [V.str (Str.ofString "")]) np2)
    obtain ⟨z0, hz0, hzd0⟩ := tu1.get hd0
    refine ⟨_, rfl, a, xs, 0, .ref z0, rfl, rfl, (sm1.trans (same_upd np2)).seq ha, atI_nat (j := 0) hz0, z0, d0, rfl, hzd0, PT.nd 0 d0 hd0, by show 1 ≤ sizeLine; decide, fun p3 np3' => ?_⟩
    have np3 : H1 p3 = none := (same_upd np2).free np3'
    have n23 : p2 ≠ p3 := fun z => by
      rw [← z, upd_same] at np3'
      cases np3'
    refine ⟨_, rfl, a, xs, rfl, .inl ((sm1.trans ((same_upd np2).trans (same_upd np3'))).seq ha), 1, (xs.length : Int), rfl, ⟨by omega, by omega, by omega, by omega⟩, ?_⟩
    have ek : ((xs.length : Int) - 1).toNat = t.length - 1 := by omega
    refine for_range (lo := 1) (n := ((xs.length : Int) - 1).toNat) (fun i σ H' => (∃ y4 y5 y6 y7, σ = [some (.ref a), some (.ref p1), some (.ref p2), some (.ref p3), y4, y5, y6, y7]) ∧ Same H1 H' ∧ H' p2 = some (.lst (rsV (hg t i))) ∧ H' p3 = some (.lst (rsV (rws t i)))) ?_ ?_ ?_
    · refine ⟨⟨none, none, none, none, rfl⟩, (same_upd np2).trans (same_upd np3'), ?_, ?_⟩
      · rw [upd_ne n23, upd_same, s_empty]
        rfl
      · rw [upd_same]
        unfold rws rsV
        rw [ndAt_of hd0]
        rfl
    · rintro i σ H2 hi ⟨⟨y4, y5, y6, y7, rfl⟩, sm, e2, e3⟩
      have hit : i + 1 < t.length := by omega
      obtain ⟨d, hd⟩ := get_some hit
      have D := PT.nd _ _ hd
      obtain ⟨z, hz, hzd⟩ := ((tu.same sm1).same sm).get hd
      obtain ⟨f0, f1, f2⟩ := PT.elder (Nat.succ_pos i) hd
      have hlt : d.e.toNat < (hg t i).length := by rw [hg_len]; omega
      obtain ⟨b, hb0⟩ := get_some hlt
      have hbf : bf (hg t i) d = b := by unfold bf; rw [List.getD_eq_getElem?_getD, hb0]; rfl
      obtain ⟨bl, _⟩ := PT.hgOk i (by omega) _ _ hb0
      have l8 := PT.lv8 hit
      have f2' : lv d.e.toNat + 1 = lv (i + 1) := f2
      have nl := name_len D
      have ei : (1 : Int) + (i : Int) = ((i + 1 : Nat) : Int) := by omega
      have hla := lasts_get hit
      refine ⟨_, rfl, _, rfl, _, rfl, a, xs, (1 : Int) + (i : Int), .ref z, rfl, rfl, (sm1.trans sm).seq ha, at_of ei hz, z, nv d, 0, .int d.e, rfl, rfl, SqT.of hzd, atI_nat (j := 0) rfl, p2, _, d.e, .str (T b), rfl, rfl, SqL.of e2, at_of (show d.e = ((d.e.toNat : Nat) : Int) by omega) (rsV_get hb0), ?_⟩
      refine ⟨_, rfl, _, _, rfl, rfl, ?_, ?_⟩
      · simp only [s_bar, T_len, List.length_cons, List.length_nil]
        exact small (by omega)
      refine ⟨_, rfl, _, rfl, p1, _, (1 : Int) + (i : Int), .bl (lastB t (i + 1)), rfl, rfl, SqL.of (sm _ _ e1), at_of ei (by rw [List.getElem?_map, hla]; rfl), _, rfl, ifb (fun hb => ?_) (fun hb => ?_)⟩
      · refine ⟨_, rfl, _, _, rfl, rfl, ?_, ?_⟩
        · simp only [s_two, T_len, List.length_cons, List.length_nil]
          exact small (by omega)
        refine ⟨_, rfl, .inl ⟨rfl, _, SqL.of e3⟩, _, rfl, _, rfl, _, _, rfl, rfl, ?_, _, rfl, _, rfl, a, xs, (1 : Int) + (i : Int), .ref z, rfl, rfl, (sm1.trans sm).seq ha, at_of ei hz, z, d, rfl, hzd, D, _, _, rfl, rfl, ?_, p3, _, _, rfl, rfl, e3, ?_, ?_⟩
        · simp only [s_tick, s_plus, T_app, T_len, List.length_append, List.length_cons, List.length_nil]
          exact small (by omega)
        · simp only [s_tick, s_plus, T_app, T_len, List.length_append, List.length_cons, List.length_nil]
          exact small (by omega)
        · rw [rsV_len, rws_len]
          exact small1000 (by omega)
        · have e2' : (upd H2 p3 (.lst (rsV (rws t i) ++ [V.str (T (rowAt b (lastB t (i + 1)) d))]))) p2 = some (.lst (rsV (hg t i))) := by rw [upd_ne n23]; exact e2
          have er : ∀ x, x = V.str (T (rowAt b (lastB t (i + 1)) d)) → upd H2 p3 (.lst (rsV (rws t i) ++ [x])) = upd H2 p3 (.lst (rsV (rws t i) ++ [V.str (T (rowAt b (lastB t (i + 1)) d))])) := fun x q => by rw [q]
          rw [er _ (by simp only [s_tick, s_plus, T_app, rowAt, hb, mark, if_true, Bool.false_eq_true, if_false, List.append_assoc])]
          refine ⟨_, rfl, .inl ⟨rfl, _, SqL.of e2'⟩, _, rfl, p2, _, _, rfl, rfl, e2', ?_, ⟨⟨_, _, _, _, rfl⟩, ?_, ?_, ?_⟩⟩
          · rw [rsV_len, hg_len]
            exact small1000 (by omega)
          · exact same_own (same_own sm np3) np2
          · rw [upd_same]
            rw [hg_succ, rsV_app, ndAt_of hd, hbf]
            simp only [s_two, s_bar, T_app, hb, hang, if_true, Bool.false_eq_true, if_false]
            rfl
          · rw [upd_ne n23.symm, upd_same]
            rw [rws_succ, rsV_app, ndAt_of hd, hbf]
            rfl
      · skip
        refine ⟨_, rfl, .inl ⟨rfl, _, SqL.of e3⟩, _, rfl, _, rfl, _, _, rfl, rfl, ?_, _, rfl, _, rfl, a, xs, (1 : Int) + (i : Int), .ref z, rfl, rfl, (sm1.trans sm).seq ha, at_of ei hz, z, d, rfl, hzd, D, _, _, rfl, rfl, ?_, p3, _, _, rfl, rfl, e3, ?_, ?_⟩
        · simp only [s_tick, s_plus, T_app, T_len, List.length_append, List.length_cons, List.length_nil]
          exact small (by omega)
        · simp only [s_tick, s_plus, T_app, T_len, List.length_append, List.length_cons, List.length_nil]
          exact small (by omega)
        · rw [rsV_len, rws_len]
          exact small1000 (by omega)
        · have e2' : (upd H2 p3 (.lst (rsV (rws t i) ++ [V.str (T (rowAt b (lastB t (i + 1)) d))]))) p2 = some (.lst (rsV (hg t i))) := by rw [upd_ne n23]; exact e2
          have er : ∀ x, x = V.str (T (rowAt b (lastB t (i + 1)) d)) → upd H2 p3 (.lst (rsV (rws t i) ++ [x])) = upd H2 p3 (.lst (rsV (rws t i) ++ [V.str (T (rowAt b (lastB t (i + 1)) d))])) := fun x q => by rw [q]
          rw [er _ (by simp only [s_tick, s_plus, T_app, rowAt, hb, mark, if_true, Bool.false_eq_true, if_false, List.append_assoc])]
          refine ⟨_, rfl, .inl ⟨rfl, _, SqL.of e2'⟩, _, rfl, p2, _, _, rfl, rfl, e2', ?_, ⟨⟨_, _, _, _, rfl⟩, ?_, ?_, ?_⟩⟩
          · rw [rsV_len, hg_len]
            exact small1000 (by omega)
          · exact same_own (same_own sm np3) np2
          · rw [upd_same]
            rw [hg_succ, rsV_app, ndAt_of hd, hbf]
            simp only [s_two, s_bar, T_app, hb, hang, if_true, Bool.false_eq_true, if_false]
            rfl
          · rw [upd_ne n23.symm, upd_same]
            rw [rws_succ, rsV_app, ndAt_of hd, hbf]
            rfl
    · rintro σ H2 ⟨⟨y4, y5, y6, y7, rfl⟩, sm, e2, e3⟩
      refine ⟨_, rfl, q H2 p3 (sm1.trans sm) (sm1.free np3) ?_⟩
      rw [e3, ek]
      rfl
end
end Hr
namespace Hr
open PySem PySem.Spec PyProof.Rows L2
section
variable {P : Program} {w : World} {K : PySem.W.Frag} {mg : Str → Option Value} {base : Heap}

/-! ### guessed_node -/
def spGuess : Sp := fun vs H Q _ => ∃ (a : Addr) (ws : List Int) (row : List Nat) (d : Nd) (l : Nat), vs = [.ref a, .str (T row)] ∧ H a = some (.lst (ws.map V.int)) ∧ RowOk l d row ∧ NdOk d ∧ l ≤ 8 ∧ l ≤ ws.length ∧
  (l = 0 → ws = [] ∧ d.e = -1) ∧ (1 ≤ l → ws[l - 1]? = some d.e) ∧
  ∀ (H' : Hp) (p : Addr), Same H H' → H p = none → H' p = some (.tup (nv d)) → Q (.ref p) H'
theorem ok_guessed_node (G : Gls mg) (Hname_begin : Has P w K mg base 1 "name_begin" ["text"] spBegin) {f : Addr} {fd : FuncData} (F : Fun K "guessed_node" "guessed_node" sguessed_node f fd) : FnOk P w K mg base CX0 2 f fd ["way", "text"] spGuess := by
  refine F.ok scguessed_node (fun vs H Q E h => ?_) (fun cdv A outer s H vs Q E hr h => ?_)
  · obtain ⟨a, ws, row, d, l, rfl, _⟩ := h
    rfl
  · obtain ⟨a, ws, row, d, l, rfl, ha, ro, D, l8, lw, c0, c1, q⟩ := h
    have rl := ro.len D l8
    obtain ⟨pre, er, pl, pn⟩ := ro
    obtain ⟨c, k, hc, hn⟩ : ∃ c k, isL c = true ∧ name d = c :: k := by
      obtain ⟨c, r, _, hc, hn⟩ := D.cons
      exact ⟨c, _, hc, hn⟩
    have lab9 := D.lab.hi
    have tl := D.lo
    have nl : (name d).length = d.lab.length + (d.tall - 1).toNat := by unfold name; rw [List.length_append, List.length_replicate]
    have rl2 : row.length = pre.length + (name d).length := by rw [er, List.length_append]
    refine ⟨_, (pss_cons (ps_set (i := 2) scguessed_node.nd rfl (.inl rfl) (pe_own Hname_begin hr (by decide) (by rfl) (pa_cons (pv 1) pa_nil)))
      (pss_cons (ps_set (i := 3) scguessed_node.nd rfl (.inl rfl) (pe_op op_fdiv (pv 2) pe_int))
      (pss_cons (ps_if (PW.pt (pw_or (pt_cmpR op_gt (pv 3) (pe_callB call_len_seq (by rfl) G.len (by decide +kernel) (pa_cons (pv 0) pa_nil)) (nomark _)) (pw_or1 (PW.pt (pw_and (pt_cmpR (op_neD hr.units) (pv 0) (pe_lst pa_nil) (nomark _)) (pw_and1 (pt_cmpR op_eq (pv 3) pe_int (nomark _)))))))) (pss_one ps_never) pss_nil)
      (pss_cons (ps_set (i := 4) scguessed_node.nd rfl (.inl rfl) (pe_bm PySem.F.plainAttrs_str PySem.F.slot_str_rstrip PySem.F.type_str_rstrip mt_rstripChars (pe_slice sl_str (pv 1) (po_some (pv 2)) po_none) (pa_cons pe_str pa_nil)))
      (pss_cons (ps_set (i := 5) scguessed_node.nd rfl (.inl rfl) (pe_un un_neg pe_int))
      (pss_cons (ps_if (pt_cmpR op_gt (pv 3) pe_int (nomark _)) (pss_one (ps_set (i := 5) scguessed_node.nd rfl (.inl rfl) (pe_ix (r := rIxL K) ix_list (pv 0) (pe_op op_sub (pv 3) pe_int) (fun _ _ => rfl)))) pss_nil)
      (pss_one (ps_ret (pe_tup (pa_cons (pv 5) (pa_cons (pv 4) (pa_cons (pe_op op_sub (pe_op op_sub (pe_op op_add pe_int (pe_callB call_len_str (by rfl) G.len (by decide +kernel) (pa_cons (pv 1) pa_nil))) (pv 2)) (pe_callB call_len_str (by rfl) G.len (by decide +kernel) (pa_cons (pv 4) pa_nil))) pa_nil)))))))))))), ?_⟩
    refine ⟨_, rfl, pre, k, c, by rw [er, hn]; rfl, pn, hc, by rw [← hn, ← er]; omega, ?_⟩
    refine ⟨_, rfl, _, _, rfl, rfl, ⟨by decide, by decide⟩, ?_⟩
    have e2 : ((pre.length : Nat) : Int) / 2 = (l : Int) := by omega
    dsimp only
    rw [e2]
    refine ⟨_, rfl, _, rfl, a, _, rfl, .inl (SqL.of ha), _, _, rfl, rfl, _, rfl, ifN (by rw [List.length_map]; omega) ⟨_, rfl, Nat.zero_le _, fun p0 np0 => ⟨inD ws, inD [], dp_in (SqL.of (same_upd np0 _ _ ha)), dp_in (SqL.of upd_same), shaped_in _, shaped_in _, _, rfl, ?_⟩⟩⟩
    have s0 : Same H (upd H p0 (.lst [])) := same_upd np0
    have key : ∀ (R : Prop), R → (if (!PyData.eqv (inD ws) (inD [])) = true then (tTest (tOp rEq (tVar 3) (tC (.int 0)))) [some (.ref a), some (.str (T row)), some (.int (pre.length : Nat)), some (.int (l : Nat)), none, none] (upd H p0 (.lst [])) (fun b H1 => if b = true then False else R) else (if false = true then False else R)) := fun R r => by
      rw [eqv_in]
      by_cases h0 : ws = []
      · rw [decide_eq_true h0]
        exact iteF (iteF r)
      · rw [decide_eq_false h0]
        refine iteT ⟨_, rfl, rfl, _, rfl, ifN (fun z => ?_) r⟩
        have := V.int.inj z
        exact h0 (c0 (by omega)).1
    refine key _ ?_
    refine ⟨_, rfl, _, rfl, _, rfl, _, rfl, by rw [T_len]; exact small (by omega), rfl, _, _, rfl, rfl, ?_, ?_⟩
    · rw [cutS_from, T_len, List.length_drop]
      exact small (by omega)
    rw [cutS_from, er, List.drop_left, s_colon, rstrip_name D, ← er]
    refine ⟨_, rfl, ?_⟩
    have fin : ∀ z, z = d.e → tSeq tNext (tRet (tTup (tCons (tVar 5) (tCons (tVar 4) (tCons (tOp (rI0 fun i j => .int (i - j)) (tOp (rI0 fun i j => .int (i - j)) (tOp (rI0 fun i j => .int (i + j)) (tC (.int 1)) (tCB (fun xs H Q => ∃ z, xs = [V.str z] ∧ z.length ≤ sizeLine ∧ Q (V.int z.length) H) (tCons (tVar 1) tNil))) (tVar 2)) (tCB (fun xs H Q => ∃ z, xs = [V.str z] ∧ z.length ≤ sizeLine ∧ Q (V.int z.length) H) (tCons (tVar 4) tNil))) tNil)))))
      { nx := fun _ H' => Q .non H', rt := Q } [some (.ref a), some (.str (T row)), some (.int (pre.length : Nat)), some (.int (l : Nat)), some (.str (T d.lab)), some (.int z)] (upd H p0 (.lst [])) := fun z ez => by
      subst ez
      refine ⟨_, rfl, _, rfl, _, rfl, _, rfl, by rw [T_len]; exact small (by omega), _, _, rfl, rfl, _, rfl, _, _, rfl, rfl, _, rfl, _, rfl, by rw [T_len]; exact small (by omega), _, _, rfl, rfl, by show 3 ≤ sizeLine; decide, fun p np => ?_⟩
      refine q _ p (s0.trans (same_upd np)) (s0.free np) ?_
      have e3 : (1 : Int) + ((T row).length : Nat) - ((pre.length : Nat) : Int) - ((T d.lab).length : Nat) = d.tall := by
        rw [T_len, T_len]
        omega
      rw [upd_same]
      dsimp only
      rw [e3]
      rfl
    refine ⟨_, rfl, _, _, rfl, rfl, _, rfl, ite2 (fun c => ?_) (fun c => ?_)⟩
    · have hl : 1 ≤ l := by
        have := of_decide_eq_true c
        omega
      refine ⟨_, rfl, _, rfl, _, _, rfl, rfl, a, _, (l : Int) - 1, .int d.e, rfl, rfl, SqL.of (s0 _ _ ha), at_of (j := l - 1) (by omega) (in_get (c1 hl)), ?_⟩
      exact fin _ rfl
    · have hl : l = 0 := by
        have : ¬ (0 : Int) < (l : Int) := fun z => c (decide_eq_true z)
        omega
      exact fin _ (c0 hl).2.symm

/-! ### made_tree -/
def spMade (K : PySem.W.Frag) : Sp := fun vs H Q _ => ∃ (a : Addr) (xs : List V) (t : List Nd) (W : Nat → List Int) (lv : Nat → Nat), vs = [.ref a] ∧ SqL K H a xs ∧ Tups H xs t ∧ PTree t W lv ∧ 1 ≤ t.length ∧
  ∀ (H' : Hp) (p : Addr), Same H H' → H p = none → H' p = some (.lst xs) → Q (.ref p) H'
theorem ok_made_tree (G : Gls mg) (His_label : Has P w K mg base 1 "is_label" ["label"] spLabel) (Hway_to : Has P w K mg base 1 "way_to" ["way", "elder"] spWay) {f : Addr} {fd : FuncData} (F : Fun K "made_tree" "made_tree" smade_tree f fd) : FnOk P w K mg base CX0 2 f fd ["rows"] (spMade K) := by
  obtain ⟨tN, m_MOST_NODES⟩ := G.nodes
  obtain ⟨tL, m_MOST_LEVEL⟩ := G.level
  obtain ⟨tT, m_MOST_TALL⟩ := G.tall
  refine F.ok scmade_tree (fun vs H Q E h => ?_) (fun cdv A outer s H vs Q E hr h => ?_)
  · obtain ⟨a, xs, t, W, lv, rfl, _⟩ := h
    rfl
  · obtain ⟨a, xs, t, W, lv, rfl, ha, tu, PT, h1, q⟩ := h
    have xl := tu.len
    have t40 := PT.hi
    refine ⟨_, (pss_cons (ps_if (PW.pt (pw_or (pt_cmpR op_lt (pe_callB call_len_seq (by rfl) G.len (by decide +kernel) (pa_cons (pv 0) pa_nil)) pe_int (nomark _)) (pw_or1 (pt_cmpR op_gt (pe_callB call_len_seq (by rfl) G.len (by decide +kernel) (pa_cons (pv 0) pa_nil)) (pe_glob (v := .int 40) rfl m_MOST_NODES ⟨_, rfl⟩) (nomark _))))) (pss_one ps_never) pss_nil)
      (pss_cons (ps_set (i := 1) scmade_tree.nd rfl (.inl rfl) (pe_lst pa_nil))
      (pss_cons (ps_for PassesOwn.never rfl (pi_enum (by rfl) G.enumerate (pa_cons (pv 0) pa_nil)) (pg_tup rfl (pgs_cons (pg_name (i := 2) scmade_tree.nd rfl (.inl rfl)) (pgs_cons (pg_name (i := 3) scmade_tree.nd rfl (.inl rfl)) pgs_nil)))
        (pss_cons (ps_asg (pv 3) (pg_tup rfl (pgs_cons (pg_name (i := 4) scmade_tree.nd rfl (.inl rfl)) (pgs_cons (pg_name (i := 5) scmade_tree.nd rfl (.inl rfl)) (pgs_cons (pg_name (i := 6) scmade_tree.nd rfl (.inl rfl)) pgs_nil)))))
        (pss_cons (ps_if (PW.pt (pw_or (pt_not (pt_val (pe_own His_label hr (by decide) (by rfl) (pa_cons (pv 5) pa_nil)))) (pw_or (pt_cmpR op_lt (pv 6) pe_int (nomark _)) (pw_or1 (pt_cmpR op_gt (pv 6) (pe_glob (v := .int 9) rfl m_MOST_TALL ⟨_, rfl⟩) (nomark _)))))) (pss_one ps_never) pss_nil)
        (pss_cons (ps_set (i := 1) scmade_tree.nd rfl (.inl rfl) (pe_own Hway_to hr (by decide) (by rfl) (pa_cons (pv 1) (pa_cons (pv 4) pa_nil))))
        (pss_cons (ps_if (PW.pt (pw_and (pt_cmpR (op_eqD hr.units) (pv 1) (pe_lst pa_nil) (nomark _)) (pw_and1 (PW.pt (pw_or (pt_cmpR op_gt (pv 2) pe_int (nomark _)) (pw_or1 (pt_cmpR op_ne (pv 4) (pe_un un_neg pe_int) (nomark _)))))))) (pss_one ps_never) pss_nil)
        (pss_cons (ps_if (pt_cmpR op_gt (pe_callB call_len_seq (by rfl) G.len (by decide +kernel) (pa_cons (pv 1) pa_nil)) (pe_glob (v := .int 8) rfl m_MOST_LEVEL ⟨_, rfl⟩) (nomark _)) (pss_one ps_never) pss_nil)
        (pss_one (ps_set (i := 1) scmade_tree.nd rfl (.inl rfl) (pe_op op_cat (pv 1) (pe_lst (pa_cons (pv 2) pa_nil)))))))))))
      (pss_one (ps_ret (pe_callTy call_list_of (by rfl) G.list (by decide +kernel) (pa_cons (pv 0) pa_nil))))))), ?_⟩
    refine ⟨_, rfl, a, xs, rfl, .inl ha, _, _, rfl, rfl, _, rfl, ifN (by omega) ⟨_, rfl, a, xs, rfl, .inl ha, _, _, rfl, rfl, _, rfl, ifN (by omega) ?_⟩⟩
    refine ⟨Nat.zero_le _, fun p1 np1 => ?_⟩
    have s1 : Same H (upd H p1 (.lst [])) := same_upd np1
    refine ⟨_, rfl, a, xs, rfl, s1.seq ha, for_it walk_enum (fun i σ H' => (∃ q y2 y3 y4 y5 y6, σ = [some (.ref a), some (.ref q), y2, y3, y4, y5, y6] ∧ H' q = some (.lst ((W i).map V.int))) ∧ Same H H') ?_ (fun i σ H' _ ⟨_, sm⟩ => sm.seq ha) ?_ ?_⟩
    · refine ⟨⟨p1, none, none, none, none, none, rfl, ?_⟩, s1⟩
      rw [upd_same, PT.w0]
      rfl
    · rintro i x σ H1 H2 hi ⟨⟨wy, y2, y3, y4, y5, y6, rfl, ew⟩, sm⟩ ⟨tp, x1, x2, rfl, nt, rfl, e1, e2⟩
      obtain rfl := Option.some.inj e1
      have e2 : xs[i]? = some x2 := e2
      have smT := same_upd (o := .tup [V.int (i : Nat), x2]) nt
      have hit : i < t.length := by omega
      obtain ⟨d, z, hd, rfl, hz⟩ := (tu.same (sm.trans smT)).getV e2
      have D := PT.nd _ _ hd
      have d1 := D.lo
      have d9 := D.hi
      have l8 := PT.lv8 hit
      have wl := PT.wlen hit
      have lle := PT.lvle hit
      have sm2 := sm.trans smT
      refine ⟨tp, _, rfl, SqT.of upd_same, rfl, _, _, rfl, _, _, rfl, rfl, ?_⟩
      refine ⟨_, rfl, z, _, rfl, SqT.of hz, rfl, _, _, rfl, _, _, rfl, _, _, rfl, rfl, ?_⟩
      refine ⟨_, rfl, d.lab, rfl, D.lab, true, rfl, iteF ⟨_, rfl, _, _, rfl, rfl, _, rfl, ifN (by omega) ⟨_, rfl, _, _, rfl, rfl, _, rfl, ifN (by omega) ?_⟩⟩⟩
      refine ⟨_, rfl, _, rfl, wy, W i, d.e, (W i).take (lv i), rfl, smT _ _ ew, fun j hj _ => ?_, fun no => ?_, fun H3 p2 sm3 np2 ep2 => ?_⟩
      · by_cases h0 : i = 0
        · subst h0
          rw [PT.w0] at hj
          simp at hj
        · obtain ⟨f0, _, f1⟩ := PT.eld i d (by omega) hd
          have := PT.first (Nat.le_of_lt hit) hj f1
          rw [this, Nat.sub_add_cancel f0]
      · by_cases h0 : i = 0
        · subst h0
          rw [PT.w0]
          simp
        · obtain ⟨f0, _, f1⟩ := PT.eld i d (by omega) hd
          exact absurd f1 (no _)
      · refine ⟨_, rfl, Nat.zero_le _, fun p3 np3 => ⟨inD ((W i).take (lv i)), inD [], dp_in (SqL.of (same_upd np3 _ _ ep2)), dp_in (SqL.of upd_same), shaped_in _, shaped_in _, _, rfl, ?_⟩⟩
        rw [eqv_in]
        have tkl : ((W i).take (lv i)).length = lv i := by rw [List.length_take]; omega
        refine ite2 (fun c => ?_) (fun c => iteF ?_)
        · have c' : (W i).take (lv i) = [] := of_decide_eq_true c
          have l0 : lv i = 0 := by rw [← tkl, c']; rfl
          have i0 : i = 0 := by
            by_cases h0 : i = 0
            · exact h0
            · have := (PT.eld i d (by omega) hd).1
              omega
          subst i0
          have de := PT.root d hd
          refine ⟨_, rfl, _, _, rfl, rfl, _, rfl, ifN (by omega) ⟨_, rfl, _, rfl, rfl, _, rfl, ?_⟩⟩
          rw [decide_eq_true (show V.int d.e = V.int (-1) by rw [de])]
          refine iteF ?_
          refine ⟨_, rfl, p2, _, rfl, .inl (SqL.of (same_upd np3 _ _ ep2)), _, _, rfl, rfl, _, rfl, ifN (by rw [List.length_map]; omega) ?_⟩
          refine ⟨_, rfl, _, rfl, by show 1 ≤ sizeLine; decide, fun p4 np4 => ⟨p2, p4, _, _, rfl, rfl, same_upd np4 _ _ (same_upd np3 _ _ ep2), upd_same, ?_, fun p5 np5 => ?_⟩⟩
          · rw [List.length_map]
            exact small (by simp only [List.length_cons, List.length_nil]; omega)
          · refine ⟨⟨p5, _, _, _, _, _, rfl, ?_⟩, (((sm2.trans sm3).trans (same_upd np3)).trans (same_upd np4)).trans (same_upd np5)⟩
            rw [upd_same, PT.step _ hit, List.map_append]
            rfl
        · skip
          refine ⟨_, rfl, p2, _, rfl, .inl (SqL.of (same_upd np3 _ _ ep2)), _, _, rfl, rfl, _, rfl, ifN (by rw [List.length_map]; omega) ?_⟩
          refine ⟨_, rfl, _, rfl, by show 1 ≤ sizeLine; decide, fun p4 np4 => ⟨p2, p4, _, _, rfl, rfl, same_upd np4 _ _ (same_upd np3 _ _ ep2), upd_same, ?_, fun p5 np5 => ?_⟩⟩
          · rw [List.length_map]
            exact small (by simp only [List.length_cons, List.length_nil]; omega)
          · refine ⟨⟨p5, _, _, _, _, _, rfl, ?_⟩, (((sm2.trans sm3).trans (same_upd np3)).trans (same_upd np4)).trans (same_upd np5)⟩
            rw [upd_same, PT.step _ hit, List.map_append]
            rfl
    · rintro σ H1 ⟨⟨wy, y2, y3, y4, y5, y6, rfl, ew⟩, sm⟩
      refine ⟨_, rfl, a, xs, rfl, .inl (sm.seq ha), fun p np => q _ p (sm.trans (same_upd np)) (sm.free np) upd_same⟩
end
end Hr
namespace Hr
open PySem PySem.Spec PyProof.Rows L2
section
variable {P : Program} {w : World} {K : PySem.W.Frag} {mg : Str → Option Value} {base : Heap}

/-! ### read_hung -/
def spRead (K : PySem.W.Frag) : Sp := fun vs H Q _ => ∃ (a : Addr) (t : List Nd) (W : Nat → List Int) (lv : Nat → Nat), vs = [.ref a] ∧ SqL K H a (rsV (hung t)) ∧ PTree t W lv ∧ 1 ≤ t.length ∧
  ∀ (H' : Hp) (p : Addr) (xs : List V), Same H H' → H p = none → H' p = some (.lst xs) → Tups H' xs t → Q (.ref p) H'
theorem ok_read_hung (G : Gls mg) (Hguessed_node : Has P w K mg base 2 "guessed_node" ["way", "text"] spGuess) (Hname_begin : Has P w K mg base 1 "name_begin" ["text"] spBegin) (Hmade_tree : Has P w K mg base 2 "made_tree" ["rows"] (spMade K))
    (Hhung_rows : Has P w K mg base 4 "hung_rows" ["tree"] (spHung K)) {f : Addr} {fd : FuncData} (F : Fun K "read_hung" "read_hung" sread_hung f fd) : FnOk P w K mg base CX0 5 f fd ["rows"] (spRead K) := by
  refine F.ok scread_hung (fun vs H Q E h => ?_) (fun cdv A outer s H vs Q E hr h => ?_)
  · obtain ⟨a, t, W, lv, rfl, _⟩ := h
    rfl
  · obtain ⟨a, t, W, lv, rfl, ha, PT, h1, q⟩ := h
    have t40 := PT.hi
    have hl := hung_len h1
    refine ⟨_, (pss_cons (ps_set (i := 1) scread_hung.nd rfl (.inl rfl) (pe_lst pa_nil))
      (pss_cons (ps_set (i := 2) scread_hung.nd rfl (.inl rfl) (pe_lst pa_nil))
      (pss_cons (ps_for PassesOwn.never rfl (pi_enum (by rfl) G.enumerate (pa_cons (pv 0) pa_nil)) (pg_tup rfl (pgs_cons (pg_name (i := 3) scread_hung.nd rfl (.inl rfl)) (pgs_cons (pg_name (i := 4) scread_hung.nd rfl (.inl rfl)) pgs_nil)))
        (pss_cons (ps_set (i := 5) scread_hung.nd rfl (.inl rfl) (pe_own Hguessed_node hr (by decide) (by rfl) (pa_cons (pv 2) (pa_cons (pv 4) pa_nil))))
        (pss_cons (ps_set (i := 2) scread_hung.nd rfl (.inl rfl) (pe_op op_cat (pe_slice sl_list (pv 2) po_none (po_some (pe_op op_fdiv (pe_own Hname_begin hr (by decide) (by rfl) (pa_cons (pv 4) pa_nil)) pe_int))) (pe_lst (pa_cons (pv 3) pa_nil))))
        (pss_one (ps_expr (pe_bm PySem.F.plainAttrs_list PySem.F.slot_list_append PySem.F.type_list_append mt_append (pv 1) (pa_cons (pv 5) pa_nil)))))))
      (pss_cons (ps_try_thru0 (pss_one (ps_set (i := 6) scread_hung.nd rfl (.inl rfl) (pe_own Hmade_tree hr (by decide) (by rfl) (pa_cons (pv 1) pa_nil)))))
      (pss_cons (ps_if (pt_cmpR (op_neD hr.units) (pe_own Hhung_rows hr (by decide) (by rfl) (pa_cons (pv 6) pa_nil)) (pv 0) (nomark _)) (pss_one ps_never) pss_nil)
      (pss_one (ps_ret (pv 6)))))))), ?_⟩
    refine ⟨Nat.zero_le _, fun p1 np1 => ?_⟩
    refine ⟨Nat.zero_le _, fun p2 np2' => ?_⟩
    have s1 : Same H (upd H p1 (.lst [])) := same_upd np1
    have s2 : Same H (upd (upd H p1 (.lst [])) p2 (.lst [])) := s1.trans (same_upd np2')
    have n12 : p1 ≠ p2 := fun z => by
      rw [← z, upd_same] at np2'
      cases np2'
    refine ⟨_, rfl, a, _, rfl, s2.seq ha, for_it walk_enum (fun i σ H' => (∃ wy y3 y4 y5 y6, σ = [some (.ref a), some (.ref p1), some (.ref wy), y3, y4, y5, y6] ∧ H' wy = some (.lst ((W i).map V.int)) ∧ wy ≠ p1) ∧ (∃ gs, H' p1 = some (.lst gs) ∧ Tups H' gs (t.take i)) ∧ Same H H') ?_ (fun i σ H' _ ⟨_, _, sm⟩ => sm.seq ha) ?_ ?_⟩
    · refine ⟨⟨p2, none, none, none, none, rfl, ?_, n12.symm⟩, ⟨[], ?_, .nil⟩, s2⟩
      · rw [upd_same, PT.w0]
        rfl
      · rw [upd_ne n12, upd_same]
    · rintro i x σ H1 H2 hi ⟨⟨wy, y3, y4, y5, y6, rfl, ew, nw⟩, ⟨gs, eg, tg⟩, sm⟩ ⟨tp, x1, x2, rfl, nt, rfl, e1, e2⟩
      obtain rfl := Option.some.inj e1
      have e2 : (rsV (hung t))[i]? = some x2 := e2
      obtain ⟨row, hrow, rfl⟩ := rsV_of e2
      have smT := same_upd (o := .tup [V.int (i : Nat), V.str (T row)]) nt
      obtain ⟨d, hd, ro⟩ := PT.hungAt h1 hrow
      have hit := get_lt hd
      have D := PT.nd _ _ hd
      have l8 := PT.lv8 hit
      have wl := PT.wlen hit
      have lle := PT.lvle hit
      have rl := ro.len D l8
      obtain ⟨pre, er, pl, pn⟩ := id ro
      obtain ⟨c, k, hc, hn⟩ : ∃ c k, isL c = true ∧ name d = c :: k := by
        obtain ⟨c, r, _, hc, hn⟩ := D.cons
        exact ⟨c, _, hc, hn⟩
      have gl := tg.len
      rw [List.length_take] at gl
      refine ⟨tp, _, rfl, SqT.of upd_same, rfl, _, _, rfl, _, _, rfl, rfl, ?_⟩
      refine ⟨_, rfl, _, rfl, wy, W i, row, d, lv i, rfl, smT _ _ ew, ro, D, l8, lle, fun h0 => ?_, fun h0 => ?_, fun H3 p3 sm3 np3 e3 => ?_⟩
      · by_cases i0 : i = 0
        · subst i0
          exact ⟨PT.w0, PT.root d hd⟩
        · have := (PT.eld i d (by omega) hd).1
          omega
      · by_cases i0 : i = 0
        · subst i0
          rw [PT.lv0] at h0
          omega
        · exact (PT.eld i d (by omega) hd).2.2
      · have ew3 := sm3 _ _ (smT _ _ ew)
        have eg3 := sm3 _ _ (smT _ _ eg)
        have eh : ((pre.length : Nat) : Int) / 2 = ((lv i : Nat) : Int) := by omega
        refine ⟨_, rfl, _, rfl, pre, k, c, by rw [er, hn]; rfl, pn, hc, by rw [← hn, ← er]; omega, _, _, rfl, rfl, ⟨by decide, by decide⟩, _, rfl, wy, _, rfl, SqL.of ew3, fun p4 np4 => ?_⟩
        refine ⟨_, rfl, by show 1 ≤ sizeLine; decide, fun p5 np5 => ⟨p4, p5, _, _, rfl, rfl, same_upd np5 _ _ upd_same, upd_same, ?_, fun p6 np6 => ?_⟩⟩
        · have := cutV_length ((W i).map V.int) none (some (((pre.length : Nat) : Int) / 2))
          rw [List.length_map] at this
          have wi : (W i).length ≤ 9 := by
            by_cases i0 : i = 0
            · subst i0; rw [PT.w0]; exact Nat.zero_le _
            · have a1 := PT.wlen (show i - 1 < t.length by omega)
              have a2 := PT.lv8 (show i - 1 < t.length by omega)
              rw [Nat.sub_add_cancel (by omega)] at a1
              omega
          exact small (by simp only [List.length_cons, List.length_nil]; omega)
        · have smH3 := (((same_upd (o := .lst (cutV ((W i).map V.int) none (some (((pre.length : Nat) : Int) / 2)))) np4).trans (same_upd (o := .lst [V.int (i : Nat)]) np5)).trans (same_upd (o := .lst (cutV ((W i).map V.int) none (some (((pre.length : Nat) : Int) / 2)) ++ [V.int (i : Nat)])) np6))
          have eg6 := smH3 _ _ eg3
          have e36 := smH3 _ _ e3
          have n61 : p6 ≠ p1 := fun z => by
            have := smH3.free (l := p6)
            rw [z] at np6
            have q1 := (same_upd (o := .lst [V.int (i : Nat)]) np5) _ _ ((same_upd (o := .lst (cutV ((W i).map V.int) none (some (((pre.length : Nat) : Int) / 2)))) np4) _ _ eg3)
            rw [q1] at np6
            cases np6
          refine ⟨_, rfl, .inl ⟨rfl, _, SqL.of eg6⟩, _, rfl, p1, _, _, rfl, rfl, eg6, small1000 (by omega), ⟨p6, _, _, _, _, rfl, ?_, n61⟩, ⟨_, upd_same, ?_⟩, ?_⟩
          · rw [upd_ne n61, upd_same, eh, cutV_to, PT.step _ hit, List.map_append, List.map_take]
            rfl
          · rw [List.take_add_one, hd]
            exact Tups.upd ((((tg.same smT).same sm3).same smH3).push e36) eg6
          · exact same_own (((sm.trans smT).trans sm3).trans smH3) np1
    · rintro σ H1 ⟨⟨wy, y3, y4, y5, y6, rfl, ew, nw⟩, ⟨gs, eg, tg⟩, sm⟩
      rw [rsV_len, hl, List.take_length] at tg
      refine ⟨_, rfl, p1, gs, t, W, lv, rfl, SqL.of eg, tg, PT, h1, fun H2 p7 sm2 np7 e7 => ?_⟩
      refine ⟨_, rfl, p7, gs, t, W, lv, rfl, SqL.of e7, tg.same sm2, PT, h1, fun H3 p8 sm3 np8 e8 => ?_⟩
      refine ⟨_, rfl, rsD (hung t), rsD (hung t), dp_rs (SqL.of e8), dp_rs ((sm.trans (sm2.trans sm3)).seq ha), shaped_rs (PTree.lowR PT h1), shaped_rs (PTree.lowR PT h1), _, rfl, ?_⟩
      rw [eqv_rs, decide_eq_true rfl]
      refine iteF ⟨_, rfl, q H3 p7 gs (sm.trans (sm2.trans sm3)) (sm.free np7) (sm3 _ _ e7) ((tg.same sm2).same sm3)⟩
end
end Hr
namespace Hr
open PySem PySem.Spec PyProof.Rows L2
section
variable {P : Program} {w : World} {K : PySem.W.Frag} {mg : Str → Option Value} {base : Heap}

theorem modin (x : Int) {m : Int} (h : 0 < m) : 0 ≤ x % m ∧ x % m < m := ⟨Int.emod_nonneg x (by omega), Int.emod_lt_of_pos x h⟩
theorem cmod (x y : Int) {m : Int} (h : 0 < m) (h2 : m ≤ 2 ^ 63) : CMul (x % m) y := by
  have := modin x h
  exact .inl ⟨by omega, by omega⟩
theorem ix_mod {α : Type} {xs : List α} {x : Int} {n : Nat} (hn : xs.length = n) (h : 0 < n) : ∃ (j : Nat) (v : α), x % (n : Int) = (j : Int) ∧ j < n ∧ xs[j]? = some v := by
  have := modin x (show (0 : Int) < (n : Int) by omega)
  obtain ⟨v, hv⟩ := get_some (l := xs) (i := (x % (n : Int)).toNat) (by omega)
  exact ⟨_, v, by omega, by omega, hv⟩

theorem at_of' {α : Type} {xs : List α} {z : Int} {j : Nat} {v : α} (e : z = (j : Int)) (h : xs[j]? = some v) : atI xs z = some v := by
  rw [e]
  exact atI_nat h

theorem push_in {H : Hp} {p : Addr} {ds : List Int} {x : Int} : (upd H p (.lst (ds.map V.int ++ [V.int x]))) p = some (.lst ((ds ++ [x]).map V.int)) := by
  rw [upd_same, List.map_append]
  rfl

/-! ### _law_draws -/
def spDraws (K : PySem.W.Frag) : Sp := fun vs H Q _ => ∃ (a : Addr) (ns : List Int) (n : Int), vs = [.ref a, .int n] ∧ SqL K H a (ns.map V.int) ∧ 0 ≤ n ∧ n ≤ 1000 ∧
  ∀ ds : List Int, ds.length = n.toNat → ∀ (H' : Hp) (p : Addr), Same H H' → H p = none → H' p = some (.lst (ds.map V.int)) → Q (.ref p) H'
theorem ok_law_draws (G : Gls mg) {f : Addr} {fd : FuncData} (F : Fun K "_law_draws" "_law_draws" s_law_draws f fd) : FnOk P w K mg base CX0 1 f fd ["_law_script", "_law_many"] (spDraws K) := by
  refine F.ok sc_law_draws (fun vs H Q E h => ?_) (fun cdv A outer s H vs Q E hr h => ?_)
  · obtain ⟨a, ns, n, rfl, _⟩ := h
    rfl
  · obtain ⟨a, ns, n, rfl, ha, hn0, hn1, q⟩ := h
    refine ⟨_, (pss_cons (ps_set (i := 2) sc_law_draws.nd rfl (.inl rfl) (pe_op op_cat (pe_slice sl_list (pv 0) po_none (po_some pe_int)) (pe_op op_rep (pe_lst (pa_cons pe_int pa_nil)) (pe_callTy call_int1 (by rfl) G.int (by decide +kernel) (pa_cons (pe_cmpR (op_eqD hr.units) (pv 0) (pe_lst pa_nil) (nomark _)) pa_nil)))))
      (pss_cons (ps_set (i := 3) sc_law_draws.nd rfl (.inl rfl) (pe_lst pa_nil))
      (pss_cons (ps_if (pt_cmpR op_eq (pe_op op_mod (pe_ix (r := rIxL K) ix_list (pv 2) pe_int (fun _ _ => rfl)) pe_int) pe_int (nomark _)) (pss_cons (ps_set (i := 4) sc_law_draws.nd rfl (.inl rfl) (pe_op op_cat (pe_lst (pa_cons (pe_op op_fdiv (pe_ix (r := rIxL K) ix_list (pv 2) pe_int (fun _ _ => rfl)) pe_int) pa_nil)) (pe_slice sl_list (pv 2) (po_some pe_int) po_none)))
        (pss_cons (ps_for PassesOwn.never rfl (pi_range1 (by rfl) G.range (pa_cons (pv 1) pa_nil)) (pg_name (i := 5) sc_law_draws.nd rfl (.inl rfl))
          (pss_cons (ps_set (i := 6) sc_law_draws.nd rfl (.inl rfl) (pe_op op_mod (pv 5) (pe_callB call_len_seq (by rfl) G.len (by decide +kernel) (pa_cons (pv 4) pa_nil))))
          (pss_cons (ps_expr (pe_bm PySem.F.plainAttrs_list PySem.F.slot_list_append PySem.F.type_list_append mt_append (pv 3) (pa_cons (pe_op op_mod (pe_ix (r := rIxL K) ix_list (pv 4) (pv 6) (fun _ _ => rfl)) (pe_op op_pow pe_int pe_int)) pa_nil)))
          (pss_one (ps_asg (pe_op op_fdivW (pe_ix (r := rIxL K) ix_list (pv 4) (pv 6) (fun _ _ => rfl)) (pe_op op_pow pe_int pe_int)) (pg_sub (pv 4) (pv 6) set_list))))))
        (pss_one (ps_ret (pv 3))))) pss_nil)
      (pss_cons (ps_for PassesOwn.never rfl (pi_range1 (by rfl) G.range (pa_cons (pv 1) pa_nil)) (pg_name (i := 5) sc_law_draws.nd rfl (.inl rfl))
        (pss_cons (ps_set (i := 7) sc_law_draws.nd rfl (.inl rfl) (pe_ix (r := rIxL K) ix_list (pv 2) (pe_op op_mod (pv 5) (pe_callB call_len_seq (by rfl) G.len (by decide +kernel) (pa_cons (pv 2) pa_nil))) (fun _ _ => rfl)))
        (pss_cons (ps_set (i := 8) sc_law_draws.nd rfl (.inl rfl) (pe_op op_mod (pe_op op_add (pe_op op_add (pe_op op_add (pe_op op_mul (pv 7) pe_int) (pe_op op_mul (pe_op op_mul (pv 5) (pv 5)) pe_int)) (pe_op op_mul pe_int (pv 5))) pe_int) pe_int))
        (pss_cons (ps_set (i := 9) sc_law_draws.nd rfl (.inl rfl) (pe_op op_mod (pe_op op_add (pe_op op_mul (pv 8) (pv 8)) (pe_op op_mul (pv 5) pe_int)) pe_int))
        (pss_one (ps_expr (pe_bm PySem.F.plainAttrs_list PySem.F.slot_list_append PySem.F.type_list_append mt_append (pv 3) (pa_cons (pe_op op_add (pe_op op_mul (pe_op op_mod (pe_op op_mul (pv 8) (pv 9)) pe_int) pe_int) (pv 9)) pa_nil))))))))
      (pss_one (ps_ret (pv 3))))))), ?_⟩
    have c63 := cutV_length (ns.map V.int) none (some 63)
    have c63' : (cutV (ns.map V.int) none (some 63)).length ≤ 63 := by
      rw [show (63 : Int) = ((63 : Nat) : Int) from rfl, cutV_to, List.length_take]
      omega
    refine ⟨_, rfl, 63, rfl, a, _, rfl, ha, fun p1 np1 => ⟨by show 1 ≤ sizeLine; decide, fun p2 np2 => ⟨_, rfl, Nat.zero_le _, fun p3 np3 => ⟨inD ns, inD [], dp_in ((((same_upd np1).trans (same_upd np2)).trans (same_upd np3)).seq ha), dp_in (SqL.of upd_same), shaped_in _, shaped_in _, .inr ⟨_, rfl,
      p2, _, _, rfl, rfl, same_upd np3 _ _ upd_same, ?_, ?_, ?_, fun p4 np4 => ⟨p1, p4, _, _, rfl, rfl, same_upd np4 _ _ (same_upd np3 _ _ (same_upd np2 _ _ upd_same)), upd_same, ?_, fun p5 np5 => ?_⟩⟩⟩⟩⟩⟩
    · cases PyData.eqv (inD ns) (inD []) <;> decide
    · cases PyData.eqv (inD ns) (inD []) <;> decide
    · cases PyData.eqv (inD ns) (inD [])
      · show 1 * 0 ≤ sizeLine
        decide
      · show 1 * 1 ≤ sizeLine
        decide
    · have : (List.replicate (if PyData.eqv (inD ns) (inD []) = true then (1 : Int) else 0).toNat [V.int 0]).flatten.length ≤ 1 := by
        cases PyData.eqv (inD ns) (inD []) <;> decide
      exact small (by omega)
    obtain ⟨cs, hcs, hc1⟩ : ∃ cs : List Int, cutV (ns.map V.int) none (some 63) ++ (List.replicate (if PyData.eqv (inD ns) (inD []) = true then (1 : Int) else 0).toNat [V.int 0]).flatten = cs.map V.int ∧ 0 < cs.length := by
      rw [eqv_in, show (63 : Int) = ((63 : Nat) : Int) from rfl, cutV_to]
      by_cases h0 : ns = []
      · subst h0
        exact ⟨[0], by simp, by simp⟩
      · refine ⟨ns.take 63, by simp [h0, List.map_take], ?_⟩
        have := List.length_pos_iff.mpr h0
        rw [List.length_take]
        omega
    rw [hcs]
    have s5 : Same H (upd (upd (upd (upd (upd H p1 (.lst (cutV (ns.map V.int) none (some 63)))) p2 (.lst [V.int 0])) p3 (.lst [])) p4 (.lst (List.replicate (if PyData.eqv (inD ns) (inD []) = true then (1 : Int) else 0).toNat [V.int 0]).flatten)) p5 (.lst (cs.map V.int))) :=
      ((((same_upd np1).trans (same_upd np2)).trans (same_upd np3)).trans (same_upd np4)).trans (same_upd np5)
    generalize he5 : (upd (upd (upd (upd (upd H p1 (.lst (cutV (ns.map V.int) none (some 63)))) p2 (.lst [V.int 0])) p3 (.lst [])) p4 (.lst (List.replicate (if PyData.eqv (inD ns) (inD []) = true then (1 : Int) else 0).toNat [V.int 0]).flatten)) p5 (.lst (cs.map V.int))) = H5 at s5 ⊢
    have e5 : H5 p5 = some (.lst (cs.map V.int)) := by rw [← he5, upd_same]
    refine ⟨Nat.zero_le _, fun p6 np6 => ?_⟩
    have s6 := same_upd (o := .lst []) np6
    obtain ⟨c0, hc0⟩ := get_some hc1
    refine ⟨_, rfl, p5, _, 0, .int c0, rfl, rfl, SqL.of (s6 _ _ e5), atI_nat (j := 0) (in_get hc0), _, _, rfl, rfl, (by show (0 : Int) < 2; decide), rfl, _, rfl, ite2 (fun _ => ?_) (fun _ => ?_)⟩
    · refine ⟨_, rfl, p5, _, 0, .int c0, rfl, rfl, SqL.of (s6 _ _ e5), atI_nat (j := 0) (in_get hc0), _, _, rfl, rfl, ⟨by decide, by decide⟩, by show 1 ≤ sizeLine; decide, fun p7 np7 => ?_⟩
      have s7 := s6.trans (same_upd (o := .lst [V.int (c0 / 2)]) np7)
      refine ⟨_, rfl, 1, rfl, p5, _, rfl, SqL.of (s7 _ _ e5), fun p8 np8 => ⟨p7, p8, _, _, rfl, rfl, same_upd np8 _ _ upd_same, upd_same, ?_, fun p9 np9 => ?_⟩⟩
      · have := cutV_length (cs.map V.int) (some 1) none
        have h5 : (cs.map V.int).length ≤ 64 := by
          rw [← hcs, List.length_append]
          have : (List.replicate (if PyData.eqv (inD ns) (inD []) = true then (1 : Int) else 0).toNat [V.int 0]).flatten.length ≤ 1 := by
            cases PyData.eqv (inD ns) (inD []) <;> decide
          omega
        exact small (by simp only [List.length_cons, List.length_nil]; omega)
      have s8 := s7.trans (same_upd (o := .lst (cutV (cs.map V.int) (some 1) none)) np8)
      have s9 := s8.trans (same_upd (o := .lst ([V.int (c0 / 2)] ++ cutV (cs.map V.int) (some 1) none)) np9)
      have n6 : H p6 = none := s5.free np6
      have e6' : (upd (upd (upd H5 p6 (.lst [])) p7 (.lst [V.int (c0 / 2)])) p8 (.lst (cutV (cs.map V.int) (some 1) none))) p6 = some (.lst []) := same_upd np8 _ _ (same_upd np7 _ _ upd_same)
      have n96 : p6 ≠ p9 := ne_of_none e6' np9
      have n9 : H p9 = none := (s5.trans s8).free np9
      refine ⟨_, rfl, n, rfl, by omega, by omega, for_range (lo := 0) (n := n.toNat) (fun i σ H' => (∃ y5 y6, σ = [some (.ref a), some (.int n), some (.ref p5), some (.ref p6), some (.ref p9), y5, y6, none, none, none]) ∧ Same H H' ∧ (∃ ds : List Int, ds.length = i ∧ H' p6 = some (.lst (ds.map V.int))) ∧ (∃ ls : List Int, 0 < ls.length ∧ H' p9 = some (.lst (ls.map V.int)))) ?_ ?_ ?_⟩
      · refine ⟨⟨none, none, rfl⟩, s5.trans s9, ⟨[], rfl, same_upd np9 _ _ e6'⟩, ⟨(c0 / 2) :: cs.drop 1, Nat.succ_pos _, ?_⟩⟩
        rw [upd_same, show (1 : Int) = ((1 : Nat) : Int) from rfl, cutV_from, ← List.map_drop]
        rfl
      · rintro i σ H1 hi ⟨⟨y5, y6, rfl⟩, sm, ⟨ds, dl, e6⟩, ⟨ls, ll, e9⟩⟩
        obtain ⟨j, v, hj, hj2, hv⟩ := ix_mod (xs := ls) (x := (0 : Int) + (i : Int)) rfl ll
        have hjm : ((0 : Int) + (i : Int)) % (((ls.map V.int).length : Nat) : Int) = (j : Int) := by rw [List.length_map]; exact hj
        refine ⟨_, rfl, _, rfl, p9, _, rfl, .inl (SqL.of e9), _, _, rfl, rfl, by rw [List.length_map]; omega, ?_⟩
        dsimp only
        rw [hjm]
        refine ⟨_, rfl, .inl ⟨rfl, _, SqL.of e6⟩, _, rfl, _, rfl, p9, _, _, .int v, rfl, rfl, SqL.of e9, atI_nat (in_get hv), _, _, rfl, rfl, ⟨by decide, by decide, by decide⟩, _, _, rfl, rfl, (by show (0 : Int) < 10 ^ (30 : Int).toNat; decide +kernel), p6, _, _, rfl, rfl, e6, by rw [List.length_map]; exact small1000 (by omega), ?_⟩
        have e9' : ∀ o, (upd H1 p6 o) p9 = some (.lst (ls.map V.int)) := fun o => by rw [upd_ne n96.symm]; exact e9
        refine ⟨_, rfl, _, rfl, p9, _, _, .int v, rfl, rfl, SqL.of (e9' _), atI_nat (in_get hv), _, _, rfl, rfl, ⟨by decide, by decide, by decide⟩, _, _, rfl, rfl, ⟨by decide +kernel, by decide +kernel⟩, _, rfl, _, rfl, p9, _, _, j, rfl, rfl, e9' _, ?_, ⟨_, _, rfl⟩, same_own (same_own sm n6) n9, ?_, ?_⟩
        · unfold ixN
          rw [List.length_map, if_pos (by omega), if_pos (by omega), Int.toNat_natCast]
        · refine ⟨ds ++ [v % 10 ^ (30 : Int).toNat], by rw [List.length_append, dl]; rfl, ?_⟩
          rw [upd_ne n96, upd_same, List.map_append]
          rfl
        · refine ⟨ls.set j (v / 10 ^ (30 : Int).toNat), by rw [List.length_set]; exact ll, ?_⟩
          rw [upd_same, List.map_set]
      · rintro σ H1 ⟨⟨y5, y6, rfl⟩, sm, ⟨ds, dl, e6⟩, _⟩
        exact ⟨_, rfl, q ds dl H1 p6 sm n6 e6⟩
    · have n6 : H5 p6 = none := np6
      refine ⟨_, rfl, n, rfl, by omega, by omega, for_range (lo := 0) (n := n.toNat) (fun i σ H' => (∃ y5 y7 y8 y9, σ = [some (.ref a), some (.int n), some (.ref p5), some (.ref p6), none, y5, none, y7, y8, y9]) ∧ Same H5 H' ∧ (∃ ds : List Int, ds.length = i ∧ H' p6 = some (.lst (ds.map V.int)))) ?_ ?_ ?_⟩
      · exact ⟨⟨none, none, none, none, rfl⟩, s6, ⟨[], rfl, upd_same⟩⟩
      · rintro i σ H1 hi ⟨⟨y5, y7, y8, y9, rfl⟩, sm, ⟨ds, dl, e6⟩⟩
        obtain ⟨j, v, hj, hj2, hv⟩ := ix_mod (xs := cs) (x := (0 : Int) + (i : Int)) rfl hc1
        have hjm : ((0 : Int) + (i : Int)) % (((cs.map V.int).length : Nat) : Int) = (j : Int) := by rw [List.length_map]; exact hj
        have ce := sm _ _ e5
        refine ⟨_, rfl, _, rfl, _, rfl, p5, _, rfl, .inl (SqL.of ce), _, _, rfl, rfl, by rw [List.length_map]; omega, p5, _, _, .int v, rfl, rfl, SqL.of ce, at_of hjm (in_get hv), ?_⟩
        refine ⟨_, rfl, _, _, rfl, rfl, .inr ⟨by decide, by decide⟩, _, rfl, _, rfl, _, _, rfl, rfl, .inl ⟨by omega, by omega⟩, _, _, rfl, rfl, .inr ⟨by decide, by decide⟩, _, _, rfl, rfl, _, rfl, _, _, rfl, rfl, .inl ⟨by decide, by decide⟩, _, _, rfl, rfl, _, _, rfl, rfl, _, _, rfl, rfl, (by show (0 : Int) < 2147483647; decide), ?_⟩
        generalize (v * 48271 + ((0 : Int) + (i : Int)) * ((0 : Int) + (i : Int)) * 16807 + 7919 * ((0 : Int) + (i : Int)) + 5) = z1
        refine ⟨_, rfl, _, rfl, _, _, rfl, rfl, cmod _ _ (by decide) (by decide), _, rfl, _, _, rfl, rfl, .inr ⟨by decide, by decide⟩, _, _, rfl, rfl, _, _, rfl, rfl, (by show (0 : Int) < 2147483629; decide), ?_⟩
        refine ⟨_, rfl, .inl ⟨rfl, _, SqL.of e6⟩, _, rfl, _, rfl, _, _, rfl, rfl, cmod _ _ (by decide) (by decide), _, _, rfl, rfl, (by show (0 : Int) < 2147483587; decide), _, _, rfl, rfl, cmod _ _ (by decide) (by decide), _, rfl, _, _, rfl, rfl, p6, _, _, rfl, rfl, e6, by rw [List.length_map]; exact small1000 (by omega), ⟨_, _, _, _, rfl⟩, same_own sm n6, ?_⟩
        exact ⟨_, by rw [List.length_append, dl]; rfl, push_in⟩
      · rintro σ H1 ⟨⟨y5, y7, y8, y9, rfl⟩, sm, ⟨ds, dl, e6⟩⟩
        exact ⟨_, rfl, q ds dl H1 p6 (s5.trans sm) (s5.free n6) e6⟩

/-! ### _law_letters -/
def spLetters : Sp := fun vs H Q _ => ∃ (z s : Int), vs = [.int z, .int s] ∧ 0 ≤ s ∧ s ≤ 9 ∧ ∀ l : List Nat, l.length = s.toNat → (∀ c ∈ l, isL c = true) → Q (.str (T l)) H
theorem ok_law_letters (G : Gls mg) {f : Addr} {fd : FuncData} (F : Fun K "_law_letters" "_law_letters" s_law_letters f fd) : FnOk P w K mg base CX0 1 f fd ["_law_number", "_law_size"] spLetters := by
  refine F.ok sc_law_letters (fun vs H Q E h => ?_) (fun cdv A outer s H vs Q E hr h => ?_)
  · obtain ⟨z, s, rfl, _⟩ := h
    rfl
  · obtain ⟨z, sz, rfl, h0, h9, q⟩ := h
    refine ⟨_, (pss_cons (ps_set (i := 2) sc_law_letters.nd rfl (.inl rfl) pe_str)
      (pss_cons (ps_set (i := 3) sc_law_letters.nd rfl (.inl rfl) pe_str)
      (pss_cons (ps_for PassesOwn.never rfl (pi_range1 (by rfl) G.range (pa_cons (pv 1) pa_nil)) (pg_name (i := 4) sc_law_letters.nd rfl (.inl rfl))
        (pss_cons (ps_set (i := 3) sc_law_letters.nd rfl (.inl rfl) (pe_op op_add_str (pv 3) (pe_ix ix_str (pv 2) (pe_op op_mod (pv 0) pe_int) (fun _ _ => rfl))))
        (pss_one (ps_set (i := 0) sc_law_letters.nd rfl (.inl rfl) (pe_op op_fdiv (pv 0) pe_int)))))
      (pss_one (ps_ret (pv 3)))))), ?_⟩
    refine ⟨_, rfl, sz, rfl, by omega, by omega, for_range (lo := 0) (n := sz.toNat) (fun i σ H' => ∃ (z' : Int) (l : List Nat) (y4 : Option V), σ = [some (.int z'), some (.int sz), some (.str (T azs)), some (.str (T l)), y4] ∧ l.length = i ∧ (∀ c ∈ l, isL c = true) ∧ H' = H) ?_ ?_ ?_⟩
    · refine ⟨z, [], none, ?_, rfl, fun c hc => absurd hc List.not_mem_nil, rfl⟩
      rw [← s_azs, ← s_empty]
      rfl
    · rintro i σ H1 hi ⟨z', l, y4, rfl, ll, lz, rfl⟩
      obtain ⟨j, v, hj, hj2, hv⟩ := ix_mod (xs := azs) (x := z') (n := 26) rfl (by decide)
      refine ⟨_, rfl, _, rfl, _, rfl, _, _, rfl, rfl, (by show (0 : Int) < 26; decide), T azs, _, v, rfl, rfl, smallT (by decide), at_of' hj (by rw [T_list]; exact hv), _, _, rfl, rfl, ?_, ?_⟩
      · show (T l).length + (T [v]).length ≤ sizeLine
        rw [T_len, T_len]
        exact small (by simp only [List.length_cons, List.length_nil]; omega)
      · refine ⟨_, rfl, _, _, rfl, rfl, ⟨by decide, by decide⟩, z' / 26, l ++ [v], some (.int ((0 : Int) + (i : Int))), ?_, by rw [List.length_append, ll]; rfl, fun c hc => ?_, rfl⟩
        · have e : T l ++ (⟨#[v]⟩ : Str) = T (l ++ [v]) := T_app l [v]
          rw [e]
          rfl
        · rcases List.mem_append.mp hc with hc | hc
          · exact lz c hc
          · rw [List.mem_singleton.mp hc]
            exact mem_azs.mp (List.mem_of_getElem? hv)
    · rintro σ H1 ⟨z', l, y4, rfl, ll, lz, rfl⟩
      exact ⟨_, rfl, q l ll lz⟩

/-! ### _law_label -/
def spLab : Sp := fun vs H Q _ => ∃ z : Int, vs = [.int z, .int 9] ∧ ∀ l : List Nat, LabOk l → Q (.str (T l)) H
theorem ok_law_label (G : Gls mg) (H_law_letters : Has P w K mg base 1 "_law_letters" ["_law_number", "_law_size"] spLetters) {f : Addr} {fd : FuncData} (F : Fun K "_law_label" "_law_label" s_law_label f fd) : FnOk P w K mg base CX0 2 f fd ["_law_number", "_law_most"] spLab := by
  refine F.ok sc_law_label (fun vs H Q E h => ?_) (fun cdv A outer s H vs Q E hr h => ?_)
  · obtain ⟨z, rfl, _⟩ := h
    rfl
  · obtain ⟨z, rfl, q⟩ := h
    have := modin z (show (0 : Int) < 9 by decide)
    refine ⟨_, (pss_one (ps_ret (pe_own H_law_letters hr (by decide) (by rfl) (pa_cons (pe_op op_fdiv (pv 0) (pv 1)) (pa_cons (pe_op op_add pe_int (pe_op op_mod (pv 0) (pv 1))) pa_nil))))), ?_⟩
    exact ⟨_, rfl, _, rfl, _, _, rfl, rfl, ⟨by decide, by decide⟩, _, rfl, _, rfl, _, _, rfl, rfl, (by show (0 : Int) < 9; decide), _, _, rfl, rfl, _, _, rfl, by omega, by omega, fun l ll lz => q l ⟨by omega, by omega, lz⟩⟩

/-! ### _law_whole -/
def spWhole : Sp := fun vs H Q _ => ∃ z : Int, vs = [.int z] ∧ Q (.bl true) H
theorem ok_law_whole (G : Gls mg) {f : Addr} {fd : FuncData} (F : Fun K "_law_whole" "_law_whole" s_law_whole f fd) : FnOk P w K mg base CX0 1 f fd ["_law_found"] spWhole := by
  refine F.ok sc_law_whole (fun vs H Q E h => ?_) (fun cdv A outer s H vs Q E hr h => ?_)
  · obtain ⟨z, rfl, _⟩ := h
    rfl
  · obtain ⟨z, rfl, q⟩ := h
    refine ⟨_, (pss_one (ps_ret (pe_and (pe_callB call_isi (by rfl) G.isinstance (by decide +kernel) (pa_cons (pv 0) (pa_cons (pe_bltn (v := .ty "int") (by rfl) G.int (by decide +kernel) rfl) pa_nil))) (pe_one (pe_not (pe_callB call_isi (by rfl) G.isinstance (by decide +kernel) (pa_cons (pv 0) (pa_cons (pe_bltn (v := .ty "bool") (by rfl) G.bool (by decide +kernel) rfl) pa_nil)))))))), ?_⟩
    exact ⟨_, rfl, .int z, .ty "int", .type "int", .type "int", true, rfl, .ty _, .base (.int z), kit_ty (by decide +kernel), true, rfl, iteT ⟨_, rfl, .int z, .ty "bool", .type "int", .type "bool", false, rfl, .ty _, .base (.int z), kit_ty (by decide +kernel), false, rfl, q⟩⟩
end
end Hr
namespace Hr
open PySem PySem.Spec PyProof.Rows L2
section
variable {P : Program} {w : World} {K : PySem.W.Frag} {mg : Str → Option Value} {base : Heap}

theorem atI_m1 {xs : List V} {j : Nat} {v : V} (hl : xs.length = j + 1) (h : xs[j]? = some v) : atI xs (-1) = some v := by
  rcases List.eq_nil_or_concat xs with rfl | ⟨ys, y, rfl⟩
  · simp at h
  · rw [List.concat_eq_append] at h hl ⊢
    rw [List.length_append] at hl
    simp only [List.length_cons, List.length_nil] at hl
    have e : ys.length = j := by omega
    subst e
    rw [List.getElem?_append_right (Nat.le_refl _), Nat.sub_self] at h
    have : y = v := Option.some.inj h
    subst this
    exact atI_last _ _

/-! ### _law_tree -/
def spTree (K : PySem.W.Frag) : Sp := fun vs H Q _ => ∃ (a : Addr) (ds : List Int) (n : Int), vs = [.ref a, .int 2, .int n, .int 9, .int 8] ∧ SqL K H a (ds.map V.int) ∧ 1 ≤ n ∧ n ≤ 40 ∧ ds.length = 42 ∧
  ∀ (H' : Hp) (p : Addr) (xs : List V) (t : List Nd) (W : Nat → List Int) (lv : Nat → Nat), Same H H' → H p = none → H' p = some (.lst xs) → Tups H' xs t → PTree t W lv → 1 ≤ t.length → Q (.ref p) H'
theorem ok_law_tree (G : Gls mg) (H_law_label : Has P w K mg base 2 "_law_label" ["_law_number", "_law_most"] spLab) {f : Addr} {fd : FuncData} (F : Fun K "_law_tree" "_law_tree" s_law_tree f fd) :
    FnOk P w K mg base CX0 3 f fd ["_law_draws_here", "_law_start", "_law_many", "_law_most", "_law_deep"] (spTree K) := by
  refine F.ok sc_law_tree (fun vs H Q E h => ?_) (fun cdv A outer s H vs Q E hr h => ?_)
  · obtain ⟨a, ds, n, rfl, _⟩ := h
    rfl
  · obtain ⟨a, ds, n, rfl, ha, hn1, hn40, dl, q⟩ := h
    refine ⟨_, (pss_cons (ps_set (i := 5) sc_law_tree.nd rfl (.inl rfl) (pe_lst pa_nil))
      (pss_cons (ps_set (i := 6) sc_law_tree.nd rfl (.inl rfl) (pe_lst pa_nil))
      (pss_cons (ps_for PassesOwn.never rfl (pi_range1 (by rfl) G.range (pa_cons (pv 2) pa_nil)) (pg_name (i := 7) sc_law_tree.nd rfl (.inl rfl))
        (pss_cons (ps_set (i := 8) sc_law_tree.nd rfl (.inl rfl) (pe_ix (r := rIxL K) ix_list (pv 0) (pe_op op_add (pv 1) (pv 7)) (fun _ _ => rfl)))
        (pss_cons (ps_set (i := 9) sc_law_tree.nd rfl (.inl rfl) (pe_op op_add pe_int (pe_op op_mod (pv 8) pe_int)))
        (pss_cons (ps_set (i := 8) sc_law_tree.nd rfl (.inl rfl) (pe_op op_fdiv (pv 8) pe_int))
        (pss_cons (ps_set (i := 10) sc_law_tree.nd rfl (.inl rfl) (pe_un un_neg pe_int))
        (pss_cons (ps_if (pt_cmpR op_gt (pv 7) pe_int (nomark _)) (pss_cons (ps_set (i := 11) sc_law_tree.nd rfl (.inl rfl) (pe_op op_add pe_int (pe_op op_mod (pv 8) (pe_callB call_len_seq (by rfl) G.len (by decide +kernel) (pa_cons (pv 6) pa_nil)))))
          (pss_cons (ps_if (pt_cmpR op_eq (pe_op op_mod (pe_op op_fdiv (pv 8) (pe_callB call_len_seq (by rfl) G.len (by decide +kernel) (pa_cons (pv 6) pa_nil))) pe_int) pe_int (nomark _)) (pss_one (ps_set (i := 11) sc_law_tree.nd rfl (.inl rfl) (pe_callB call_len_seq (by rfl) G.len (by decide +kernel) (pa_cons (pv 6) pa_nil)))) pss_nil)
          (pss_cons (ps_set (i := 8) sc_law_tree.nd rfl (.inl rfl) (pe_op op_fdiv (pv 8) (pe_op op_mul pe_int (pe_callB call_len_seq (by rfl) G.len (by decide +kernel) (pa_cons (pv 6) pa_nil)))))
          (pss_cons (ps_set (i := 6) sc_law_tree.nd rfl (.inl rfl) (pe_slice sl_list (pv 6) po_none (po_some (pe_callB (call_min2 rfl) (by rfl) G.min (by decide +kernel) (pa_cons (pv 11) (pa_cons (pv 4) pa_nil))))))
          (pss_one (ps_set (i := 10) sc_law_tree.nd rfl (.inl rfl) (pe_ix (r := rIxL K) ix_list (pv 6) (pe_un un_neg pe_int) (fun _ _ => rfl)))))))) pss_nil)
        (pss_cons (ps_expr (pe_bm PySem.F.plainAttrs_list PySem.F.slot_list_append PySem.F.type_list_append mt_append (pv 5) (pa_cons (pe_tup (pa_cons (pv 10) (pa_cons (pe_own H_law_label hr (by decide) (by rfl) (pa_cons (pv 8) (pa_cons (pv 3) pa_nil))) (pa_cons (pv 9) pa_nil)))) pa_nil)))
        (pss_one (ps_set (i := 6) sc_law_tree.nd rfl (.inl rfl) (pe_op op_cat (pv 6) (pe_lst (pa_cons (pv 7) pa_nil))))))))))))
      (pss_one (ps_ret (pv 5)))))), ?_⟩
    refine ⟨Nat.zero_le _, fun p5 np5 => ?_⟩
    refine ⟨Nat.zero_le _, fun p6 np6 => ?_⟩
    have s5 : Same H (upd H p5 (.lst [])) := same_upd np5
    have s6 : Same H (upd (upd H p5 (.lst [])) p6 (.lst [])) := s5.trans (same_upd np6)
    have n56 : p5 ≠ p6 := fun z => by
      rw [← z, upd_same] at np6
      cases np6
    have n5 : H p5 = none := np5
    refine ⟨_, rfl, n, rfl, by omega, by omega, for_range (lo := 0) (n := n.toNat) (fun i σ H' => ∃ (xs : List V) (t : List Nd) (W : Nat → List Int) (lv : Nat → Nat) (ws : List Int) (q6 : Addr),
      (∃ y7 y8 y9 y10 y11, σ = [some (.ref a), some (.int 2), some (.int n), some (.int 9), some (.int 8), some (.ref p5), some (.ref q6), y7, y8, y9, y10, y11]) ∧ Same H H' ∧ H' p5 = some (.lst xs) ∧ H' q6 = some (.lst (ws.map V.int)) ∧ q6 ≠ p5 ∧ Tups H' xs t ∧ PTree t W lv ∧ t.length = i ∧ ws = W i) ?_ ?_ ?_⟩
    · refine ⟨[], [], fun _ => [], fun _ => 0, [], p6, ⟨none, none, none, none, none, rfl⟩, s6, ?_, ?_, n56.symm, .nil, PTree.nil _ rfl _ rfl, rfl, rfl⟩
      · rw [upd_ne n56, upd_same]
      · rw [upd_same]
        rfl
    · rintro i σ H2 hi ⟨xs, t, W, lv, ws, q6, ⟨y7, y8, y9, y10, y11, rfl⟩, sm, e5, e6, n65, tu, PT, tl, hws0⟩
      have hi40 : i < 40 := by omega
      have xl := tu.len
      obtain ⟨ds0, hds0⟩ := get_some (show 2 + i < ds.length by omega)
      have ei : (2 : Int) + ((0 : Int) + (i : Int)) = ((2 + i : Nat) : Int) := by omega
      have m9 := modin ds0 (show (0 : Int) < 9 by decide)
      refine ⟨_, rfl, _, rfl, _, rfl, _, _, rfl, rfl, a, _, _, .int ds0, rfl, rfl, sm.seq ha, at_of ei (in_get hds0), ?_⟩
      refine ⟨_, rfl, _, _, rfl, rfl, (by show (0 : Int) < 9; decide), _, _, rfl, rfl, ?_⟩
      refine ⟨_, rfl, _, _, rfl, rfl, ⟨by decide, by decide⟩, ?_⟩
      refine ⟨_, rfl, ?_⟩
      refine ⟨_, rfl, _, _, rfl, rfl, _, rfl, ite2 (fun c => ?_) (fun c => ?_)⟩
      · have i0 : 0 < i := by
          have : (0 : Int) < (0 : Int) + (i : Int) := of_decide_eq_true c
          omega
        have wl : ws.length = lv (i - 1) + 1 := by
          have := PT.wlen (show i - 1 < t.length by omega)
          rw [Nat.sub_add_cancel i0] at this
          rw [hws0, this]
        have w9 : lv (i - 1) ≤ 8 := PT.lv8 (by omega)
        have wp : (0 : Int) < (((ws.map V.int).length : Nat) : Int) := by rw [List.length_map]; omega
        have wc : ((ws.map V.int).length : Nat) = ws.length := List.length_map _
        refine ⟨_, rfl, _, rfl, q6, _, rfl, .inl (SqL.of e6), _, _, rfl, rfl, wp, _, _, rfl, rfl, ?_⟩
        dsimp only
        have mk0 := modin (ds0 / 9) wp
        have key : ∀ (k : Int), 1 ≤ k → k ≤ (ws.length : Int) → ∃ (j : Nat), (if (8 : Int) < k then (8 : Int) else k) = (j : Int) ∧ 1 ≤ j ∧ j ≤ 8 ∧ j ≤ ws.length := fun k h1 h2 => by
          by_cases h : (8 : Int) < k
          · rw [if_pos h]
            exact ⟨8, rfl, by decide, by decide, by omega⟩
          · rw [if_neg h]
            exact ⟨k.toNat, by omega, by omega, by omega, by omega⟩
        refine ⟨_, rfl, _, rfl, q6, _, rfl, .inl (SqL.of e6), _, _, rfl, rfl, ⟨wp, by omega⟩, _, _, rfl, rfl, (by show (0 : Int) < 3; decide), rfl, _, rfl, ite2 (fun _ => ?_) (fun _ => ?_)⟩
        · refine ⟨_, rfl, q6, _, rfl, .inl (SqL.of e6), ?_⟩
          obtain ⟨j, hj, j1, j8, jw⟩ := key (((ws.map V.int).length : Nat) : Int) (by omega) (by omega)
          refine ⟨_, rfl, _, rfl, q6, _, rfl, .inl (SqL.of e6), _, _, rfl, rfl, .inl ⟨by decide, by decide⟩, _, _, rfl, rfl, ⟨by omega, by omega⟩, ?_⟩
          refine ⟨_, rfl, _, rfl, _, rfl, _, _, rfl, _, rfl, q6, _, rfl, SqL.of e6, fun r6 nr6 => ?_⟩
          dsimp only
          rw [hj, cutV_to, ← List.map_take]
          obtain ⟨e, hej⟩ := get_some (l := ws) (i := j - 1) (by omega)
          have hejt : (ws.take j)[j - 1]? = some e := by rw [List.getElem?_take_of_lt (by omega)]; exact hej
          have wsl : (ws.take j).length ≤ 9 := by rw [List.length_take]; omega
          have smr := same_upd (o := .lst ((ws.take j).map V.int)) nr6
          have e63 : (upd H2 r6 (.lst ((ws.take j).map V.int))) r6 = some (.lst ((ws.take j).map V.int)) := upd_same
          generalize (upd H2 r6 (.lst ((ws.take j).map V.int))) = H3 at smr e63 ⊢
          have e53 := smr _ _ e5
          have sm3 := sm.trans smr
          have tu3 := tu.same smr
          have n653 : r6 ≠ p5 := (ne_of_none e5 nr6).symm
          have hr0 : t.length = 0 → e = -1 ∧ j = 0 := fun z => by omega
          have hr1 : 0 < t.length → 1 ≤ j ∧ j ≤ 8 ∧ (W t.length)[j - 1]? = some e := fun _ => ⟨j1, j8, by rw [tl, ← hws0]; exact hej⟩
          have hws : ws.take j = (W t.length).take j := by rw [tl, ← hws0]
          refine ⟨_, rfl, 1, rfl, r6, _, -1, .int e, rfl, rfl, SqL.of e63, atI_m1 (j := j - 1) (by rw [List.length_map, List.length_take]; omega) (in_get hejt), ?_⟩
          have lab : ∀ l : List Nat, LabOk l → NdOk ⟨e, l, 1 + ds0 % 9⟩ := fun l hl => ⟨hl, by show 1 ≤ 1 + ds0 % 9; omega, by show 1 + ds0 % 9 ≤ 9; omega⟩
          refine ⟨_, rfl, .inl ⟨rfl, _, SqL.of e53⟩, _, rfl, _, rfl, _, rfl, _, rfl, fun l hl => ⟨_, rfl, by show 3 ≤ sizeLine; decide, fun tp ntp => ⟨p5, _, _, rfl, rfl, same_upd ntp _ _ e53, small1000 (by omega), ?_⟩⟩⟩
          have nt5 : p5 ≠ tp := ne_of_none e53 ntp
          have n6p : r6 ≠ p5 := n653
          refine ⟨_, rfl, _, rfl, by show 1 ≤ sizeLine; decide, fun p8 np8 => ⟨r6, p8, (ws.take j).map V.int, [V.int ((0 : Int) + (i : Int))], rfl, rfl, same_upd np8 _ _ (by rw [upd_ne n6p]; exact same_upd ntp _ _ e63), upd_same, ?_, fun p9 np9 => ?_⟩⟩
          · rw [List.length_map]
            exact small (by simp only [List.length_cons, List.length_nil]; omega)
          · have tp5 : (upd H3 tp (.tup [V.int e, V.str (T l), V.int (1 + ds0 % 9)])) p5 = some (.lst xs) := same_upd ntp _ _ e53
            have smA : Same H (upd (upd H3 tp (.tup [V.int e, V.str (T l), V.int (1 + ds0 % 9)])) p5 (.lst (xs ++ [V.ref tp]))) := same_own (sm3.trans (same_upd ntp)) n5
            have smB := same_upd (o := .lst [V.int ((0 : Int) + (i : Int))]) np8
            have smC := same_upd (o := .lst ((ws.take j).map V.int ++ [V.int ((0 : Int) + (i : Int))])) np9
            have PT2 := PT.push (d := ⟨e, l, 1 + ds0 % 9⟩) (l := j) (by omega) (lab l hl) hr0 hr1
            have e5' : (upd (upd (upd (upd H3 tp (.tup [V.int e, V.str (T l), V.int (1 + ds0 % 9)])) p5 (.lst (xs ++ [V.ref tp]))) p8 (.lst [V.int ((0 : Int) + (i : Int))])) p9 (.lst ((ws.take j).map V.int ++ [V.int ((0 : Int) + (i : Int))]))) p5 = some (.lst (xs ++ [V.ref tp])) := smC _ _ (smB _ _ upd_same)
            have n95 : p9 ≠ p5 := (ne_of_none (smB _ _ upd_same) np9).symm
            have tu2 : Tups (upd (upd (upd (upd H3 tp (.tup [V.int e, V.str (T l), V.int (1 + ds0 % 9)])) p5 (.lst (xs ++ [V.ref tp]))) p8 (.lst [V.int ((0 : Int) + (i : Int))])) p9 (.lst ((ws.take j).map V.int ++ [V.int ((0 : Int) + (i : Int))]))) (xs ++ [V.ref tp]) (t ++ [⟨e, l, 1 + ds0 % 9⟩]) :=
              ((Tups.upd ((tu3.same (same_upd ntp)).push (show (upd H3 tp (.tup [V.int e, V.str (T l), V.int (1 + ds0 % 9)])) tp = some (.tup (nv ⟨e, l, 1 + ds0 % 9⟩)) from upd_same)) tp5).same smB).same smC
            refine ⟨xs ++ [V.ref tp], t ++ [⟨e, l, 1 + ds0 % 9⟩], _, _, (ws.take j) ++ [(i : Int)], p9, ⟨_, _, _, _, _, rfl⟩, (smA.trans smB).trans smC, e5', ?_, n95, tu2, PT2, by rw [List.length_append, tl]; rfl, ?_⟩
            · rw [upd_same, List.map_append, Int.zero_add]
              rfl
            · show (ws.take j) ++ [(i : Int)] = (if i + 1 ≤ t.length then _ else _)
              rw [if_neg (by omega), hws, tl]
        · obtain ⟨j, hj, j1, j8, jw⟩ := key (1 + ds0 / 9 % (((ws.map V.int).length : Nat) : Int)) (by omega) (by omega)
          refine ⟨_, rfl, _, rfl, q6, _, rfl, .inl (SqL.of e6), _, _, rfl, rfl, .inl ⟨by decide, by decide⟩, _, _, rfl, rfl, ⟨by omega, by omega⟩, ?_⟩
          refine ⟨_, rfl, _, rfl, _, rfl, _, _, rfl, _, rfl, q6, _, rfl, SqL.of e6, fun r6 nr6 => ?_⟩
          dsimp only
          rw [hj, cutV_to, ← List.map_take]
          obtain ⟨e, hej⟩ := get_some (l := ws) (i := j - 1) (by omega)
          have hejt : (ws.take j)[j - 1]? = some e := by rw [List.getElem?_take_of_lt (by omega)]; exact hej
          have wsl : (ws.take j).length ≤ 9 := by rw [List.length_take]; omega
          have smr := same_upd (o := .lst ((ws.take j).map V.int)) nr6
          have e63 : (upd H2 r6 (.lst ((ws.take j).map V.int))) r6 = some (.lst ((ws.take j).map V.int)) := upd_same
          generalize (upd H2 r6 (.lst ((ws.take j).map V.int))) = H3 at smr e63 ⊢
          have e53 := smr _ _ e5
          have sm3 := sm.trans smr
          have tu3 := tu.same smr
          have n653 : r6 ≠ p5 := (ne_of_none e5 nr6).symm
          have hr0 : t.length = 0 → e = -1 ∧ j = 0 := fun z => by omega
          have hr1 : 0 < t.length → 1 ≤ j ∧ j ≤ 8 ∧ (W t.length)[j - 1]? = some e := fun _ => ⟨j1, j8, by rw [tl, ← hws0]; exact hej⟩
          have hws : ws.take j = (W t.length).take j := by rw [tl, ← hws0]
          refine ⟨_, rfl, 1, rfl, r6, _, -1, .int e, rfl, rfl, SqL.of e63, atI_m1 (j := j - 1) (by rw [List.length_map, List.length_take]; omega) (in_get hejt), ?_⟩
          have lab : ∀ l : List Nat, LabOk l → NdOk ⟨e, l, 1 + ds0 % 9⟩ := fun l hl => ⟨hl, by show 1 ≤ 1 + ds0 % 9; omega, by show 1 + ds0 % 9 ≤ 9; omega⟩
          refine ⟨_, rfl, .inl ⟨rfl, _, SqL.of e53⟩, _, rfl, _, rfl, _, rfl, _, rfl, fun l hl => ⟨_, rfl, by show 3 ≤ sizeLine; decide, fun tp ntp => ⟨p5, _, _, rfl, rfl, same_upd ntp _ _ e53, small1000 (by omega), ?_⟩⟩⟩
          have nt5 : p5 ≠ tp := ne_of_none e53 ntp
          have n6p : r6 ≠ p5 := n653
          refine ⟨_, rfl, _, rfl, by show 1 ≤ sizeLine; decide, fun p8 np8 => ⟨r6, p8, (ws.take j).map V.int, [V.int ((0 : Int) + (i : Int))], rfl, rfl, same_upd np8 _ _ (by rw [upd_ne n6p]; exact same_upd ntp _ _ e63), upd_same, ?_, fun p9 np9 => ?_⟩⟩
          · rw [List.length_map]
            exact small (by simp only [List.length_cons, List.length_nil]; omega)
          · have tp5 : (upd H3 tp (.tup [V.int e, V.str (T l), V.int (1 + ds0 % 9)])) p5 = some (.lst xs) := same_upd ntp _ _ e53
            have smA : Same H (upd (upd H3 tp (.tup [V.int e, V.str (T l), V.int (1 + ds0 % 9)])) p5 (.lst (xs ++ [V.ref tp]))) := same_own (sm3.trans (same_upd ntp)) n5
            have smB := same_upd (o := .lst [V.int ((0 : Int) + (i : Int))]) np8
            have smC := same_upd (o := .lst ((ws.take j).map V.int ++ [V.int ((0 : Int) + (i : Int))])) np9
            have PT2 := PT.push (d := ⟨e, l, 1 + ds0 % 9⟩) (l := j) (by omega) (lab l hl) hr0 hr1
            have e5' : (upd (upd (upd (upd H3 tp (.tup [V.int e, V.str (T l), V.int (1 + ds0 % 9)])) p5 (.lst (xs ++ [V.ref tp]))) p8 (.lst [V.int ((0 : Int) + (i : Int))])) p9 (.lst ((ws.take j).map V.int ++ [V.int ((0 : Int) + (i : Int))]))) p5 = some (.lst (xs ++ [V.ref tp])) := smC _ _ (smB _ _ upd_same)
            have n95 : p9 ≠ p5 := (ne_of_none (smB _ _ upd_same) np9).symm
            have tu2 : Tups (upd (upd (upd (upd H3 tp (.tup [V.int e, V.str (T l), V.int (1 + ds0 % 9)])) p5 (.lst (xs ++ [V.ref tp]))) p8 (.lst [V.int ((0 : Int) + (i : Int))])) p9 (.lst ((ws.take j).map V.int ++ [V.int ((0 : Int) + (i : Int))]))) (xs ++ [V.ref tp]) (t ++ [⟨e, l, 1 + ds0 % 9⟩]) :=
              ((Tups.upd ((tu3.same (same_upd ntp)).push (show (upd H3 tp (.tup [V.int e, V.str (T l), V.int (1 + ds0 % 9)])) tp = some (.tup (nv ⟨e, l, 1 + ds0 % 9⟩)) from upd_same)) tp5).same smB).same smC
            refine ⟨xs ++ [V.ref tp], t ++ [⟨e, l, 1 + ds0 % 9⟩], _, _, (ws.take j) ++ [(i : Int)], p9, ⟨_, _, _, _, _, rfl⟩, (smA.trans smB).trans smC, e5', ?_, n95, tu2, PT2, by rw [List.length_append, tl]; rfl, ?_⟩
            · rw [upd_same, List.map_append, Int.zero_add]
              rfl
            · show (ws.take j) ++ [(i : Int)] = (if i + 1 ≤ t.length then _ else _)
              rw [if_neg (by omega), hws, tl]
      · have i0 : i = 0 := by
          have : ¬ (0 : Int) < (0 : Int) + (i : Int) := fun z => c (decide_eq_true z)
          omega
        have t0 : t = [] := List.length_eq_zero_iff.mp (by omega)
        obtain ⟨e, he⟩ : ∃ e : Int, e = -1 := ⟨-1, rfl⟩
        obtain ⟨lw, hlw⟩ : ∃ z : Nat, z = 0 := ⟨_, rfl⟩
        have hr0 : t.length = 0 → e = -1 ∧ lw = 0 := fun _ => ⟨he, hlw⟩
        have hr1 : 0 < t.length → 1 ≤ lw ∧ lw ≤ 8 ∧ (W t.length)[lw - 1]? = some e := fun z => by omega
        have hws : ws = (W t.length).take lw := by
          rw [hws0, tl, i0, PT.w0]
          simp
        have wsl : ws.length ≤ 9 := by rw [hws0, i0, PT.w0]; exact Nat.zero_le _
        dsimp only
        rw [← he]
        have lab : ∀ l : List Nat, LabOk l → NdOk ⟨e, l, 1 + ds0 % 9⟩ := fun l hl => ⟨hl, by show 1 ≤ 1 + ds0 % 9; omega, by show 1 + ds0 % 9 ≤ 9; omega⟩
        refine ⟨_, rfl, .inl ⟨rfl, _, SqL.of e5⟩, _, rfl, _, rfl, _, rfl, _, rfl, fun l hl => ⟨_, rfl, by show 3 ≤ sizeLine; decide, fun tp ntp => ⟨p5, _, _, rfl, rfl, same_upd ntp _ _ e5, small1000 (by omega), ?_⟩⟩⟩
        have nt5 : p5 ≠ tp := ne_of_none e5 ntp
        have n6p : q6 ≠ p5 := n65
        refine ⟨_, rfl, _, rfl, by show 1 ≤ sizeLine; decide, fun p8 np8 => ⟨q6, p8, ws.map V.int, [V.int ((0 : Int) + (i : Int))], rfl, rfl, same_upd np8 _ _ (by rw [upd_ne n6p]; exact same_upd ntp _ _ e6), upd_same, ?_, fun p9 np9 => ?_⟩⟩
        · rw [List.length_map]
          exact small (by simp only [List.length_cons, List.length_nil]; omega)
        · have tp5 : (upd H2 tp (.tup [V.int e, V.str (T l), V.int (1 + ds0 % 9)])) p5 = some (.lst xs) := same_upd ntp _ _ e5
          have smA : Same H (upd (upd H2 tp (.tup [V.int e, V.str (T l), V.int (1 + ds0 % 9)])) p5 (.lst (xs ++ [V.ref tp]))) := same_own (sm.trans (same_upd ntp)) n5
          have smB := same_upd (o := .lst [V.int ((0 : Int) + (i : Int))]) np8
          have smC := same_upd (o := .lst (ws.map V.int ++ [V.int ((0 : Int) + (i : Int))])) np9
          have PT2 := PT.push (d := ⟨e, l, 1 + ds0 % 9⟩) (l := lw) (by omega) (lab l hl) hr0 hr1
          have e5' : (upd (upd (upd (upd H2 tp (.tup [V.int e, V.str (T l), V.int (1 + ds0 % 9)])) p5 (.lst (xs ++ [V.ref tp]))) p8 (.lst [V.int ((0 : Int) + (i : Int))])) p9 (.lst (ws.map V.int ++ [V.int ((0 : Int) + (i : Int))]))) p5 = some (.lst (xs ++ [V.ref tp])) := smC _ _ (smB _ _ upd_same)
          have n95 : p9 ≠ p5 := (ne_of_none (smB _ _ upd_same) np9).symm
          have tu2 : Tups (upd (upd (upd (upd H2 tp (.tup [V.int e, V.str (T l), V.int (1 + ds0 % 9)])) p5 (.lst (xs ++ [V.ref tp]))) p8 (.lst [V.int ((0 : Int) + (i : Int))])) p9 (.lst (ws.map V.int ++ [V.int ((0 : Int) + (i : Int))]))) (xs ++ [V.ref tp]) (t ++ [⟨e, l, 1 + ds0 % 9⟩]) :=
            ((Tups.upd ((tu.same (same_upd ntp)).push (show (upd H2 tp (.tup [V.int e, V.str (T l), V.int (1 + ds0 % 9)])) tp = some (.tup (nv ⟨e, l, 1 + ds0 % 9⟩)) from upd_same)) tp5).same smB).same smC
          refine ⟨xs ++ [V.ref tp], t ++ [⟨e, l, 1 + ds0 % 9⟩], _, _, ws ++ [(i : Int)], p9, ⟨_, _, _, _, _, rfl⟩, (smA.trans smB).trans smC, e5', ?_, n95, tu2, PT2, by rw [List.length_append, tl]; rfl, ?_⟩
          · rw [upd_same, List.map_append, Int.zero_add]
            rfl
          · show ws ++ [(i : Int)] = (if i + 1 ≤ t.length then _ else _)
            rw [if_neg (by omega), hws, tl]
    · rintro σ H2 ⟨xs, t, W, lv, ws, q6, ⟨y7, y8, y9, y10, y11, rfl⟩, sm, e5, e6, n65, tu, PT, tl, hws0⟩
      exact ⟨_, rfl, q H2 p5 xs t W lv sm n5 e5 tu PT (by omega)⟩
end
end Hr
namespace Hr
open PySem PySem.Spec PyProof.Rows L2
section
variable {P : Program} {w : World} {K : PySem.W.Frag} {mg : Str → Option Value} {base : Heap}

/-! ### _law_rows -/
def spRows : Sp := fun vs H Q _ => ∃ (a b : Addr) (xs ys : List V) (t : List Nd), vs = [.ref a, .ref b] ∧ H a = some (.lst xs) ∧ H b = some (.lst ys) ∧ Tups H xs t ∧ Tups H ys t ∧ (∀ d ∈ t, Low d.lab) ∧ ∀ H' : Hp, Same H H' → Q (.bl true) H'
theorem ok_law_rows (G : Gls mg) (H_law_whole : Has P w K mg base 1 "_law_whole" ["_law_found"] spWhole) {f : Addr} {fd : FuncData} (F : Fun K "_law_rows" "_law_rows" s_law_rows f fd) : FnOk P w K mg base CX0 2 f fd ["_law_found", "_law_due"] spRows := by
  refine F.ok sc_law_rows (fun vs H Q E h => ?_) (fun cdv A outer s H vs Q E hr h => ?_)
  · obtain ⟨a, b, xs, ys, t, rfl, _⟩ := h
    rfl
  · obtain ⟨a, b, xs, ys, t, rfl, ha, hb, tx, ty, lo, q⟩ := h
    have xl := tx.len
    have yl := ty.len
    refine ⟨_, (pss_cons (ps_if (PW.pt (pw_or (pt_not (pt_val (pe_callB call_isi (by rfl) G.isinstance (by decide +kernel) (pa_cons (pv 0) (pa_cons (pe_bltn (v := .ty "list") (by rfl) G.list (by decide +kernel) rfl) pa_nil))))) (pw_or1 (pt_cmpR op_ne (pe_callB call_len_seq (by rfl) G.len (by decide +kernel) (pa_cons (pv 0) pa_nil)) (pe_callB call_len_seq (by rfl) G.len (by decide +kernel) (pa_cons (pv 1) pa_nil)) (nomark _))))) (pss_one (ps_ret pe_bl)) pss_nil)
      (pss_cons (ps_for PassesOwn.never rfl (pi_zip (by rfl) G.zip (pa_cons (pv 0) (pa_cons (pv 1) pa_nil))) (pg_tup rfl (pgs_cons (pg_name (i := 2) sc_law_rows.nd rfl (.inl rfl)) (pgs_cons (pg_name (i := 3) sc_law_rows.nd rfl (.inl rfl)) pgs_nil)))
        (pss_cons (ps_if (PW.pt (pw_or (pt_not (pt_val (pe_callB call_isi (by rfl) G.isinstance (by decide +kernel) (pa_cons (pv 2) (pa_cons (pe_bltn (v := .ty "tuple") (by rfl) G.tuple (by decide +kernel) rfl) pa_nil))))) (pw_or (pt_cmpR op_ne (pe_callB call_len_seq (by rfl) G.len (by decide +kernel) (pa_cons (pv 2) pa_nil)) pe_int (nomark _)) (pw_or1 (pt_not (pt_val (pe_own H_law_whole hr (by decide) (by rfl) (pa_cons (pe_ix (r := rIxT K) ix_tup (pv 2) pe_int (fun _ _ => rfl)) pa_nil)))))))) (pss_one (ps_ret pe_bl)) pss_nil)
        (pss_one (ps_if (PW.pt (pw_or (pt_not (pt_val (pe_callB call_isi (by rfl) G.isinstance (by decide +kernel) (pa_cons (pe_ix (r := rIxT K) ix_tup (pv 2) pe_int (fun _ _ => rfl)) (pa_cons (pe_bltn (v := .ty "str") (by rfl) G.str (by decide +kernel) rfl) pa_nil))))) (pw_or (pt_not (pt_val (pe_own H_law_whole hr (by decide) (by rfl) (pa_cons (pe_ix (r := rIxT K) ix_tup (pv 2) pe_int (fun _ _ => rfl)) pa_nil)))) (pw_or1 (pt_cmpR (op_neD hr.units) (pv 2) (pv 3) (nomark _)))))) (pss_one (ps_ret pe_bl)) pss_nil))))
      (pss_one (ps_ret pe_bl)))), ?_⟩
    refine ⟨_, rfl, .ref a, .ty "list", .type "list", .type "list", true, rfl, .ty _, .base (.lst ha), kit_ty (by decide +kernel), true, rfl, iteF ⟨_, rfl, a, xs, rfl, .inl (SqL.of ha), _, rfl, b, ys, rfl, .inl (SqL.of hb), rfl, _, rfl, iteNS (by rw [xl, yl]) ?_⟩⟩
    refine ⟨_, rfl, _, rfl, a, b, xs, ys, rfl, SqL.of ha, SqL.of hb, for_it (walk_zip (n := t.length) (by omega)) (fun i σ H' => (∃ y2 y3, σ = [some (.ref a), some (.ref b), y2, y3]) ∧ Same H H') ⟨⟨none, none, rfl⟩, Same.refl H⟩
      (fun i σ H' _ ⟨_, sm⟩ => ⟨SqL.of (sm _ _ ha), SqL.of (sm _ _ hb)⟩) ?_ ?_⟩
    · rintro i x σ H1 H2 hi ⟨⟨y2, y3, rfl⟩, sm⟩ ⟨tp, x1, x2, rfl, nt, rfl, e1, e2⟩
      have e1 : xs[i]? = some x1 := e1
      have e2 : ys[i]? = some x2 := e2
      have smT := same_upd (o := .tup [x1, x2]) nt
      have sm2 := sm.trans smT
      obtain ⟨d, p, hd, rfl, hp⟩ := (tx.same sm2).getV e1
      obtain ⟨d', p', hd', rfl, hp'⟩ := (ty.same sm2).getV e2
      rw [hd] at hd'
      cases hd'
      have L := shaped_nd (lo d (List.mem_of_getElem? hd))
      refine ⟨tp, _, rfl, SqT.of upd_same, rfl, _, _, rfl, _, _, rfl, rfl, ?_⟩
      refine ⟨_, rfl, .ref p, .ty "tuple", .type "tuple", .type "tuple", true, rfl, .ty _, .base (.tup hp), kit_ty (by decide +kernel), true, rfl, iteF ⟨_, rfl, p, nv d, rfl, .inr (SqT.of hp), rfl, _, rfl, iteNS rfl ⟨_, rfl, p, nv d, 0, .int d.e, rfl, rfl, SqT.of hp, atI_nat (j := 0) rfl, d.e, rfl, true, rfl, iteF ?_⟩⟩⟩
      refine ⟨_, rfl, p, nv d, 1, .str (T d.lab), rfl, rfl, SqT.of hp, atI_nat (j := 1) rfl, .str (T d.lab), .ty "str", .type "str", .type "str", true, rfl, .ty _, .base (.str _), kit_ty (by decide +kernel), true, rfl, iteF ⟨_, rfl, p, nv d, 2, .int d.tall, rfl, rfl, SqT.of hp, atI_nat (j := 2) rfl, d.tall, rfl, true, rfl, iteF
        ⟨_, rfl, _, rfl, ndD d, ndD d, dp_nd hp, dp_nd hp', L, L, _, rfl, ?_⟩⟩⟩
      rw [eqv_nd, decide_eq_true rfl]
      exact iteF ⟨⟨_, _, rfl⟩, sm2⟩
    · rintro σ H1 ⟨⟨y2, y3, rfl⟩, sm⟩
      exact q H1 sm

/-! ### _law_ends -/
def spEnds : Sp := fun vs H Q _ => ∃ (a b : Addr) (ys : List V) (t : List Nd) (W : Nat → List Int) (lv : Nat → Nat), vs = [.ref a, .ref b] ∧ H a = some (.lst (rsV (hung t))) ∧ H b = some (.lst ys) ∧ Tups H ys t ∧ PTree t W lv ∧ 1 ≤ t.length ∧ ∀ H' : Hp, Same H H' → Q (.bl true) H'
theorem ok_law_ends (G : Gls mg) {f : Addr} {fd : FuncData} (F : Fun K "_law_ends" "_law_ends" s_law_ends f fd) : FnOk P w K mg base CX0 1 f fd ["_law_rows_here", "_law_tree_here"] spEnds := by
  refine F.ok sc_law_ends (fun vs H Q E h => ?_) (fun cdv A outer s H vs Q E hr h => ?_)
  · obtain ⟨a, b, ys, t, W, lv, rfl, _⟩ := h
    rfl
  · obtain ⟨a, b, ys, t, W, lv, rfl, ha, hb, ty, PT, h1, q⟩ := h
    have yl := ty.len
    have xl : (rsV (hung t)).length = t.length := by rw [rsV_len, hung_len h1]
    refine ⟨_, (pss_cons (ps_if (PW.pt (pw_or (pt_not (pt_val (pe_callB call_isi (by rfl) G.isinstance (by decide +kernel) (pa_cons (pv 0) (pa_cons (pe_bltn (v := .ty "list") (by rfl) G.list (by decide +kernel) rfl) pa_nil))))) (pw_or1 (pt_cmpR op_ne (pe_callB call_len_seq (by rfl) G.len (by decide +kernel) (pa_cons (pv 0) pa_nil)) (pe_callB call_len_seq (by rfl) G.len (by decide +kernel) (pa_cons (pv 1) pa_nil)) (nomark _))))) (pss_one (ps_ret pe_bl)) pss_nil)
      (pss_cons (ps_for PassesOwn.never rfl (pi_zip (by rfl) G.zip (pa_cons (pv 0) (pa_cons (pv 1) pa_nil))) (pg_tup rfl (pgs_cons (pg_name (i := 2) sc_law_ends.nd rfl (.inl rfl)) (pgs_cons (pg_name (i := 3) sc_law_ends.nd rfl (.inl rfl)) pgs_nil)))
        (pss_one (ps_if (PW.pt (pw_or (pt_not (pt_val (pe_callB call_isi (by rfl) G.isinstance (by decide +kernel) (pa_cons (pv 2) (pa_cons (pe_bltn (v := .ty "str") (by rfl) G.str (by decide +kernel) rfl) pa_nil))))) (pw_or1 (pt_not (pt_val (pe_bm PySem.F.plainAttrs_str PySem.F.slot_str_endswith PySem.F.type_str_endswith mt_endswith (pv 2) (pa_cons (pe_op op_add_str (pe_ix (r := rIxT K) ix_tup (pv 3) pe_int (fun _ _ => rfl)) (pe_op op_mulS pe_str (pe_op op_sub (pe_ix (r := rIxT K) ix_tup (pv 3) pe_int (fun _ _ => rfl)) pe_int))) pa_nil))))))) (pss_one (ps_ret pe_bl)) pss_nil)))
      (pss_one (ps_ret pe_bl)))), ?_⟩
    refine ⟨_, rfl, .ref a, .ty "list", .type "list", .type "list", true, rfl, .ty _, .base (.lst ha), kit_ty (by decide +kernel), true, rfl, iteF ⟨_, rfl, a, _, rfl, .inl (SqL.of ha), _, rfl, b, ys, rfl, .inl (SqL.of hb), rfl, _, rfl, iteNS (by rw [xl, yl]) ?_⟩⟩
    refine ⟨_, rfl, _, rfl, a, b, _, ys, rfl, SqL.of ha, SqL.of hb, for_it (walk_zip (n := t.length) (by omega)) (fun i σ H' => (∃ y2 y3, σ = [some (.ref a), some (.ref b), y2, y3]) ∧ Same H H') ⟨⟨none, none, rfl⟩, Same.refl H⟩
      (fun i σ H' _ ⟨_, sm⟩ => ⟨SqL.of (sm _ _ ha), SqL.of (sm _ _ hb)⟩) ?_ ?_⟩
    · rintro i x σ H1 H2 hi ⟨⟨y2, y3, rfl⟩, sm⟩ ⟨tp, x1, x2, rfl, nt, rfl, e1, e2⟩
      have e1 : (rsV (hung t))[i]? = some x1 := e1
      have e2 : ys[i]? = some x2 := e2
      obtain ⟨row, hrow, rfl⟩ := rsV_of e1
      have smT := same_upd (o := .tup [V.str (T row), x2]) nt
      have sm2 := sm.trans smT
      obtain ⟨d, p, hd, rfl, hp⟩ := (ty.same sm2).getV e2
      obtain ⟨d', hd', ro⟩ := PT.hungAt h1 hrow
      rw [hd] at hd'
      cases hd'
      have D := PT.nd _ _ hd
      have lo := D.lo
      have hi := D.hi
      have nl := name_len D
      unfold name at nl
      rw [List.length_append] at nl
      obtain ⟨pre, er, _, _⟩ := ro
      refine ⟨tp, _, rfl, SqT.of upd_same, rfl, _, _, rfl, _, _, rfl, rfl, ?_⟩
      refine ⟨_, rfl, .str (T row), .ty "str", .type "str", .type "str", true, rfl, .ty _, .base (.str _), kit_ty (by decide +kernel), true, rfl, iteF ⟨_, rfl, rfl, _, rfl, p, nv d, 1, .str (T d.lab), rfl, rfl, SqT.of hp, atI_nat (j := 1) rfl, _, rfl, p, nv d, 2, .int d.tall, rfl, rfl, SqT.of hp, atI_nat (j := 2) rfl, _, _, rfl, rfl,
        58, _, congrArg V.str s_colon, rfl, by omega, by omega, _, _, rfl, rfl, ?_, _, _, rfl, rfl, _, rfl, ?_⟩⟩
      · rw [T_len, T_len]
        exact small (by omega)
      · have hE : Txt.endswith (T row) (T (d.lab ++ List.replicate (d.tall - 1).toNat 58)) = true := by
          rw [er]
          exact ends_of pre (name d)
        rw [T_app, hE]
        exact iteF ⟨⟨_, _, rfl⟩, sm2⟩
    · rintro σ H1 ⟨⟨y2, y3, rfl⟩, sm⟩
      exact q H1 sm

theorem flat1 : ∀ cs : List Nat, (cs.map fun c => [c]).flatten = cs
  | [] => rfl
  | x :: r => by
    rw [List.map_cons, List.flatten_cons, flat1 r]
    rfl
theorem sum1 : ∀ cs : List Nat, ((cs.map fun c => T [c]).map (·.length)).sum = cs.length
  | [] => rfl
  | x :: r => by
    rw [List.map_cons, List.map_cons, List.sum_cons, sum1 r, List.length_cons, T_len]
    simp only [List.length_cons, List.length_nil]
    omega

/-! ### _law_other_label -/
def spOther : Sp := fun vs H Q _ => ∃ (a : Addr) (k : Nat) (z : Int) (xs : List V) (t : List Nd) (d : Nd), vs = [.ref a, .int (k : Int), .int z] ∧ H a = some (.lst xs) ∧ Tups H xs t ∧ t[k]? = some d ∧ NdOk d ∧ t.length ≤ 40 ∧
  ∀ (l : List Nat), LabOk l → ∀ (H' : Hp) (p : Addr) (xs' : List V), Same H H' → H p = none → H' p = some (.lst xs') → Tups H' xs' (t.set k { d with lab := l }) → Q (.ref p) H'
def zyx : List Nat := [122, 121, 120, 119, 118]
theorem ok_law_other_label (G : Gls mg) {f : Addr} {fd : FuncData} (F : Fun K "_law_other_label" "_law_other_label" s_law_other_label f fd) : FnOk P w K mg base CX0 1 f fd ["_law_tree_here", "_law_at", "_law_number"] spOther := by
  refine F.ok sc_law_other_label (fun vs H Q E h => ?_) (fun cdv A outer s H vs Q E hr h => ?_)
  · obtain ⟨a, k, z, xs, t, d, rfl, _⟩ := h
    rfl
  · obtain ⟨a, k, z, xs, t, d, rfl, ha, tx, hd, D, t40, q⟩ := h
    have xl := tx.len
    have hk := get_lt hd
    have lab9 := D.lab.hi
    obtain ⟨p, hp, hpd⟩ := tx.get hd
    have m3 := modin z (show (0 : Int) < 3 by decide)
    refine ⟨_, (pss_cons (ps_asg (pe_ix (r := rIxL K) ix_list (pv 0) (pv 1) (fun _ _ => rfl)) (pg_tup rfl (pgs_cons (pg_name (i := 3) sc_law_other_label.nd rfl (.inl rfl)) (pgs_cons (pg_name (i := 4) sc_law_other_label.nd rfl (.inl rfl)) (pgs_cons (pg_name (i := 5) sc_law_other_label.nd rfl (.inl rfl)) pgs_nil)))))
      (pss_cons (ps_set (i := 6) sc_law_other_label.nd rfl (.inl rfl) (pe_callB (call_max2 rfl) (by rfl) G.max (by decide +kernel) (pa_cons pe_int (pa_cons (pe_callB (call_min2 rfl) (by rfl) G.min (by decide +kernel) (pa_cons pe_int (pa_cons (pe_op op_sub (pe_op op_add (pe_callB call_len_str (by rfl) G.len (by decide +kernel) (pa_cons (pv 4) pa_nil)) (pe_op op_mod (pv 2) pe_int)) pe_int) pa_nil))) pa_nil))))
      (pss_cons (ps_set (i := 7) sc_law_other_label.nd rfl (.inl rfl) (pe_join pe_str (pe_lc (own := [("_law_k", 8)]) (g := gName 8) (by rfl) sc_law_other_label.nd (pi_range1 (by rfl) G.range (pa_cons (pv 6) pa_nil)) (blkOk_by (own := [("_law_k", 8)]) (N := ["_law_tree_here", "_law_at", "_law_number", "_law_elder", "_law_label_here", "_law_tall", "_law_many", "_law_other", "_law_k"]) (sc := defScope s_law_other_label) (by decide +kernel)) (fun _ _ _ _ _ => pg_name (i := 8) sc_law_other_label.nd rfl (Or.inl rfl)) (fun _ _ _ _ _ => pts_nil) (fun _ _ _ _ _ => (pe_ix ix_str pe_str (pe_op op_mod (pe_op op_add (pe_op op_fdiv (pv 2) pe_int) (pv 8)) pe_int) (fun _ _ => rfl))))))
      (pss_one (ps_ret (pe_op op_cat (pe_op op_cat (pe_slice sl_list (pv 0) po_none (po_some (pv 1))) (pe_lst (pa_cons (pe_tup (pa_cons (pv 3) (pa_cons (pv 7) (pa_cons (pv 5) pa_nil)))) pa_nil))) (pe_slice sl_list (pv 0) (po_some (pe_op op_add (pv 1) pe_int)) po_none))))))), ?_⟩
    refine ⟨_, rfl, _, rfl, a, xs, (k : Int), .ref p, rfl, rfl, SqL.of ha, atI_nat hp, p, _, rfl, SqT.of hpd, rfl, _, _, rfl, _, _, rfl, _, _, rfl, rfl, ?_⟩
    refine ⟨_, rfl, T d.lab, rfl, smallT (by omega), _, rfl, _, _, rfl, rfl, (by show (0 : Int) < 3; decide), _, _, rfl, rfl, _, _, rfl, rfl, 9, _, rfl, 1, _, rfl, ?_⟩
    dsimp only
    generalize hm : (if (if ((T d.lab).length : Int) + z % 3 - 1 < 9 then ((T d.lab).length : Int) + z % 3 - 1 else 9) > 1 then (if ((T d.lab).length : Int) + z % 3 - 1 < 9 then ((T d.lab).length : Int) + z % 3 - 1 else 9) else 1) = m
    have m1 : 1 ≤ m ∧ m ≤ 9 := by
      rw [← hm]
      split <;> split <;> omega
    refine ⟨⟨_, rfl⟩, _, rfl, m, rfl, by omega, by omega, fun D1 hD1 => lc_range (lo := 0) (n := m.toNat) (fun i H' => Same H H' ∧ ∃ cs : List Nat, H' D1 = some (.lst (cs.map fun c => V.str (T [c]))) ∧ cs.length = i ∧ ∀ c ∈ cs, isL c = true) ⟨same_upd hD1, [], upd_same, rfl, fun c hc => absurd hc List.not_mem_nil⟩ ?_ ?_⟩
    · rintro i H1 hi ⟨sm, cs, e1, cl, cz⟩
      refine ⟨rfl, ?_⟩
      obtain ⟨j, v, hj, hj2, hv⟩ := ix_mod (xs := zyx) (x := z / 3 + ((0 : Int) + (i : Int))) (n := 5) rfl (by decide)
      refine ⟨_, rfl, _, _, rfl, rfl, ⟨by decide, by decide⟩, _, rfl, _, _, rfl, rfl, _, _, rfl, rfl, (by show (0 : Int) < 5; decide), T zyx, _, v, congrArg V.str s_zyx, rfl, smallT (by decide), at_of' hj (by rw [T_list]; exact hv), _, e1, by rw [List.length_map]; exact small1000 (by omega), same_own sm hD1, cs ++ [v], ?_, by rw [List.length_append, cl]; rfl, fun c hc => ?_⟩
      · rw [upd_same, List.map_append]
        rfl
      · rcases List.mem_append.mp hc with hc | hc
        · exact cz c hc
        · rw [List.mem_singleton.mp hc]
          have a : ∀ x ∈ zyx, isL x = true := by decide
          exact a v (List.mem_of_getElem? hv)
    · rintro H1 ⟨sm, cs, e1, cl, cz⟩
      have L : LabOk cs := ⟨by omega, by omega, cz⟩
      have ej : Txt.join (T []) (cs.map fun c => T [c]) = T cs := by
        have := join_T (cs.map fun c => [c])
        rw [List.map_map] at this
        rw [flat1] at this
        exact this
      have ha1 := sm _ _ ha
      refine ⟨T [], D1, cs.map fun c => T [c], congrArg V.str s_empty, rfl, .inl (SqL.of (by rw [List.map_map]; exact e1)), ?_, ?_⟩
      · rw [sum1, T_len, List.length_map]
        simp only [List.length_nil]
        omega
      · rw [ej]
        have nvd : [V.int d.e, V.str (T cs), V.int d.tall] = nv { d with lab := cs } := rfl
        refine ⟨_, rfl, _, rfl, (k : Int), rfl, a, xs, rfl, SqL.of ha1, fun p1 np1 => ⟨_, rfl, _, rfl, _, rfl, by show 3 ≤ sizeLine; decide, fun p2 np2 => ⟨by show 1 ≤ sizeLine; decide, fun p3 np3 => ⟨p1, p3, cutV xs none (some (k : Int)), [V.ref p2], rfl, rfl, same_upd np3 _ _ (same_upd np2 _ _ upd_same), upd_same, ?_, fun p4 np4 =>
          ⟨_, rfl, _, rfl, _, _, rfl, rfl, _, rfl, a, xs, rfl, SqL.of (same_upd np4 _ _ (same_upd np3 _ _ (same_upd np2 _ _ (same_upd np1 _ _ ha1)))), fun p5 np5 => ⟨p4, p5, _, _, rfl, rfl, same_upd np5 _ _ upd_same, upd_same, ?_, fun p6 np6 => ?_⟩⟩⟩⟩⟩⟩
        · have := cutV_length xs none (some (k : Int))
          exact small (by simp only [List.length_cons, List.length_nil]; omega)
        · have a1 := cutV_length xs none (some (k : Int))
          have a2 := cutV_length xs (some ((k : Int) + 1)) none
          rw [List.length_append]
          exact small (by simp only [List.length_cons, List.length_nil]; omega)
        · have s1 := same_upd (o := .lst (cutV xs none (some (k : Int)))) np1
          have s2 := same_upd (o := .tup [V.int d.e, V.str (T cs), V.int d.tall]) np2
          have s3 := same_upd (o := .lst [V.ref p2]) np3
          have s4 := same_upd (o := .lst (cutV xs none (some (k : Int)) ++ [V.ref p2])) np4
          have s5 := same_upd (o := .lst (cutV xs (some ((k : Int) + 1)) none)) np5
          have s6 := same_upd (o := .lst ((cutV xs none (some (k : Int)) ++ [V.ref p2]) ++ cutV xs (some ((k : Int) + 1)) none)) np6
          have smA := ((((s1.trans s2).trans s3).trans s4).trans s5).trans s6
          refine q cs L _ p6 ((xs.take k ++ [V.ref p2]) ++ xs.drop (k + 1)) (sm.trans smA) ((sm.trans ((((s1.trans s2).trans s3).trans s4).trans s5)).free np6) ?_ ?_
          · rw [upd_same, cutV_to, show (k : Int) + 1 = ((k + 1 : Nat) : Int) by omega, cutV_from]
          · rw [List.set_eq_take_append_cons_drop, if_pos hk]
            have hp2 := s6 _ _ (s5 _ _ (s4 _ _ (s3 _ _ (upd_same (H := upd H1 p1 (.lst (cutV xs none (some (k : Int))))) (a := p2) (o := .tup [V.int d.e, V.str (T cs), V.int d.tall])))))
            have tx6 := (tx.same sm).same smA
            have := ((tx6.take k).push (d := { d with lab := cs }) hp2).app (tx6.drop (k + 1))
            have e : t.take k ++ { d with lab := cs } :: t.drop (k + 1) = (t.take k ++ [{ d with lab := cs }]) ++ t.drop (k + 1) := by simp
            rw [e]
            exact this
end
end Hr
namespace Hr
open PySem PySem.Spec PyProof.Rows L2
section
variable {P : Program} {w : World} {K : PySem.W.Frag} {mg : Str → Option Value} {base : Heap}

/-! ### lists of trees, lists of hung lists -/
def Trs (ok : Addr → Prop) (H : Hp) (vs : List V) (ts : List (List Nd)) : Prop := vs.length = ts.length ∧ ∀ (i : Nat) (t : List Nd), ts[i]? = some t → ∃ (p : Addr) (xs : List V), vs[i]? = some (.ref p) ∧ ok p ∧ H p = some (.lst xs) ∧ Tups H xs t
def Rss (ok : Addr → Prop) (H : Hp) (vs : List V) (rs : List (List (List Nat))) : Prop := vs.length = rs.length ∧ ∀ (i : Nat) (r : List (List Nat)), rs[i]? = some r → ∃ (p : Addr), vs[i]? = some (.ref p) ∧ ok p ∧ H p = some (.lst (rsV r))
theorem last_get {α : Type} {l : List α} {x y : α} {i : Nat} (h : (l ++ [x])[i]? = some y) : l[i]? = some y ∨ (i = l.length ∧ x = y) := by
  by_cases hi : i < l.length
  · rw [List.getElem?_append_left hi] at h
    exact .inl h
  · have hl := get_lt h
    rw [List.length_append] at hl
    simp only [List.length_cons, List.length_nil] at hl
    have e : i = l.length := by omega
    subst e
    rw [List.getElem?_append_right (Nat.le_refl _), Nat.sub_self] at h
    exact .inr ⟨rfl, Option.some.inj h⟩
theorem at_end {α : Type} {l : List α} {x : α} : (l ++ [x])[l.length]? = some x := by
  rw [List.getElem?_append_right (Nat.le_refl _), Nat.sub_self]
  rfl
theorem at_old {α : Type} {l : List α} {x y : α} {i : Nat} (h : l[i]? = some y) : (l ++ [x])[i]? = some y := by
  rw [List.getElem?_append_left (get_lt h)]
  exact h
section
variable {ok : Addr → Prop} {H H' : Hp} {vs : List V} {ts : List (List Nd)} {rs : List (List (List Nat))}
theorem Trs.nil : Trs ok H [] [] := ⟨rfl, fun i t h => by simp at h⟩
theorem Rss.nil : Rss ok H [] [] := ⟨rfl, fun i t h => by simp at h⟩
theorem Trs.same (T : Trs ok H vs ts) (s : Same H H') : Trs ok H' vs ts := ⟨T.1, fun i t h => by
  obtain ⟨p, xs, a, b, c, d⟩ := T.2 i t h
  exact ⟨p, xs, a, b, s _ _ c, d.same s⟩⟩
theorem Rss.same (T : Rss ok H vs rs) (s : Same H H') : Rss ok H' vs rs := ⟨T.1, fun i t h => by
  obtain ⟨p, a, b, c⟩ := T.2 i t h
  exact ⟨p, a, b, s _ _ c⟩⟩
theorem Trs.upd (T : Trs ok H vs ts) {q : Addr} {ys zs : List V} (n : ∀ p, ok p → p ≠ q) (h : H q = some (.lst ys)) : Trs ok (upd H q (.lst zs)) vs ts := ⟨T.1, fun i t e => by
  obtain ⟨p, xs, a, b, c, d⟩ := T.2 i t e
  exact ⟨p, xs, a, b, by rw [upd_ne (n p b)]; exact c, d.upd h⟩⟩
theorem Rss.upd (T : Rss ok H vs rs) {q : Addr} {zs : List V} (n : ∀ p, ok p → p ≠ q) : Rss ok (upd H q (.lst zs)) vs rs := ⟨T.1, fun i t e => by
  obtain ⟨p, a, b, c⟩ := T.2 i t e
  exact ⟨p, a, b, by rw [upd_ne (n p b)]; exact c⟩⟩
theorem Trs.push (T : Trs ok H vs ts) {p : Addr} {xs : List V} {t : List Nd} (o : ok p) (h : H p = some (.lst xs)) (r : Tups H xs t) : Trs ok H (vs ++ [.ref p]) (ts ++ [t]) := by
  refine ⟨by rw [List.length_append, List.length_append, T.1]; rfl, fun i u e => ?_⟩
  rcases last_get e with e | ⟨e2, rfl⟩
  · obtain ⟨p', xs', a, b⟩ := T.2 i u e
    exact ⟨p', xs', at_old a, b⟩
  · exact ⟨p, xs, by rw [e2, ← T.1]; exact at_end, o, h, r⟩
theorem Rss.push (T : Rss ok H vs rs) {p : Addr} {r : List (List Nat)} (o : ok p) (h : H p = some (.lst (rsV r))) : Rss ok H (vs ++ [.ref p]) (rs ++ [r]) := by
  refine ⟨by rw [List.length_append, List.length_append, T.1]; rfl, fun i u e => ?_⟩
  rcases last_get e with e | ⟨e2, rfl⟩
  · obtain ⟨p', a, b⟩ := T.2 i u e
    exact ⟨p', at_old a, b⟩
  · exact ⟨p, by rw [e2, ← T.1]; exact at_end, o, h⟩
end
def Good (t : List Nd) : Prop := ∃ (W : Nat → List Int) (lv : Nat → Nat), PTree t W lv ∧ 1 ≤ t.length
theorem Good.low {t : List Nd} (g : Good t) : ∀ d ∈ t, Low d.lab := let ⟨_, _, PT, _⟩ := g; PTree.low PT
theorem Good.lowR {t : List Nd} (g : Good t) : ∀ l ∈ hung t, Low l := let ⟨_, _, PT, h1⟩ := g; PTree.lowR PT h1
theorem Good.inj {t u : List Nd} (g : Good t) (g' : Good u) : (hung t = hung u) ↔ t = u := by
  obtain ⟨W, lv, PT, h1⟩ := g
  obtain ⟨W', lv', PT', h1'⟩ := g'
  exact ⟨hung_inj PT PT' h1 h1', fun e => by rw [e]⟩

/-! ### the law -/
def spLaw (K : PySem.W.Frag) : Sp := fun vs H Q _ => ∃ (a : Addr) (ns : List Int), vs = [.ref a] ∧ SqL K H a (ns.map V.int) ∧ ∀ H' : Hp, Q (.bl true) H'
theorem ok_law (G : Gls mg) (H_law_draws : Has P w K mg base 1 "_law_draws" ["_law_script", "_law_many"] (spDraws K)) (H_law_tree : Has P w K mg base 3 "_law_tree" ["_law_draws_here", "_law_start", "_law_many", "_law_most", "_law_deep"] (spTree K))
    (H_law_other_label : Has P w K mg base 1 "_law_other_label" ["_law_tree_here", "_law_at", "_law_number"] spOther) (Hhung_rows : Has P w K mg base 4 "hung_rows" ["tree"] (spHung K)) (Hread_hung : Has P w K mg base 5 "read_hung" ["rows"] (spRead K))
    (H_law_ends : Has P w K mg base 1 "_law_ends" ["_law_rows_here", "_law_tree_here"] spEnds) (H_law_rows : Has P w K mg base 2 "_law_rows" ["_law_found", "_law_due"] spRows) {f : Addr} {fd : FuncData} (F : Fun K "law" "law" slaw f fd) :
    FnOk P w K mg base CX0 6 f fd ["_law_script"] (spLaw K) := by
  refine F.ok sclaw (fun vs H Q E h => ?_) (fun cdv A outer s H vs Q E hr h => ?_)
  · obtain ⟨a, ns, rfl, _⟩ := h
    rfl
  · obtain ⟨a, ns, rfl, ha, q⟩ := h
    refine ⟨_, (pss_cons (ps_set (i := 1) sclaw.nd rfl (.inl rfl) (pe_own H_law_draws hr (by decide) (by rfl) (pa_cons (pv 0) (pa_cons pe_int pa_nil))))
      (pss_cons (ps_set (i := 2) sclaw.nd rfl (.inl rfl) (pe_own H_law_tree hr (by decide) (by rfl) (pa_cons (pv 1) (pa_cons pe_int (pa_cons (pe_op op_add pe_int (pe_op op_mod (pe_ix (r := rIxL K) ix_list (pv 1) pe_int (fun _ _ => rfl)) pe_int)) (pa_cons pe_int (pa_cons pe_int pa_nil)))))))
      (pss_cons (ps_set (i := 3) sclaw.nd rfl (.inl rfl) (pe_ix (r := rIxL K) ix_list (pv 1) pe_int (fun _ _ => rfl)))
      (pss_cons (ps_set (i := 4) sclaw.nd rfl (.inl rfl) (pe_lst (pa_cons (pv 2) (pa_cons (pe_own H_law_other_label hr (by decide) (by rfl) (pa_cons (pv 2) (pa_cons (pe_op op_mod (pv 3) (pe_callB call_len_seq (by rfl) G.len (by decide +kernel) (pa_cons (pv 2) pa_nil))) (pa_cons (pe_op op_fdiv (pv 3) pe_int) pa_nil)))) pa_nil))))
      (C8.pss_cut (ps_if (pt_cmpR op_gt (pe_callB call_len_seq (by rfl) G.len (by decide +kernel) (pa_cons (pv 2) pa_nil)) pe_int (nomark _)) (pss_one (ps_expr (pe_bm PySem.F.plainAttrs_list PySem.F.slot_list_append PySem.F.type_list_append mt_append (pv 4) (pa_cons (pe_slice sl_list (pv 2) po_none (po_some (pe_un un_neg pe_int))) pa_nil)))) pss_nil)
      (pss_cons (ps_set (i := 5) sclaw.nd rfl (.inl rfl) (pe_lst pa_nil))
      (pss_cons (ps_set (i := 6) sclaw.nd rfl (.inl rfl) (pe_lst pa_nil))
      (pss_cons (ps_for PassesOwn.never rfl (pi_list (pv 4)) (pg_name (i := 7) sclaw.nd rfl (.inl rfl))
        (pss_cons (ps_set (i := 8) sclaw.nd rfl (.inl rfl) (pe_callTy call_list_of (by rfl) G.list (by decide +kernel) (pa_cons (pv 7) pa_nil)))
        (pss_cons (ps_set (i := 9) sclaw.nd rfl (.inl rfl) (pe_own Hhung_rows hr (by decide) (by rfl) (pa_cons (pv 8) pa_nil)))
        (pss_cons (ps_if (PW.pt (pw_or (pt_not (pt_val (pe_own H_law_ends hr (by decide) (by rfl) (pa_cons (pv 9) (pa_cons (pv 7) pa_nil))))) (pw_or1 (pt_cmpR (op_neD hr.units) (pv 8) (pv 7) (nomark _))))) (pss_one (ps_ret pe_bl)) pss_nil)
        (pss_cons (ps_set (i := 10) sclaw.nd rfl (.inl rfl) (pe_callTy call_list_of (by rfl) G.list (by decide +kernel) (pa_cons (pv 9) pa_nil)))
        (pss_cons (ps_set (i := 11) sclaw.nd rfl (.inl rfl) (pe_own Hread_hung hr (by decide) (by rfl) (pa_cons (pv 9) pa_nil)))
        (pss_cons (ps_if (PW.pt (pw_or (pt_not (pt_val (pe_own H_law_rows hr (by decide) (by rfl) (pa_cons (pv 11) (pa_cons (pv 7) pa_nil))))) (pw_or1 (pt_cmpR (op_neD hr.units) (pv 9) (pv 10) (nomark _))))) (pss_one (ps_ret pe_bl)) pss_nil)
        (pss_cons (ps_expr (pe_bm0 PySem.F.plainAttrs_list PySem.F.slot_list_clear PySem.F.type_list_clear mt_clear (pv 9)))
        (pss_cons (ps_expr (pe_bm PySem.F.plainAttrs_list PySem.F.slot_list_append PySem.F.type_list_append mt_append (pv 5) (pa_cons (pv 11) pa_nil)))
        (pss_one (ps_expr (pe_bm PySem.F.plainAttrs_list PySem.F.slot_list_append PySem.F.type_list_append mt_append (pv 6) (pa_cons (pv 10) pa_nil)))))))))))))
      (pss_cons (ps_for PassesOwn.never rfl (pi_range1 (by rfl) G.range (pa_cons (pe_callB call_len_seq (by rfl) G.len (by decide +kernel) (pa_cons (pv 4) pa_nil)) pa_nil)) (pg_name (i := 12) sclaw.nd rfl (.inl rfl))
        (pss_cons (ps_if (pt_not (pt_val (pe_own H_law_rows hr (by decide) (by rfl) (pa_cons (pe_ix (r := rIxL K) ix_list (pv 5) (pv 12) (fun _ _ => rfl)) (pa_cons (pe_ix (r := rIxL K) ix_list (pv 4) (pv 12) (fun _ _ => rfl)) pa_nil))))) (pss_one (ps_ret pe_bl)) pss_nil)
        (pss_one (ps_for PassesOwn.never rfl (pi_range1 (by rfl) G.range (pa_cons (pv 12) pa_nil)) (pg_name (i := 13) sclaw.nd rfl (.inl rfl))
          (pss_one (ps_if (pt_cmpR op_ne (pe_cmpR (op_eqD hr.units) (pe_ix (r := rIxL K) ix_list (pv 6) (pv 13) (fun _ _ => rfl)) (pe_ix (r := rIxL K) ix_list (pv 6) (pv 12) (fun _ _ => rfl)) (nomark _)) (pe_cmpR (op_eqD hr.units) (pe_ix (r := rIxL K) ix_list (pv 4) (pv 13) (fun _ _ => rfl)) (pe_ix (r := rIxL K) ix_list (pv 4) (pv 12) (fun _ _ => rfl)) (nomark _)) (nomark _)) (pss_one (ps_ret pe_bl)) pss_nil))))))
      (pss_cons (ps_expr (pe_bm0 PySem.F.plainAttrs_list PySem.F.slot_list_clear PySem.F.type_list_clear mt_clear (pe_ix (r := rIxL K) ix_list (pv 5) pe_int (fun _ _ => rfl))))
      (pss_one (ps_ret (pe_own H_law_rows hr (by decide) (by rfl) (pa_cons (pe_own Hread_hung hr (by decide) (by rfl) (pa_cons (pe_ix (r := rIxL K) ix_list (pv 6) pe_int (fun _ _ => rfl)) pa_nil)) (pa_cons (pv 2) pa_nil))))))))))))))), ?_⟩
    refine ⟨_, rfl, a, ns, 42, rfl, ha, by decide, by decide, fun ds dl H1 p1 sm1 np1 e1 => ?_⟩
    obtain ⟨d0, hd0⟩ := get_some (show 0 < ds.length by omega)
    obtain ⟨z, hz⟩ := get_some (show 1 < ds.length by rw [dl]; decide)
    have m40 := modin d0 (show (0 : Int) < 40 by decide)
    refine ⟨_, rfl, _, rfl, p1, _, 0, .int d0, rfl, rfl, SqL.of e1, atI_nat (j := 0) (in_get hd0), _, _, rfl, rfl, (by show (0 : Int) < 40; decide), _, _, rfl, rfl, p1, ds, 1 + d0 % 40, rfl, SqL.of e1, by omega, by omega, dl, fun H2 p2 xs t W lv sm2 np2 e2 tu PT h1 => ?_⟩
    have xl := tu.len
    have t40 := PT.hi
    refine ⟨_, rfl, p1, _, 1, .int z, rfl, rfl, SqL.of (sm2 _ _ e1), atI_nat (j := 1) (in_get hz), ?_⟩
    obtain ⟨k, d, hk, hk2, hd⟩ := ix_mod (xs := t) (x := z) (n := xs.length) xl.symm (by omega)
    refine ⟨_, rfl, _, rfl, _, rfl, _, rfl, p2, xs, rfl, .inl (SqL.of e2), _, _, rfl, rfl, by omega, _, rfl, _, _, rfl, rfl, ⟨by decide, by decide⟩, p2, k, z / 64, xs, t, d, by rw [← hk]; rfl, e2, tu, hd, PT.nd _ _ hd, t40, fun l L H3 p3 xs3 sm3 np3 e3 tu3 => ⟨by show 2 ≤ sizeLine; decide, fun p4 np4 => ?_⟩⟩
    have g0 : Good t := ⟨W, lv, PT, h1⟩
    have g1 : Good (t.set k { d with lab := l }) := ⟨W, lv, PT.relabel hd L, by rw [List.length_set]; exact h1⟩
    have s4 := same_upd (o := .lst [V.ref p2, V.ref p3]) np4
    have e24 := s4 _ _ (sm3 _ _ e2)
    have tu24 := (tu.same sm3).same s4
    have T2 : Trs (fun _ => True) (upd H3 p4 (.lst [V.ref p2, V.ref p3])) [V.ref p2, V.ref p3] [t, t.set k { d with lab := l }] :=
      (Trs.nil.push (vs := []) (ts := []) (ok := fun _ => True) trivial e24 tu24).push (vs := [V.ref p2]) (ts := [t]) trivial (s4 _ _ e3) (tu3.same s4)
    refine ⟨fun σ' H' => σ' = [some (.ref a), some (.ref p1), some (.ref p2), some (.int z), some (.ref p4), none, none, none, none, none, none, none, none, none] ∧ ∃ vs ts, H' p4 = some (.lst vs) ∧ Trs (fun _ => True) H' vs ts ∧ (∀ t ∈ ts, Good t) ∧ vs[0]? = some (.ref p2) ∧ ts[0]? = some t ∧ ts.length ≤ 3, ?_, ?_⟩
    · refine ⟨_, rfl, p2, xs, rfl, .inl (SqL.of e24), _, _, rfl, rfl, _, rfl, ite2 (fun c => ?_) (fun c => ?_)⟩
      · have c1 : (1 : Int) < (xs.length : Nat) := of_decide_eq_true c
        have g2 : Good t.dropLast := ⟨W, lv, PT.less, by rw [List.length_dropLast]; omega⟩
        refine ⟨_, rfl, .inl ⟨rfl, _, SqL.of upd_same⟩, _, rfl, 1, rfl, _, rfl, p2, xs, rfl, SqL.of e24, fun p5 np5 => ⟨p4, [V.ref p2, V.ref p3], _, rfl, rfl, same_upd np5 _ _ upd_same, by show 2 < sizeLine; decide, ?_⟩⟩
        have s5 := same_upd (o := .lst (cutV xs none (some (-1)))) np5
        have e54 : (upd (upd H3 p4 (.lst [V.ref p2, V.ref p3])) p5 (.lst (cutV xs none (some (-1))))) p4 = some (.lst [V.ref p2, V.ref p3]) := s5 _ _ upd_same
        have n54 : p5 ≠ p4 := (ne_of_none (upd_same (H := H3) (a := p4) (o := .lst [V.ref p2, V.ref p3])) np5).symm
        have n24 : p2 ≠ p4 := ne_of_none (sm3 _ _ e2) np4
        have n34 : p3 ≠ p4 := ne_of_none e3 np4
        have T3 : Trs (fun p => p ≠ p4) (upd (upd H3 p4 (.lst [V.ref p2, V.ref p3])) p5 (.lst (cutV xs none (some (-1))))) [V.ref p2, V.ref p3, V.ref p5] [t, t.set k { d with lab := l }, t.dropLast] :=
          ((Trs.nil.push (vs := []) (ts := []) (ok := fun p => p ≠ p4) n24 (s5 _ _ e24) (tu24.same s5)).push (vs := [V.ref p2]) (ts := [t]) n34 (s5 _ _ (s4 _ _ e3)) ((tu3.same s4).same s5)).push (vs := [V.ref p2, V.ref p3]) (ts := [t, t.set k { d with lab := l }]) n54 (by rw [upd_same, cutV_less]) ((tu24.same s5).less)
        have T4 := T3.upd (zs := [V.ref p2, V.ref p3] ++ [V.ref p5]) (fun p o => o) e54
        refine ⟨rfl, [V.ref p2, V.ref p3, V.ref p5], [t, t.set k { d with lab := l }, t.dropLast], upd_same, ⟨T4.1, fun i u e => ?_⟩, ?_, rfl, rfl, by show 3 ≤ 3; decide⟩
        · obtain ⟨p, xs', b1, _, b3⟩ := T4.2 i u e
          exact ⟨p, xs', b1, trivial, b3⟩
        · intro u hu
          simp only [List.mem_cons, List.not_mem_nil, or_false] at hu
          rcases hu with rfl | rfl | rfl
          · exact g0
          · exact g1
          · exact g2
      · refine ⟨rfl, [V.ref p2, V.ref p3], [t, t.set k { d with lab := l }], upd_same, T2, ?_, rfl, rfl, by show 2 ≤ 3; decide⟩
        intro u hu
        simp only [List.mem_cons, List.not_mem_nil, or_false] at hu
        rcases hu with rfl | rfl
        · exact g0
        · exact g1
    · rintro σ' H0 ⟨rfl, vs, ts, e4, TS, gs, v0, t0, t3⟩
      clear s4 e24 tu24 T2 np4 e3 tu3 np3 sm3
      have vl := TS.1
      refine ⟨Nat.zero_le _, fun p6 np6 => ?_⟩
      refine ⟨Nat.zero_le _, fun p7 np7' => ?_⟩
      have s6 := same_upd (o := .lst []) np6
      have s7 := s6.trans (same_upd (o := .lst []) np7')
      have np7 : H0 p7 = none := s6.free np7'
      have n67 : p6 ≠ p7 := fun z => by
        rw [← z, upd_same] at np7'
        cases np7'
      refine ⟨_, rfl, p4, rfl, ⟨vs, SqL.of (s7 _ _ e4)⟩, for_list (K := K) (a := p4) (xs := vs) (fun i σ H' => (∃ y7 y8 y9 y10 y11, σ = [some (.ref a), some (.ref p1), some (.ref p2), some (.int z), some (.ref p4), some (.ref p6), some (.ref p7), y7, y8, y9, y10, y11, none, none]) ∧ Same H0 H' ∧
        (∃ hs, H' p6 = some (.lst hs) ∧ Trs (fun p => p ≠ p6 ∧ p ≠ p7 ∧ H0 p = none) H' hs (ts.take i)) ∧ (∃ ls, H' p7 = some (.lst ls) ∧ Rss (fun p => p ≠ p6 ∧ p ≠ p7 ∧ H0 p = none) H' ls ((ts.take i).map hung))) ?_ (fun i σ H' _ ⟨_, sm, _⟩ => SqL.of (sm _ _ e4)) ?_ ?_⟩
      · refine ⟨⟨none, none, none, none, none, rfl⟩, s7, ⟨[], ?_, Trs.nil⟩, ⟨[], upd_same, Rss.nil⟩⟩
        rw [upd_ne n67, upd_same]
      · rintro i x σ H1' hi ⟨⟨y7, y8, y9, y10, y11, rfl⟩, sm, ⟨hs, e6, TH⟩, ⟨ls, e7, RL⟩⟩
        have hit : i < ts.length := by rw [← vl]; exact get_lt hi
        obtain ⟨tq, htq⟩ := get_some hit
        obtain ⟨qa, xq, b1, _, b3, b4⟩ := TS.2 i tq htq
        rw [hi] at b1
        cases b1
        have gq : Good tq := gs tq (List.mem_of_getElem? htq)
        obtain ⟨Wq, lvq, PTq, h1q⟩ := id gq
        have hq1 := sm _ _ b3
        have tq1 := b4.same sm
        have lt6 := TH.1
        rw [List.length_take] at lt6
        have lt7 := RL.1
        rw [List.length_map, List.length_take] at lt7
        -- handed = list(one); rows = hung_rows(handed)
        refine ⟨_, rfl, qa, xq, rfl, .inl (SqL.of hq1), fun p8 np8 => ?_⟩
        have s8 := same_upd (o := .lst xq) np8
        refine ⟨_, rfl, p8, xq, tq, Wq, lvq, rfl, SqL.of upd_same, tq1.same s8, PTq, h1q, fun H3' p9 s9 np9 e9 => ?_⟩
        have s89 := s8.trans s9
        have e83 : H3' p8 = some (.lst xq) := s9 _ _ upd_same
        have n9 : H1' p9 = none := s8.free np9
        -- the ends, and what was handed in
        refine ⟨_, rfl, _, rfl, p9, qa, xq, tq, Wq, lvq, rfl, e9, s89 _ _ hq1, tq1.same s89, PTq, h1q, fun H4' s4 => ⟨true, rfl, iteF ⟨_, rfl, _, rfl, trD tq, trD tq, dp_tr (SqL.of (s4 _ _ e83)) ((tq1.same s89).same s4), dp_tr (SqL.of (s4 _ _ (s89 _ _ hq1))) ((tq1.same s89).same s4), shaped_tr gq.low, shaped_tr gq.low, _, rfl, ?_⟩⟩⟩
        rw [eqv_tr, decide_eq_true rfl]
        refine iteF ?_
        -- kept = list(rows); found = read_hung(rows)
        refine ⟨_, rfl, p9, _, rfl, .inl (SqL.of (s4 _ _ e9)), fun p10 np10 => ?_⟩
        have s10 := same_upd (o := .lst (rsV (hung tq))) np10
        refine ⟨_, rfl, p9, tq, Wq, lvq, rfl, SqL.of (s10 _ _ (s4 _ _ e9)), PTq, h1q, fun H6' p11 x11 s11 np11 e11 tu11 => ?_⟩
        have e96 := s11 _ _ (s10 _ _ (s4 _ _ e9))
        have e106 := s11 _ _ (upd_same (H := H4') (a := p10) (o := .lst (rsV (hung tq))))
        have s6' := ((s89.trans s4).trans s10).trans s11
        -- found is the tree, rows are as they were
        refine ⟨_, rfl, _, rfl, p11, qa, x11, xq, tq, rfl, e11, s6' _ _ hq1, tu11, tq1.same s6', gq.low, fun H7' s12 => ⟨true, rfl, iteF ⟨_, rfl, _, rfl, rsD (hung tq), rsD (hung tq), dp_rs (SqL.of (s12 _ _ e96)), dp_rs (SqL.of (s12 _ _ e106)), shaped_rs gq.lowR, shaped_rs gq.lowR, _, rfl, ?_⟩⟩⟩
        rw [eqv_rs, decide_eq_true rfl]
        refine iteF ?_
        have s7' := s6'.trans s12
        have e97 := s12 _ _ e96
        have n119 : p11 ≠ p9 := (ne_of_none (s10 _ _ (s4 _ _ e9)) np11).symm
        have n109 : p10 ≠ p9 := (ne_of_none (s4 _ _ e9) np10).symm
        have n69 : p6 ≠ p9 := ne_of_none e6 n9
        have n79 : p7 ≠ p9 := ne_of_none e7 n9
        have f11 : H1' p11 = none := ((s89.trans s4).trans s10).free np11
        have f10 : H1' p10 = none := (s89.trans s4).free np10
        have o11 : p11 ≠ p6 ∧ p11 ≠ p7 ∧ H0 p11 = none := ⟨(ne_of_none e6 f11).symm, (ne_of_none e7 f11).symm, sm.free f11⟩
        have o10 : p10 ≠ p6 ∧ p10 ≠ p7 ∧ H0 p10 = none := ⟨(ne_of_none e6 f10).symm, (ne_of_none e7 f10).symm, sm.free f10⟩
        -- rows.clear()
        refine ⟨_, rfl, .inl ⟨rfl, _, SqL.of e97⟩, p9, _, rfl, rfl, e97, ?_⟩
        have s8' : Same H1' (upd H7' p9 (.lst [])) := same_own s7' n9
        have e118 : (upd H7' p9 (.lst [])) p11 = some (.lst x11) := by rw [upd_ne n119]; exact s12 _ _ e11
        have tu118 : Tups (upd H7' p9 (.lst [])) x11 tq := (tu11.same s12).upd e97
        have e108 : (upd H7' p9 (.lst [])) p10 = some (.lst (rsV (hung tq))) := by rw [upd_ne n109]; exact s12 _ _ e106
        generalize (upd H7' p9 (.lst [])) = H8' at s8' e118 tu118 e108 ⊢
        have e68 := s8' _ _ e6
        have e78 := s8' _ _ e7
        -- held.append(found)
        refine ⟨_, rfl, .inl ⟨rfl, _, SqL.of e68⟩, _, rfl, p6, hs, _, rfl, rfl, e68, small1000 (by omega), ?_⟩
        have TH8 := ((TH.same s8').push o11 e118 tu118).upd (zs := hs ++ [V.ref p11]) (fun p o => o.1) e68
        have RL8 := ((RL.same s8').push o10 e108).upd (q := p6) (zs := hs ++ [V.ref p11]) (fun p o => o.1)
        have e79 : (upd H8' p6 (.lst (hs ++ [V.ref p11]))) p7 = some (.lst ls) := by rw [upd_ne n67.symm]; exact e78
        -- lists.append(kept)
        refine ⟨_, rfl, .inl ⟨rfl, _, SqL.of e79⟩, _, rfl, p7, ls, _, rfl, rfl, e79, small1000 (by omega), ?_⟩
        have TH9 := TH8.upd (zs := ls ++ [V.ref p10]) (fun p o => o.2.1) e79
        have RL9 := RL8.upd (q := p7) (zs := ls ++ [V.ref p10]) (fun p o => o.2.1)
        have et : ts.take (i + 1) = ts.take i ++ [tq] := by rw [List.take_add_one, htq]; rfl
        refine ⟨⟨_, _, _, _, _, rfl⟩, same_own (same_own (sm.trans s8') np6) np7, ⟨hs ++ [V.ref p11], ?_, ?_⟩, ⟨ls ++ [V.ref p10], upd_same, ?_⟩⟩
        · rw [upd_ne n67, upd_same]
        · rw [et]
          exact TH9
        · rw [et, List.map_append]
          exact RL9
      · rintro σ H1' ⟨⟨y7, y8, y9, y10, y11, rfl⟩, sm, ⟨hs, e6, TH⟩, ⟨ls, e7, RL⟩⟩
        rw [vl, List.take_length] at TH RL
        have e41 := sm _ _ e4
        -- for k in range(len(some))
        refine ⟨_, rfl, p4, vs, rfl, .inl (SqL.of e41), _, rfl, by omega, by omega, for_range (lo := 0) (n := ((vs.length : Nat) : Int).toNat) (fun i σ H' => (∃ y12 y13, σ = [some (.ref a), some (.ref p1), some (.ref p2), some (.int z), some (.ref p4), some (.ref p6), some (.ref p7), y7, y8, y9, y10, y11, y12, y13]) ∧ Same H1' H') ⟨⟨none, none, rfl⟩, Same.refl _⟩ ?_ ?_⟩
        · rintro i σ H2' hi ⟨⟨y12, y13, rfl⟩, s2⟩
          have hit : i < ts.length := by omega
          obtain ⟨tk, htk⟩ := get_some hit
          have gk : Good tk := gs tk (List.mem_of_getElem? htk)
          obtain ⟨pk, xk, a1, _, a3, a4⟩ := TH.2 i tk htk
          obtain ⟨qk, yk, b1, _, b3, b4⟩ := TS.2 i tk htk
          obtain ⟨rk, c1, _, c3⟩ := RL.2 i (hung tk) (by rw [List.getElem?_map, htk]; rfl)
          have ei : (0 : Int) + (i : Int) = (i : Int) := Int.zero_add _
          have s02 := sm.trans s2
          refine ⟨_, rfl, _, rfl, p6, hs, _, .ref pk, rfl, rfl, SqL.of (s2 _ _ e6), at_of' ei a1, _, rfl, _, rfl, p4, vs, _, .ref qk, rfl, rfl, SqL.of (s2 _ _ e41), at_of' ei b1, pk, qk, xk, yk, tk, rfl, s2 _ _ a3, s02 _ _ b3, a4.same s2, b4.same s02, gk.low, fun H3' s3 => ⟨true, rfl, iteF ?_⟩⟩
          refine ⟨_, rfl, _, rfl, by omega, by omega, for_range (lo := 0) (n := ((0 : Int) + (i : Int)).toNat) (fun j σ H' => (∃ y13, σ = [some (.ref a), some (.ref p1), some (.ref p2), some (.int z), some (.ref p4), some (.ref p6), some (.ref p7), y7, y8, y9, y10, y11, some (.int ((0 : Int) + (i : Int))), y13]) ∧ H' = H3') ⟨⟨_, rfl⟩, rfl⟩ ?_ ?_⟩
          · rintro j σ H4' hj ⟨⟨y13, rfl⟩, rfl⟩
            obtain ⟨tj, htj⟩ := get_some (show j < ts.length by omega)
            have gj : Good tj := gs tj (List.mem_of_getElem? htj)
            obtain ⟨qj, yj, f1, _, f3, f4⟩ := TS.2 j tj htj
            obtain ⟨rj, g1', _, g3⟩ := RL.2 j (hung tj) (by rw [List.getElem?_map, htj]; rfl)
            have ej : (0 : Int) + (j : Int) = (j : Int) := Int.zero_add _
            have s23 := s2.trans s3
            have s03 := s02.trans s3
            have e73 := s23 _ _ e7
            have e43 := s23 _ _ e41
            refine ⟨_, rfl, _, rfl, p7, ls, _, .ref rj, rfl, rfl, SqL.of e73, at_of' ej g1', _, rfl, _, rfl, p7, ls, _, .ref rk, rfl, rfl, SqL.of e73, at_of' ei c1, rsD (hung tj), rsD (hung tk), dp_rs (SqL.of (s23 _ _ g3)), dp_rs (SqL.of (s23 _ _ c3)), shaped_rs gj.lowR, shaped_rs gk.lowR,
              _, rfl, _, rfl, p4, vs, _, .ref qj, rfl, rfl, SqL.of e43, at_of' ej f1, _, rfl, _, rfl, p4, vs, _, .ref qk, rfl, rfl, SqL.of e43, at_of' ei b1, trD tj, trD tk, dp_tr (SqL.of (s03 _ _ f3)) (f4.same s03), dp_tr (SqL.of (s03 _ _ b3)) (b4.same s03), shaped_tr gj.low, shaped_tr gk.low, rfl, _, rfl, iteNS ?_ ⟨⟨_, rfl⟩, rfl⟩⟩
            rw [eqv_rs, eqv_tr, decide_eq_decide.mpr (gj.inj gk)]
          · rintro σ H4' ⟨⟨y13, rfl⟩, rfl⟩
            exact ⟨⟨_, _, rfl⟩, s2.trans s3⟩
        · rintro σ H2' ⟨⟨y12, y13, rfl⟩, s2⟩
          obtain ⟨h0, x0, a1, a2, a3, a4⟩ := TH.2 0 t t0
          obtain ⟨q0, yq, b1, _, b3, b4⟩ := TS.2 0 t t0
          obtain ⟨l0, c1, _, c3⟩ := RL.2 0 (hung t) (by rw [List.getElem?_map, t0]; rfl)
          rw [v0] at b1
          cases b1
          have s02 := sm.trans s2
          have hh0 := s2 _ _ a3
          -- held[0].clear()
          refine ⟨_, rfl, p6, hs, 0, .ref h0, rfl, rfl, SqL.of (s2 _ _ e6), atI_nat (j := 0) a1, .inl ⟨rfl, _, SqL.of hh0⟩, h0, _, rfl, rfl, hh0, ?_⟩
          have n7 : p7 ≠ h0 := a2.2.1.symm
          have n2 : p2 ≠ h0 := ne_of_none b3 a2.2.2
          have nl0 : l0 ≠ h0 := by
            refine ne_of (s2 _ _ c3) hh0 (fun e => ?_)
            have e' : rsV (hung t) = x0 := by
              cases e
              rfl
            have hl := hung_len h1
            obtain ⟨r0, hr0⟩ := get_some (l := hung t) (i := 0) (by omega)
            obtain ⟨dd, hdd⟩ := get_some (l := t) (i := 0) (by omega)
            obtain ⟨pp, hpp, _⟩ := a4.get hdd
            have w1 := rsV_get hr0
            rw [e', hpp] at w1
            cases w1
          have e7' : (upd H2' h0 (.lst [])) p7 = some (.lst ls) := by rw [upd_ne n7]; exact s2 _ _ e7
          have e2' : (upd H2' h0 (.lst [])) p2 = some (.lst yq) := by rw [upd_ne n2]; exact s02 _ _ b3
          have el' : (upd H2' h0 (.lst [])) l0 = some (.lst (rsV (hung t))) := by rw [upd_ne nl0]; exact s2 _ _ c3
          have tu' : Tups (upd H2' h0 (.lst [])) yq t := (b4.same s02).upd hh0
          refine ⟨_, rfl, p7, ls, 0, .ref l0, rfl, rfl, SqL.of e7', atI_nat (j := 0) c1, l0, t, W, lv, rfl, SqL.of el', PT, h1, fun H8' p12 x12 s8 np12 e12 tu12 => ?_⟩
          exact ⟨_, rfl, p12, p2, x12, yq, t, rfl, e12, s8 _ _ e2', tu12, tu'.same s8, g0.low, fun H9' _ => q H9'⟩
end
end Hr
namespace Hr
open PySem PySem.Spec PyProof.Rows L2
/-- what the top has written: the built-in names are free, the constants, the defs; then the law holds its promise -/
theorem all_mk {l : PySem.W.OpenLaw} {w : World} {K : PySem.W.Frag} {h : Heap} {mg : Str → Option Value} {fa : Addr} (X : K.In h) (G : h.Ns mainGlobals mg) (hfa : mg "law" = some (.ref fa))
    {f0 f1 f2 f3 f4 f5 f6 f7 f8 f9 f10 f11 f12 f13 f14 f15 f16 f17 f18 f19 : Addr} {od0 an0 od1 an1 od2 an2 od3 an3 od4 an4 od5 an5 od6 an6 od7 an7 od8 an8 od9 an9 od10 an10 od11 an11 od12 an12 od13 an13 od14 an14 od15 an15 od16 an16 od17 an17 od18 an18 od19 an19 : Option Addr} {sl0 sl1 sl2 sl3 sl4 sl5 sl6 sl7 sl8 sl9 sl10 sl11 sl12 sl13 sl14 sl15 sl16 sl17 sl18 sl19 : Array (Option Value)}
    {oc0 kV0 dc0 pm0 cd0 ct0 oc1 kV1 dc1 pm1 cd1 ct1 oc2 kV2 dc2 pm2 cd2 ct2 oc3 kV3 dc3 pm3 cd3 ct3 oc4 kV4 dc4 pm4 cd4 ct4 oc5 kV5 dc5 pm5 cd5 ct5 oc6 kV6 dc6 pm6 cd6 ct6 oc7 kV7 dc7 pm7 cd7 ct7 oc8 kV8 dc8 pm8 cd8 ct8 oc9 kV9 dc9 pm9 cd9 ct9 oc10 kV10 dc10 pm10 cd10 ct10 oc11 kV11 dc11 pm11 cd11 ct11 oc12 kV12 dc12 pm12 cd12 ct12 oc13 kV13 dc13 pm13 cd13 ct13 oc14 kV14 dc14 pm14 cd14 ct14 oc15 kV15 dc15 pm15 cd15 ct15 oc16 kV16 dc16 pm16 cd16 ct16 oc17 kV17 dc17 pm17 cd17 ct17 oc18 kV18 dc18 pm18 cd18 ct18 oc19 kV19 dc19 pm19 cd19 ct19 : Value} {t0 t1 t2 t3 t4 : Tok}
    (a0 : PySem.W.nsIn K mainGlobals "is_label" = some (some (.ref f0))) (l0 : K.lookup f0 = some ⟨oc0, od0, .func (PySem.W.fnOf "is_label" "is_label" (defArgs sis_label) (defBody sis_label) (defScope sis_label) .none kV0 dc0 pm0 an0 cd0 ct0), sl0⟩) (c0 : PySem.W.codeIn K cd0 "is_label" = true) (k0 : PySem.W.keepIn K (.ref f0) = true)
    (a1 : PySem.W.nsIn K mainGlobals "way_to" = some (some (.ref f1))) (l1 : K.lookup f1 = some ⟨oc1, od1, .func (PySem.W.fnOf "way_to" "way_to" (defArgs sway_to) (defBody sway_to) (defScope sway_to) .none kV1 dc1 pm1 an1 cd1 ct1), sl1⟩) (c1 : PySem.W.codeIn K cd1 "way_to" = true) (k1 : PySem.W.keepIn K (.ref f1) = true)
    (a2 : PySem.W.nsIn K mainGlobals "made_tree" = some (some (.ref f2))) (l2 : K.lookup f2 = some ⟨oc2, od2, .func (PySem.W.fnOf "made_tree" "made_tree" (defArgs smade_tree) (defBody smade_tree) (defScope smade_tree) .none kV2 dc2 pm2 an2 cd2 ct2), sl2⟩) (c2 : PySem.W.codeIn K cd2 "made_tree" = true) (k2 : PySem.W.keepIn K (.ref f2) = true)
    (a3 : PySem.W.nsIn K mainGlobals "ask_node" = some (some (.ref f3))) (l3 : K.lookup f3 = some ⟨oc3, od3, .func (PySem.W.fnOf "ask_node" "ask_node" (defArgs sask_node) (defBody sask_node) (defScope sask_node) .none kV3 dc3 pm3 an3 cd3 ct3), sl3⟩) (c3 : PySem.W.codeIn K cd3 "ask_node" = true) (k3 : PySem.W.keepIn K (.ref f3) = true)
    (a4 : PySem.W.nsIn K mainGlobals "children_of" = some (some (.ref f4))) (l4 : K.lookup f4 = some ⟨oc4, od4, .func (PySem.W.fnOf "children_of" "children_of" (defArgs schildren_of) (defBody schildren_of) (defScope schildren_of) .none kV4 dc4 pm4 an4 cd4 ct4), sl4⟩) (c4 : PySem.W.codeIn K cd4 "children_of" = true) (k4 : PySem.W.keepIn K (.ref f4) = true)
    (a5 : PySem.W.nsIn K mainGlobals "name_row" = some (some (.ref f5))) (l5 : K.lookup f5 = some ⟨oc5, od5, .func (PySem.W.fnOf "name_row" "name_row" (defArgs sname_row) (defBody sname_row) (defScope sname_row) .none kV5 dc5 pm5 an5 cd5 ct5), sl5⟩) (c5 : PySem.W.codeIn K cd5 "name_row" = true) (k5 : PySem.W.keepIn K (.ref f5) = true)
    (a6 : PySem.W.nsIn K mainGlobals "are_last" = some (some (.ref f6))) (l6 : K.lookup f6 = some ⟨oc6, od6, .func (PySem.W.fnOf "are_last" "are_last" (defArgs sare_last) (defBody sare_last) (defScope sare_last) .none kV6 dc6 pm6 an6 cd6 ct6), sl6⟩) (c6 : PySem.W.codeIn K cd6 "are_last" = true) (k6 : PySem.W.keepIn K (.ref f6) = true)
    (a7 : PySem.W.nsIn K mainGlobals "hung_rows" = some (some (.ref f7))) (l7 : K.lookup f7 = some ⟨oc7, od7, .func (PySem.W.fnOf "hung_rows" "hung_rows" (defArgs shung_rows) (defBody shung_rows) (defScope shung_rows) .none kV7 dc7 pm7 an7 cd7 ct7), sl7⟩) (c7 : PySem.W.codeIn K cd7 "hung_rows" = true) (k7 : PySem.W.keepIn K (.ref f7) = true)
    (a8 : PySem.W.nsIn K mainGlobals "name_begin" = some (some (.ref f8))) (l8 : K.lookup f8 = some ⟨oc8, od8, .func (PySem.W.fnOf "name_begin" "name_begin" (defArgs sname_begin) (defBody sname_begin) (defScope sname_begin) .none kV8 dc8 pm8 an8 cd8 ct8), sl8⟩) (c8 : PySem.W.codeIn K cd8 "name_begin" = true) (k8 : PySem.W.keepIn K (.ref f8) = true)
    (a9 : PySem.W.nsIn K mainGlobals "guessed_node" = some (some (.ref f9))) (l9 : K.lookup f9 = some ⟨oc9, od9, .func (PySem.W.fnOf "guessed_node" "guessed_node" (defArgs sguessed_node) (defBody sguessed_node) (defScope sguessed_node) .none kV9 dc9 pm9 an9 cd9 ct9), sl9⟩) (c9 : PySem.W.codeIn K cd9 "guessed_node" = true) (k9 : PySem.W.keepIn K (.ref f9) = true)
    (a10 : PySem.W.nsIn K mainGlobals "read_hung" = some (some (.ref f10))) (l10 : K.lookup f10 = some ⟨oc10, od10, .func (PySem.W.fnOf "read_hung" "read_hung" (defArgs sread_hung) (defBody sread_hung) (defScope sread_hung) .none kV10 dc10 pm10 an10 cd10 ct10), sl10⟩) (c10 : PySem.W.codeIn K cd10 "read_hung" = true) (k10 : PySem.W.keepIn K (.ref f10) = true)
    (a11 : PySem.W.nsIn K mainGlobals "_law_draws" = some (some (.ref f11))) (l11 : K.lookup f11 = some ⟨oc11, od11, .func (PySem.W.fnOf "_law_draws" "_law_draws" (defArgs s_law_draws) (defBody s_law_draws) (defScope s_law_draws) .none kV11 dc11 pm11 an11 cd11 ct11), sl11⟩) (c11 : PySem.W.codeIn K cd11 "_law_draws" = true) (k11 : PySem.W.keepIn K (.ref f11) = true)
    (a12 : PySem.W.nsIn K mainGlobals "_law_letters" = some (some (.ref f12))) (l12 : K.lookup f12 = some ⟨oc12, od12, .func (PySem.W.fnOf "_law_letters" "_law_letters" (defArgs s_law_letters) (defBody s_law_letters) (defScope s_law_letters) .none kV12 dc12 pm12 an12 cd12 ct12), sl12⟩) (c12 : PySem.W.codeIn K cd12 "_law_letters" = true) (k12 : PySem.W.keepIn K (.ref f12) = true)
    (a13 : PySem.W.nsIn K mainGlobals "_law_label" = some (some (.ref f13))) (l13 : K.lookup f13 = some ⟨oc13, od13, .func (PySem.W.fnOf "_law_label" "_law_label" (defArgs s_law_label) (defBody s_law_label) (defScope s_law_label) .none kV13 dc13 pm13 an13 cd13 ct13), sl13⟩) (c13 : PySem.W.codeIn K cd13 "_law_label" = true) (k13 : PySem.W.keepIn K (.ref f13) = true)
    (a14 : PySem.W.nsIn K mainGlobals "_law_tree" = some (some (.ref f14))) (l14 : K.lookup f14 = some ⟨oc14, od14, .func (PySem.W.fnOf "_law_tree" "_law_tree" (defArgs s_law_tree) (defBody s_law_tree) (defScope s_law_tree) .none kV14 dc14 pm14 an14 cd14 ct14), sl14⟩) (c14 : PySem.W.codeIn K cd14 "_law_tree" = true) (k14 : PySem.W.keepIn K (.ref f14) = true)
    (a15 : PySem.W.nsIn K mainGlobals "_law_whole" = some (some (.ref f15))) (l15 : K.lookup f15 = some ⟨oc15, od15, .func (PySem.W.fnOf "_law_whole" "_law_whole" (defArgs s_law_whole) (defBody s_law_whole) (defScope s_law_whole) .none kV15 dc15 pm15 an15 cd15 ct15), sl15⟩) (c15 : PySem.W.codeIn K cd15 "_law_whole" = true) (k15 : PySem.W.keepIn K (.ref f15) = true)
    (a16 : PySem.W.nsIn K mainGlobals "_law_rows" = some (some (.ref f16))) (l16 : K.lookup f16 = some ⟨oc16, od16, .func (PySem.W.fnOf "_law_rows" "_law_rows" (defArgs s_law_rows) (defBody s_law_rows) (defScope s_law_rows) .none kV16 dc16 pm16 an16 cd16 ct16), sl16⟩) (c16 : PySem.W.codeIn K cd16 "_law_rows" = true) (k16 : PySem.W.keepIn K (.ref f16) = true)
    (a17 : PySem.W.nsIn K mainGlobals "_law_other_label" = some (some (.ref f17))) (l17 : K.lookup f17 = some ⟨oc17, od17, .func (PySem.W.fnOf "_law_other_label" "_law_other_label" (defArgs s_law_other_label) (defBody s_law_other_label) (defScope s_law_other_label) .none kV17 dc17 pm17 an17 cd17 ct17), sl17⟩) (c17 : PySem.W.codeIn K cd17 "_law_other_label" = true) (k17 : PySem.W.keepIn K (.ref f17) = true)
    (a18 : PySem.W.nsIn K mainGlobals "_law_ends" = some (some (.ref f18))) (l18 : K.lookup f18 = some ⟨oc18, od18, .func (PySem.W.fnOf "_law_ends" "_law_ends" (defArgs s_law_ends) (defBody s_law_ends) (defScope s_law_ends) .none kV18 dc18 pm18 an18 cd18 ct18), sl18⟩) (c18 : PySem.W.codeIn K cd18 "_law_ends" = true) (k18 : PySem.W.keepIn K (.ref f18) = true)
    (a19 : PySem.W.nsIn K mainGlobals "law" = some (some (.ref f19))) (l19 : K.lookup f19 = some ⟨oc19, od19, .func (PySem.W.fnOf "law" "law" (defArgs slaw) (defBody slaw) (defScope slaw) .none kV19 dc19 pm19 an19 cd19 ct19), sl19⟩) (c19 : PySem.W.codeIn K cd19 "law" = true) (k19 : PySem.W.keepIn K (.ref f19) = true)
    (z0 : PySem.W.nsIn K mainGlobals "len" = some none)
    (z1 : PySem.W.nsIn K mainGlobals "range" = some none)
    (z2 : PySem.W.nsIn K mainGlobals "enumerate" = some none)
    (z3 : PySem.W.nsIn K mainGlobals "zip" = some none)
    (z4 : PySem.W.nsIn K mainGlobals "isinstance" = some none)
    (z5 : PySem.W.nsIn K mainGlobals "int" = some none)
    (z6 : PySem.W.nsIn K mainGlobals "bool" = some none)
    (z7 : PySem.W.nsIn K mainGlobals "list" = some none)
    (z8 : PySem.W.nsIn K mainGlobals "str" = some none)
    (z9 : PySem.W.nsIn K mainGlobals "tuple" = some none)
    (z10 : PySem.W.nsIn K mainGlobals "min" = some none)
    (z11 : PySem.W.nsIn K mainGlobals "max" = some none)
    (v0 : PySem.W.nsIn K mainGlobals "MOST_NODES" = some (some (.int 40 t0)))
    (v1 : PySem.W.nsIn K mainGlobals "MOST_LEVEL" = some (some (.int 8 t1)))
    (v2 : PySem.W.nsIn K mainGlobals "MOST_SIGNS" = some (some (.int 9 t2)))
    (v3 : PySem.W.nsIn K mainGlobals "MOST_TALL" = some (some (.int 9 t3)))
    (v4 : PySem.W.nsIn K mainGlobals "LETTERS" = some (some (.str (Str.ofString "abcdefghijklmnopqrstuvwxyz") t4)))
    : ∃ fd : FuncData, (∀ (s : Shared) (v : Value), BindsTo s fd ⟨[v], []⟩ [("_law_script", v)]) ∧ ∀ base : Heap, K.In base → base.Ns mainGlobals mg → FnOk l.prog w K mg base CX0 6 fa fd ["_law_script"] (spLaw K) := by
  have e := hfa.symm.trans (PySem.W.mg_of X G a19)
  cases e
  have GL : Gls mg := ⟨PySem.W.mg_none_of X G z0, PySem.W.mg_none_of X G z1, PySem.W.mg_none_of X G z2, PySem.W.mg_none_of X G z3, PySem.W.mg_none_of X G z4, PySem.W.mg_none_of X G z5, PySem.W.mg_none_of X G z6, PySem.W.mg_none_of X G z7, PySem.W.mg_none_of X G z8, PySem.W.mg_none_of X G z9, PySem.W.mg_none_of X G z10, PySem.W.mg_none_of X G z11, ⟨_, PySem.W.mg_of X G v0⟩, ⟨_, PySem.W.mg_of X G v1⟩, ⟨_, PySem.W.mg_of X G v2⟩, ⟨_, PySem.W.mg_of X G v3⟩, ⟨_, by rw [← s_azs]; exact PySem.W.mg_of X G v4⟩⟩
  have F0 := fun_mk (st := sis_label) l0 c0 k0
  have F1 := fun_mk (st := sway_to) l1 c1 k1
  have F2 := fun_mk (st := smade_tree) l2 c2 k2
  have F3 := fun_mk (st := sask_node) l3 c3 k3
  have F4 := fun_mk (st := schildren_of) l4 c4 k4
  have F5 := fun_mk (st := sname_row) l5 c5 k5
  have F6 := fun_mk (st := sare_last) l6 c6 k6
  have F7 := fun_mk (st := shung_rows) l7 c7 k7
  have F8 := fun_mk (st := sname_begin) l8 c8 k8
  have F9 := fun_mk (st := sguessed_node) l9 c9 k9
  have F10 := fun_mk (st := sread_hung) l10 c10 k10
  have F11 := fun_mk (st := s_law_draws) l11 c11 k11
  have F12 := fun_mk (st := s_law_letters) l12 c12 k12
  have F13 := fun_mk (st := s_law_label) l13 c13 k13
  have F14 := fun_mk (st := s_law_tree) l14 c14 k14
  have F15 := fun_mk (st := s_law_whole) l15 c15 k15
  have F16 := fun_mk (st := s_law_rows) l16 c16 k16
  have F17 := fun_mk (st := s_law_other_label) l17 c17 k17
  have F18 := fun_mk (st := s_law_ends) l18 c18 k18
  have F19 := fun_mk (st := slaw) l19 c19 k19
  refine ⟨PySem.W.fnOf "law" "law" (defArgs slaw) (defBody slaw) (defScope slaw) .none kV19 dc19 pm19 an19 cd19 ct19, fun s v => .of_eq rfl, fun base _ _ => ?_⟩
  have b11 : Binds K _ ["_law_script", "_law_many"] [] := F11.binds (ps := ["_law_script", "_law_many"]) fun _ _ _ _ _ _ us hl => match us, hl with | [_, _], _ => rfl
  have H_law_draws : Has l.prog w K mg base 1 "_law_draws" ["_law_script", "_law_many"] (spDraws K) := has_of F11 (PySem.W.mg_of X G a11) b11 (ok_law_draws GL F11)
  have b12 : Binds K _ ["_law_number", "_law_size"] [] := F12.binds (ps := ["_law_number", "_law_size"]) fun _ _ _ _ _ _ us hl => match us, hl with | [_, _], _ => rfl
  have H_law_letters : Has l.prog w K mg base 1 "_law_letters" ["_law_number", "_law_size"] spLetters := has_of F12 (PySem.W.mg_of X G a12) b12 (ok_law_letters GL F12)
  have b13 : Binds K _ ["_law_number", "_law_most"] [] := F13.binds (ps := ["_law_number", "_law_most"]) fun _ _ _ _ _ _ us hl => match us, hl with | [_, _], _ => rfl
  have H_law_label : Has l.prog w K mg base 2 "_law_label" ["_law_number", "_law_most"] spLab := has_of F13 (PySem.W.mg_of X G a13) b13 (ok_law_label GL H_law_letters F13)
  have b14 : Binds K _ ["_law_draws_here", "_law_start", "_law_many", "_law_most", "_law_deep"] [] := F14.binds (ps := ["_law_draws_here", "_law_start", "_law_many", "_law_most", "_law_deep"]) fun _ _ _ _ _ _ us hl => match us, hl with | [_, _, _, _, _], _ => rfl
  have H_law_tree : Has l.prog w K mg base 3 "_law_tree" ["_law_draws_here", "_law_start", "_law_many", "_law_most", "_law_deep"] (spTree K) := has_of F14 (PySem.W.mg_of X G a14) b14 (ok_law_tree GL H_law_label F14)
  have b17 : Binds K _ ["_law_tree_here", "_law_at", "_law_number"] [] := F17.binds (ps := ["_law_tree_here", "_law_at", "_law_number"]) fun _ _ _ _ _ _ us hl => match us, hl with | [_, _, _], _ => rfl
  have H_law_other_label : Has l.prog w K mg base 1 "_law_other_label" ["_law_tree_here", "_law_at", "_law_number"] spOther := has_of F17 (PySem.W.mg_of X G a17) b17 (ok_law_other_label GL F17)
  have b3 : Binds K _ ["tree", "node"] [] := F3.binds (ps := ["tree", "node"]) fun _ _ _ _ _ _ us hl => match us, hl with | [_, _], _ => rfl
  have Hask_node : Has l.prog w K mg base 1 "ask_node" ["tree", "node"] (spAsk K) := has_of F3 (PySem.W.mg_of X G a3) b3 (ok_ask_node GL F3)
  have b4 : Binds K _ ["tree", "node"] [] := F4.binds (ps := ["tree", "node"]) fun _ _ _ _ _ _ us hl => match us, hl with | [_, _], _ => rfl
  have Hchildren_of : Has l.prog w K mg base 2 "children_of" ["tree", "node"] (spKids K) := has_of F4 (PySem.W.mg_of X G a4) b4 (ok_children_of GL Hask_node F4)
  have b6 : Binds K _ ["tree"] [] := F6.binds (ps := ["tree"]) fun _ _ _ _ _ _ us hl => match us, hl with | [_], _ => rfl
  have Hare_last : Has l.prog w K mg base 3 "are_last" ["tree"] (spLast K) := has_of F6 (PySem.W.mg_of X G a6) b6 (ok_are_last GL Hchildren_of F6)
  have b5 : Binds K _ ["row"] [] := F5.binds (ps := ["row"]) fun _ _ _ _ _ _ us hl => match us, hl with | [_], _ => rfl
  have Hname_row : Has l.prog w K mg base 1 "name_row" ["row"] spName := has_of F5 (PySem.W.mg_of X G a5) b5 (ok_name_row GL F5)
  have b7 : Binds K _ ["tree"] [] := F7.binds (ps := ["tree"]) fun _ _ _ _ _ _ us hl => match us, hl with | [_], _ => rfl
  have Hhung_rows : Has l.prog w K mg base 4 "hung_rows" ["tree"] (spHung K) := has_of F7 (PySem.W.mg_of X G a7) b7 (ok_hung_rows GL Hare_last Hname_row F7)
  have b8 : Binds K _ ["text"] [] := F8.binds (ps := ["text"]) fun _ _ _ _ _ _ us hl => match us, hl with | [_], _ => rfl
  have Hname_begin : Has l.prog w K mg base 1 "name_begin" ["text"] spBegin := has_of F8 (PySem.W.mg_of X G a8) b8 (ok_name_begin GL F8)
  have b9 : Binds K _ ["way", "text"] [] := F9.binds (ps := ["way", "text"]) fun _ _ _ _ _ _ us hl => match us, hl with | [_, _], _ => rfl
  have Hguessed_node : Has l.prog w K mg base 2 "guessed_node" ["way", "text"] spGuess := has_of F9 (PySem.W.mg_of X G a9) b9 (ok_guessed_node GL Hname_begin F9)
  have b0 : Binds K _ ["label"] [] := F0.binds (ps := ["label"]) fun _ _ _ _ _ _ us hl => match us, hl with | [_], _ => rfl
  have His_label : Has l.prog w K mg base 1 "is_label" ["label"] spLabel := has_of F0 (PySem.W.mg_of X G a0) b0 (ok_is_label GL F0)
  have b1 : Binds K _ ["way", "elder"] [] := F1.binds (ps := ["way", "elder"]) fun _ _ _ _ _ _ us hl => match us, hl with | [_, _], _ => rfl
  have Hway_to : Has l.prog w K mg base 1 "way_to" ["way", "elder"] spWay := has_of F1 (PySem.W.mg_of X G a1) b1 (ok_way_to GL F1)
  have b2 : Binds K _ ["rows"] [] := F2.binds (ps := ["rows"]) fun _ _ _ _ _ _ us hl => match us, hl with | [_], _ => rfl
  have Hmade_tree : Has l.prog w K mg base 2 "made_tree" ["rows"] (spMade K) := has_of F2 (PySem.W.mg_of X G a2) b2 (ok_made_tree GL His_label Hway_to F2)
  have b10 : Binds K _ ["rows"] [] := F10.binds (ps := ["rows"]) fun _ _ _ _ _ _ us hl => match us, hl with | [_], _ => rfl
  have Hread_hung : Has l.prog w K mg base 5 "read_hung" ["rows"] (spRead K) := has_of F10 (PySem.W.mg_of X G a10) b10 (ok_read_hung GL Hguessed_node Hname_begin Hmade_tree Hhung_rows F10)
  have b18 : Binds K _ ["_law_rows_here", "_law_tree_here"] [] := F18.binds (ps := ["_law_rows_here", "_law_tree_here"]) fun _ _ _ _ _ _ us hl => match us, hl with | [_, _], _ => rfl
  have H_law_ends : Has l.prog w K mg base 1 "_law_ends" ["_law_rows_here", "_law_tree_here"] spEnds := has_of F18 (PySem.W.mg_of X G a18) b18 (ok_law_ends GL F18)
  have b15 : Binds K _ ["_law_found"] [] := F15.binds (ps := ["_law_found"]) fun _ _ _ _ _ _ us hl => match us, hl with | [_], _ => rfl
  have H_law_whole : Has l.prog w K mg base 1 "_law_whole" ["_law_found"] spWhole := has_of F15 (PySem.W.mg_of X G a15) b15 (ok_law_whole GL F15)
  have b16 : Binds K _ ["_law_found", "_law_due"] [] := F16.binds (ps := ["_law_found", "_law_due"]) fun _ _ _ _ _ _ us hl => match us, hl with | [_, _], _ => rfl
  have H_law_rows : Has l.prog w K mg base 2 "_law_rows" ["_law_found", "_law_due"] spRows := has_of F16 (PySem.W.mg_of X G a16) b16 (ok_law_rows GL H_law_whole F16)
  exact ok_law GL H_law_draws H_law_tree H_law_other_label Hhung_rows Hread_hung H_law_ends H_law_rows F19
end Hr
open PySem PySem.W PyProof.Rows
set_option maxHeartbeats 0 in
theorem PySem.Challenge.cw_boughdraw_k14_whole_hung_read_holds : PySem.Challenge.rw_boughdraw_k14_whole_hung_read.Holds := by
  w_on; o_law; k_head; (case hw => w_witness2)
  k_fill
  refine L2.walk_of (l := PySem.Challenge.rw_boughdraw_k14_whole_hung_read) (n := 63) (k := 6) (x := "_law_script") (CX := fun _ => L2.CX0) (sp := fun w => Hr.spLaw _) rfl (by decide) rfl ⟨rfl, by decide, by decide⟩ (fun w h Y => PySem.W.kIn_of Y) ?F (fun _ _ a ns hl _ hS => ⟨a, ns, rfl, hS, fun _ => rfl⟩) (fun _ _ _ _ _ h => h)
  case F =>
    intro w mg fa h KX G hmg
    refine' Hr.all_mk KX G hmg ?a0 ?l0 ?c0 ?k0 ?a1 ?l1 ?c1 ?k1 ?a2 ?l2 ?c2 ?k2 ?a3 ?l3 ?c3 ?k3 ?a4 ?l4 ?c4 ?k4 ?a5 ?l5 ?c5 ?k5 ?a6 ?l6 ?c6 ?k6 ?a7 ?l7 ?c7 ?k7 ?a8 ?l8 ?c8 ?k8 ?a9 ?l9 ?c9 ?k9 ?a10 ?l10 ?c10 ?k10 ?a11 ?l11 ?c11 ?k11 ?a12 ?l12 ?c12 ?k12 ?a13 ?l13 ?c13 ?k13 ?a14 ?l14 ?c14 ?k14 ?a15 ?l15 ?c15 ?k15 ?a16 ?l16 ?c16 ?k16 ?a17 ?l17 ?c17 ?k17 ?a18 ?l18 ?c18 ?k18 ?a19 ?l19 ?c19 ?k19 ?z0 ?z1 ?z2 ?z3 ?z4 ?z5 ?z6 ?z7 ?z8 ?z9 ?z10 ?z11 ?v0 ?v1 ?v2 ?v3 ?v4
    (case a0 => k_is); (case l0 => k_is); (case c0 => k_is); (case k0 => k_is); (case a1 => k_is); (case l1 => k_is); (case c1 => k_is); (case k1 => k_is)
    (case a2 => k_is); (case l2 => k_is); (case c2 => k_is); (case k2 => k_is); (case a3 => k_is); (case l3 => k_is); (case c3 => k_is); (case k3 => k_is)
    (case a4 => k_is); (case l4 => k_is); (case c4 => k_is); (case k4 => k_is); (case a5 => k_is); (case l5 => k_is); (case c5 => k_is); (case k5 => k_is)
    (case a6 => k_is); (case l6 => k_is); (case c6 => k_is); (case k6 => k_is); (case a7 => k_is); (case l7 => k_is); (case c7 => k_is); (case k7 => k_is)
    (case a8 => k_is); (case l8 => k_is); (case c8 => k_is); (case k8 => k_is); (case a9 => k_is); (case l9 => k_is); (case c9 => k_is); (case k9 => k_is)
    (case a10 => k_is); (case l10 => k_is); (case c10 => k_is); (case k10 => k_is); (case a11 => k_is); (case l11 => k_is); (case c11 => k_is); (case k11 => k_is)
    (case a12 => k_is); (case l12 => k_is); (case c12 => k_is); (case k12 => k_is); (case a13 => k_is); (case l13 => k_is); (case c13 => k_is); (case k13 => k_is)
    (case a14 => k_is); (case l14 => k_is); (case c14 => k_is); (case k14 => k_is); (case a15 => k_is); (case l15 => k_is); (case c15 => k_is); (case k15 => k_is)
    (case a16 => k_is); (case l16 => k_is); (case c16 => k_is); (case k16 => k_is); (case a17 => k_is); (case l17 => k_is); (case c17 => k_is); (case k17 => k_is)
    (case a18 => k_is); (case l18 => k_is); (case c18 => k_is); (case k18 => k_is); (case a19 => k_is); (case l19 => k_is); (case c19 => k_is); (case k19 => k_is)
    (case z0 => k_is); (case z1 => k_is); (case z2 => k_is); (case z3 => k_is); (case z4 => k_is); (case z5 => k_is); (case z6 => k_is); (case z7 => k_is)
    (case z8 => k_is); (case z9 => k_is); (case z10 => k_is); (case z11 => k_is); (case v0 => k_is); (case v1 => k_is); (case v2 => k_is); (case v3 => k_is)
    (case v4 => k_is)

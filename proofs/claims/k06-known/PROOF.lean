import PyProof.Rows.All
import Wide.All
import OpenK.AllK
import Wide.FinOn
import HandS.ForMost
import HandS.ForExc
import HandS.EndBits
import HandS.Evl
import HandS.Flow
import HandS.Zip
import HandS.Walk
import HandS.SetKeys
import HandS.IsInst
import HandS.Conv
import HandS.SortInts
import HandS.SetFor
import HandS.Wide
import HandS.Codes
import HandS.Small
import HandS.Style
import HandS.Deep
import HandS.SortKw
import KE.DataMinMax
import HandS.SortOrd
import HandS.ExcIs
import HandS.Lambda
import HandS.HotCalls
import HandS.EndTab
import HandS.ExcCtx
import KE.KNest
import HandS.Sort
import PySem.Challenge.RW_tiehalves_k06_whole_known
set_option linter.all false
set_option Elab.async false
/-! Ties, parts, degrees. -/
namespace TM
abbrev Tie := Int × Int
def has (t : Tie) (v : Int) : Bool := decide (v = t.1 ∨ v = t.2)
def oth (t : Tie) (v : Int) : Int := t.1 + t.2 - v
def Web (n : Int) (ts : List Tie) : Prop := ∀ t ∈ ts, 0 ≤ t.1 ∧ t.1 < t.2 ∧ t.2 < n
theorem has_iff {t : Tie} {v : Int} : has t v = true ↔ v = t.1 ∨ v = t.2 := by simp [has]
theorem has_oth {t : Tie} {v : Int} (h : has t v = true) : has t (oth t v) = true := by
  rw [has_iff] at *; unfold oth; omega
theorem oth_oth {t : Tie} {v : Int} : oth t (oth t v) = v := by unfold oth; omega
theorem has_1 {t : Tie} : has t t.1 = true := by simp [has]
theorem has_2 {t : Tie} : has t t.2 = true := by simp [has]
theorem oth_1 {t : Tie} : oth t t.1 = t.2 := by unfold oth; omega
theorem oth_2 {t : Tie} : oth t t.2 = t.1 := by unfold oth; omega
theorem has_two {t : Tie} {u v : Int} (hu : has t u = true) (hv : has t v = true) : v = u ∨ v = oth t u := by
  rw [has_iff] at *; unfold oth; omega
theorem Web.lt {n : Int} {ts : List Tie} (w : Web n ts) {t : Tie} (ht : t ∈ ts) {v : Int} (hv : has t v = true) : 0 ≤ v ∧ v < n := by
  have := w t ht
  rw [has_iff] at hv; omega
theorem Web.tail {n : Int} {t : Tie} {ts : List Tie} (w : Web n (t :: ts)) : Web n ts := fun u hu => w u (List.mem_cons_of_mem _ hu)
theorem Web.sub {n : Int} {ts us : List Tie} (w : Web n ts) (h : ∀ t ∈ us, t ∈ ts) : Web n us := fun u hu => w u (h u hu)

inductive Reach (ts : List Tie) (a : Int) : Int → Prop
  | refl : Reach ts a a
  | step {b : Int} {t : Tie} : Reach ts a b → t ∈ ts → has t b = true → Reach ts a (oth t b)
theorem Reach.trans {ts : List Tie} {a b c : Int} (h : Reach ts a b) (k : Reach ts b c) : Reach ts a c := by
  induction k with
  | refl => exact h
  | step _ ht hb ih => exact ih.step ht hb
theorem Reach.one {ts : List Tie} {t : Tie} {b : Int} (ht : t ∈ ts) (hb : has t b = true) : Reach ts b (oth t b) := Reach.refl.step ht hb
theorem Reach.symm {ts : List Tie} {a b : Int} (h : Reach ts a b) : Reach ts b a := by
  induction h with
  | refl => exact .refl
  | @step c t _ ht hb ih =>
    have h1 : Reach ts (oth t c) (oth t (oth t c)) := Reach.one ht (has_oth hb)
    rw [oth_oth] at h1
    exact h1.trans ih
theorem Reach.tie {ts : List Tie} {t : Tie} {u v : Int} (ht : t ∈ ts) (hu : has t u = true) (hv : has t v = true) : Reach ts u v := by
  rcases has_two hu hv with h | h
  · rw [h]; exact .refl
  · rw [h]; exact Reach.one ht hu
theorem Reach.in {n : Int} {ts : List Tie} (w : Web n ts) {a b : Int} (h : Reach ts a b) (ha : 0 ≤ a ∧ a < n) : 0 ≤ b ∧ b < n := by
  cases h with
  | refl => exact ha
  | step _ ht hb => exact w.lt ht (has_oth hb)
theorem Reach.mono {ts us : List Tie} {a b : Int} (h : Reach ts a b) (k : ∀ t ∈ ts, t ∈ us) : Reach us a b := by
  induction h with
  | refl => exact .refl
  | step _ ht hb ih => exact ih.step (k _ ht) hb

def deg (ts : List Tie) (v : Int) : Nat := ts.countP fun t => has t v
theorem deg_cons (t : Tie) (ts : List Tie) (v : Int) : deg (t :: ts) v = deg ts v + (if has t v then 1 else 0) := by
  unfold deg; rw [List.countP_cons]
theorem deg_nil (v : Int) : deg [] v = 0 := rfl
theorem deg_append (ts us : List Tie) (v : Int) : deg (ts ++ us) v = deg ts v + deg us v := by
  unfold deg; rw [List.countP_append]

theorem sum_add {α : Type} (l : List α) (f g : α → Nat) : (l.map fun x => f x + g x).sum = (l.map f).sum + (l.map g).sum := by
  induction l with
  | nil => rfl
  | cons x l ih => simp only [List.map_cons, List.sum_cons, ih]; omega
theorem sum_ind {α : Type} (l : List α) (p : α → Bool) : (l.map fun x => if p x then 1 else 0).sum = l.countP p := by
  induction l with
  | nil => rfl
  | cons x l ih =>
    rw [List.map_cons, List.sum_cons, ih, List.countP_cons]; omega
theorem count_has {t : Tie} (ne : t.1 ≠ t.2) : ∀ (l : List Int), l.Nodup → l.countP (fun v => has t v) = (if t.1 ∈ l then 1 else 0) + (if t.2 ∈ l then 1 else 0)
  | [], _ => by simp
  | x :: l, nd => by
    have nd' := List.nodup_cons.mp nd
    have ih := count_has ne l nd'.2
    rw [List.countP_cons, ih]
    by_cases h1 : x = t.1
    · subst h1
      have h2 : t.2 ≠ t.1 := Ne.symm ne
      simp [has, nd'.1, h2]
      omega
    · by_cases h2 : x = t.2
      · subst h2
        simp [has, nd'.1, ne]
      · have h1' : ¬ t.1 = x := fun e => h1 e.symm
        have h2' : ¬ t.2 = x := fun e => h2 e.symm
        simp [has, h1, h2, h1', h2']
theorem sum_zero {α : Type} : ∀ l : List α, (l.map fun _ => 0).sum = 0
  | [] => rfl
  | x :: l => by rw [List.map_cons, List.sum_cons, sum_zero l]
/-- the hands shaken in a set of places that ties do not leave -/
theorem hands {l : List Int} (nd : l.Nodup) : ∀ (ts : List Tie), (∀ t ∈ ts, t.1 ≠ t.2) → (∀ t ∈ ts, (t.1 ∈ l ↔ t.2 ∈ l)) → (l.map (deg ts)).sum = 2 * ts.countP (fun t => decide (t.1 ∈ l))
  | [], _, _ => by
    have : (l.map (deg [])) = l.map fun _ => 0 := by apply List.map_congr_left; intro x _; rfl
    rw [this]
    simp only [List.countP_nil, Nat.mul_zero]
    exact sum_zero l
  | t :: ts, h1, h2 => by
    have ih := hands nd ts (fun u hu => h1 u (List.mem_cons_of_mem _ hu)) (fun u hu => h2 u (List.mem_cons_of_mem _ hu))
    have e : l.map (deg (t :: ts)) = l.map fun v => deg ts v + (if has t v then 1 else 0) := List.map_congr_left fun v _ => deg_cons t ts v
    rw [e, sum_add, ih, sum_ind, count_has (h1 t List.mem_cons_self) l nd, List.countP_cons]
    have := h2 t List.mem_cons_self
    by_cases a : t.1 ∈ l
    · have b := this.mp a
      simp [a, b]; omega
    · have b : ¬ t.2 ∈ l := fun z => a (this.mpr z)
      simp [a, b]

/-! ### parts -/
def IsPart (ts : List Tie) (b : Int) (l : List Int) : Prop := l.Pairwise (· < ·) ∧ ∀ x, x ∈ l ↔ Reach ts b x
theorem sorted_ext : ∀ {l m : List Int}, l.Pairwise (· < ·) → m.Pairwise (· < ·) → (∀ x, x ∈ l ↔ x ∈ m) → l = m
  | [], [], _, _, _ => rfl
  | [], y :: m, _, _, h => by have := (h y).mpr List.mem_cons_self; cases this
  | x :: l, [], _, _, h => by have := (h x).mp List.mem_cons_self; cases this
  | x :: l, y :: m, hl, hm, h => by
    have hl' := List.pairwise_cons.mp hl
    have hm' := List.pairwise_cons.mp hm
    have e : x = y := by
      have a := (h x).mp List.mem_cons_self
      have b := (h y).mpr List.mem_cons_self
      rcases List.mem_cons.mp a with a | a
      · exact a
      · rcases List.mem_cons.mp b with b | b
        · exact b.symm
        · have := hl'.1 y b
          have := hm'.1 x a
          omega
    subst e
    rw [sorted_ext hl'.2 hm'.2 fun z => ?_]
    have hz := h z
    simp only [List.mem_cons] at hz
    constructor
    · intro k
      rcases hz.mp (.inr k) with e | e
      · have := hl'.1 z k; omega
      · exact e
    · intro k
      rcases hz.mpr (.inr k) with e | e
      · have := hm'.1 z k; omega
      · exact e
theorem IsPart.uniq {ts : List Tie} {b : Int} {l m : List Int} (h : IsPart ts b l) (k : IsPart ts b m) : l = m :=
  sorted_ext h.1 k.1 fun x => (h.2 x).trans (k.2 x).symm
theorem nodup_of_lt {l : List Int} (h : l.Pairwise (· < ·)) : l.Nodup := h.imp fun h => by omega
/-- the numbers from 0 below n -/
def upto (n : Int) : List Int := (List.range n.toNat).map fun (i : Nat) => (i : Int)
theorem mem_upto {n x : Int} : x ∈ upto n ↔ 0 ≤ x ∧ x < n := by
  unfold upto
  rw [List.mem_map]
  constructor
  · rintro ⟨i, hi, rfl⟩
    have := List.mem_range.mp hi
    omega
  · rintro ⟨h1, h2⟩
    exact ⟨x.toNat, List.mem_range.mpr (by omega), by omega⟩
theorem upto_sorted (n : Int) : (upto n).Pairwise (· < ·) := by
  unfold upto
  rw [List.pairwise_map]
  exact List.pairwise_lt_range.imp fun {a b} (h : a < b) => by omega
open Classical in
noncomputable def part (n : Int) (ts : List Tie) (b : Int) : List Int := (upto n).filter fun x => decide (Reach ts b x)
theorem part_is {n : Int} {ts : List Tie} (w : Web n ts) {b : Int} (hb : 0 ≤ b ∧ b < n) : IsPart ts b (part n ts b) := by
  refine ⟨(upto_sorted n).filter _, fun x => ?_⟩
  unfold part
  rw [List.mem_filter, mem_upto]
  constructor
  · rintro ⟨_, h⟩; simpa using h
  · intro h
    exact ⟨h.in w hb, by simpa using h⟩
theorem mem_part {n : Int} {ts : List Tie} (w : Web n ts) {b : Int} (hb : 0 ≤ b ∧ b < n) {x : Int} : x ∈ part n ts b ↔ Reach ts b x := (part_is w hb).2 x
theorem part_sorted (n : Int) (ts : List Tie) (b : Int) : (part n ts b).Pairwise (· < ·) := (upto_sorted n).filter _
theorem part_len {n : Int} {ts : List Tie} {b : Int} : (part n ts b).length ≤ n.toNat := by
  unfold part
  refine Nat.le_trans (List.length_filter_le _ _) ?_
  unfold upto
  rw [List.length_map, List.length_range]; exact Nat.le_refl _
theorem part_eq {n : Int} {ts : List Tie} (w : Web n ts) {b c : Int} (hb : 0 ≤ b ∧ b < n) (h : Reach ts b c) : part n ts c = part n ts b :=
  (part_is w (h.in w hb)).uniq ⟨part_sorted _ _ _, fun x => (mem_part w hb).trans ⟨fun k => h.symm.trans k, fun k => h.trans k⟩⟩

/-- an odd part's place -/
def OddAt (ts : List Tie) (v : Int) : Prop := (∀ u, Reach ts v u → deg ts u % 2 = 0) ∧ ∃ (p : Tie → Bool), (∀ t ∈ ts, p t = true ↔ Reach ts v t.1) ∧ ts.countP p % 2 = 1
theorem countP_same {α : Type} {p q : α → Bool} {l : List α} (h : ∀ x ∈ l, p x = q x) : l.countP p = l.countP q := List.countP_congr fun x hx => by rw [h x hx]
theorem OddAt.count {ts : List Tie} {v : Int} (h : OddAt ts v) {p : Tie → Bool} (hp : ∀ t ∈ ts, p t = true ↔ Reach ts v t.1) : ts.countP p % 2 = 1 := by
  obtain ⟨_, q, hq, e⟩ := h
  rw [← e]
  congr 1
  refine countP_same fun t ht => ?_
  rw [Bool.eq_iff_iff, hp t ht, hq t ht]
theorem OddAt.move {ts : List Tie} {u v : Int} (h : OddAt ts v) (r : Reach ts v u) : OddAt ts u := by
  obtain ⟨h1, q, hq, e⟩ := h
  exact ⟨fun x hx => h1 x (r.trans hx), q, fun t ht => (hq t ht).trans ⟨fun k => r.symm.trans k, fun k => r.trans k⟩, e⟩
/-- half of the degrees' sum is the ties' count -/
theorem part_hands {n : Int} {ts : List Tie} (w : Web n ts) {b : Int} (hb : 0 ≤ b ∧ b < n) : ((part n ts b).map (deg ts)).sum = 2 * ts.countP (fun t => decide (t.1 ∈ part n ts b)) := by
  refine hands (nodup_of_lt (part_sorted _ _ _)) ts (fun t ht => by have := w t ht; omega) fun t ht => ?_
  rw [mem_part w hb, mem_part w hb]
  exact ⟨fun k => k.trans (Reach.tie ht has_1 has_2), fun k => k.trans (Reach.tie ht has_2 has_1)⟩
theorem oddAt_iff {n : Int} {ts : List Tie} (w : Web n ts) {b : Int} (hb : 0 ≤ b ∧ b < n) : OddAt ts b ↔ (∀ u ∈ part n ts b, deg ts u % 2 = 0) ∧ ts.countP (fun t => decide (t.1 ∈ part n ts b)) % 2 = 1 := by
  have m : ∀ t ∈ ts, decide (t.1 ∈ part n ts b) = true ↔ Reach ts b t.1 := fun t _ => by rw [decide_eq_true_iff, mem_part w hb]
  constructor
  · intro h
    exact ⟨fun u hu => h.1 u ((mem_part w hb).mp hu), h.count m⟩
  · rintro ⟨h1, h2⟩
    exact ⟨fun u hu => h1 u ((mem_part w hb).mpr hu), _, m, h2⟩
end TM
set_option linter.all false
set_option Elab.async false
/-! Going along all ties of a part, turn about. -/
namespace TM
/-- 1 if the tie at i has v -/
def ind (ts : List Tie) (i : Nat) (v : Int) : Int := match ts[i]? with
  | some t => if has t v then 1 else 0
  | none => 0
theorem ind_some {ts : List Tie} {i : Nat} {t : Tie} (h : ts[i]? = some t) (v : Int) : ind ts i v = if has t v then 1 else 0 := by
  unfold ind; rw [h]
def dl (v x : Int) : Int := if v = x then 1 else 0
theorem ind_eq {ts : List Tie} {i : Nat} {t : Tie} (h : ts[i]? = some t) (ne : t.1 ≠ t.2) {p : Int} (hp : has t p = true) (v : Int) : ind ts i v = dl v p + dl v (oth t p) := by
  rw [ind_some h]
  unfold dl
  rw [has_iff] at hp
  have : (has t v = true) ↔ v = t.1 ∨ v = t.2 := has_iff
  unfold oth
  by_cases a : has t v = true
  · rw [if_pos a]
    have := this.mp a
    split <;> split <;> omega
  · rw [if_neg a]
    rw [this] at a
    split <;> split <;> omega
def cnt (ts : List Tie) : List Nat → Int → Int
  | [], _ => 0
  | i :: F, v => ind ts i v + cnt ts F v
def alt (ts : List Tie) : List Nat → Int → Int
  | [], _ => 0
  | i :: F, v => ind ts i v - alt ts F v
def sgn (k : Nat) : Int := if k % 2 = 0 then 1 else -1
theorem sgn_succ (k : Nat) : sgn (k + 1) = - sgn k := by
  unfold sgn; split <;> split <;> omega
theorem alt_snoc (ts : List Tie) (i : Nat) (v : Int) : ∀ F, alt ts (F ++ [i]) v = alt ts F v + sgn F.length * ind ts i v
  | [] => by show ind ts i v - 0 = 0 + sgn 0 * ind ts i v; unfold sgn; simp
  | j :: F => by
    show ind ts j v - alt ts (F ++ [i]) v = (ind ts j v - alt ts F v) + sgn (F.length + 1) * ind ts i v
    rw [alt_snoc ts i v F, sgn_succ, Int.neg_mul]; omega
theorem cnt_append (ts : List Tie) (v : Int) (G : List Nat) : ∀ F, cnt ts (F ++ G) v = cnt ts F v + cnt ts G v
  | [] => by show cnt ts G v = 0 + cnt ts G v; omega
  | j :: F => by
    show ind ts j v + cnt ts (F ++ G) v = (ind ts j v + cnt ts F v) + cnt ts G v
    rw [cnt_append ts v G F]; omega
theorem alt_par (ts : List Tie) (v : Int) : ∀ F, (cnt ts F v - alt ts F v) % 2 = 0
  | [] => rfl
  | j :: F => by
    have := alt_par ts v F
    show (ind ts j v + cnt ts F v - (ind ts j v - alt ts F v)) % 2 = 0
    omega
theorem cnt_perm {ts : List Tie} {v : Int} {F G : List Nat} (h : F.Perm G) : cnt ts F v = cnt ts G v := by
  induction h with
  | nil => rfl
  | cons x _ ih => show _ + _ = _ + _; rw [ih]
  | swap x y l => show _ + (_ + _) = _ + (_ + _); omega
  | trans _ _ a b => exact a.trans b
/-- all ties' counts together: the degree -/
theorem cnt_range (v : Int) : ∀ (n : Nat) (ts : List Tie), cnt ts (List.range n) v = (deg (ts.take n) v : Int)
  | 0, ts => by simp [cnt, deg_nil]
  | n + 1, ts => by
    rw [List.range_succ, cnt_append, cnt_range v n ts, List.take_add_one, deg_append]
    show (deg (ts.take n) v : Int) + (ind ts n v + 0) = _
    unfold ind
    cases h : ts[n]? with
    | none => simp [deg_nil]
    | some t =>
      simp only [Option.toList_some, deg_cons, deg_nil]
      split <;> omega
theorem cnt_zero {ts : List Tie} {v : Int} : ∀ {F : List Nat}, (∀ i ∈ F, ind ts i v = 0) → cnt ts F v = 0
  | [], _ => rfl
  | i :: F, h => by
    show ind ts i v + cnt ts F v = 0
    rw [h i List.mem_cons_self, cnt_zero fun j hj => h j (List.mem_cons_of_mem _ hj)]; rfl
/-- counts of a set that holds all ties at v -/
theorem cnt_full {ts : List Tie} {v : Int} {U : List Nat} (nd : U.Nodup) (lt : ∀ i ∈ U, i < ts.length) (all : ∀ i t, ts[i]? = some t → has t v = true → i ∈ U) : cnt ts U v = (deg ts v : Int) := by
  have h1 := cnt_range v ts.length ts
  rw [List.take_length] at h1
  rw [← h1]
  have p : ((List.range ts.length).filter (fun i => decide (i ∈ U)) ++ (List.range ts.length).filter (fun i => !decide (i ∈ U))).Perm (List.range ts.length) := List.filter_append_perm _ _
  rw [← cnt_perm p, cnt_append]
  have z : cnt ts ((List.range ts.length).filter (fun i => !decide (i ∈ U))) v = 0 := cnt_zero fun i hi => by
    have hi := (List.mem_filter.mp hi).2
    have nu : i ∉ U := by simpa using hi
    unfold ind
    cases h : ts[i]? with
    | none => rfl
    | some t =>
      show (if has t v = true then (1 : Int) else 0) = 0
      rw [if_neg fun z => nu (all i t h z)]
  rw [z, Int.add_zero]
  refine cnt_perm ?_
  refine (List.perm_ext_iff_of_nodup nd (List.nodup_range.filter _)).mpr fun i => ?_
  rw [List.mem_filter, List.mem_range]
  constructor
  · intro h; exact ⟨lt i h, by simpa using h⟩
  · rintro ⟨_, h⟩; simpa using h

/-! ### the way -/
def top (b : Int) : List (Int × Nat) → Int
  | [] => b
  | (p, _) :: _ => p
def IsPath (ts : List Tie) (b : Int) : List (Int × Nat) → Prop
  | [] => True
  | (q, i) :: r => (∃ t, ts[i]? = some t ∧ has t (top b r) = true ∧ q = oth t (top b r)) ∧ IsPath ts b r
abbrev bys (st : List (Int × Nat)) : List Nat := st.map (·.2)
theorem path_cnt {ts : List Tie} (ne : ∀ t ∈ ts, t.1 ≠ t.2) {b : Int} (v : Int) : ∀ {st : List (Int × Nat)}, IsPath ts b st → (cnt ts (bys st) v - dl v b - dl v (top b st)) % 2 = 0
  | [], _ => by show ((0 : Int) - dl v b - dl v b) % 2 = 0; omega
  | (q, i) :: r, ⟨⟨t, ht, hp, hq⟩, hr⟩ => by
    have ih := path_cnt ne v hr
    show (ind ts i v + cnt ts (bys r) v - dl v b - dl v q) % 2 = 0
    rw [ind_eq ht (ne t (List.mem_of_getElem? ht)) hp, ← hq]
    omega
/-- b first; places of the way -/
def Plc (b : Int) (st : List (Int × Nat)) (v : Int) : Prop := v = b ∨ v ∈ st.map (·.1)
structure CInv (ts : List Tie) (b : Int) (st : List (Int × Nat)) (F : List Nat) : Prop where
  path : IsPath ts b st
  nd : (F ++ bys st).Nodup
  lt : ∀ i ∈ F ++ bys st, i < ts.length
  tr : ∃ x, ∀ v, alt ts F v = dl v b - sgn F.length * dl v x
  cl : ∀ i t v, i ∈ F ++ bys st → ts[i]? = some t → has t v = true → Plc b st v ∨ (∀ j u, ts[j]? = some u → has u v = true → j ∈ F ++ bys st)
  rc : ∀ v, Plc b st v → Reach ts b v
  ru : ∀ i t, i ∈ F ++ bys st → ts[i]? = some t → Reach ts b t.1
theorem CInv.start (ts : List Tie) (b : Int) : CInv ts b [] [] where
  path := trivial
  nd := List.nodup_nil
  lt := fun i h => by cases h
  tr := ⟨b, fun v => by show (0 : Int) = dl v b - sgn 0 * dl v b; unfold sgn; simp⟩
  cl := fun i t v h => by cases h
  rc := fun v h => by
    rcases h with h | h
    · rw [h]; exact .refl
    · cases h
  ru := fun i t h => by cases h
theorem plc_top {b : Int} {st : List (Int × Nat)} : Plc b st (top b st) := by
  cases st with
  | nil => exact .inl rfl
  | cons p r => exact .inr List.mem_cons_self
theorem mem_push {F : List Nat} {st : List (Int × Nat)} {q : Int} {i j : Nat} : j ∈ F ++ bys ((q, i) :: st) ↔ j = i ∨ j ∈ F ++ bys st := by
  simp only [bys, List.map_cons, List.mem_append, List.mem_cons]
  constructor
  · rintro (h | h | h)
    · exact .inr (.inl h)
    · exact .inl h
    · exact .inr (.inr h)
  · rintro (h | h | h)
    · exact .inr (.inl h)
    · exact .inl h
    · exact .inr (.inr h)
theorem CInv.push {ts : List Tie} {b : Int} {st : List (Int × Nat)} {F : List Nat} (I : CInv ts b st F) {i : Nat} {t : Tie} (ht : ts[i]? = some t) (hp : has t (top b st) = true) (new : i ∉ F ++ bys st) : CInv ts b ((oth t (top b st), i) :: st) F where
  path := ⟨⟨t, ht, hp, rfl⟩, I.path⟩
  nd := by
    have : (F ++ bys ((oth t (top b st), i) :: st)).Perm (i :: (F ++ bys st)) := List.perm_middle
    rw [this.nodup_iff]
    exact List.nodup_cons.mpr ⟨new, I.nd⟩
  lt := fun j h => by
    rcases mem_push.mp h with h | h
    · rw [h]; exact (List.getElem?_eq_some_iff.mp ht).1
    · exact I.lt j h
  tr := I.tr
  cl := fun j u v h hu hv => by
    have up : ∀ z, Plc b st z → Plc b ((oth t (top b st), i) :: st) z := fun z k => by
      rcases k with k | k
      · exact .inl k
      · exact .inr (List.mem_cons_of_mem _ k)
    rcases mem_push.mp h with h | h
    · subst h
      rw [ht] at hu; cases hu
      rcases has_two hp hv with e | e
      · subst e
        exact .inl (up _ plc_top)
      · exact .inl (.inr (by rw [e]; exact List.mem_cons_self))
    · rcases I.cl j u v h hu hv with k | k
      · exact .inl (up _ k)
      · exact .inr fun j' u' h1 h2 => mem_push.mpr (.inr (k j' u' h1 h2))
  rc := fun v h => by
    rcases h with h | h
    · rw [h]; exact .refl
    · rcases List.mem_cons.mp h with h | h
      · rw [h]
        exact (I.rc _ plc_top).step (List.mem_of_getElem? ht) hp
      · exact I.rc v (.inr h)
  ru := fun j u h hu => by
    rcases mem_push.mp h with h | h
    · subst h
      rw [ht] at hu; cases hu
      exact (I.rc _ plc_top).trans (Reach.tie (List.mem_of_getElem? ht) hp has_1)
    · exact I.ru j u h hu
/-- stuck: the trail's end is here -/
theorem CInv.stuck {ts : List Tie} (ne : ∀ t ∈ ts, t.1 ≠ t.2) {b : Int} {st : List (Int × Nat)} {F : List Nat} (I : CInv ts b st F) (ev : deg ts (top b st) % 2 = 0)
    (all : ∀ i t, ts[i]? = some t → has t (top b st) = true → i ∈ F ++ bys st) : ∀ v, alt ts F v = dl v b - sgn F.length * dl v (top b st) := by
  obtain ⟨x, hx⟩ := I.tr
  have c := cnt_full I.nd I.lt all
  rw [cnt_append] at c
  have p1 := alt_par ts (top b st) F
  have p2 := path_cnt ne (top b st) I.path
  have h := hx (top b st)
  have e1 : dl (top b st) (top b st) = 1 := if_pos rfl
  have ex : x = top b st := by
    by_cases e : top b st = x
    · exact e.symm
    · exfalso
      have e2 : dl (top b st) x = 0 := if_neg e
      rw [e2, Int.mul_zero] at h
      omega
  intro v
  rw [hx v, ex]
theorem CInv.pop {ts : List Tie} (ne : ∀ t ∈ ts, t.1 ≠ t.2) {b : Int} {p : Int} {i : Nat} {r : List (Int × Nat)} {F : List Nat} (I : CInv ts b ((p, i) :: r) F) (ev : deg ts p % 2 = 0)
    (all : ∀ j t, ts[j]? = some t → has t p = true → j ∈ F ++ bys ((p, i) :: r)) : CInv ts b r (F ++ [i]) := by
  have mm : ∀ j, j ∈ F ++ [i] ++ bys r ↔ j ∈ F ++ bys ((p, i) :: r) := fun j => by
    rw [List.append_assoc]; exact Iff.rfl
  have hs := I.stuck ne ev all
  obtain ⟨⟨t, ht, hp, hq⟩, hr⟩ := I.path
  have htt : has t p = true := by rw [hq]; exact has_oth hp
  refine ⟨hr, ?_, fun j h => I.lt j ((mm j).mp h), ⟨top b r, fun v => ?_⟩, fun j u v h hu hv => ?_, fun v h => I.rc v ?_, fun j u h hu => I.ru j u ((mm j).mp h) hu⟩
  · rw [List.append_assoc]; exact I.nd
  · rw [alt_snoc, hs v, List.length_append, List.length_singleton, sgn_succ, ind_eq ht (ne t (List.mem_of_getElem? ht)) hp, ← hq]
    show dl v b - sgn F.length * dl v p + sgn F.length * (dl v (top b r) + dl v p) = dl v b - -sgn F.length * dl v (top b r)
    rw [Int.mul_add, Int.neg_mul]; omega
  · rcases I.cl j u v ((mm j).mp h) hu hv with k | k
    · rcases k with k | k
      · exact .inl (.inl k)
      · rcases List.mem_cons.mp k with k | k
        · refine .inr fun j' u' h1 h2 => (mm j').mpr ?_
          have k' : v = p := k
          rw [k'] at h2
          exact all j' u' h1 h2
        · exact .inl (.inr k)
    · exact .inr fun j' u' h1 h2 => (mm j').mpr (k j' u' h1 h2)
  · rcases h with h | h
    · exact .inl h
    · exact .inr (List.mem_cons_of_mem _ h)
/-- what is found in the end -/
structure Circ (ts : List Tie) (b : Int) (F : List Nat) : Prop where
  nd : F.Nodup
  lt : ∀ i ∈ F, i < ts.length
  mem : ∀ i t, ts[i]? = some t → (i ∈ F ↔ Reach ts b t.1)
  alt : ∀ v, alt ts F v = if v = b ∧ F.length % 2 = 1 then 2 else 0
theorem CInv.done {ts : List Tie} (ne : ∀ t ∈ ts, t.1 ≠ t.2) {b : Int} {F : List Nat} (I : CInv ts b [] F) (ev : deg ts b % 2 = 0)
    (all : ∀ j t, ts[j]? = some t → has t b = true → j ∈ F ++ bys []) : Circ ts b F := by
  have hs := I.stuck ne ev all
  have e0 : F ++ bys [] = F := by show F ++ [] = F; simp
  have full : ∀ v, Reach ts b v → ∀ j u, ts[j]? = some u → has u v = true → j ∈ F := by
    intro v hv
    induction hv with
    | refl => intro j u h1 h2; have := all j u h1 h2; rw [e0] at this; exact this
    | @step c t _ ht hc ih =>
      obtain ⟨i, hi⟩ := List.mem_iff_getElem?.mp ht
      have hiF := ih i t hi hc
      rcases I.cl i t (oth t c) (by rw [e0]; exact hiF) hi (has_oth hc) with k | k
      · rcases k with k | k
        · intro j u h1 h2
          rw [k] at h2
          have := all j u h1 h2; rw [e0] at this; exact this
        · cases k
      · intro j u h1 h2; have := k j u h1 h2; rw [e0] at this; exact this
  refine ⟨by have := I.nd; rw [e0] at this; exact this, fun i h => I.lt i (by rw [e0]; exact h), fun i t ht => ⟨fun h => I.ru i t (by rw [e0]; exact h) ht, fun h => full _ h i t ht has_1⟩, fun v => ?_⟩
  rw [hs v]
  show dl v b - sgn F.length * dl v b = _
  unfold dl sgn
  by_cases e : v = b
  · by_cases o : F.length % 2 = 0
    · have : ¬ F.length % 2 = 1 := by omega
      simp [e, o]
    · have : F.length % 2 = 1 := by omega
      simp [e, o, this]
  · simp [e]
end TM
set_option linter.all false
set_option Elab.async false
/-! Two colours, nearly even. -/
namespace TM
def wt : Option Int → Int
  | some c => 2 * c - 1
  | none => 0
/-- by how much the second colour is at v more often -/
def pim : List Tie → List (Option Int) → Int → Int
  | t :: ts, c :: cs, v => (if has t v then wt c else 0) + pim ts cs v
  | _, _, _ => 0
theorem pim_set (v : Int) (x : Option Int) : ∀ (ts : List Tie) (cols : List (Option Int)) (i : Nat), cols[i]? = some none → pim ts (cols.set i x) v = pim ts cols v + ind ts i v * wt x
  | [], cols, i, _ => by simp [pim, ind]
  | t :: ts, [], i, h => by simp at h
  | t :: ts, c :: cs, 0, h => by
    have e : c = none := Option.some.inj h
    subst e
    show (if has t v then wt x else 0) + pim ts cs v = ((if has t v then wt none else 0) + pim ts cs v) + (if has t v then 1 else 0) * wt x
    have : wt none = 0 := rfl
    rw [this]
    split <;> omega
  | t :: ts, c :: cs, i + 1, h => by
    have ih := pim_set v x ts cs i h
    show (if has t v then wt c else 0) + pim ts (cs.set i x) v = ((if has t v then wt c else 0) + pim ts cs v) + ind ts i v * wt x
    rw [ih]; omega
theorem pim_append (v : Int) : ∀ (ts us : List Tie) (cs ds : List (Option Int)), cs.length = ts.length → pim (ts ++ us) (cs ++ ds) v = pim ts cs v + pim us ds v
  | [], us, [], ds, _ => by show _ = 0 + pim us ds v; simp
  | [], us, c :: cs, ds, h => by cases h
  | t :: ts, us, [], ds, h => by cases h
  | t :: ts, us, c :: cs, ds, h => by
    have ih := pim_append v ts us cs ds (by simpa using h)
    show (if has t v then wt c else 0) + pim (ts ++ us) (cs ++ ds) v = ((if has t v then wt c else 0) + pim ts cs v) + pim us ds v
    rw [ih]; omega
theorem pim_none (v : Int) : ∀ (ts : List Tie) (m : Nat), pim ts (List.replicate m none) v = 0
  | [], _ => rfl
  | t :: ts, 0 => rfl
  | t :: ts, m + 1 => by
    show (if has t v then wt none else 0) + pim ts (List.replicate m none) v = 0
    rw [pim_none v ts m]; show (if has t v then (0 : Int) else 0) + 0 = 0; simp
theorem pim_deg (v : Int) : ∀ (ts : List Tie) (cs : List (Option Int)), cs.length = ts.length → (∀ c ∈ cs, c = some 0 ∨ c = some 1) → (pim ts cs v - (deg ts v : Int)) % 2 = 0 ∧ (pim ts cs v).natAbs ≤ deg ts v
  | [], [], _, _ => by simp [pim, deg_nil]
  | [], c :: cs, h, _ => by cases h
  | t :: ts, [], h, _ => by cases h
  | t :: ts, c :: cs, h, hc => by
    have ih := pim_deg v ts cs (by simpa using h) fun c h => hc c (List.mem_cons_of_mem _ h)
    rw [deg_cons]
    show (((if has t v then wt c else 0) + pim ts cs v) - ((deg ts v + if has t v then 1 else 0 : Nat) : Int)) % 2 = 0 ∧ ((if has t v then wt c else 0) + pim ts cs v).natAbs ≤ _
    rcases hc c List.mem_cons_self with e | e
    · subst e
      have e1 : wt (some 0) = -1 := rfl
      rw [e1]
      split <;> omega
    · subst e
      have e1 : wt (some 1) = 1 := rfl
      rw [e1]
      split <;> omega
def tn (k : Nat) : Int := ((k % 2 : Nat) : Int)
theorem wt_tn (k : Nat) : wt (some (tn k)) = - sgn k := by
  show 2 * tn k - 1 = _
  unfold tn sgn; split <;> omega
def paint (cols : List (Option Int)) : List Nat → Nat → List (Option Int)
  | [], _ => cols
  | i :: F, k => paint (cols.set i (some (tn k))) F (k + 1)
theorem paint_snoc (i : Nat) : ∀ (F : List Nat) (cols : List (Option Int)) (k : Nat), paint cols (F ++ [i]) k = (paint cols F k).set i (some (tn (k + F.length)))
  | [], cols, k => rfl
  | j :: F, cols, k => by
    show paint (cols.set j (some (tn k))) (F ++ [i]) (k + 1) = (paint (cols.set j (some (tn k))) F (k + 1)).set i (some (tn (k + (F.length + 1))))
    rw [paint_snoc i F, show k + 1 + F.length = k + (F.length + 1) by omega]
theorem paint_len : ∀ (F : List Nat) (cols : List (Option Int)) (k : Nat), (paint cols F k).length = cols.length
  | [], _, _ => rfl
  | j :: F, cols, k => by
    show (paint (cols.set j (some (tn k))) F (k + 1)).length = _
    rw [paint_len F, List.length_set]
theorem paint_out {j : Nat} : ∀ (F : List Nat) (cols : List (Option Int)) (k : Nat), j ∉ F → (paint cols F k)[j]? = cols[j]?
  | [], _, _, _ => rfl
  | i :: F, cols, k, h => by
    show (paint (cols.set i (some (tn k))) F (k + 1))[j]? = _
    rw [paint_out F _ _ fun z => h (List.mem_cons_of_mem _ z), List.getElem?_set_ne]
    intro e; exact h (by rw [e]; exact List.mem_cons_self)
theorem tn_01 (k : Nat) : tn k = 0 ∨ tn k = 1 := by unfold tn; omega
theorem paint_in {j : Nat} : ∀ (F : List Nat) (cols : List (Option Int)) (k : Nat), j ∈ F → j < cols.length → ∃ c, (paint cols F k)[j]? = some (some c) ∧ (c = 0 ∨ c = 1)
  | [], _, _, h, _ => by cases h
  | i :: F, cols, k, h, hl => by
    show ∃ c, (paint (cols.set i (some (tn k))) F (k + 1))[j]? = some (some c) ∧ (c = 0 ∨ c = 1)
    by_cases hF : j ∈ F
    · exact paint_in F _ _ hF (by rw [List.length_set]; exact hl)
    · rw [paint_out F _ _ hF]
      rcases List.mem_cons.mp h with e | e
      · subst e
        rw [List.getElem?_set_self hl]
        exact ⟨_, rfl, tn_01 k⟩
      · exact absurd e hF
theorem pim_paint (ts : List Tie) (v : Int) : ∀ (F : List Nat) (cols : List (Option Int)) (k : Nat), F.Nodup → (∀ i ∈ F, cols[i]? = some none) → pim ts (paint cols F k) v = pim ts cols v - sgn k * alt ts F v
  | [], cols, k, _, _ => by show pim ts cols v = pim ts cols v - sgn k * 0; omega
  | i :: F, cols, k, nd, h => by
    have nd' := List.nodup_cons.mp nd
    show pim ts (paint (cols.set i (some (tn k))) F (k + 1)) v = pim ts cols v - sgn k * (ind ts i v - alt ts F v)
    rw [pim_paint ts v F _ _ nd'.2 fun j hj => by
      rw [List.getElem?_set_ne fun e => nd'.1 (by rw [e]; exact hj)]
      exact h j (List.mem_cons_of_mem _ hj), pim_set v _ ts cols i (h i List.mem_cons_self), wt_tn, sgn_succ, Int.mul_sub, Int.neg_mul, Int.mul_neg, Int.mul_comm (ind ts i v)]
    omega

/-! ### part after part -/
def Cov (ts : List Tie) (B : List Int) (v : Int) : Prop := ∃ b ∈ B, Reach ts b v
def First (ts : List Tie) (B : List Int) (v : Int) : Prop := ∃ k : Nat, B[k]? = some v ∧ ∀ j b, j < k → B[j]? = some b → ¬ Reach ts b v
def OddN (ts : List Tie) (v : Int) : Prop := ∃ p : Tie → Bool, (∀ t ∈ ts, p t = true ↔ Reach ts v t.1) ∧ ts.countP p % 2 = 1
theorem first_snoc {ts : List Tie} {B : List Int} {b v : Int} : First ts (B ++ [b]) v ↔ First ts B v ∨ (v = b ∧ ¬ Cov ts B b) := by
  constructor
  · rintro ⟨k, hk, h⟩
    by_cases hl : k < B.length
    · rw [List.getElem?_append_left hl] at hk
      exact .inl ⟨k, hk, fun j c hj hc => h j c hj (by rw [List.getElem?_append_left (by omega)]; exact hc)⟩
    · rw [List.getElem?_append_right (by omega)] at hk
      have e : k - B.length = 0 := by
        cases q : k - B.length with
        | zero => rfl
        | succ m => rw [q] at hk; simp at hk
      rw [e] at hk
      have ev : b = v := Option.some.inj hk
      subst ev
      refine .inr ⟨rfl, fun ⟨c, hc, r⟩ => ?_⟩
      obtain ⟨j, hj⟩ := List.mem_iff_getElem?.mp hc
      have hjl := (List.getElem?_eq_some_iff.mp hj).1
      exact h j c (by omega) (by rw [List.getElem?_append_left hjl]; exact hj) r
  · rintro (⟨k, hk, h⟩ | ⟨e, h⟩)
    · have hl := (List.getElem?_eq_some_iff.mp hk).1
      exact ⟨k, by rw [List.getElem?_append_left hl]; exact hk, fun j c hj hc => h j c hj (by rw [List.getElem?_append_left (by omega)] at hc; exact hc)⟩
    · subst e
      refine ⟨B.length, by simp, fun j c hj hc r => h ⟨c, ?_, r⟩⟩
      rw [List.getElem?_append_left hj] at hc
      exact List.mem_of_getElem? hc
theorem First.mem {ts : List Tie} {B : List Int} {v : Int} (h : First ts B v) : v ∈ B := by
  obtain ⟨k, hk, _⟩ := h; exact List.mem_of_getElem? hk
structure NInv (ts : List Tie) (B : List Int) (cols : List (Option Int)) : Prop where
  len : cols.length = ts.length
  val : ∀ (i : Nat) (c : Int), cols[i]? = some (some c) → c = 0 ∨ c = 1
  cov : ∀ (i : Nat) (t : Tie), ts[i]? = some t → (cols[i]? = some none ↔ ¬ Cov ts B t.1)
  two : ∀ v, First ts B v → OddN ts v → (pim ts cols v).natAbs = 2
  nul : ∀ v, ¬ (First ts B v ∧ OddN ts v) → pim ts cols v = 0
theorem NInv.start (ts : List Tie) : NInv ts [] (List.replicate ts.length none) where
  len := List.length_replicate
  val := fun i c h => by rw [List.getElem?_replicate] at h; split at h <;> cases h
  cov := fun i t h => by
    have := (List.getElem?_eq_some_iff.mp h).1
    rw [List.getElem?_replicate, if_pos this]
    exact ⟨fun _ ⟨b, hb, _⟩ => (nomatch hb), fun _ => rfl⟩
  two := fun v h => by have := h.mem; cases this
  nul := fun v _ => pim_none v ts _
theorem filt_count {ts : List Tie} (p : Tie → Bool) : ∀ n : Nat, ((List.range n).filter fun i => match ts[i]? with | some t => p t | none => false).length = (ts.take n).countP p
  | 0 => by simp
  | n + 1 => by
    rw [List.range_succ, List.filter_append, List.length_append, filt_count p n, List.take_add_one, List.countP_append]
    cases h : ts[n]? with
    | none => simp [h]
    | some t =>
      by_cases q : p t = true
      · simp [h, q]
      · simp [h, q]
theorem Circ.odd {ts : List Tie} {b : Int} {F : List Nat} (C : Circ ts b F) : OddN ts b ↔ F.length % 2 = 1 := by
  have key : ∀ p : Tie → Bool, (∀ t ∈ ts, p t = true ↔ Reach ts b t.1) → ts.countP p = F.length := by
    intro p hp
    have h := filt_count (ts := ts) p ts.length
    rw [List.take_length] at h
    rw [← h]
    refine (List.Perm.length_eq ?_)
    refine (List.perm_ext_iff_of_nodup (List.nodup_range.filter _) C.nd).mpr fun i => ?_
    rw [List.mem_filter, List.mem_range]
    constructor
    · rintro ⟨hl, h⟩
      have e : ts[i]? = some ts[i] := List.getElem?_eq_getElem hl
      rw [e] at h
      exact (C.mem i _ e).mpr ((hp _ (List.getElem_mem hl)).mp h)
    · intro h
      have hl := C.lt i h
      have e : ts[i]? = some ts[i] := List.getElem?_eq_getElem hl
      refine ⟨hl, ?_⟩
      rw [e]
      exact (hp _ (List.getElem_mem hl)).mpr ((C.mem i _ e).mp h)
  constructor
  · rintro ⟨p, hp, h⟩; rw [← key p hp]; exact h
  · intro h
    classical
    refine ⟨fun t => decide (Reach ts b t.1), fun t _ => decide_eq_true_iff, ?_⟩
    rw [key _ fun t _ => decide_eq_true_iff]; exact h
theorem cov_move {ts : List Tie} {B : List Int} {u v : Int} (r : Reach ts u v) : Cov ts B u ↔ Cov ts B v :=
  ⟨fun ⟨b, hb, h⟩ => ⟨b, hb, h.trans r⟩, fun ⟨b, hb, h⟩ => ⟨b, hb, h.trans r.symm⟩⟩
theorem cov_snoc {ts : List Tie} {B : List Int} {b v : Int} : Cov ts (B ++ [b]) v ↔ Cov ts B v ∨ Reach ts b v := by
  constructor
  · rintro ⟨c, hc, r⟩
    rcases List.mem_append.mp hc with h | h
    · exact .inl ⟨c, h, r⟩
    · rw [List.mem_singleton.mp h] at r; exact .inr r
  · rintro (⟨c, hc, r⟩ | r)
    · exact ⟨c, List.mem_append_left _ hc, r⟩
    · exact ⟨b, List.mem_append_right _ (List.mem_singleton.mpr rfl), r⟩
/-- nothing fresh at b -/
theorem NInv.old {ts : List Tie} {B : List Int} {cols : List (Option Int)} (I : NInv ts B cols) {b : Int} (h : ∀ (i : Nat) (t : Tie), ts[i]? = some t → has t b = true → cols[i]? ≠ some none) : NInv ts (B ++ [b]) cols := by
  by_cases c : Cov ts B b
  · have cs : ∀ v, Cov ts (B ++ [b]) v ↔ Cov ts B v := fun v => by
      rw [cov_snoc]
      exact ⟨fun h => h.elim id fun r => (cov_move r).mp c, .inl⟩
    have fs : ∀ v, First ts (B ++ [b]) v ↔ First ts B v := fun v => by
      rw [first_snoc]
      exact ⟨fun h => h.elim id fun r => absurd c r.2, .inl⟩
    exact ⟨I.len, I.val, fun i t e => by rw [cs]; exact I.cov i t e, fun v a o => I.two v ((fs v).mp a) o, fun v a => I.nul v (by rw [fs] at a; exact a)⟩
  · -- no tie at b at all
    have no : ∀ i t, ts[i]? = some t → has t b = true → False := fun i t e hb => by
      refine h i t e hb ((I.cov i t e).mpr fun k => c ?_)
      exact (cov_move (Reach.tie (List.mem_of_getElem? e) has_1 hb)).mp k
    have lone : ∀ v, Reach ts b v → v = b := fun v r => by
      induction r with
      | refl => rfl
      | @step x t _ ht hx ih =>
        subst ih
        obtain ⟨i, hi⟩ := List.mem_iff_getElem?.mp ht
        exact (no i t hi hx).elim
    have no1 : ∀ t ∈ ts, ¬ Reach ts b t.1 := fun t ht r => by
      obtain ⟨i, hi⟩ := List.mem_iff_getElem?.mp ht
      have := lone _ r
      exact no i t hi (by rw [← this]; exact has_1)
    have nodd : ¬ OddN ts b := fun ⟨p, hp, e⟩ => by
      have z : ts.countP p = 0 := List.countP_eq_zero.mpr fun t ht q => no1 t ht ((hp t ht).mp q)
      omega
    refine ⟨I.len, I.val, fun i t e => ?_, fun v a o => ?_, fun v a => I.nul v fun z => a ⟨first_snoc.mpr (.inl z.1), z.2⟩⟩
    · rw [I.cov i t e, cov_snoc]
      exact ⟨fun k z => z.elim k (no1 t (List.mem_of_getElem? e)), fun k z => k (.inl z)⟩
    · rcases first_snoc.mp a with k | ⟨k, _⟩
      · exact I.two v k o
      · subst k; exact absurd o nodd
/-- a part goes along -/
theorem NInv.fresh {ts : List Tie} {B : List Int} {cols : List (Option Int)} (I : NInv ts B cols) {b : Int} {F : List Nat} (C : Circ ts b F) {i0 : Nat} {t0 : Tie} (e0 : ts[i0]? = some t0) (hb : has t0 b = true) (hf : cols[i0]? = some none) : NInv ts (B ++ [b]) (paint cols F 0) := by
  have nc : ¬ Cov ts B b := fun k => (I.cov i0 t0 e0).mp hf ((cov_move (Reach.tie (List.mem_of_getElem? e0) hb has_1)).mp k)
  have hF : ∀ i ∈ F, cols[i]? = some none := fun i hi => by
    have hl := C.lt i hi
    have e : ts[i]? = some ts[i] := List.getElem?_eq_getElem hl
    exact (I.cov i _ e).mpr fun k => nc ((cov_move ((C.mem i _ e).mp hi)).mpr k)
  have pe : ∀ v, pim ts (paint cols F 0) v = pim ts cols v - (if v = b ∧ F.length % 2 = 1 then 2 else 0) := fun v => by
    rw [pim_paint ts v F cols 0 C.nd hF, C.alt v]
    show _ - 1 * _ = _
    rw [Int.one_mul]
  have z0 : pim ts cols b = 0 := I.nul b fun z => nc ⟨b, z.1.mem, .refl⟩
  refine ⟨(paint_len F cols 0).trans I.len, fun i c h => ?_, fun i t e => ?_, fun v a o => ?_, fun v a => ?_⟩
  · by_cases hi : i ∈ F
    · obtain ⟨c', h', r⟩ := paint_in F cols 0 hi (by rw [I.len]; exact C.lt i hi)
      rw [h'] at h
      have := Option.some.inj (Option.some.inj h)
      omega
    · rw [paint_out F cols 0 hi] at h
      exact I.val i c h
  · rw [cov_snoc]
    by_cases hi : i ∈ F
    · obtain ⟨c', h', _⟩ := paint_in F cols 0 hi (by rw [I.len]; exact C.lt i hi)
      rw [h']
      exact ⟨fun z => (nomatch z), fun z => absurd (.inr ((C.mem i t e).mp hi)) z⟩
    · rw [paint_out F cols 0 hi, I.cov i t e]
      exact ⟨fun k z => z.elim k fun r => hi ((C.mem i t e).mpr r), fun k z => k (.inl z)⟩
  · rw [pe]
    rcases first_snoc.mp a with k | ⟨k, _⟩
    · have vb : v ≠ b := fun e => nc ⟨b, by rw [← e]; exact k.mem, .refl⟩
      rw [if_neg fun z => vb z.1, Int.sub_zero]
      exact I.two v k o
    · subst k
      rw [if_pos ⟨rfl, C.odd.mp o⟩, z0]; rfl
  · rw [pe]
    by_cases vb : v = b
    · subst vb
      by_cases o : F.length % 2 = 1
      · exact absurd ⟨first_snoc.mpr (.inr ⟨rfl, nc⟩), C.odd.mpr o⟩ a
      · rw [if_neg fun z => o z.2, z0]; rfl
    · rw [if_neg fun z => vb z.1, Int.sub_zero]
      exact I.nul v fun z => a ⟨first_snoc.mpr (.inl z.1), z.2⟩
end TM
set_option linter.all false
set_option Elab.async false
/-! The ties with one more at each odd place. -/
namespace TM
def oddL (n : Int) (ts : List Tie) : List Int := (upto n).filter fun v => decide (deg ts v % 2 = 1)
def virt (n : Int) (l : List Int) : List Tie := l.map fun p => (p, n)
def more (n : Int) (ts : List Tie) : List Tie := ts ++ virt n (oddL n ts)
theorem mem_oddL {n : Int} {ts : List Tie} {v : Int} : v ∈ oddL n ts ↔ (0 ≤ v ∧ v < n) ∧ deg ts v % 2 = 1 := by
  unfold oddL; rw [List.mem_filter, mem_upto]; simp
theorem sum_par {α : Type} (f : α → Nat) : ∀ l : List α, (l.map f).sum % 2 = (l.filter fun x => decide (f x % 2 = 1)).length % 2
  | [] => rfl
  | x :: l => by
    have ih := sum_par f l
    rw [List.map_cons, List.sum_cons, List.filter_cons]
    by_cases h : f x % 2 = 1
    · simp [h]; omega
    · simp [h]; omega
theorem odd_even {n : Int} {ts : List Tie} (w : Web n ts) : (oddL n ts).length % 2 = 0 := by
  have h := hands (nodup_of_lt (upto_sorted n)) ts (fun t ht => by have := w t ht; omega) (fun t ht => by
    have := w t ht
    rw [mem_upto, mem_upto]; omega)
  have p := sum_par (deg ts) (upto n)
  unfold oddL
  omega
theorem deg_virt (n : Int) {v : Int} : ∀ (l : List Int), l.Nodup → (∀ x ∈ l, x < n) → deg (virt n l) v = if v = n then l.length else if v ∈ l then 1 else 0
  | [], _, _ => by simp [virt, deg_nil]
  | x :: l, nd, h => by
    have nd' := List.nodup_cons.mp nd
    have hx := h x List.mem_cons_self
    have ih := deg_virt n (v := v) l nd'.2 fun y hy => h y (List.mem_cons_of_mem _ hy)
    show deg ((x, n) :: virt n l) v = _
    rw [deg_cons, ih]
    by_cases e : v = n
    · subst e
      simp [has]
    · by_cases e2 : v = x
      · subst e2
        simp [has, e, nd'.1]
      · simp [has, e, e2]
theorem oddL_nodup (n : Int) (ts : List Tie) : (oddL n ts).Nodup := (nodup_of_lt (upto_sorted n)).filter _
theorem deg_out {n : Int} {ts : List Tie} (w : Web n ts) {v : Int} (h : ¬ (0 ≤ v ∧ v < n)) : deg ts v = 0 := by
  unfold deg
  exact List.countP_eq_zero.mpr fun t ht hv => h (w.lt ht hv)
theorem more_even {n : Int} {ts : List Tie} (w : Web n ts) (v : Int) : deg (more n ts) v % 2 = 0 := by
  unfold more
  rw [deg_append, deg_virt n _ (oddL_nodup n ts) fun x hx => (mem_oddL.mp hx).1.2]
  by_cases e : v = n
  · rw [if_pos e, deg_out w (by omega)]
    have := odd_even w
    omega
  · rw [if_neg e]
    by_cases o : deg ts v % 2 = 1
    · have hv : 0 ≤ v ∧ v < n := by
        apply Classical.byContradiction
        intro z
        rw [deg_out w z] at o; cases o
      rw [if_pos (mem_oddL.mpr ⟨hv, o⟩)]; omega
    · rw [if_neg fun z => o (mem_oddL.mp z).2]; omega
theorem mem_more {n : Int} {ts : List Tie} {t : Tie} : t ∈ more n ts ↔ t ∈ ts ∨ ∃ p ∈ oddL n ts, t = (p, n) := by
  unfold more virt
  rw [List.mem_append, List.mem_map]
  constructor
  · rintro (h | ⟨p, hp, rfl⟩)
    · exact .inl h
    · exact .inr ⟨p, hp, rfl⟩
  · rintro (h | ⟨p, hp, rfl⟩)
    · exact .inl h
    · exact .inr ⟨p, hp, rfl⟩
theorem more_ne {n : Int} {ts : List Tie} (w : Web n ts) : ∀ t ∈ more n ts, t.1 ≠ t.2 := fun t ht => by
  rcases mem_more.mp ht with h | ⟨p, hp, rfl⟩
  · have := w t h; omega
  · have := (mem_oddL.mp hp).1; show p ≠ n; omega
theorem more_len (n : Int) (ts : List Tie) : (more n ts).length ≤ ts.length + n.toNat := by
  unfold more virt oddL
  rw [List.length_append, List.length_map]
  have := List.length_filter_le (fun v => decide (deg ts v % 2 = 1)) (upto n)
  have h2 : (upto n).length = n.toNat := by unfold upto; rw [List.length_map, List.length_range]
  omega
/-- reached by the ties alone, or past an odd place -/
theorem reach_more {n : Int} {ts : List Tie} (w : Web n ts) {v u : Int} (hv : 0 ≤ v ∧ v < n) (h : Reach (more n ts) v u) : Reach ts v u ∨ ∃ x, Reach ts v x ∧ deg ts x % 2 = 1 := by
  induction h with
  | refl => exact .inl .refl
  | @step c t _ ht hc ih =>
    rcases ih with r | r
    · rcases mem_more.mp ht with h | ⟨p, hp, rfl⟩
      · exact .inl (r.step h hc)
      · rw [has_iff] at hc
        have hcl := r.in w hv
        rcases hc with e | e
        · have e : c = p := e
          subst e
          exact .inr ⟨c, r, (mem_oddL.mp hp).2⟩
        · have e : c = n := e
          omega
    · exact .inr r
theorem more_sub {n : Int} {ts : List Tie} {a b : Int} (h : Reach ts a b) : Reach (more n ts) a b := h.mono fun t ht => mem_more.mpr (.inl ht)
/-- from an odd place to the place that is added -/
theorem reach_top {n : Int} {ts : List Tie} (w : Web n ts) {v x : Int} (hv : 0 ≤ v ∧ v < n) (r : Reach ts v x) (o : deg ts x % 2 = 1) : Reach (more n ts) v n := by
  have hx := r.in w hv
  exact (more_sub r).trans (Reach.tie (t := (x, n)) (mem_more.mpr (.inr ⟨x, mem_oddL.mpr ⟨hx, o⟩, rfl⟩)) has_1 has_2)
theorem odd_of_top {n : Int} {ts : List Tie} (w : Web n ts) {v : Int} (hv : 0 ≤ v ∧ v < n) (h : Reach (more n ts) v n) : ∃ x, Reach ts v x ∧ deg ts x % 2 = 1 := by
  rcases reach_more w hv h with r | r
  · have := r.in w hv; omega
  · exact r
def Least (ts : List Tie) (v : Int) : Prop := ∀ u, Reach ts v u → v ≤ u
/-- nearly even colours -/
structure Nearly (n : Int) (ts : List Tie) (cs : List Int) : Prop where
  len : cs.length = ts.length
  val : ∀ c ∈ cs, c = 0 ∨ c = 1
  odd : ∀ v, 0 ≤ v → v < n → deg ts v % 2 = 1 → (pim ts (cs.map some) v).natAbs = 1
  two : ∀ v, 0 ≤ v → v < n → OddAt ts v → Least ts v → (pim ts (cs.map some) v).natAbs = 2
  nul : ∀ v, 0 ≤ v → v < n → deg ts v % 2 = 0 → ¬ (OddAt ts v ∧ Least ts v) → pim ts (cs.map some) v = 0
def begins (n : Int) : List Int := n :: upto n
theorem upto_at {n : Int} {j : Nat} {b : Int} (h : (upto n)[j]? = some b) : b = (j : Int) := by
  unfold upto at h
  rw [List.getElem?_map] at h
  cases e : (List.range n.toNat)[j]? with
  | none => rw [e] at h; cases h
  | some i =>
    rw [e] at h
    have hi := List.getElem?_eq_some_iff.mp e
    obtain ⟨h1, h2⟩ := hi
    rw [List.getElem_range] at h2
    cases h
    rw [h2]
theorem first_begins {n : Int} {ts : List Tie} {v : Int} (hv : 0 ≤ v ∧ v < n) : First ts (begins n) v ↔ ¬ Reach ts n v ∧ ∀ u, 0 ≤ u → u < v → ¬ Reach ts u v := by
  constructor
  · rintro ⟨k, hk, h⟩
    have k0 : k ≠ 0 := fun e => by
      subst e
      have : n = v := Option.some.inj hk
      omega
    obtain ⟨m, rfl⟩ : ∃ m, k = m + 1 := ⟨k - 1, by omega⟩
    have hm : (upto n)[m]? = some v := hk
    have em := upto_at hm
    refine ⟨h 0 n (by omega) rfl, fun u h0 h1 => h (u.toNat + 1) u (by omega) ?_⟩
    show (upto n)[u.toNat]? = some u
    unfold upto
    rw [List.getElem?_map, List.getElem?_range (by omega)]
    show some ((u.toNat : Nat) : Int) = some u
    congr 1; omega
  · rintro ⟨h1, h2⟩
    refine ⟨v.toNat + 1, ?_, fun j b hj hb => ?_⟩
    · show (upto n)[v.toNat]? = some v
      unfold upto
      rw [List.getElem?_map, List.getElem?_range (by omega)]
      show some ((v.toNat : Nat) : Int) = some v
      congr 1; omega
    · match j, hb with
      | 0, hb =>
        have : n = b := Option.some.inj hb
        rw [← this]; exact h1
      | j + 1, hb =>
        have hb : (upto n)[j]? = some b := hb
        have e := upto_at hb
        exact h2 b (by omega) (by omega)
theorem map_some_of : ∀ (l : List (Option Int)), (∀ x ∈ l, x ≠ none) → ∃ cs : List Int, l = cs.map some
  | [], _ => ⟨[], rfl⟩
  | none :: l, h => absurd rfl (h none List.mem_cons_self)
  | some c :: l, h => by
    obtain ⟨cs, e⟩ := map_some_of l fun x hx => h x (List.mem_cons_of_mem _ hx)
    exact ⟨c :: cs, by rw [e]; rfl⟩
theorem NInv.nearly {n : Int} {ts : List Tie} (w : Web n ts) {cols : List (Option Int)} (I : NInv (more n ts) (begins n) cols) : ∃ cs : List Int, cols.take ts.length = cs.map some ∧ Nearly n ts cs := by
  have full : ∀ x ∈ cols, x ≠ none := fun x hx e => by
    subst e
    obtain ⟨i, hi⟩ := List.mem_iff_getElem?.mp hx
    have hl := (List.getElem?_eq_some_iff.mp hi).1
    rw [I.len] at hl
    have e : (more n ts)[i]? = some (more n ts)[i] := List.getElem?_eq_getElem hl
    refine (I.cov i _ e).mp hi ⟨(more n ts)[i].1, List.mem_cons_of_mem _ ?_, .refl⟩
    rw [mem_upto]
    rcases mem_more.mp (List.getElem_mem hl) with h | ⟨p, hp, h⟩
    · have := w _ h; omega
    · rw [h]; exact (mem_oddL.mp hp).1
  obtain ⟨cs, ecs⟩ := map_some_of (cols.take ts.length) fun x hx => full x (List.mem_of_mem_take hx)
  obtain ⟨ds, eds⟩ := map_some_of (cols.drop ts.length) fun x hx => full x (List.mem_of_mem_drop hx)
  have ecols : cols = cs.map some ++ ds.map some := by rw [← ecs, ← eds, List.take_append_drop]
  have hlen : (more n ts).length = ts.length + (virt n (oddL n ts)).length := by unfold more; rw [List.length_append]
  have lcs : cs.length = ts.length := by
    have := congrArg List.length ecs
    rw [List.length_take, I.len, hlen, List.length_map] at this
    omega
  have lds : ds.length = (virt n (oddL n ts)).length := by
    have := congrArg List.length eds
    rw [List.length_drop, I.len, hlen, List.length_map] at this
    omega
  have val : ∀ c, some c ∈ cols → c = 0 ∨ c = 1 := fun c hc => by
    obtain ⟨i, hi⟩ := List.mem_iff_getElem?.mp hc
    exact I.val i c hi
  have vcs : ∀ c ∈ cs, c = 0 ∨ c = 1 := fun c hc => val c (by rw [ecols]; exact List.mem_append_left _ (List.mem_map.mpr ⟨c, hc, rfl⟩))
  have vds : ∀ c ∈ ds.map some, c = some 0 ∨ c = some 1 := fun c hc => by
    obtain ⟨d, hd, rfl⟩ := List.mem_map.mp hc
    rcases val d (by rw [ecols]; exact List.mem_append_right _ (List.mem_map.mpr ⟨d, hd, rfl⟩)) with e | e
    · exact .inl (by rw [e])
    · exact .inr (by rw [e])
  have split : ∀ v, pim (more n ts) cols v = pim ts (cs.map some) v + pim (virt n (oddL n ts)) (ds.map some) v := fun v => by
    rw [ecols]
    unfold more
    rw [pim_append v _ _ _ _ (by rw [List.length_map]; exact lcs)]
  have dv : ∀ v, 0 ≤ v → v < n → deg (virt n (oddL n ts)) v = if v ∈ oddL n ts then 1 else 0 := fun v _ h => by
    rw [deg_virt n _ (oddL_nodup n ts) fun x hx => (mem_oddL.mp hx).1.2, if_neg (by omega)]
  have pv := fun v => pim_deg v (virt n (oddL n ts)) (ds.map some) (by rw [List.length_map]; exact lds) vds
  refine ⟨cs, ecs, lcs, vcs, fun v h0 h1 o => ?_, fun v h0 h1 o l => ?_, fun v h0 h1 o nl => ?_⟩
  · -- an odd place
    have hm := mem_oddL.mpr ⟨⟨h0, h1⟩, o⟩
    have z := I.nul v fun z => (first_begins ⟨h0, h1⟩).mp z.1 |>.1 (reach_top w ⟨h0, h1⟩ .refl o).symm
    have p := pv v
    rw [dv v h0 h1, if_pos hm] at p
    have s := split v
    omega
  · have ev := o.1 v .refl
    have nm : v ∉ oddL n ts := fun z => by have := (mem_oddL.mp z).2; omega
    have p := pv v
    rw [dv v h0 h1, if_neg nm] at p
    have s := split v
    have nt : ¬ Reach (more n ts) n v := fun r => by
      obtain ⟨x, rx, ox⟩ := odd_of_top w ⟨h0, h1⟩ r.symm
      have := o.1 x rx; omega
    have same : ∀ u, Reach (more n ts) v u ↔ Reach ts v u := fun u => ⟨fun r => (reach_more w ⟨h0, h1⟩ r).elim id fun ⟨x, rx, ox⟩ => by have := o.1 x rx; omega, more_sub⟩
    have hf : First (more n ts) (begins n) v := (first_begins ⟨h0, h1⟩).mpr ⟨nt, fun u hu0 hu1 r => by
      have := l u ((same u).mp r.symm); omega⟩
    have ho : OddN (more n ts) v := by
      classical
      refine ⟨fun t => decide (Reach (more n ts) v t.1), fun t _ => decide_eq_true_iff, ?_⟩
      have c := o.count (p := fun t => decide (Reach (more n ts) v t.1)) fun t _ => by rw [decide_eq_true_iff]; exact same t.1
      have z : (virt n (oddL n ts)).countP (fun t => decide (Reach (more n ts) v t.1)) = 0 := List.countP_eq_zero.mpr fun t ht hr => by
        unfold virt at ht
        obtain ⟨p, hp, rfl⟩ := List.mem_map.mp ht
        have hr : Reach (more n ts) v p := of_decide_eq_true hr
        have := o.1 p ((same p).mp hr)
        have := (mem_oddL.mp hp).2
        omega
      have e : (more n ts).countP (fun t => decide (Reach (more n ts) v t.1)) = ts.countP (fun t => decide (Reach (more n ts) v t.1)) := by
        have : (more n ts).countP (fun t => decide (Reach (more n ts) v t.1)) = ts.countP (fun t => decide (Reach (more n ts) v t.1)) + (virt n (oddL n ts)).countP (fun t => decide (Reach (more n ts) v t.1)) := by
          conv => lhs; arg 2; unfold more
          rw [List.countP_append]
        omega
      rw [e]; exact c
    have t := I.two v hf ho
    omega
  · have nm : v ∉ oddL n ts := fun z => by have := (mem_oddL.mp z).2; omega
    have p := pv v
    rw [dv v h0 h1, if_neg nm] at p
    have s := split v
    have z := I.nul v fun ⟨hf, p, hp, hc⟩ => nl (by
      obtain ⟨nt, hmin⟩ := (first_begins ⟨h0, h1⟩).mp hf
      have evn : ∀ u, Reach ts v u → deg ts u % 2 = 0 := fun u r => by
        apply Classical.byContradiction
        intro z
        exact nt (reach_top w ⟨h0, h1⟩ r (by omega)).symm
      have same : ∀ u, Reach (more n ts) v u ↔ Reach ts v u := fun u => ⟨fun r => (reach_more w ⟨h0, h1⟩ r).elim id fun ⟨x, rx, ox⟩ => by have := evn x rx; omega, more_sub⟩
      refine ⟨⟨evn, p, fun t ht => (hp t (mem_more.mpr (.inl ht))).trans (same t.1), ?_⟩, fun u r => ?_⟩
      · have z : (virt n (oddL n ts)).countP p = 0 := List.countP_eq_zero.mpr fun t ht hr => by
          have hr := (same t.1).mp ((hp t (by unfold more; exact List.mem_append_right _ ht)).mp hr)
          unfold virt at ht
          obtain ⟨x, hx, rfl⟩ := List.mem_map.mp ht
          have := evn x hr
          have := (mem_oddL.mp hx).2
          omega
        have e : (more n ts).countP p = ts.countP p + (virt n (oddL n ts)).countP p := by unfold more; rw [List.countP_append]
        omega
      · apply Classical.byContradiction
        intro lt
        have hu := r.in w ⟨h0, h1⟩
        exact hmin u hu.1 (by omega) (more_sub r).symm)
    omega
end TM
set_option linter.all false
set_option Elab.async false
/-! What is found, told as one answer. -/
namespace TM
def hasAt (ts : List Tie) (v : Int) (i : Nat) : Bool := match ts[i]? with
  | some t => has t v
  | none => false
def adjTo (ts : List Tie) (n : Nat) (v : Int) : List Nat := (List.range n).filter (hasAt ts v)
theorem adjTo_succ {ts : List Tie} {n : Nat} {t : Tie} (h : ts[n]? = some t) (v : Int) : adjTo ts (n + 1) v = adjTo ts n v ++ (if has t v then [n] else []) := by
  unfold adjTo
  rw [List.range_succ, List.filter_append]
  congr 1
  have : hasAt ts v n = has t v := by unfold hasAt; rw [h]
  cases e : has t v with
  | true => rw [e] at this; simp [this]
  | false => rw [e] at this; simp [this]
theorem mem_adjTo {ts : List Tie} {n : Nat} {v : Int} {i : Nat} : i ∈ adjTo ts n v ↔ i < n ∧ ∃ t, ts[i]? = some t ∧ has t v = true := by
  unfold adjTo
  rw [List.mem_filter, List.mem_range]
  unfold hasAt
  cases h : ts[i]? with
  | none => simp
  | some t => simp
theorem adjTo_len (ts : List Tie) (n : Nat) (v : Int) : (adjTo ts n v).length ≤ n := by
  unfold adjTo
  refine Nat.le_trans (List.length_filter_le _ _) ?_
  rw [List.length_range]; exact Nat.le_refl _
def trim (U : List Nat) (xs : List Nat) : List Nat := (xs.reverse.dropWhile fun x => decide (x ∈ U)).reverse
theorem trim_nil (U : List Nat) : trim U [] = [] := rfl
theorem trim_in {U : List Nat} {xs : List Nat} {x : Nat} (h : x ∈ U) : trim U (xs ++ [x]) = trim U xs := by
  unfold trim
  rw [List.reverse_append]
  simp [h]
theorem trim_out {U : List Nat} {xs : List Nat} {x : Nat} (h : x ∉ U) : trim U (xs ++ [x]) = xs ++ [x] := by
  unfold trim
  rw [List.reverse_append]
  simp [h]
def put (left : Int → List Nat) (u : Int) (xs : List Nat) : Int → List Nat := fun w => if w = u then xs else left w
theorem put_self (left : Int → List Nat) (u : Int) (xs : List Nat) : put left u xs u = xs := if_pos rfl
theorem put_put (left : Int → List Nat) (u : Int) (xs ys : List Nat) : put (put left u xs) u ys = put left u ys := by
  funext w; unfold put; split <;> rfl
theorem put_id {left : Int → List Nat} {u : Int} {xs : List Nat} (h : left u = xs) : put left u xs = left := by
  funext w; unfold put
  split
  · rename_i e; rw [e, h]
  · rfl
/-- the way on from here, and what is found in the end -/
inductive Run (ts : List Tie) (b : Int) : (Int → List Nat) → List (Int × Nat) → List Nat → List Nat → Prop
  | pop {left p i r F R} : trim (F ++ bys ((p, i) :: r)) (left p) = [] → Run ts b (put left p []) r (F ++ [i]) R → Run ts b left ((p, i) :: r) F R
  | done {left F} : trim (F ++ bys []) (left b) = [] → Run ts b left [] F F
  | push {left st F R x ys t} : trim (F ++ bys st) (left (top b st)) = ys ++ [x] → ts[x]? = some t → Run ts b (put left (top b st) ys) ((oth t (top b st), x) :: st) F R → Run ts b left st F R
theorem Run.uniq {ts : List Tie} {b : Int} {left : Int → List Nat} {st : List (Int × Nat)} {F R R' : List Nat} (h : Run ts b left st F R) (k : Run ts b left st F R') : R = R' := by
  induction h with
  | pop e _ ih =>
    cases k with
    | pop _ k => exact ih k
    | push e' _ _ => exact absurd (e.symm.trans e') (by simp)
  | done e =>
    cases k with
    | done _ => rfl
    | push e' _ _ => exact absurd (e.symm.trans e') (by simp)
  | push e ht _ ih =>
    cases k with
    | pop e' _ => exact absurd (Eq.trans (Eq.symm e') e) (by simp)
    | done e' => exact absurd (Eq.trans (Eq.symm e') e) (by simp)
    | push e' ht' k =>
      rw [e] at e'
      have e2 := List.append_inj' e' rfl
      obtain ⟨rfl, e3⟩ := e2
      cases e3
      rw [ht] at ht'; cases ht'
      exact ih k
open Classical in
/-- the circuit -/
noncomputable def circF (ts : List Tie) (b : Int) : List Nat := if h : ∃ R, Run ts b (adjTo ts ts.length) [] [] R then Classical.choose h else []
theorem circF_eq {ts : List Tie} {b : Int} {R : List Nat} (h : Run ts b (adjTo ts ts.length) [] [] R) : circF ts b = R := by
  unfold circF
  have hx : ∃ R, Run ts b (adjTo ts ts.length) [] [] R := ⟨R, h⟩
  rw [dif_pos hx]
  exact (Classical.choose_spec hx).uniq h
def frs (b : Int) (cols : List (Option Int)) (p : Tie × Nat) : Bool := has p.1 b && decide (cols[p.2]? = some none)
noncomputable def colStep (ts : List Tie) (cols : List (Option Int)) (b : Int) : List (Option Int) := if (ts.zipIdx.filter (frs b cols)).isEmpty then cols else paint cols (circF ts b) 0
noncomputable def colsF (ts : List Tie) (B : List Int) : List (Option Int) := B.foldl (colStep ts) (List.replicate ts.length none)
theorem colsF_snoc (ts : List Tie) (B : List Int) (b : Int) : colsF ts (B ++ [b]) = colStep ts (colsF ts B) b := by unfold colsF; rw [List.foldl_append]; rfl
noncomputable def nearF (n : Int) (ts : List Tie) : List Int := ((colsF (more n ts) (begins n)).take ts.length).map fun c => c.getD 0
theorem nearF_eq {n : Int} {ts : List Tie} {cs : List Int} (h : (colsF (more n ts) (begins n)).take ts.length = cs.map some) : nearF n ts = cs := by
  unfold nearF
  rw [h, List.map_map]
  show cs.map (fun c => c) = cs
  exact List.map_id' cs
end TM
set_option linter.all false
set_option Elab.async false
/-! Parts found one after the other. -/
namespace TM
structure PInv (ts : List Tie) (b : Int) (L N : List Int) : Prop where
  nd : L.Nodup
  sub : ∀ v ∈ N, v ∈ L
  rc : ∀ v ∈ L, Reach ts b v
  bg : b ∈ L
  cl : ∀ v ∈ L, v ∉ N → ∀ t ∈ ts, has t v = true → oth t v ∈ L
structure PMid (ts : List Tie) (b : Int) (L N : List Int) (here : Int) (p : Nat → Prop) : Prop where
  nd : L.Nodup
  sub : ∀ v ∈ N, v ∈ L
  rc : ∀ v ∈ L, Reach ts b v
  bg : b ∈ L
  hr : here ∈ L
  cl : ∀ v ∈ L, v ∉ N → v ≠ here → ∀ t ∈ ts, has t v = true → oth t v ∈ L
  pr : ∀ i t, p i → ts[i]? = some t → has t here = true → oth t here ∈ L
theorem PInv.start (ts : List Tie) (b : Int) : PInv ts b [b] [b] where
  nd := by simp
  sub := fun v h => h
  rc := fun v h => by rw [List.mem_singleton.mp h]; exact .refl
  bg := List.mem_singleton.mpr rfl
  cl := fun v h n => absurd h n
theorem PInv.pop {ts : List Tie} {b : Int} {L N : List Int} {here : Int} (h : PInv ts b L (N ++ [here])) : PMid ts b L N here (fun _ => False) where
  nd := h.nd
  sub := fun v hv => h.sub v (List.mem_append_left _ hv)
  rc := h.rc
  bg := h.bg
  hr := h.sub here (List.mem_append_right _ (List.mem_singleton.mpr rfl))
  cl := fun v hv hn ne => h.cl v hv fun z => (List.mem_append.mp z).elim hn fun q => ne (List.mem_singleton.mp q)
  pr := fun _ _ z => z.elim
theorem PMid.skip {ts : List Tie} {b : Int} {L N : List Int} {here : Int} {p q : Nat → Prop} {j : Nat} (h : PMid ts b L N here p) (hq : ∀ i, q i → p i ∨ i = j) (hj : ∀ t, ts[j]? = some t → has t here = true → oth t here ∈ L) : PMid ts b L N here q :=
  ⟨h.nd, h.sub, h.rc, h.bg, h.hr, h.cl, fun i t hi ht hv => by
    rcases hq i hi with z | rfl
    · exact h.pr i t z ht hv
    · exact hj t ht hv⟩
theorem PMid.mono {ts : List Tie} {b : Int} {L N : List Int} {here : Int} {p q : Nat → Prop} (h : PMid ts b L N here p) (hq : ∀ i, q i → p i) : PMid ts b L N here q :=
  ⟨h.nd, h.sub, h.rc, h.bg, h.hr, h.cl, fun i t hi => h.pr i t (hq i hi)⟩
theorem PMid.push {ts : List Tie} {b : Int} {L N : List Int} {here : Int} {p q : Nat → Prop} {j : Nat} {t : Tie} (h : PMid ts b L N here p) (hq : ∀ i, q i → p i ∨ i = j) (ht : ts[j]? = some t) (hv : has t here = true) (new : oth t here ∉ L) : PMid ts b (L ++ [oth t here]) (N ++ [oth t here]) here q where
  nd := List.nodup_append.mpr ⟨h.nd, by simp, fun x hx y hy e => new (by rw [← List.mem_singleton.mp hy, ← e]; exact hx)⟩
  sub := fun v hv => by
    rcases List.mem_append.mp hv with z | z
    · exact List.mem_append_left _ (h.sub v z)
    · exact List.mem_append_right _ z
  rc := fun v hv' => by
    rcases List.mem_append.mp hv' with z | z
    · exact h.rc v z
    · rw [List.mem_singleton.mp z]; exact (h.rc _ h.hr).step (List.mem_of_getElem? ht) hv
  bg := List.mem_append_left _ h.bg
  hr := List.mem_append_left _ h.hr
  cl := fun v hv' hn ne u hu hvu => by
    rcases List.mem_append.mp hv' with z | z
    · exact List.mem_append_left _ (h.cl v z (fun q => hn (List.mem_append_left _ q)) ne u hu hvu)
    · exact absurd (List.mem_append_right _ z) hn
  pr := fun i u hi hu hvu => by
    rcases hq i hi with z | rfl
    · exact List.mem_append_left _ (h.pr i u z hu hvu)
    · rw [ht] at hu; cases hu
      exact List.mem_append_right _ (List.mem_singleton.mpr rfl)
theorem PMid.done {ts : List Tie} {b : Int} {L N : List Int} {here : Int} {p : Nat → Prop} (h : PMid ts b L N here p) (all : ∀ i t, ts[i]? = some t → has t here = true → p i) : PInv ts b L N :=
  ⟨h.nd, h.sub, h.rc, h.bg, fun v hv hn t ht hvt => by
    by_cases e : v = here
    · subst e
      obtain ⟨i, hi⟩ := List.mem_iff_getElem?.mp ht
      exact h.pr i t (all i t hi hvt) hi hvt
    · exact h.cl v hv hn e t ht hvt⟩
theorem PInv.full {ts : List Tie} {b : Int} {L : List Int} (h : PInv ts b L []) (x : Int) : x ∈ L ↔ Reach ts b x := by
  refine ⟨h.rc x, fun r => ?_⟩
  induction r with
  | refl => exact h.bg
  | step _ ht hb ih => exact h.cl _ ih (fun z => nomatch z) _ ht hb
theorem PInv.sorted {n : Int} {ts : List Tie} (w : Web n ts) {b : Int} (hb : 0 ≤ b ∧ b < n) {L M : List Int} (h : PInv ts b L []) (p : M.Perm L) (s : M.Pairwise (· ≤ ·)) : M = part n ts b := by
  have nd : M.Nodup := p.nodup_iff.mpr h.nd
  have lt : M.Pairwise (· < ·) := (s.and nd).imp fun {a b} (h : a ≤ b ∧ a ≠ b) => by omega
  exact sorted_ext lt (part_sorted _ _ _) fun x => by rw [mem_part w hb, ← h.full x]; exact p.mem_iff
theorem nodup_upto {n : Int} {L : List Int} (nd : L.Nodup) (h : ∀ v ∈ L, 0 ≤ v ∧ v < n) : L.length ≤ n.toNat := by
  have p : ((upto n).filter fun i => decide (i ∈ L)).Perm L := (List.perm_ext_iff_of_nodup ((nodup_of_lt (upto_sorted n)).filter _) nd).mpr fun i => by
    rw [List.mem_filter, mem_upto]
    exact ⟨fun z => by simpa using z.2, fun z => ⟨h i z, by simpa using z⟩⟩
  rw [← p.length_eq]
  refine Nat.le_trans (List.length_filter_le _ _) ?_
  unfold upto
  rw [List.length_map, List.length_range]; exact Nat.le_refl _
theorem PMid.len {n : Int} {ts : List Tie} (w : Web n ts) {b : Int} (hb : 0 ≤ b ∧ b < n) {L N : List Int} {here : Int} {p : Nat → Prop} (h : PMid ts b L N here p) : L.length ≤ n.toNat := nodup_upto h.nd fun v hv => (h.rc v hv).in w hb
theorem PInv.len {n : Int} {ts : List Tie} (w : Web n ts) {b : Int} (hb : 0 ≤ b ∧ b < n) {L N : List Int} (h : PInv ts b L N) : L.length ≤ n.toNat := nodup_upto h.nd fun v hv => (h.rc v hv).in w hb
/-- a list as the places of a part that bars two colours -/
noncomputable def oddP (n : Int) (ts : List Tie) (some : List Int) : Bool :=
  !some.isEmpty && (some.all fun p => decide (0 ≤ p) && decide (p < n)) && decide (some = part n ts (some.headD 0)) && !(some.any fun p => decide (deg ts p % 2 = 1)) && decide ((some.map (deg ts)).sum / 2 % 2 = 1)
theorem part_ne {n : Int} {ts : List Tie} (w : Web n ts) {b : Int} (hb : 0 ≤ b ∧ b < n) : part n ts b ≠ [] := fun e => by
  have := (mem_part w hb).mpr (Reach.refl (ts := ts) (a := b))
  rw [e] at this; cases this
theorem part_head {n : Int} {ts : List Tie} (w : Web n ts) {b : Int} (hb : 0 ≤ b ∧ b < n) : ∃ c r, part n ts b = c :: r ∧ Reach ts b c ∧ Least ts c := by
  cases e : part n ts b with
  | nil => exact absurd e (part_ne w hb)
  | cons c r =>
    have hc : Reach ts b c := (mem_part w hb).mp (by rw [e]; exact List.mem_cons_self)
    refine ⟨c, r, rfl, hc, fun u hu => ?_⟩
    have hm := (mem_part w hb).mpr (hc.trans hu)
    rw [e] at hm
    rcases List.mem_cons.mp hm with q | q
    · omega
    · have s := part_sorted n ts b
      rw [e] at s
      have := (List.pairwise_cons.mp s).1 u q
      omega
theorem oddP_part {n : Int} {ts : List Tie} (w : Web n ts) {b : Int} (hb : 0 ≤ b ∧ b < n) : oddP n ts (part n ts b) = true ↔ OddAt ts b := by
  obtain ⟨c, r, e, rc, lc⟩ := part_head w hb
  have hc := rc.in w hb
  have pe : part n ts c = part n ts b := part_eq w hb rc
  rw [oddAt_iff w hb]
  have hh := part_hands w hb
  have hd : (part n ts b).headD 0 = c := by rw [e]; rfl
  have hemp : (part n ts b).isEmpty = false := by rw [e]; rfl
  unfold oddP
  rw [hd, pe, hh, hemp]
  have h1 : ((part n ts b).all fun p => decide (0 ≤ p) && decide (p < n)) = true := by
    rw [List.all_eq_true]
    intro x hx
    have := ((mem_part w hb).mp hx).in w hb
    simp [this]
  rw [h1, Nat.mul_div_cancel_left _ (by decide : 0 < 2)]
  simp only [Bool.not_false, Bool.and_true, Bool.true_and, decide_true, Bool.and_eq_true, Bool.not_eq_true', decide_eq_true_eq, List.any_eq_false]
  constructor
  · rintro ⟨h2, h3⟩
    exact ⟨fun u hu => by have := h2 u hu; omega, h3⟩
  · rintro ⟨h2, h3⟩
    exact ⟨fun u hu => by have := h2 u hu; omega, h3⟩
end TM
set_option Elab.async false
set_option linter.all false
/-! Colours: counts at a place, even colours; distinct numbers in order. -/
namespace TM
def insU (a : Int) : List Int → List Int
  | [] => [a]
  | b :: r => if a < b then a :: b :: r else if a = b then b :: r else b :: insU a r
theorem mem_insU {a x : Int} : ∀ {l : List Int}, x ∈ insU a l ↔ x = a ∨ x ∈ l
  | [] => by simp [insU]
  | b :: r => by
    unfold insU
    split
    · simp
    · split
      · rename_i e
        subst e; simp
      · rw [List.mem_cons, mem_insU, List.mem_cons]
        constructor
        · rintro (h | h | h)
          · exact .inr (.inl h)
          · exact .inl h
          · exact .inr (.inr h)
        · rintro (h | h | h)
          · exact .inr (.inl h)
          · exact .inl h
          · exact .inr (.inr h)
theorem insU_sorted {a : Int} : ∀ {l : List Int}, l.Pairwise (· < ·) → (insU a l).Pairwise (· < ·)
  | [], _ => by simp [insU]
  | b :: r, h => by
    obtain ⟨h1, h2⟩ := List.pairwise_cons.mp h
    unfold insU
    split
    · rename_i e
      refine List.pairwise_cons.mpr ⟨fun x hx => ?_, h⟩
      rcases List.mem_cons.mp hx with q | q
      · omega
      · have := h1 x q; omega
    · split
      · exact h
      · refine List.pairwise_cons.mpr ⟨fun x hx => ?_, insU_sorted h2⟩
        rcases mem_insU.mp hx with q | q
        · omega
        · exact h1 x q
/-- the distinct numbers, rising -/
def kinds (ns : List Int) : List Int := ns.foldr insU []
theorem mem_kinds {x : Int} : ∀ {ns : List Int}, x ∈ kinds ns ↔ x ∈ ns
  | [] => by simp [kinds]
  | n :: ns => by
    show x ∈ insU n (kinds ns) ↔ _
    rw [mem_insU, mem_kinds, List.mem_cons]
theorem kinds_sorted : ∀ ns : List Int, (kinds ns).Pairwise (· < ·)
  | [] => List.Pairwise.nil
  | n :: ns => insU_sorted (kinds_sorted ns)
theorem kinds_eq {ns ms : List Int} (h : ms.Pairwise (· < ·)) (k : ∀ x, x ∈ ms ↔ x ∈ ns) : ms = kinds ns := sorted_ext h (kinds_sorted ns) fun x => by rw [k, mem_kinds]
theorem kinds_nodup (ns : List Int) : (kinds ns).Nodup := nodup_of_lt (kinds_sorted ns)
theorem kinds_len {ns ms : List Int} (nd : ms.Nodup) (k : ∀ x, x ∈ ms ↔ x ∈ ns) : ms.length = (kinds ns).length := by
  have p : ms.Perm (kinds ns) := (List.perm_ext_iff_of_nodup nd (kinds_nodup ns)).mpr fun x => by rw [k, mem_kinds]
  exact p.length_eq
theorem kinds_le (ns : List Int) : (kinds ns).length ≤ ns.length := by
  induction ns with
  | nil => exact Nat.le_refl _
  | cons n ns ih =>
    have : ∀ l : List Int, (insU n l).length ≤ l.length + 1 := by
      intro l
      induction l with
      | nil => exact Nat.le_refl _
      | cons b r ih =>
        unfold insU
        split
        · exact Nat.le_refl _
        · split
          · simp
          · rw [List.length_cons, List.length_cons]; omega
    have h := this (kinds ns)
    show (insU n (kinds ns)).length ≤ _
    rw [List.length_cons]; omega
/-! max, min -/
theorem foldl_max_spec : ∀ (r : List Int) (n : Int), n ≤ r.foldl max n ∧ (∀ x ∈ r, x ≤ r.foldl max n) ∧ (r.foldl max n = n ∨ r.foldl max n ∈ r)
  | [], n => ⟨Int.le_refl _, fun x h => (nomatch h), .inl rfl⟩
  | a :: r, n => by
    obtain ⟨h1, h2, h3⟩ := foldl_max_spec r (max n a)
    rw [List.foldl_cons]
    refine ⟨by omega, fun x hx => ?_, ?_⟩
    · rcases List.mem_cons.mp hx with q | q
      · omega
      · exact h2 x q
    · rcases h3 with q | q
      · by_cases h : n ≤ a
        · right; rw [q]; rw [show max n a = a by omega]; exact List.mem_cons_self
        · left; rw [q]; omega
      · exact .inr (List.mem_cons_of_mem _ q)
theorem foldl_min_spec : ∀ (r : List Int) (n : Int), r.foldl min n ≤ n ∧ (∀ x ∈ r, r.foldl min n ≤ x) ∧ (r.foldl min n = n ∨ r.foldl min n ∈ r)
  | [], n => ⟨Int.le_refl _, fun x h => (nomatch h), .inl rfl⟩
  | a :: r, n => by
    obtain ⟨h1, h2, h3⟩ := foldl_min_spec r (min n a)
    rw [List.foldl_cons]
    refine ⟨by omega, fun x hx => ?_, ?_⟩
    · rcases List.mem_cons.mp hx with q | q
      · omega
      · exact h2 x q
    · rcases h3 with q | q
      · by_cases h : a ≤ n
        · right; rw [q]; rw [show min n a = a by omega]; exact List.mem_cons_self
        · left; rw [q]; omega
      · exact .inr (List.mem_cons_of_mem _ q)
def maxL (d : Int) : List Int → Int
  | [] => d
  | n :: r => r.foldl max n
def minL (d : Int) : List Int → Int
  | [] => d
  | n :: r => r.foldl min n
theorem le_maxL {d x : Int} {l : List Int} (h : x ∈ l) : x ≤ maxL d l := by
  cases l with
  | nil => cases h
  | cons n r =>
    obtain ⟨h1, h2, _⟩ := foldl_max_spec r n
    rcases List.mem_cons.mp h with q | q
    · rw [q]; exact h1
    · exact h2 x q
theorem maxL_mem {d : Int} (l : List Int) : maxL d l ∈ l ∨ (l = [] ∧ maxL d l = d) := by
  cases l with
  | nil => exact .inr ⟨rfl, rfl⟩
  | cons n r =>
    obtain ⟨_, _, h3⟩ := foldl_max_spec r n
    left
    rcases h3 with q | q
    · show r.foldl max n ∈ _
      rw [q]; exact List.mem_cons_self
    · exact List.mem_cons_of_mem _ q
theorem minL_le {d x : Int} {l : List Int} (h : x ∈ l) : minL d l ≤ x := by
  cases l with
  | nil => cases h
  | cons n r =>
    obtain ⟨h1, h2, _⟩ := foldl_min_spec r n
    rcases List.mem_cons.mp h with q | q
    · rw [q]; exact h1
    · exact h2 x q
theorem minL_mem {d : Int} (l : List Int) : minL d l ∈ l ∨ (l = [] ∧ minL d l = d) := by
  cases l with
  | nil => exact .inr ⟨rfl, rfl⟩
  | cons n r =>
    obtain ⟨_, _, h3⟩ := foldl_min_spec r n
    left
    rcases h3 with q | q
    · show r.foldl min n ∈ _
      rw [q]; exact List.mem_cons_self
    · exact List.mem_cons_of_mem _ q
/-! counts of colours at a place -/
def cntAt (ts : List Tie) (cs : List Int) (v c : Int) : Nat := (ts.zip cs).countP fun p => has p.1 v && decide (p.2 = c)
theorem cntAt_cons (t : Tie) (ts : List Tie) (x : Int) (cs : List Int) (v c : Int) : cntAt (t :: ts) (x :: cs) v c = cntAt ts cs v c + (if has t v && decide (x = c) then 1 else 0) := by
  unfold cntAt; rw [List.zip_cons_cons, List.countP_cons]
theorem cntAt_out {ts : List Tie} {cs : List Int} {v c : Int} (h : c ∉ cs) : cntAt ts cs v c = 0 := by
  unfold cntAt
  rw [List.countP_eq_zero]
  intro p hp
  have := (List.of_mem_zip hp).2
  have ne : p.2 ≠ c := fun z => h (z ▸ this)
  simp [ne]
/-- even at each place, by so many -/
def EvenCols (n : Int) (ts : List Tie) (cs : List Int) (many : Int) : Prop :=
  cs.length = ts.length ∧ (∀ c ∈ cs, 0 ≤ c ∧ c < many) ∧ ∀ v, 0 ≤ v → v < n → ∀ c d, 0 ≤ c → c < many → 0 ≤ d → d < many → cntAt ts cs v c ≤ cntAt ts cs v d + 1
/-- the counts of the kinds that there are, at a place -/
def often (ts : List Tie) (cs : List Int) (v : Int) : List Int := (kinds cs).map fun c => (cntAt ts cs v c : Int)
def leastOf (cs : List Int) (many : Int) (l : List Int) : Int := if ((kinds cs).length : Int) = many then minL 0 l else 0
theorem full {cs : List Int} {many : Int} (hr : ∀ c ∈ cs, 0 ≤ c ∧ c < many) : ((kinds cs).length : Int) = many ∨ (∃ d, 0 ≤ d ∧ d < many ∧ d ∉ cs) ∨ many < 0 := by
  by_cases h0 : many < 0
  · exact .inr (.inr h0)
  by_cases h : ∃ d, 0 ≤ d ∧ d < many ∧ d ∉ cs
  · exact .inr (.inl h)
  · left
    have p : (kinds cs).Perm (upto many) := (List.perm_ext_iff_of_nodup (kinds_nodup cs) (nodup_of_lt (upto_sorted many))).mpr fun x => by
      rw [mem_kinds, mem_upto]
      refine ⟨hr x, fun hx => ?_⟩
      by_cases hc : x ∈ cs
      · exact hc
      · exact absurd ⟨x, hx.1, hx.2, hc⟩ h
    have := p.length_eq
    unfold upto at this
    rw [List.length_map, List.length_range] at this
    omega
theorem not_full {cs : List Int} {many : Int} (hr : ∀ c ∈ cs, 0 ≤ c ∧ c < many) (h : ((kinds cs).length : Int) = many) {d : Int} (h0 : 0 ≤ d) (h1 : d < many) : d ∈ cs := by
  by_cases hc : d ∈ cs
  · exact hc
  · have nd : (d :: kinds cs).Nodup := List.nodup_cons.mpr ⟨fun z => hc (mem_kinds.mp z), kinds_nodup cs⟩
    have := nodup_upto (n := many) nd fun v hv => by
      rcases List.mem_cons.mp hv with q | q
      · rw [q]; exact ⟨h0, h1⟩
      · exact hr v (mem_kinds.mp q)
    rw [List.length_cons] at this
    omega
theorem even_look {ts : List Tie} {cs : List Int} {many v : Int} (hr : ∀ c ∈ cs, 0 ≤ c ∧ c < many) :
    (∀ c d, 0 ≤ c → c < many → 0 ≤ d → d < many → cntAt ts cs v c ≤ cntAt ts cs v d + 1) ↔ ¬ maxL 0 (often ts cs v) - leastOf cs many (often ts cs v) > 1 := by
  have mo : ∀ c, c ∈ cs → (cntAt ts cs v c : Int) ∈ often ts cs v := fun c hc => List.mem_map.mpr ⟨c, mem_kinds.mpr hc, rfl⟩
  have om : ∀ x, x ∈ often ts cs v → ∃ c ∈ cs, x = (cntAt ts cs v c : Int) := fun x hx => by
    obtain ⟨c, hc, rfl⟩ := List.mem_map.mp hx
    exact ⟨c, mem_kinds.mp hc, rfl⟩
  constructor
  · intro h
    rcases maxL_mem (d := 0) (often ts cs v) with hm | ⟨he, hm⟩
    · obtain ⟨c, hc, e⟩ := om _ hm
      rw [e]
      have hrc := hr c hc
      unfold leastOf
      split
      · rcases minL_mem (d := 0) (often ts cs v) with hn | ⟨he, _⟩
        · obtain ⟨d, hd, e2⟩ := om _ hn
          rw [e2]
          have hrd := hr d hd
          have := h c d hrc.1 hrc.2 hrd.1 hrd.2
          omega
        · rw [he] at hm; cases hm
      · rename_i hf
        rcases full hr with q | ⟨d, hd0, hd1, hd⟩ | q
        · exact absurd q hf
        · have := h c d hrc.1 hrc.2 hd0 hd1
          rw [cntAt_out hd] at this
          omega
        · omega
    · rw [hm, he]
      unfold leastOf
      split <;> simp [minL]
  · intro h c d hc0 hc1 hd0 hd1
    have hx : (cntAt ts cs v c : Int) ≤ maxL 0 (often ts cs v) := by
      by_cases hc : c ∈ cs
      · exact le_maxL (mo c hc)
      · rw [cntAt_out hc]
        rcases maxL_mem (d := 0) (often ts cs v) with hm | ⟨_, hm⟩
        · obtain ⟨e, _, q⟩ := om _ hm
          omega
        · omega
    have hy : leastOf cs many (often ts cs v) ≤ (cntAt ts cs v d : Int) := by
      unfold leastOf
      split
      · rename_i hf
        exact minL_le (mo d (not_full hr hf hd0 hd1))
      · omega
    omega
/-! two colours -/
theorem pim_cnt (v : Int) : ∀ (ts : List Tie) (cs : List Int), cs.length = ts.length → (∀ c ∈ cs, c = 0 ∨ c = 1) → pim ts (cs.map some) v = (cntAt ts cs v 1 : Int) - (cntAt ts cs v 0 : Int)
  | [], [], _, _ => rfl
  | t :: ts, c :: cs, hl, hv => by
    have ih := pim_cnt v ts cs (by simpa using hl) fun x hx => hv x (List.mem_cons_of_mem _ hx)
    rw [cntAt_cons, cntAt_cons]
    show (if has t v then wt (some c) else 0) + pim ts (cs.map some) v = _
    rw [ih]
    have e0 : wt (some 0) = -1 := rfl
    have e1 : wt (some 1) = 1 := rfl
    rcases hv c List.mem_cons_self with rfl | rfl
    · rw [e0]; cases has t v <;> simp <;> omega
    · rw [e1]; cases has t v <;> simp <;> omega
  | [], _ :: _, h, _ => by simp at h
  | _ :: _, [], h, _ => by simp at h
theorem even_two {n : Int} {ts : List Tie} {cs : List Int} (hl : cs.length = ts.length) (hv : ∀ c ∈ cs, c = 0 ∨ c = 1) : EvenCols n ts cs 2 ↔ ∀ v, 0 ≤ v → v < n → (pim ts (cs.map some) v).natAbs ≤ 1 := by
  constructor
  · rintro ⟨_, _, h⟩ v h0 h1
    rw [pim_cnt v ts cs hl hv]
    have a := h v h0 h1 0 1 (by decide) (by decide) (by decide) (by decide)
    have b := h v h0 h1 1 0 (by decide) (by decide) (by decide) (by decide)
    omega
  · intro h
    refine ⟨hl, fun c hc => ?_, fun v h0 h1 c d c0 c1 d0 d1 => ?_⟩
    · rcases hv c hc with e | e <;> rw [e] <;> decide
    · have := h v h0 h1
      rw [pim_cnt v ts cs hl hv] at this
      have hc : c = 0 ∨ c = 1 := by omega
      have hd : d = 0 ∨ d = 1 := by omega
      rcases hc with rfl | rfl <;> rcases hd with rfl | rfl <;> omega
/-- counts of a colour in a place's own -/
theorem cnt_mine (ts : List Tie) (cs : List Int) (hl : cs.length = ts.length) (v c : Int) : ((adjTo ts ts.length v).map fun i => cs.getD i 0).count c = cntAt ts cs v c := by
  have key : ∀ m, m ≤ ts.length → ((adjTo ts m v).map fun i => cs.getD i 0).count c = cntAt (ts.take m) (cs.take m) v c := by
    intro m
    induction m with
    | zero => intro _; rfl
    | succ m ih =>
      intro hm
      have ht : ts[m]? = some ts[m] := List.getElem?_eq_getElem (by omega)
      have hc : cs[m]? = some cs[m] := List.getElem?_eq_getElem (by omega)
      have e3 : cs.getD m 0 = cs[m] := by rw [List.getD_eq_getElem?_getD, hc]; rfl
      rw [adjTo_succ ht, List.map_append, List.count_append, ih (by omega), List.take_add_one, List.take_add_one, ht, hc, Option.toList_some, Option.toList_some]
      unfold cntAt
      rw [List.zip_append (by rw [List.length_take, List.length_take, hl]), List.countP_append]
      congr 1
      cases hh : has ts[m] v with
      | false => simp [hh]
      | true =>
        simp only [if_true, List.map_cons, List.map_nil, List.zip_cons_cons, List.zip_nil_left, List.countP_cons, List.countP_nil, List.count_cons, List.count_nil, e3, hh, Bool.true_and]
        by_cases q : cs[m] = c <;> simp [q]
  have := key ts.length (Nat.le_refl _)
  rw [List.take_length, List.take_of_length_le (by omega)] at this
  exact this
end TM
set_option Elab.async false
set_option linter.all false
/-! Two sides, odd rings. -/
namespace TM
def Bip (ts : List Tie) : Prop := ∃ f : Int → Bool, ∀ t ∈ ts, f t.1 ≠ f t.2
noncomputable def bipP (ts : List Tie) : Bool := @decide (Bip ts) (Classical.propDecidable _)
theorem bipP_true {ts : List Tie} : bipP ts = true ↔ Bip ts := by unfold bipP; exact @decide_eq_true_iff _ (Classical.propDecidable _)
theorem bipP_false {ts : List Tie} (h : ¬ Bip ts) : bipP ts = false := by
  cases q : bipP ts with
  | false => rfl
  | true => exact absurd (bipP_true.mp q) h
theorem Bip.oth {ts : List Tie} {f : Int → Bool} (h : ∀ t ∈ ts, f t.1 ≠ f t.2) {t : Tie} (ht : t ∈ ts) {v : Int} (hv : has t v = true) : f (oth t v) = !f v := by
  have := h t ht
  rcases has_iff.mp hv with rfl | rfl
  · rw [oth_1]; cases q : f t.1 <;> cases r : f t.2 <;> simp_all
  · rw [oth_2]; cases q : f t.1 <;> cases r : f t.2 <;> simp_all
/-- the places of a walk -/
def trail (ts : List Tie) : Int → List Nat → Option (List Int)
  | b, [] => some [b]
  | b, i :: r => match ts[i]? with
    | some t => if has t b = true then (trail ts (oth t b) r).map (b :: ·) else none
    | none => none
theorem trail_cons {ts : List Tie} {b : Int} {i : Nat} {r : List Nat} {t : Tie} (ht : ts[i]? = some t) (hb : has t b = true) : trail ts b (i :: r) = (trail ts (oth t b) r).map (b :: ·) := by
  show (match ts[i]? with | some t => if has t b = true then (trail ts (oth t b) r).map (b :: ·) else none | none => none) = _
  rw [ht]; exact if_pos hb
theorem trail_inv {ts : List Tie} {b : Int} {i : Nat} {r : List Nat} {pl : List Int} (h : trail ts b (i :: r) = some pl) : ∃ t q, ts[i]? = some t ∧ has t b = true ∧ trail ts (oth t b) r = some q ∧ pl = b :: q := by
  unfold trail at h
  cases ht : ts[i]? with
  | none => rw [ht] at h; cases h
  | some t =>
    rw [ht] at h
    have h : (if has t b = true then (trail ts (oth t b) r).map (b :: ·) else none) = some pl := h
    by_cases hb : has t b = true
    · rw [if_pos hb] at h
      cases hq : trail ts (oth t b) r with
      | none => rw [hq] at h; cases h
      | some q => rw [hq] at h; cases h; exact ⟨t, q, rfl, hb, hq, rfl⟩
    · rw [if_neg hb] at h; cases h
theorem trail_len {ts : List Tie} : ∀ {r : List Nat} {b : Int} {pl : List Int}, trail ts b r = some pl → pl.length = r.length + 1
  | [], b, pl, h => by cases h; rfl
  | i :: r, b, pl, h => by
    obtain ⟨t, q, _, _, hq, rfl⟩ := trail_inv h
    rw [List.length_cons, trail_len hq, List.length_cons]
theorem trail_head {ts : List Tie} {r : List Nat} {b : Int} {pl : List Int} (h : trail ts b r = some pl) : ∃ q, pl = b :: q := by
  cases r with
  | nil => cases h; exact ⟨[], rfl⟩
  | cons i r =>
    obtain ⟨t, q, _, _, _, e⟩ := trail_inv h
    exact ⟨q, e⟩
/-- a walk, its end told -/
theorem trail_append {ts : List Tie} : ∀ {r : List Nat} {b c : Int} {pl : List Int} {s : List Nat}, trail ts b r = some (pl ++ [c]) → trail ts b (r ++ s) = (trail ts c s).map (pl ++ ·)
  | [], b, c, pl, s, h => by
    have h : [b] = pl ++ [c] := Option.some.inj h
    cases pl with
    | nil => cases h; show trail ts b s = _; cases trail ts b s <;> rfl
    | cons x pl => cases pl <;> simp at h
  | i :: r, b, c, pl, s, h => by
    obtain ⟨t, q, ht, hb, hq, e⟩ := trail_inv h
    rw [List.cons_append, trail_cons ht hb]
    cases pl with
    | nil =>
      have := trail_len hq
      simp at e
      rw [e.2] at this; simp at this
    | cons x pl =>
      rw [List.cons_append] at e
      injection e with e1 e2
      rw [← e2] at hq
      rw [trail_append hq, e1, Option.map_map]; rfl
theorem trail_rev {ts : List Tie} : ∀ {r : List Nat} {b c : Int} {pl : List Int}, trail ts b r = some (pl ++ [c]) → trail ts c r.reverse = some (pl ++ [c]).reverse
  | [], b, c, pl, h => by
    have h : [b] = pl ++ [c] := Option.some.inj h
    cases pl with
    | nil => cases h; rfl
    | cons x pl => cases pl <;> simp at h
  | i :: r, b, c, pl, h => by
    obtain ⟨t, q, ht, hb, hq, e⟩ := trail_inv h
    cases pl with
    | nil =>
      have := trail_len hq
      simp at e
      rw [e.2] at this; simp at this
    | cons x pl =>
      rw [List.cons_append] at e
      injection e with e1 e2
      subst e1 e2
      have ih := trail_rev hq
      obtain ⟨q', hq'⟩ := trail_head hq
      have e3 : (pl ++ [c]).reverse = q'.reverse ++ [oth t x] := by rw [hq', List.reverse_cons]
      rw [e3] at ih
      rw [List.reverse_cons, trail_append ih, List.cons_append, List.reverse_cons, e3]
      have h1 : has t (oth t x) = true := has_oth hb
      rw [trail_cons ht h1, oth_oth]
      show some (q'.reverse ++ ((oth t x) :: [x])) = _
      rw [List.append_assoc]; rfl
def ringFrom (ts : List Tie) (ring : List Nat) (b : Int) : Bool := match trail ts b ring with
  | some pl => decide (pl.getLast? = some b) && decide pl.dropLast.Nodup
  | none => false
theorem ringFrom_true {ts : List Tie} {ring : List Nat} {b : Int} : ringFrom ts ring b = true ↔ ∃ pl, trail ts b ring = some (pl ++ [b]) ∧ pl.Nodup := by
  unfold ringFrom
  constructor
  · intro h
    cases e : trail ts b ring with
    | none => rw [e] at h; cases h
    | some q =>
      rw [e] at h
      have h : (decide (q.getLast? = some b) && decide q.dropLast.Nodup) = true := h
      rw [Bool.and_eq_true, decide_eq_true_iff, decide_eq_true_iff] at h
      have ne : q ≠ [] := fun z => by rw [z] at h; cases h.1
      have := List.dropLast_concat_getLast ne
      have h1 := h.1
      rw [List.getLast?_eq_some_getLast ne] at h1
      rw [Option.some.inj h1] at this
      exact ⟨q.dropLast, by rw [this], h.2⟩
  · rintro ⟨pl, e, nd⟩
    rw [e]
    show (decide ((pl ++ [b]).getLast? = some b) && decide (pl ++ [b]).dropLast.Nodup) = true
    rw [List.getLast?_concat, List.dropLast_concat]
    simp [nd]
/-- an odd ring, told by the counts of its ties -/
def ringB (ts : List Tie) (ring : List Nat) : Bool := match ring with
  | [] => false
  | i :: _ => match ts[i]? with
    | some t => ringFrom ts ring t.1 || ringFrom ts ring t.2
    | none => false
def ringP (ts : List Tie) (rs : List Int) : Bool := decide (rs.length % 2 = 1) && (rs.all fun i => decide (0 ≤ i) && decide (i < (ts.length : Int))) && ringB ts (rs.map Int.toNat)
theorem trail_col {ts : List Tie} {f : Int → Bool} (hf : ∀ t ∈ ts, f t.1 ≠ f t.2) : ∀ {r : List Nat} {b c : Int} {pl : List Int}, trail ts b r = some (pl ++ [c]) → f c = if r.length % 2 = 0 then f b else !f b
  | [], b, c, pl, h => by
    have h : [b] = pl ++ [c] := Option.some.inj h
    cases pl with
    | nil => cases h; rfl
    | cons x pl => cases pl <;> simp at h
  | i :: r, b, c, pl, h => by
    obtain ⟨t, q, ht, hb, hq, e⟩ := trail_inv h
    cases pl with
    | nil =>
      have := trail_len hq
      simp at e
      rw [e.2] at this; simp at this
    | cons x pl =>
      rw [List.cons_append] at e
      injection e with e1 e2
      subst e1 e2
      rw [trail_col hf hq, Bip.oth hf (List.mem_of_getElem? ht) hb, List.length_cons]
      by_cases h2 : r.length % 2 = 0
      · rw [if_pos h2, if_neg (by omega)]
      · rw [if_neg h2, if_pos (by omega), Bool.not_not]
theorem ring_not_bip {ts : List Tie} {rs : List Int} (h : ringP ts rs = true) : ¬ Bip ts := by
  rintro ⟨f, hf⟩
  unfold ringP at h
  rw [Bool.and_eq_true, Bool.and_eq_true, decide_eq_true_iff] at h
  obtain ⟨⟨h1, _⟩, h2⟩ := h
  have key : ∀ b, ringFrom ts (rs.map Int.toNat) b = true → False := fun b hb => by
    obtain ⟨pl, e, _⟩ := ringFrom_true.mp hb
    have := trail_col hf e
    rw [List.length_map, if_neg (by omega)] at this
    cases q : f b <;> rw [q] at this <;> cases this
  cases e : rs.map Int.toNat with
  | nil => rw [e] at h2; cases h2
  | cons i r =>
    rw [e] at h2
    have h2 : (match ts[i]? with | some t => ringFrom ts (i :: r) t.1 || ringFrom ts (i :: r) t.2 | none => false) = true := h2
    rw [← e] at h2
    cases q : ts[i]? with
    | none => rw [q] at h2; cases h2
    | some t =>
      rw [q] at h2
      rcases Bool.or_eq_true_iff.mp h2 with z | z <;> exact key _ z
/-! the way up -/
inductive Up (ts : List Tie) (by_ : Int → Option Nat) : Int → List Nat → Int → Prop
  | root {v : Int} : by_ v = none → Up ts by_ v [] v
  | step {v r : Int} {i : Nat} {t : Tie} {p : List Nat} : by_ v = some i → ts[i]? = some t → has t v = true → Up ts by_ (oth t v) p r → Up ts by_ v (i :: p) r
section
variable {ts : List Tie} {by_ : Int → Option Nat}
theorem Up.uniq {v : Int} {p : List Nat} {r : Int} (h : Up ts by_ v p r) : ∀ {p' : List Nat} {r' : Int}, Up ts by_ v p' r' → p = p' ∧ r = r' := by
  induction h with
  | root h =>
    intro p' r' k
    cases k with
    | root _ => exact ⟨rfl, rfl⟩
    | step h2 _ _ _ => rw [h] at h2; cases h2
  | step h1 h2 h3 _ ih =>
    intro p' r' k
    cases k with
    | root h => rw [h] at h1; cases h1
    | step k1 k2 k3 k4 =>
      rw [h1] at k1; cases k1
      rw [h2] at k2; cases k2
      obtain ⟨e1, e2⟩ := ih k4
      exact ⟨by rw [e1], e2⟩
theorem Up.down {r : Int} : ∀ {c : List Nat} {w w' : Int}, Up ts by_ w c r → Up ts by_ w' c r → w = w'
  | [], _, _, .root _, .root _ => rfl
  | i :: c, w, w', .step (t := t) _ h2 _ h4, .step (t := t') _ k2 _ k4 => by
    rw [h2] at k2; cases k2
    have := Up.down h4 k4
    have e : oth t (oth t w) = oth t (oth t w') := by rw [this]
    rwa [oth_oth, oth_oth] at e
/-- up by m, then by c -/
theorem Up.split : ∀ {m c : List Nat} {v r : Int}, Up ts by_ v (m ++ c) r → ∃ w pl, trail ts v m = some (pl ++ [w]) ∧ Up ts by_ w c r ∧ ∀ (j : Nat) (x : Int), pl[j]? = some x → Up ts by_ x ((m ++ c).drop j) r
  | [], c, v, r, h => ⟨v, [], rfl, h, fun j x q => by simp at q⟩
  | i :: m, c, v, r, h => by
    rw [List.cons_append] at h
    cases h with
    | step h1 h2 h3 h4 =>
      obtain ⟨w, pl, e, u, k⟩ := Up.split h4
      refine ⟨w, v :: pl, ?_, u, fun j x q => ?_⟩
      · rw [trail_cons h2 h3, e]; rfl
      · cases j with
        | zero =>
          have : v = x := by simpa using q
          subst this
          exact .step h1 h2 h3 h4
        | succ j => exact k j x (by simpa using q)
theorem Up.places {m c : List Nat} {v r w : Int} {pl : List Int} (h : Up ts by_ v (m ++ c) r) (e : trail ts v m = some (pl ++ [w])) : Up ts by_ w c r ∧ ∀ (j : Nat) (x : Int), pl[j]? = some x → Up ts by_ x ((m ++ c).drop j) r := by
  obtain ⟨w', pl', e', u, k⟩ := h.split
  rw [e] at e'
  have := Option.some.inj e'
  obtain ⟨h1, h2⟩ := List.append_inj' this rfl
  cases h2
  subst h1
  exact ⟨u, k⟩
/-- two ways up from one tree's places with a tie between: a ring -/
theorem ring_of {here there cur : Int} {m k c : List Nat} {at_ : Nat} {t : Tie} (ht : ts[at_]? = some t) (hh : has t here = true) (ho : oth t here = there) (u1 : Up ts by_ here (m ++ c) cur) (u2 : Up ts by_ there (k ++ c) cur)
    (hs : ∀ x, m.getLast? = some x → k.getLast? ≠ some x) : ringFrom ts (at_ :: (k ++ m.reverse)) here = true := by
  obtain ⟨w, pm, em, uw, km⟩ := u1.split
  obtain ⟨w', pk, ek, uw', kk⟩ := u2.split
  have hw := Up.down uw uw'
  subst hw
  have e1 := trail_rev em
  rw [List.reverse_append] at e1
  have e2 : trail ts there (k ++ m.reverse) = some (pk ++ (w :: pm.reverse)) := by rw [trail_append ek, e1]; rfl
  have e3 : trail ts here (at_ :: (k ++ m.reverse)) = some (here :: (pk ++ (w :: pm.reverse))) := by rw [trail_cons ht hh, ho, e2]; rfl
  -- the places of a way are distinct
  have dist : ∀ {v : Int} {q : List Nat} {pl : List Int}, (∀ (j : Nat) (x : Int), pl[j]? = some x → Up ts by_ x ((q ++ c).drop j) cur) → pl.length = q.length → pl.Nodup := fun {v q pl} h hl => by
    refine List.pairwise_iff_getElem.mpr fun i j hi hj hij z => ?_
    have ui := h i _ (List.getElem?_eq_getElem hi)
    have uj := h j _ (List.getElem?_eq_getElem hj)
    rw [z] at ui
    have := congrArg List.length (ui.uniq uj).1
    rw [List.length_drop, List.length_drop, List.length_append] at this
    omega
  have lm : pm.length = m.length := by have := trail_len em; rw [List.length_append] at this; simp at this; exact this
  have lk : pk.length = k.length := by have := trail_len ek; rw [List.length_append] at this; simp at this; exact this
  have ndm : pm.Nodup := dist (v := here) km lm
  have ndk : pk.Nodup := dist (v := there) kk lk
  have wm : w ∉ pm := fun z => by
    obtain ⟨j, hj⟩ := List.mem_iff_getElem?.mp z
    have := congrArg List.length ((km j w hj).uniq uw).1
    rw [List.length_drop, List.length_append] at this
    have := (List.getElem?_eq_some_iff.mp hj).1
    omega
  have wk : w ∉ pk := fun z => by
    obtain ⟨j, hj⟩ := List.mem_iff_getElem?.mp z
    have := congrArg List.length ((kk j w hj).uniq uw).1
    rw [List.length_drop, List.length_append] at this
    have := (List.getElem?_eq_some_iff.mp hj).1
    omega
  have dj : ∀ x, x ∈ pk → x ∈ pm → False := fun x h1 h2 => by
    obtain ⟨i, hi⟩ := List.mem_iff_getElem?.mp h1
    obtain ⟨j, hj⟩ := List.mem_iff_getElem?.mp h2
    have hil := (List.getElem?_eq_some_iff.mp hi).1
    have hjl := (List.getElem?_eq_some_iff.mp hj).1
    have e := ((kk i x hi).uniq (km j x hj)).1
    rw [List.drop_append_of_le_length (by omega), List.drop_append_of_le_length (by omega)] at e
    have e := List.append_cancel_right e
    have l1 : (k.drop i).getLast? = k.getLast? := by rw [List.getLast?_drop, if_neg (by omega)]
    have l2 : (m.drop j).getLast? = m.getLast? := by rw [List.getLast?_drop, if_neg (by omega)]
    rw [e] at l1
    have hne : m ≠ [] := fun z => by rw [z] at lm; simp at lm; rw [lm] at hjl; simp at hjl
    have hl := List.getLast?_eq_some_getLast hne
    exact hs _ hl (by rw [← l1, l2, hl])
  have nd : (pk ++ (w :: pm.reverse)).Nodup := by
    rw [List.nodup_append]
    refine ⟨ndk, List.nodup_cons.mpr ⟨fun z => wm (List.mem_reverse.mp z), (List.reverse_perm pm).nodup_iff.mpr ndm⟩, fun a ha b hb z => ?_⟩
    subst z
    rcases List.mem_cons.mp hb with q | q
    · subst q; exact wk ha
    · exact dj _ ha (List.mem_reverse.mp q)
  -- its end is here
  have hend : ∃ X, pk ++ (w :: pm.reverse) = X ++ [here] := by
    cases pm with
    | nil =>
      have : m = [] := List.length_eq_zero_iff.mp lm.symm
      subst this
      have : [here] = [w] := Option.some.inj em
      cases this
      exact ⟨pk, rfl⟩
    | cons y pm =>
      obtain ⟨q, hq⟩ := trail_head em
      rw [List.cons_append] at hq
      injection hq with h1 h2
      subst h1
      exact ⟨pk ++ (w :: pm.reverse), by rw [List.reverse_cons, List.append_assoc]; rfl⟩
  obtain ⟨X, hX⟩ := hend
  rw [hX] at e3 nd
  refine ringFrom_true.mpr ⟨here :: X, e3, ?_⟩
  exact ((List.perm_append_comm (l₁ := X) (l₂ := [here])).nodup_iff.mp nd)
end
end TM
set_option Elab.async false
set_option linter.all false
/-! The search for two sides. -/
namespace TM
section
variable {ts : List Tie}
theorem Up.stable {by_ by' : Int → Option Nat} {S : Int → Prop} (par : ∀ (v : Int) (i : Nat) (t : Tie), by_ v = some i → ts[i]? = some t → S (oth t v)) (ag : ∀ v, S v → by' v = by_ v) {v : Int} {p : List Nat} {r : Int} (h : Up ts by_ v p r) : S v → Up ts by' v p r := by
  induction h with
  | root h => exact fun s => .root (by rw [ag _ s]; exact h)
  | step h1 h2 h3 _ ih => exact fun s => .step (by rw [ag _ s]; exact h1) h2 h3 (ih (par _ _ _ h1 h2))
theorem Up.col {by_ : Int → Option Nat} {f : Int → Bool} (hf : ∀ t ∈ ts, f t.1 ≠ f t.2) {v : Int} {p : List Nat} {r : Int} (h : Up ts by_ v p r) : f v = if p.length % 2 = 0 then f r else !f r := by
  induction h with
  | root _ => rfl
  | step h1 h2 h3 _ ih =>
    rw [Bip.oth hf (List.mem_of_getElem? h2) h3] at ih
    rename_i v r i t p _
    rw [List.length_cons]
    by_cases h2 : p.length % 2 = 0
    · rw [if_pos h2] at ih; rw [if_neg (by omega), ← ih, Bool.not_not]
    · rw [if_neg h2] at ih
      rw [if_pos (by omega)]
      cases q : f v <;> cases w : f r <;> rw [q, w] at ih <;> simp_all
theorem Up.lt {by_ : Int → Option Nat} {v : Int} {p : List Nat} {r : Int} (h : Up ts by_ v p r) : ∀ i ∈ p, i < ts.length := by
  induction h with
  | root _ => exact fun i hi => (nomatch hi)
  | step _ h2 _ _ ih =>
    intro i hi
    rcases List.mem_cons.mp hi with rfl | q
    · exact (List.getElem?_eq_some_iff.mp h2).1
    · exact ih i q
end
def par (p : List Nat) : Int := ((p.length % 2 : Nat) : Int)
structure SInv (ts : List Tie) (n : Int) (side : Int → Option Int) (by_ : Int → Option Nat) (cur : Int) (op : Int → Prop) (L : List Int) : Prop where
  nd : L.Nodup
  mem : ∀ v, v ∈ L ↔ side v ≠ none
  rng : ∀ v ∈ L, 0 ≤ v ∧ v < n
  byn : ∀ v, side v = none → by_ v = none
  pr : ∀ (v : Int) (i : Nat) (t : Tie), by_ v = some i → ts[i]? = some t → side (oth t v) ≠ none
  up : ∀ v, side v ≠ none → ∃ p r, Up ts by_ v p r ∧ side v = some (par p) ∧ p.length ≤ L.length
  opn : ∀ v, op v → side v ≠ none ∧ ∃ p, Up ts by_ v p cur
  cls : ∀ v, side v ≠ none → ¬ op v → ∀ (i : Nat) (t : Tie), ts[i]? = some t → has t v = true → side (oth t v) = (side v).map (1 - ·)
def putS {α : Type} (f : Int → Option α) (v : Int) (x : α) : Int → Option α := fun u => if u = v then some x else f u
theorem putS_same {α : Type} {f : Int → Option α} {v : Int} {x : α} : putS f v x v = some x := if_pos rfl
theorem putS_ne {α : Type} {f : Int → Option α} {v u : Int} {x : α} (h : u ≠ v) : putS f v x u = f u := if_neg h
section
variable {ts : List Tie} {n : Int} {side : Int → Option Int} {by_ : Int → Option Nat} {cur : Int} {op : Int → Prop} {L : List Int}
theorem SInv.start (ts : List Tie) (n : Int) (c : Int) : SInv ts n (fun _ => none) (fun _ => none) c (fun _ => False) [] where
  nd := List.nodup_nil
  mem := fun v => by simp
  rng := fun v h => (nomatch h)
  byn := fun _ _ => rfl
  pr := fun v i t h => (nomatch h)
  up := fun v h => absurd rfl h
  opn := fun v h => h.elim
  cls := fun v h => absurd rfl h
theorem SInv.len (I : SInv ts n side by_ cur op L) : L.length ≤ n.toNat := nodup_upto I.nd I.rng
theorem SInv.ops (I : SInv ts n side by_ cur op L) {op' : Int → Prop} (h : ∀ v, op' v ↔ op v) : SInv ts n side by_ cur op' L := { I with opn := fun v hv => I.opn v ((h v).mp hv), cls := fun v h1 h2 => I.cls v h1 fun z => h2 ((h v).mpr z) }
/-- a new tree -/
theorem SInv.root (I : SInv ts n side by_ cur (fun _ => False) L) {b : Int} (hb : 0 ≤ b ∧ b < n) (hs : side b = none) : SInv ts n (putS side b 0) by_ b (· = b) (L ++ [b]) where
  nd := List.nodup_append.mpr ⟨I.nd, by simp, fun x hx y hy z => by
    rw [List.mem_singleton] at hy
    subst z hy
    exact (I.mem _).mp hx hs⟩
  mem := fun v => by
    by_cases e : v = b
    · subst e; rw [putS_same]; simp
    · rw [putS_ne e, List.mem_append, List.mem_singleton, I.mem]; simp [e]
  rng := fun v hv => (List.mem_append.mp hv).elim (I.rng v) fun h => by rw [List.mem_singleton.mp h]; exact hb
  byn := fun v hv => by
    by_cases e : v = b
    · subst e; rw [putS_same] at hv; cases hv
    · rw [putS_ne e] at hv; exact I.byn v hv
  pr := fun v i t h1 h2 => by
    have := I.pr v i t h1 h2
    by_cases e : oth t v = b
    · rw [e, putS_same]; exact fun z => nomatch z
    · rw [putS_ne e]; exact this
  up := fun v hv => by
    by_cases e : v = b
    · subst e
      exact ⟨[], v, .root (I.byn v hs), (by rw [putS_same]; rfl), Nat.zero_le _⟩
    · rw [putS_ne e] at hv ⊢
      obtain ⟨p, r, h1, h2, h3⟩ := I.up v hv
      exact ⟨p, r, h1, h2, by rw [List.length_append]; omega⟩
  opn := fun v hv => by
    have hv : v = b := hv
    subst hv
    exact ⟨(by rw [putS_same]; exact fun z => nomatch z), [], .root (I.byn v hs)⟩
  cls := fun v hv ho i t ht hh => by
    have e : v ≠ b := ho
    rw [putS_ne e] at hv ⊢
    have h := I.cls v hv (fun z => z) i t ht hh
    have e2 : oth t v ≠ b := fun z => by
      rw [z, hs] at h
      cases q : side v with
      | none => exact hv q
      | some x => rw [q] at h; cases h
    rw [putS_ne e2]; exact h
/-- a tie from an open place leads on -/
theorem SInv.reach (I : SInv ts n side by_ cur op L) (w : Web n ts) {here s : Int} (ho : op here) (hs : side here = some s) {i : Nat} {t : Tie} (ht : ts[i]? = some t) (hh : has t here = true) (new : side (oth t here) = none) :
    SInv ts n (putS side (oth t here) (1 - s)) (putS by_ (oth t here) i) cur (fun v => op v ∨ v = oth t here) (L ++ [oth t here]) := by
  obtain ⟨u, hu⟩ : ∃ u, u = oth t here := ⟨_, rfl⟩
  rw [← hu] at new ⊢
  have hne : here ≠ u := fun z => by rw [z, new] at hs; cases hs
  have hou : oth t u = here := by rw [hu, oth_oth]
  have hhu : has t u = true := by rw [hu]; exact has_oth hh
  have ag : ∀ v, side v ≠ none → putS by_ u i v = by_ v := fun v hv => putS_ne fun z => hv (by rw [z]; exact new)
  have st : ∀ {v : Int} {p : List Nat} {r : Int}, Up ts by_ v p r → side v ≠ none → Up ts (putS by_ u i) v p r := fun h hv => h.stable (S := fun v => side v ≠ none) I.pr ag hv
  have hsn : side here ≠ none := by rw [hs]; exact fun z => nomatch z
  obtain ⟨p0, hp0⟩ := (I.opn here ho).2
  obtain ⟨p1, r1, hp1, hv1, hl1⟩ := I.up here hsn
  obtain ⟨rfl, rfl⟩ := hp0.uniq hp1
  have es : s = par p0 := by rw [hs] at hv1; exact Option.some.inj hv1
  have upu : Up ts (putS by_ u i) u (i :: p0) cur := .step putS_same ht hhu (by rw [hou]; exact st hp0 hsn)
  have epar : 1 - s = par (i :: p0) := by
    rw [es]; unfold par
    rw [List.length_cons]; omega
  exact {
    nd := List.nodup_append.mpr ⟨I.nd, by simp, fun x hx y hy z => by
      rw [List.mem_singleton] at hy
      subst z hy
      exact (I.mem _).mp hx new⟩
    mem := fun v => by
      by_cases e : v = u
      · subst e; rw [putS_same]; simp
      · rw [putS_ne e, List.mem_append, List.mem_singleton, I.mem]; simp [e]
    rng := fun v hv => (List.mem_append.mp hv).elim (I.rng v) fun h => by rw [List.mem_singleton.mp h]; exact w.lt (List.mem_of_getElem? ht) hhu
    byn := fun v hv => by
      by_cases e : v = u
      · subst e; rw [putS_same] at hv; cases hv
      · rw [putS_ne e] at hv ⊢; exact I.byn v hv
    pr := fun v j t' h1 h2 => by
      by_cases e : v = u
      · subst e
        rw [putS_same] at h1; cases h1
        rw [ht] at h2; cases h2
        rw [hou, putS_ne hne]; exact hsn
      · rw [putS_ne e] at h1
        have := I.pr v j t' h1 h2
        rw [putS_ne fun z => this (by rw [z]; exact new)]; exact this
    up := fun v hv => by
      by_cases e : v = u
      · subst e
        exact ⟨i :: p0, cur, upu, (by rw [putS_same, epar]), by rw [List.length_append, List.length_cons, List.length_singleton]; omega⟩
      · rw [putS_ne e] at hv ⊢
        obtain ⟨p, r, h1, h2, h3⟩ := I.up v hv
        exact ⟨p, r, st h1 hv, h2, by rw [List.length_append]; omega⟩
    opn := fun v hv => by
      by_cases e : v = u
      · subst e
        exact ⟨(by rw [putS_same]; exact fun z => nomatch z), _, upu⟩
      · rw [putS_ne e]
        obtain ⟨h1, p, h2⟩ := I.opn v (hv.resolve_right e)
        exact ⟨h1, p, st h2 h1⟩
    cls := fun v hv hno j t' h1 h2 => by
      have e : v ≠ u := fun z => hno (.inr z)
      rw [putS_ne e] at hv ⊢
      have h := I.cls v hv (fun z => hno (.inl z)) j t' h1 h2
      have e2 : oth t' v ≠ u := fun z => by
        rw [z, new] at h
        cases q : side v with
        | none => exact hv q
        | some x => rw [q] at h; cases h
      rw [putS_ne e2]; exact h }
/-- a place whose ties are all looked at -/
theorem SInv.close (I : SInv ts n side by_ cur op L) {here s : Int} (hs : side here = some s) (h : ∀ (i : Nat) (t : Tie), ts[i]? = some t → has t here = true → side (oth t here) = some (1 - s)) {op' : Int → Prop} (h1 : ∀ v, op' v → op v) (h2 : ∀ v, op v → op' v ∨ v = here) : SInv ts n side by_ cur op' L :=
  { I with
    opn := fun v hv => I.opn v (h1 v hv)
    cls := fun v hv ho i t ht hh => by
      by_cases e : v = here
      · subst e; rw [h i t ht hh, hs]; rfl
      · exact I.cls v hv (fun z => (h2 v z).elim ho e) i t ht hh }
/-- two alike beside each other -/
theorem SInv.clash (I : SInv ts n side by_ cur op L) {here : Int} (ho : op here) {i : Nat} {t : Tie} (ht : ts[i]? = some t) (hh : has t here = true) (e : side (oth t here) = side here) : ∃ p q, Up ts by_ here p cur ∧ Up ts by_ (oth t here) q cur ∧ p.length % 2 = q.length % 2 ∧ p.length ≤ L.length ∧ q.length ≤ L.length := by
  obtain ⟨h1, p, hp⟩ := I.opn here ho
  have ho2 : op (oth t here) := Classical.byContradiction fun z => by
    have := I.cls (oth t here) (by rw [e]; exact h1) z i t ht (has_oth hh)
    rw [oth_oth, e] at this
    cases q : side here with
    | none => exact h1 q
    | some x =>
      rw [q] at this
      have this : x = 1 - x := Option.some.inj this
      omega
  obtain ⟨h2, q, hq⟩ := I.opn _ ho2
  obtain ⟨p', r', hp', hv', hl1⟩ := I.up _ h1
  obtain ⟨q', s', hq', hw', hl2⟩ := I.up _ h2
  obtain ⟨rfl, _⟩ := hp.uniq hp'
  obtain ⟨rfl, _⟩ := hq.uniq hq'
  rw [e, hv'] at hw'
  have := Option.some.inj hw'
  unfold par at this
  exact ⟨p, q, hp, hq, by omega, hl1, hl2⟩
theorem SInv.not_bip (I : SInv ts n side by_ cur op L) {here : Int} (ho : op here) {i : Nat} {t : Tie} (ht : ts[i]? = some t) (hh : has t here = true) (e : side (oth t here) = side here) : ¬ Bip ts := by
  rintro ⟨f, hf⟩
  obtain ⟨p, q, hp, hq, hpq, _⟩ := I.clash ho ht hh e
  have h1 := hp.col hf
  have h2 := hq.col hf
  rw [← hpq, Bip.oth hf (List.mem_of_getElem? ht) hh, ← h1] at h2
  cases z : f here <;> rw [z] at h2 <;> cases h2
theorem SInv.val (I : SInv ts n side by_ cur op L) {v : Int} (h : side v ≠ none) : side v = some 0 ∨ side v = some 1 := by
  obtain ⟨p, r, _, e, _⟩ := I.up v h
  rw [e]
  have : par p = 0 ∨ par p = 1 := by unfold par; omega
  rcases this with q | q <;> rw [q]
  · exact .inl rfl
  · exact .inr rfl
theorem SInv.bip (I : SInv ts n side by_ cur (fun _ => False) L) (w : Web n ts) (all : ∀ v, 0 ≤ v → v < n → side v ≠ none) : Bip ts := by
  refine ⟨fun v => decide (side v = some 1), fun t ht z => ?_⟩
  obtain ⟨i, hi⟩ := List.mem_iff_getElem?.mp ht
  have hw := w t ht
  have z : decide (side t.1 = some 1) = decide (side t.2 = some 1) := z
  have h1 := all t.1 (by omega) (by omega)
  have h := I.cls t.1 h1 (fun z => z) i t hi has_1
  rw [oth_1] at h
  obtain ⟨p, r, _, hp, _⟩ := I.up t.1 h1
  rw [hp] at h z
  have h : side t.2 = some (1 - par p) := h
  rw [h] at z
  have hpar : par p = 0 ∨ par p = 1 := by unfold par; omega
  rcases hpar with q | q <;> rw [q] at z <;> simp at z
/-- the ring that is told -/
theorem SInv.ring {here there : Int} {m k c : List Nat} {p q : List Nat} {i : Nat} {t : Tie} (ht : ts[i]? = some t) (hh : has t here = true) (ho : oth t here = there) (hp : Up ts by_ here p cur) (hq : Up ts by_ there q cur) (hpq : p.length % 2 = q.length % 2)
    (ep : p = m ++ c) (eq : q = k ++ c) (hs : ∀ x, m.getLast? = some x → k.getLast? ≠ some x) : ringP ts ((i :: (k ++ m.reverse)).map fun (j : Nat) => (j : Int)) = true := by
  subst ep eq
  have hr := ring_of ht hh ho hp hq hs
  have hm := hp.lt
  have hk := hq.lt
  have hid : ((i :: (k ++ m.reverse)).map fun (j : Nat) => (j : Int)).map Int.toNat = i :: (k ++ m.reverse) := by
    rw [List.map_map]
    exact List.map_id'' (fun _ => rfl) _
  unfold ringP
  rw [hid]
  have h1 : ((i :: (k ++ m.reverse)).map fun (j : Nat) => (j : Int)).length % 2 = 1 := by
    rw [List.length_map, List.length_cons, List.length_append, List.length_reverse]
    rw [List.length_append, List.length_append] at hpq
    omega
  have h2 : (((i :: (k ++ m.reverse)).map fun (j : Nat) => (j : Int)).all fun j => decide (0 ≤ j) && decide (j < (ts.length : Int))) = true := by
    rw [List.all_eq_true]
    intro x hx
    obtain ⟨j, hj, rfl⟩ := List.mem_map.mp hx
    have : j < ts.length := by
      rcases List.mem_cons.mp hj with rfl | hj
      · exact (List.getElem?_eq_some_iff.mp ht).1
      · rcases List.mem_append.mp hj with hj | hj
        · exact hk j (List.mem_append_left _ hj)
        · exact hm j (List.mem_append_left _ (List.mem_reverse.mp hj))
    simp; omega
  have h3 : ringB ts (i :: (k ++ m.reverse)) = true := by
    show (match ts[i]? with | some t => ringFrom ts (i :: (k ++ m.reverse)) t.1 || ringFrom ts (i :: (k ++ m.reverse)) t.2 | none => false) = true
    rw [ht]
    rcases has_iff.mp hh with e | e
    · exact Bool.or_eq_true_iff.mpr (.inl (by rw [← e]; exact hr))
    · exact Bool.or_eq_true_iff.mpr (.inr (by rw [← e]; exact hr))
  rw [decide_eq_true h1, h2, h3]; rfl
end
end TM
set_option Elab.async false
set_option linter.all false
/-! Shares: two colours of a two-sided web made even again; what falls. -/
namespace TM
theorem hands1 {l : List Int} (nd : l.Nodup) (p : Tie → Bool) : ∀ (ts : List Tie), (∀ t ∈ ts, t.1 ≠ t.2) → (∀ t ∈ ts, (if t.1 ∈ l then 1 else 0) + (if t.2 ∈ l then 1 else 0) = if p t = true then 1 else 0) → (l.map (deg ts)).sum = ts.countP p
  | [], _, _ => by
    have : l.map (deg []) = l.map fun _ => 0 := List.map_congr_left fun v _ => deg_nil v
    rw [this, sum_zero]; rfl
  | t :: ts, h1, h2 => by
    have e : l.map (deg (t :: ts)) = l.map fun v => deg ts v + (if has t v = true then 1 else 0) := List.map_congr_left fun v _ => deg_cons t ts v
    rw [e, sum_add, hands1 nd p ts (fun u hu => h1 u (List.mem_cons_of_mem _ hu)) (fun u hu => h2 u (List.mem_cons_of_mem _ hu)), sum_ind, count_has (h1 t List.mem_cons_self) l nd, List.countP_cons, h2 t List.mem_cons_self]
/-- a two-sided web has no odd part -/
theorem bip_no_odd {n : Int} {ts : List Tie} (w : Web n ts) (hb : Bip ts) {v : Int} (hv : 0 ≤ v ∧ v < n) : ¬ OddAt ts v := fun O => by
  obtain ⟨f, hf⟩ := hb
  obtain ⟨ev, od⟩ := (oddAt_iff w hv).mp O
  have nd : ((part n ts v).filter f).Nodup := (nodup_of_lt (part_sorted n ts v)).filter _
  have h := hands1 nd (fun t => decide (t.1 ∈ part n ts v)) ts (fun t ht => by have := w t ht; omega) (fun t ht => by
    have h12 : t.1 ∈ part n ts v ↔ t.2 ∈ part n ts v := by
      rw [mem_part w hv, mem_part w hv]
      have r : Reach ts t.1 t.2 := Reach.tie ht has_1 has_2
      exact ⟨fun z => z.trans r, fun z => z.trans r.symm⟩
    have hft := hf t ht
    by_cases hp : t.1 ∈ part n ts v
    · have hp2 := h12.mp hp
      cases q : f t.1 <;> cases r : f t.2 <;> simp [List.mem_filter, hp, hp2, q, r] <;> simp_all
    · have hp2 : t.2 ∉ part n ts v := fun z => hp (h12.mpr z)
      simp [List.mem_filter, hp, hp2])
  have hev : ∀ l : List Int, (∀ u ∈ l, deg ts u % 2 = 0) → (l.map (deg ts)).sum % 2 = 0 := by
    intro l
    induction l with
    | nil => intro _; rfl
    | cons a l ih =>
      intro hl
      have h1 := ih fun u hu => hl u (List.mem_cons_of_mem _ hu)
      have h2 := hl a List.mem_cons_self
      rw [List.map_cons, List.sum_cons]; omega
  have := hev ((part n ts v).filter f) fun u hu => ev u (List.mem_filter.mp hu).1
  omega
theorem Nearly.bip {n : Int} {ts : List Tie} {cs : List Int} (N : Nearly n ts cs) (w : Web n ts) (hb : Bip ts) {v : Int} (h0 : 0 ≤ v) (h1 : v < n) : (pim ts (cs.map some) v).natAbs ≤ 1 := by
  have hd : deg ts v % 2 = 1 ∨ deg ts v % 2 = 0 := by omega
  rcases hd with h | h
  · rw [N.odd v h0 h1 h]; exact Nat.le_refl _
  · rw [N.nul v h0 h1 h fun z => bip_no_odd w hb ⟨h0, h1⟩ z.1]; decide
/-- the ties of two colours -/
def sub2 (a b : Int) (ts : List Tie) (cs : List Int) : List Tie := ((ts.zip cs).filter fun p => decide (p.2 = a ∨ p.2 = b)).map (·.1)
def recol (a b : Int) : List Int → List Int → List Int
  | c :: cs, h :: hs => if c = a ∨ c = b then (if h = 0 then a else b) :: recol a b cs hs else c :: recol a b cs (h :: hs)
  | cs, _ => cs
theorem recol_nil (a b : Int) : ∀ cs : List Int, recol a b cs [] = cs
  | [] => rfl
  | _ :: _ => rfl
theorem recol_in {a b c h : Int} {cs hs : List Int} (k : c = a ∨ c = b) : recol a b (c :: cs) (h :: hs) = (if h = 0 then a else b) :: recol a b cs hs := if_pos k
theorem recol_out {a b c : Int} {cs hs : List Int} (k : ¬ (c = a ∨ c = b)) : recol a b (c :: cs) hs = c :: recol a b cs hs := by
  cases hs with
  | nil => rw [recol_nil, recol_nil]
  | cons h hs => exact if_neg k
theorem recol_len (a b : Int) : ∀ (cs hs : List Int), (recol a b cs hs).length = cs.length
  | [], hs => by cases hs <;> rfl
  | c :: cs, [] => rfl
  | c :: cs, h :: hs => by
    by_cases k : c = a ∨ c = b
    · rw [recol_in k, List.length_cons, recol_len a b cs hs, List.length_cons]
    · rw [recol_out k, List.length_cons, recol_len a b cs (h :: hs), List.length_cons]
theorem recol_mem {a b : Int} {P : Int → Prop} (ha : P a) (hb : P b) : ∀ (cs hs : List Int), (∀ c ∈ cs, P c) → ∀ c ∈ recol a b cs hs, P c
  | [], hs, _ => by cases hs <;> exact fun c hc => (nomatch hc)
  | x :: cs, [], h => h
  | x :: cs, y :: hs, h => by
    intro c hc
    by_cases k : x = a ∨ x = b
    · rw [recol_in k] at hc
      rcases List.mem_cons.mp hc with q | q
      · rw [q]; split
        · exact ha
        · exact hb
      · exact recol_mem ha hb cs hs (fun c hc => h c (List.mem_cons_of_mem _ hc)) c q
    · rw [recol_out k] at hc
      rcases List.mem_cons.mp hc with q | q
      · rw [q]; exact h x List.mem_cons_self
      · exact recol_mem ha hb cs (y :: hs) (fun c hc => h c (List.mem_cons_of_mem _ hc)) c q
theorem sub2_cons (a b : Int) (t : Tie) (ts : List Tie) (c : Int) (cs : List Int) : sub2 a b (t :: ts) (c :: cs) = if c = a ∨ c = b then t :: sub2 a b ts cs else sub2 a b ts cs := by
  unfold sub2
  rw [List.zip_cons_cons, List.filter_cons]
  by_cases k : c = a ∨ c = b
  · rw [if_pos (by simpa using k), if_pos k]; rfl
  · rw [if_neg (by simpa using k), if_neg k]
theorem recol_cnt {a b : Int} (ne : a ≠ b) (v : Int) : ∀ (ts : List Tie) (cs hs : List Int), cs.length = ts.length → hs.length = (sub2 a b ts cs).length → (∀ h ∈ hs, h = 0 ∨ h = 1) →
    cntAt ts (recol a b cs hs) v a = cntAt (sub2 a b ts cs) hs v 0 ∧ cntAt ts (recol a b cs hs) v b = cntAt (sub2 a b ts cs) hs v 1 ∧ ∀ c, c ≠ a → c ≠ b → cntAt ts (recol a b cs hs) v c = cntAt ts cs v c
  | [], [], hs, _, hl, _ => by
    have : hs = [] := List.length_eq_zero_iff.mp hl
    subst this
    exact ⟨rfl, rfl, fun _ _ _ => rfl⟩
  | t :: ts, c :: cs, hs, h1, h2, h3 => by
    rw [sub2_cons] at h2 ⊢
    by_cases k : c = a ∨ c = b
    · rw [if_pos k] at h2 ⊢
      cases hs with
      | nil => cases h2
      | cons h hs =>
        obtain ⟨i1, i2, i3⟩ := recol_cnt ne v ts cs hs (by simpa using h1) (by simpa using h2) fun x hx => h3 x (List.mem_cons_of_mem _ hx)
        rw [recol_in k]
        refine ⟨?_, ?_, fun x xa xb => ?_⟩
        · rw [cntAt_cons, cntAt_cons, i1]
          rcases h3 h List.mem_cons_self with rfl | rfl
          · simp
          · have : ¬ b = a := fun z => ne z.symm
            simp [this]
        · rw [cntAt_cons, cntAt_cons, i2]
          rcases h3 h List.mem_cons_self with rfl | rfl
          · simp [ne]
          · simp
        · rw [cntAt_cons, cntAt_cons, i3 x xa xb]
          have e1 : ¬ (if h = 0 then a else b) = x := by split <;> exact fun z => by first | exact xa z.symm | exact xb z.symm
          have e2 : ¬ c = x := fun z => by rcases k with k | k
                                           · exact xa (z ▸ k)
                                           · exact xb (z ▸ k)
          simp [e1, e2]
    · rw [if_neg k] at h2 ⊢
      obtain ⟨i1, i2, i3⟩ := recol_cnt ne v ts cs hs (by simpa using h1) h2 h3
      rw [recol_out k]
      have ka : ¬ c = a := fun z => k (.inl z)
      have kb : ¬ c = b := fun z => k (.inr z)
      refine ⟨?_, ?_, fun x xa xb => ?_⟩
      · rw [cntAt_cons, i1]; simp [ka]
      · rw [cntAt_cons, i2]; simp [kb]
      · rw [cntAt_cons, cntAt_cons, i3 x xa xb]
  | [], _ :: _, _, h, _, _ => by simp at h
  | _ :: _, [], _, h, _, _ => by simp at h
theorem sub2_deg {a b : Int} (ne : a ≠ b) (v : Int) : ∀ (ts : List Tie) (cs : List Int), cs.length = ts.length → cntAt ts cs v a + cntAt ts cs v b = deg (sub2 a b ts cs) v
  | [], [], _ => rfl
  | t :: ts, c :: cs, h => by
    have ih := sub2_deg ne v ts cs (by simpa using h)
    rw [sub2_cons, cntAt_cons, cntAt_cons]
    by_cases k : c = a ∨ c = b
    · rw [if_pos k, deg_cons, ← ih]
      rcases k with rfl | rfl
      · cases has t v <;> simp [ne] <;> omega
      · have : ¬ c = a := fun z => ne z.symm
        cases has t v <;> simp [this] <;> omega
    · rw [if_neg k]
      have ka : ¬ c = a := fun z => k (.inl z)
      have kb : ¬ c = b := fun z => k (.inr z)
      simp [ka, kb, ih]
  | [], _ :: _, h => by simp at h
  | _ :: _, [], h => by simp at h
theorem cnt_sum (v : Int) : ∀ {ts : List Tie} {hs : List Int}, hs.length = ts.length → (∀ h ∈ hs, h = 0 ∨ h = 1) → cntAt ts hs v 0 + cntAt ts hs v 1 = deg ts v
  | [], [], _, _ => rfl
  | t :: ts, h :: hs, hl, hv => by
    have ih := cnt_sum v (ts := ts) (hs := hs) (by simpa using hl) fun x hx => hv x (List.mem_cons_of_mem _ hx)
    rw [cntAt_cons, cntAt_cons, deg_cons, ← ih]
    rcases hv h List.mem_cons_self with rfl | rfl
    · cases has t v <;> simp <;> omega
    · cases has t v <;> simp <;> omega
  | [], _ :: _, h, _ => by simp at h
  | _ :: _, [], h, _ => by simp at h
theorem sub2_mem {a b : Int} {ts : List Tie} {cs : List Int} {t : Tie} (h : t ∈ sub2 a b ts cs) : t ∈ ts := by
  unfold sub2 at h
  obtain ⟨p, hp, rfl⟩ := List.mem_map.mp h
  exact (List.of_mem_zip (List.mem_filter.mp hp).1).1
theorem sub2_le (a b : Int) (ts : List Tie) (cs : List Int) : (sub2 a b ts cs).length ≤ ts.length := by
  unfold sub2
  rw [List.length_map]
  refine Nat.le_trans (List.length_filter_le _ _) ?_
  rw [List.length_zip]; omega
theorem Bip.mono {ts us : List Tie} (h : Bip ts) (k : ∀ t ∈ us, t ∈ ts) : Bip us := h.elim fun f hf => ⟨f, fun t ht => hf t (k t ht)⟩
/-! what falls -/
theorem perm_sumN {l m : List Nat} (h : l.Perm m) : l.sum = m.sum := by
  induction h with
  | nil => rfl
  | cons x _ ih => rw [List.sum_cons, List.sum_cons, ih]
  | swap x y l => rw [List.sum_cons, List.sum_cons, List.sum_cons, List.sum_cons]; omega
  | trans _ _ h1 h2 => rw [h1, h2]
theorem sum_two {l : List Int} (nd : l.Nodup) {a b : Int} (ha : a ∈ l) (hb : b ∈ l) (ne : a ≠ b) : ∃ r : List Int, (∀ x ∈ r, x ≠ a ∧ x ≠ b) ∧ ∀ G : Int → Nat, (l.map G).sum = G a + (G b + (r.map G).sum) := by
  have p1 := List.perm_cons_erase ha
  have hb1 : b ∈ l.erase a := (List.mem_erase_of_ne fun z => ne z.symm).mpr hb
  have p2 := List.perm_cons_erase hb1
  have p := p1.trans (p2.cons a)
  refine ⟨(l.erase a).erase b, fun x hx => ?_, fun G => ?_⟩
  · have nd' := p.nodup_iff.mp nd
    obtain ⟨h1, h2⟩ := List.nodup_cons.mp nd'
    obtain ⟨h3, _⟩ := List.nodup_cons.mp h2
    exact ⟨fun z => h1 (by have q := List.mem_cons_of_mem b hx; rw [z] at q; exact q), fun z => h3 (by have q := hx; rw [z] at q; exact q)⟩
  · rw [perm_sumN (p.map G), List.map_cons, List.map_cons, List.sum_cons, List.sum_cons]
theorem sum_le {α : Type} {l : List α} {F G : α → Nat} (h : ∀ x ∈ l, F x ≤ G x) : (l.map F).sum ≤ (l.map G).sum := by
  induction l with
  | nil => exact Nat.le_refl _
  | cons a l ih =>
    have h1 := h a List.mem_cons_self
    have h2 := ih fun x hx => h x (List.mem_cons_of_mem _ hx)
    rw [List.map_cons, List.map_cons, List.sum_cons, List.sum_cons]; omega
theorem sum_lt {α : Type} {l : List α} {F G : α → Nat} (h : ∀ x ∈ l, F x ≤ G x) {y : α} (hy : y ∈ l) (hs : F y < G y) : (l.map F).sum < (l.map G).sum := by
  induction l with
  | nil => cases hy
  | cons a l ih =>
    have h1 := h a List.mem_cons_self
    have h2 := sum_le fun x hx => h x (List.mem_cons_of_mem _ hx)
    rw [List.map_cons, List.map_cons, List.sum_cons, List.sum_cons]
    rcases List.mem_cons.mp hy with q | q
    · subst q; omega
    · have := ih (fun x hx => h x (List.mem_cons_of_mem _ hx)) q
      omega
def phi (n K : Int) (ts : List Tie) (cs : List Int) : Nat := ((upto n).map fun v => ((upto K).map fun c => cntAt ts cs v c * cntAt ts cs v c).sum).sum
theorem sq_le {x y p q : Nat} (h : x + y = p + q) (hxy : x ≤ y + 1 ∧ y ≤ x + 1) : x * x + y * y ≤ p * p + q * q ∧ (p + 1 < q ∨ q + 1 < p → x * x + y * y < p * p + q * q) := by
  have key : ∀ x y p q : Int, x + y = p + q → x ≤ y + 1 → y ≤ x + 1 → (x * x + y * y) * 2 = (p + q) * (p + q) + (x - y) * (x - y) ∧ (p * p + q * q) * 2 = (p + q) * (p + q) + (p - q) * (p - q) := by
    intro x y p q h _ _
    have e : (p + q) * (p + q) = (x + y) * (x + y) := by rw [h]
    constructor
    · rw [e]; simp only [Int.add_mul, Int.mul_add, Int.sub_mul, Int.mul_sub]; omega
    · simp only [Int.add_mul, Int.mul_add, Int.sub_mul, Int.mul_sub]; omega
  obtain ⟨h1, h2⟩ := key (x : Int) (y : Int) (p : Int) (q : Int) (by omega) (by omega) (by omega)
  have d : (x : Int) - y = 0 ∨ (x : Int) - y = 1 ∨ (x : Int) - y = -1 := by omega
  have dd : ((x : Int) - y) * (x - y) = (((x : Int) - y) % 2) * (((x : Int) - y) % 2) := by
    rcases d with d | d | d <;> rw [d] <;> rfl
  have sq0 : ∀ z : Int, 0 ≤ z * z := fun z => by
    rcases Int.le_total 0 z with h | h
    · exact Int.mul_nonneg h h
    · exact Int.mul_nonneg_of_nonpos_of_nonpos h h
  obtain ⟨z, hz⟩ : ∃ z, z = (p : Int) - q := ⟨_, rfl⟩
  have par : ((x : Int) - y) % 2 = z % 2 := by omega
  rw [← hz] at h2
  have zz : (z % 2) * (z % 2) ≤ z * z ∧ (z > 1 ∨ z < -1 → (z % 2) * (z % 2) < z * z) := by
    have hm : z % 2 = 0 ∨ z % 2 = 1 := by omega
    have one : z = 0 ∨ z = 1 ∨ z = -1 ∨ z > 1 ∨ z < -1 := by omega
    have big : z > 1 ∨ z < -1 → 4 ≤ z * z := fun h => by
      rcases h with h | h
      · have := Int.mul_le_mul (a := 2) (b := 2) (c := z) (d := z) (by omega) (by omega) (by decide) (by omega)
        omega
      · have := Int.mul_le_mul (a := 2) (b := 2) (c := -z) (d := -z) (by omega) (by omega) (by decide) (by omega)
        rw [Int.neg_mul_neg] at this; omega
    rcases one with rfl | rfl | rfl | h | h
    · exact ⟨by decide, fun h => by omega⟩
    · exact ⟨by decide, fun h => by omega⟩
    · exact ⟨by decide, fun h => by omega⟩
    · have := big (.inl h)
      rcases hm with e | e <;> rw [e] <;> omega
    · have := big (.inr h)
      rcases hm with e | e <;> rw [e] <;> omega
  rw [dd, par] at h1
  constructor
  · have h3 := zz.1
    have : ((x * x + y * y : Nat) : Int) ≤ ((p * p + q * q : Nat) : Int) := by push_cast; omega
    omega
  · intro hpq
    have h3 := zz.2 (by omega)
    have : ((x * x + y * y : Nat) : Int) < ((p * p + q * q : Nat) : Int) := by push_cast; omega
    omega
/-- made even again: less -/
theorem phi_fall {n K : Int} {ts : List Tie} {cs hs : List Int} {a b : Int} (w : Web n ts) (hb : Bip ts) (hl : cs.length = ts.length) (ha : 0 ≤ a ∧ a < K) (hbb : 0 ≤ b ∧ b < K) (ne : a ≠ b) (N : Nearly n (sub2 a b ts cs) hs)
    (un : ∃ v, 0 ≤ v ∧ v < n ∧ (cntAt ts cs v a + 1 < cntAt ts cs v b ∨ cntAt ts cs v b + 1 < cntAt ts cs v a)) : phi n K ts (recol a b cs hs) < phi n K ts cs := by
  have wsub : Web n (sub2 a b ts cs) := w.sub fun t ht => sub2_mem ht
  have bsub : Bip (sub2 a b ts cs) := hb.mono fun t ht => sub2_mem ht
  have each : ∀ v, 0 ≤ v → v < n → ((upto K).map fun c => cntAt ts (recol a b cs hs) v c * cntAt ts (recol a b cs hs) v c).sum ≤ ((upto K).map fun c => cntAt ts cs v c * cntAt ts cs v c).sum ∧
      ((cntAt ts cs v a + 1 < cntAt ts cs v b ∨ cntAt ts cs v b + 1 < cntAt ts cs v a) → ((upto K).map fun c => cntAt ts (recol a b cs hs) v c * cntAt ts (recol a b cs hs) v c).sum < ((upto K).map fun c => cntAt ts cs v c * cntAt ts cs v c).sum) := fun v h0 h1 => by
    obtain ⟨r, hr, hG⟩ := sum_two (nodup_of_lt (upto_sorted K)) (mem_upto.mpr ha) (mem_upto.mpr hbb) ne
    obtain ⟨c1, c2, c3⟩ := recol_cnt ne v ts cs hs hl N.len N.val
    have e3 : (r.map fun c => cntAt ts (recol a b cs hs) v c * cntAt ts (recol a b cs hs) v c) = r.map fun c => cntAt ts cs v c * cntAt ts cs v c := List.map_congr_left fun x hx => by rw [c3 x (hr x hx).1 (hr x hx).2]
    have s1 := sub2_deg ne v ts cs hl
    have s2 := cnt_sum v (ts := sub2 a b ts cs) (hs := hs) N.len N.val
    have pm := N.bip wsub bsub h0 h1
    rw [pim_cnt v _ hs N.len N.val] at pm
    rw [hG, hG, e3, c1, c2]
    have := sq_le (x := cntAt (sub2 a b ts cs) hs v 0) (y := cntAt (sub2 a b ts cs) hs v 1) (p := cntAt ts cs v a) (q := cntAt ts cs v b) (by omega) (by omega)
    refine ⟨by omega, fun h => ?_⟩
    have := this.2 h
    omega
  obtain ⟨v, h0, h1, hv⟩ := un
  exact sum_lt (fun x hx => (each x (mem_upto.mp hx).1 (mem_upto.mp hx).2).1) (mem_upto.mpr ⟨h0, h1⟩) ((each v h0 h1).2 hv)
/-- as many colours as ties and one: as even as with more -/
theorem even_few {n K many : Int} {ts : List Tie} {cs : List Int} (hK : K = many ∨ (K = (ts.length : Int) + 1 ∧ K ≤ many)) (h : EvenCols n ts cs K) : EvenCols n ts cs many := by
  rcases hK with rfl | ⟨hK, hm⟩
  · exact h
  · obtain ⟨h1, h2, h3⟩ := h
    obtain ⟨e, he0, he1, hec⟩ : ∃ e, 0 ≤ e ∧ e < K ∧ e ∉ cs := Classical.byContradiction fun z => by
      have hall : ∀ e, 0 ≤ e → e < K → e ∈ cs := fun e h0 h1 => Classical.byContradiction fun q => z ⟨e, h0, h1, q⟩
      have p : ∀ e ∈ upto K, e ∈ kinds cs := fun e he => mem_kinds.mpr (hall e (mem_upto.mp he).1 (mem_upto.mp he).2)
      have pp : (upto K).Perm (kinds cs) := (List.perm_ext_iff_of_nodup (nodup_of_lt (upto_sorted K)) (kinds_nodup cs)).mpr fun x => ⟨p x, fun hx => mem_upto.mpr (h2 x (mem_kinds.mp hx))⟩
      have l1 := pp.length_eq
      have l2 := kinds_le cs
      unfold upto at l1
      rw [List.length_map, List.length_range] at l1
      omega
    refine ⟨h1, fun c hc => by have := h2 c hc; omega, fun v v0 v1 c d c0 c1 d0 d1 => ?_⟩
    have hc : cntAt ts cs v c ≤ 1 := by
      by_cases q : c < K
      · have := h3 v v0 v1 c e c0 q he0 he1
        rw [cntAt_out hec] at this; exact this
      · rw [cntAt_out fun z => q (h2 c z).2]; omega
    omega
/-- the colours set one by one -/
def idx2 (a b : Int) (cs : List Int) : List Nat := (List.range cs.length).filter fun i => decide (cs.getD i 0 = a ∨ cs.getD i 0 = b)
theorem idx2_cons (a b c : Int) (cs : List Int) : idx2 a b (c :: cs) = if c = a ∨ c = b then 0 :: (idx2 a b cs).map Nat.succ else (idx2 a b cs).map Nat.succ := by
  unfold idx2
  rw [List.length_cons, List.range_succ_eq_map, List.filter_cons, List.filter_map]
  have e : ((fun i => decide ((c :: cs).getD i 0 = a ∨ (c :: cs).getD i 0 = b)) ∘ Nat.succ) = fun i => decide (cs.getD i 0 = a ∨ cs.getD i 0 = b) := by
    funext i
    show decide ((c :: cs).getD (i + 1) 0 = a ∨ (c :: cs).getD (i + 1) 0 = b) = _
    rw [List.getD_cons_succ]
  rw [e]
  by_cases k : c = a ∨ c = b
  · rw [if_pos k, if_pos (by simpa using k)]
  · rw [if_neg k, if_neg (by simpa using k)]
def setP (a b : Int) (cs : List Int) (l : List (Nat × Int)) : List Int := l.foldl (fun cs p => cs.set p.1 (if p.2 = 0 then a else b)) cs
theorem setP_snoc (a b : Int) (cs : List Int) (l : List (Nat × Int)) (p : Nat × Int) : setP a b cs (l ++ [p]) = (setP a b cs l).set p.1 (if p.2 = 0 then a else b) := by unfold setP; rw [List.foldl_append]; rfl
theorem setP_len (a b : Int) : ∀ (l : List (Nat × Int)) (cs : List Int), (setP a b cs l).length = cs.length
  | [], _ => rfl
  | p :: l, cs => by
    show (setP a b (cs.set p.1 _) l).length = _
    rw [setP_len a b l, List.length_set]
theorem setP_succ (a b c : Int) : ∀ (l : List Nat) (hs : List Int) (cs : List Int), setP a b (c :: cs) ((l.map Nat.succ).zip hs) = c :: setP a b cs (l.zip hs)
  | [], _, _ => rfl
  | i :: l, [], cs => by rw [List.zip_nil_right, List.zip_nil_right]; rfl
  | i :: l, h :: hs, cs => by
    rw [List.map_cons, List.zip_cons_cons, List.zip_cons_cons]
    show setP a b ((c :: cs).set (i + 1) _) ((l.map Nat.succ).zip hs) = c :: setP a b (cs.set i _) (l.zip hs)
    rw [List.set_cons_succ, setP_succ a b c l hs]
theorem setP_recol {a b : Int} : ∀ (cs hs : List Int), hs.length = (idx2 a b cs).length → setP a b cs ((idx2 a b cs).zip hs) = recol a b cs hs
  | [], hs, h => by
    have : hs = [] := List.length_eq_zero_iff.mp h
    subst this; rfl
  | c :: cs, hs, h => by
    rw [idx2_cons] at h ⊢
    by_cases k : c = a ∨ c = b
    · rw [if_pos k] at h ⊢
      cases hs with
      | nil => cases h
      | cons x hs =>
        rw [recol_in k, List.zip_cons_cons]
        show setP a b ((c :: cs).set 0 _) (((idx2 a b cs).map Nat.succ).zip hs) = _
        rw [List.set_cons_zero, setP_succ, setP_recol cs hs (by simpa using h)]
    · rw [if_neg k] at h ⊢
      rw [recol_out k, setP_succ, setP_recol cs hs (by simpa using h)]
theorem idx2_sub {a b : Int} : ∀ (ts : List Tie) (cs : List Int), cs.length = ts.length → (idx2 a b cs).map (fun i => ts.getD i (0, 0)) = sub2 a b ts cs
  | [], [], _ => rfl
  | t :: ts, c :: cs, h => by
    have ih := idx2_sub (a := a) (b := b) ts cs (by simpa using h)
    rw [idx2_cons, sub2_cons]
    by_cases k : c = a ∨ c = b
    · rw [if_pos k, if_pos k, List.map_cons, List.map_map, ← ih]; rfl
    · rw [if_neg k, if_neg k, List.map_map, ← ih]; rfl
  | [], _ :: _, h => by simp at h
  | _ :: _, [], h => by simp at h
theorem idx2_lt {a b : Int} {cs : List Int} {i : Nat} (h : i ∈ idx2 a b cs) : i < cs.length := List.mem_range.mp (List.mem_filter.mp h).1
end TM
set_option Elab.async false
set_option linter.all false
/-! Shares and rings as they are looked at. -/
namespace TM
def posK (cs : List Int) (c : Int) : Int := (((kinds cs).idxOf c : Nat) : Int)
def toldL (cs : List Int) : List Int := cs.map (posK cs)
theorem cntAt_map {g : Int → Int} {d v : Int} : ∀ (ts : List Tie) (cs : List Int), (∀ c ∈ cs, g c = g d → c = d) → cntAt ts (cs.map g) v (g d) = cntAt ts cs v d
  | [], _, _ => rfl
  | _ :: _, [], _ => rfl
  | t :: ts, c :: cs, h => by
    rw [List.map_cons, cntAt_cons, cntAt_cons, cntAt_map ts cs fun x hx => h x (List.mem_cons_of_mem _ hx)]
    have := h c List.mem_cons_self
    by_cases e : c = d
    · simp [e]
    · have : ¬ g c = g d := fun z => e (this z)
      simp [e, this]
theorem posK_lt {cs : List Int} {c : Int} (h : c ∈ cs) : (kinds cs).idxOf c < (kinds cs).length := List.idxOf_lt_length_of_mem (mem_kinds.mpr h)
theorem posK_at {cs : List Int} {c : Int} (h : c ∈ cs) : (kinds cs)[(kinds cs).idxOf c]? = some c := by
  rw [List.getElem?_eq_getElem (posK_lt h), List.getElem_idxOf (posK_lt h)]
theorem row_told (ts : List Tie) (cs : List Int) (v : Int) : ((List.range (kinds cs).length).map fun (k : Nat) => (cntAt ts (toldL cs) v (k : Int) : Int)) = often ts cs v := by
  apply List.ext_getElem?
  intro k
  unfold often
  rw [List.getElem?_map, List.getElem?_map]
  by_cases h : k < (kinds cs).length
  · rw [List.getElem?_range h, List.getElem?_eq_getElem h]
    have e : posK cs (kinds cs)[k] = (k : Int) := by unfold posK; rw [(kinds_nodup cs).idxOf_getElem k h]
    have := cntAt_map (g := posK cs) (d := (kinds cs)[k]) (v := v) ts cs fun c hc q => by
      have h1 := posK_at hc
      rw [e] at q
      have q : (kinds cs).idxOf c = k := by unfold posK at q; omega
      rw [q, List.getElem?_eq_getElem h] at h1
      exact (Option.some.inj h1).symm
    rw [e] at this
    show some ((cntAt ts (toldL cs) v (k : Int) : Nat) : Int) = some ((cntAt ts cs v (kinds cs)[k] : Nat) : Int)
    rw [← this]; rfl
  · rw [List.getElem?_eq_none (by rw [List.length_range]; omega), List.getElem?_eq_none (by omega)]; rfl
theorem told_rng {cs : List Int} : ∀ c ∈ toldL cs, 0 ≤ c ∧ c < ((kinds cs).length : Int) := fun c hc => by
  obtain ⟨d, hd, rfl⟩ := List.mem_map.mp hc
  have := posK_lt hd
  unfold posK; omega
/-! rings -/
theorem kinds_nodup_of : ∀ {q : List Int}, (kinds q).length = q.length → q.Nodup
  | [], _ => List.nodup_nil
  | a :: q, h => by
    have hle := kinds_le q
    by_cases ha : a ∈ q
    · have p : (kinds (a :: q)).length = (kinds q).length := kinds_len (kinds_nodup _) fun x => by
        rw [mem_kinds, List.mem_cons]
        exact ⟨fun z => z.elim (fun e => by rw [e]; exact ha) id, .inr⟩
      rw [List.length_cons] at h; omega
    · have p : (a :: kinds q).length = (kinds (a :: q)).length := kinds_len (List.nodup_cons.mpr ⟨fun z => ha (mem_kinds.mp z), kinds_nodup q⟩) fun x => by rw [List.mem_cons, List.mem_cons, mem_kinds]
      rw [← p, List.length_cons, List.length_cons] at h
      exact List.nodup_cons.mpr ⟨ha, kinds_nodup_of (by omega)⟩
theorem kinds_nodup_iff {q : List Int} : (kinds q).length = q.length ↔ q.Nodup := ⟨kinds_nodup_of, fun nd => (kinds_len nd fun _ => Iff.rfl).symm⟩
/-- the program's look, behind a whole walk -/
theorem ring_came {ts : List Tie} {ring : List Nat} {b : Int} {pl : List Int} (h : trail ts b ring = some pl) (h0 : ring ≠ []) : ringFrom ts ring b = (decide (pl.getLast? = some b) && decide ((kinds pl).length = ring.length)) := by
  have hl := trail_len h
  have hr : 0 < ring.length := List.length_pos_iff.mpr h0
  rw [Bool.eq_iff_iff, ringFrom_true, Bool.and_eq_true, decide_eq_true_iff, decide_eq_true_iff]
  have sub : ∀ q, pl = q ++ [b] → (kinds pl).length = (kinds q).length := fun q e => by
    refine kinds_len (kinds_nodup _) fun x => ?_
    rw [mem_kinds, e, List.mem_append, List.mem_singleton]
    refine ⟨fun z => z.elim id fun z2 => ?_, .inl⟩
    obtain ⟨q', hq'⟩ := trail_head h
    cases q with
    | nil => rw [e, List.nil_append, List.length_singleton] at hl; omega
    | cons y q =>
      rw [e, List.cons_append] at hq'
      injection hq' with h1 _
      rw [z2, h1]; exact List.mem_cons_self
  constructor
  · rintro ⟨q, e, nd⟩
    rw [h] at e
    have e := Option.some.inj e
    refine ⟨by rw [e, List.getLast?_concat], ?_⟩
    rw [sub q e, kinds_nodup_iff.mpr nd]
    rw [e, List.length_append, List.length_singleton] at hl; omega
  · rintro ⟨h1, h2⟩
    have ne : pl ≠ [] := fun z => by rw [z] at h1; cases h1
    have h3 := List.dropLast_concat_getLast ne
    rw [List.getLast?_eq_some_getLast ne] at h1
    rw [Option.some.inj h1] at h3
    refine ⟨pl.dropLast, by rw [h, h3], ?_⟩
    refine kinds_nodup_iff.mp ?_
    rw [← sub _ h3.symm, h2, List.length_dropLast]; omega
theorem ring_none {ts : List Tie} {ring : List Nat} {b : Int} (h : trail ts b ring = none) : ringFrom ts ring b = false := by unfold ringFrom; rw [h]
/-- a walk that goes on -/
theorem trail_snoc {ts : List Tie} {r : List Nat} {b c : Int} {pl : List Int} {i : Nat} {t : Tie} (h : trail ts b r = some (pl ++ [c])) (ht : ts[i]? = some t) (hc : has t c = true) : trail ts b (r ++ [i]) = some (pl ++ [c] ++ [oth t c]) := by
  rw [trail_append h, trail_cons ht hc]
  show some (pl ++ (c :: [oth t c])) = _
  rw [List.append_assoc]; rfl
theorem trail_stop {ts : List Tie} {r s : List Nat} {b c : Int} {pl : List Int} {i : Nat} {t : Tie} (h : trail ts b r = some (pl ++ [c])) (ht : ts[i]? = some t) (hc : has t c = false) : trail ts b (r ++ i :: s) = none := by
  rw [trail_append h]
  have : trail ts c (i :: s) = none := by
    show (match ts[i]? with | some t => if has t c = true then (trail ts (oth t c) s).map (c :: ·) else none | none => none) = none
    rw [ht]
    show (if has t c = true then (trail ts (oth t c) s).map (c :: ·) else none) = none
    rw [hc]; rfl
  rw [this]; rfl
/-- come to twice -/
theorem ring_twice {ts : List Tie} {r s : List Nat} {b c : Int} {pl : List Int} {i : Nat} (h : trail ts b r = some (pl ++ [c])) (hc : c ∈ pl) : ringFrom ts (r ++ i :: s) b = false := by
  cases q : ringFrom ts (r ++ i :: s) b with
  | false => rfl
  | true =>
    obtain ⟨P, e, nd⟩ := ringFrom_true.mp q
    rw [trail_append h] at e
    cases q2 : trail ts c (i :: s) with
    | none => rw [q2] at e; cases e
    | some z =>
      rw [q2] at e
      obtain ⟨t, z', _, _, hz, rfl⟩ := trail_inv q2
      have e : pl ++ c :: z' = P ++ [b] := Option.some.inj e
      have hz' := trail_len hz
      have hl := congrArg List.length e
      rw [List.length_append, List.length_append, List.length_cons, List.length_singleton] at hl
      obtain ⟨j, hj⟩ := List.mem_iff_getElem?.mp hc
      have hjl := (List.getElem?_eq_some_iff.mp hj).1
      have e1 : P[j]? = some c := by
        rw [← hj, ← List.getElem?_append_left (l₂ := c :: z') hjl, e, List.getElem?_append_left (by omega)]
      have e2 : P[pl.length]? = some c := by
        have : (pl ++ c :: z')[pl.length]? = some c := by rw [List.getElem?_append_right (Nat.le_refl _), Nat.sub_self]; rfl
        rw [e, List.getElem?_append_left (by omega)] at this
        exact this
      obtain ⟨l1, b1⟩ := List.getElem?_eq_some_iff.mp e1
      obtain ⟨l2, b2⟩ := List.getElem?_eq_some_iff.mp e2
      have := (List.getElem_inj nd).mp (b1.trans b2.symm)
      omega
theorem trail_at {ts : List Tie} : ∀ {r : List Nat} {b : Int} {P : List Int}, trail ts b r = some P → ∀ (p i : Nat), r[p]? = some i → ∃ t x, ts[i]? = some t ∧ P[p]? = some x ∧ has t x = true ∧ P[p + 1]? = some (oth t x)
  | [], _, _, _, p, i, h => by simp at h
  | j :: r, b, P, e, p, i, h => by
    obtain ⟨t, q, ht, hb, hq, rfl⟩ := trail_inv e
    cases p with
    | zero =>
      have : j = i := by simpa using h
      subst this
      obtain ⟨q', rfl⟩ := trail_head hq
      exact ⟨t, b, ht, rfl, hb, rfl⟩
    | succ p =>
      obtain ⟨u, x, h1, h2, h3, h4⟩ := trail_at hq p i (by simpa using h)
      exact ⟨u, x, h1, by simpa using h2, h3, by simpa using h4⟩
/-- no tie twice -/
theorem ringFrom_nodup {ts : List Tie} {ring : List Nat} {b : Int} (h : ringFrom ts ring b = true) (ho : ring.length % 2 = 1) : ring.Nodup := by
  obtain ⟨pl, e, nd⟩ := ringFrom_true.mp h
  have hl := trail_len e
  rw [List.length_append, List.length_singleton] at hl
  obtain ⟨P', hP'⟩ := trail_head e
  have b0 : (pl ++ [b])[0]? = some b := by rw [hP']; rfl
  have inj : ∀ (p q : Nat) (x : Int), p < ring.length → q < ring.length → (pl ++ [b])[p]? = some x → (pl ++ [b])[q]? = some x → p = q := fun p q x hp hq h1 h2 => by
    rw [List.getElem?_append_left (by omega)] at h1 h2
    obtain ⟨l1, c1⟩ := List.getElem?_eq_some_iff.mp h1
    obtain ⟨l2, c2⟩ := List.getElem?_eq_some_iff.mp h2
    exact (List.getElem_inj nd).mp (c1.trans c2.symm)
  have bl : (pl ++ [b])[ring.length]? = some b := by rw [List.getElem?_append_right (by omega)]; simp [show ring.length - pl.length = 0 by omega]
  refine List.pairwise_iff_getElem.mpr fun p q hp hq hpq z => ?_
  obtain ⟨t, x, t1, x1, x2, x3⟩ := trail_at e p ring[p] (List.getElem?_eq_getElem hp)
  obtain ⟨u, y, u1, y1, y2, y3⟩ := trail_at e q ring[p] (by rw [z]; exact List.getElem?_eq_getElem hq)
  rw [t1] at u1; cases u1
  have hy : y = x ∨ y = oth t x := by
    rcases has_iff.mp x2 with rfl | rfl <;> rcases has_iff.mp y2 with rfl | rfl
    · exact .inl rfl
    · right; rw [oth_1]
    · right; rw [oth_2]
    · exact .inl rfl
  rcases hy with rfl | rfl
  · have := inj p q _ hp hq x1 y1; omega
  · have h1 := inj (p + 1) q _ (by omega) hq x3 y1
    subst h1
    rw [oth_oth] at y3
    by_cases k : p + 1 + 1 < ring.length
    · have := inj p (p + 1 + 1) _ hp k x1 y3; omega
    · have e1 : p + 1 + 1 = ring.length := by omega
      rw [e1, bl] at y3
      cases y3
      have := inj 0 p _ (by omega) hp b0 x1
      omega
theorem ringB_inv {ts : List Tie} {ring : List Nat} (h : ringB ts ring = true) : ∃ b, ringFrom ts ring b = true := by
  cases ring with
  | nil => cases h
  | cons i r =>
    have h : (match ts[i]? with | some t => ringFrom ts (i :: r) t.1 || ringFrom ts (i :: r) t.2 | none => false) = true := h
    cases q : ts[i]? with
    | none => rw [q] at h; cases h
    | some t =>
      rw [q] at h
      rcases Bool.or_eq_true_iff.mp h with z | z
      · exact ⟨_, z⟩
      · exact ⟨_, z⟩
theorem ringB_cons {ts : List Tie} {i : Nat} {r : List Nat} {t : Tie} (h : ts[i]? = some t) : ringB ts (i :: r) = (ringFrom ts (i :: r) t.1 || ringFrom ts (i :: r) t.2) := by
  show (match ts[i]? with | some t => ringFrom ts (i :: r) t.1 || ringFrom ts (i :: r) t.2 | none => false) = _
  rw [h]
theorem ringP_true {ts : List Tie} {rs : List Int} : ringP ts rs = true ↔ rs.length % 2 = 1 ∧ (∀ i ∈ rs, 0 ≤ i ∧ i < (ts.length : Int)) ∧ ringB ts (rs.map Int.toNat) = true := by
  unfold ringP
  rw [Bool.and_eq_true, Bool.and_eq_true, decide_eq_true_iff, List.all_eq_true, and_assoc]
  refine and_congr_right fun _ => and_congr_left fun _ => forall_congr' fun i => forall_congr' fun _ => ?_
  rw [Bool.and_eq_true, decide_eq_true_iff, decide_eq_true_iff]
theorem nodup_of_map {α β : Type} {f : α → β} : ∀ {l : List α}, (l.map f).Nodup → l.Nodup
  | [], _ => List.nodup_nil
  | a :: l, h => by
    rw [List.map_cons] at h
    obtain ⟨h1, h2⟩ := List.nodup_cons.mp h
    exact List.nodup_cons.mpr ⟨fun z => h1 (List.mem_map_of_mem z), nodup_of_map h2⟩
theorem ringP_nodup {ts : List Tie} {rs : List Int} (h : ringP ts rs = true) : rs.Nodup := by
  obtain ⟨h1, h2, h3⟩ := ringP_true.mp h
  obtain ⟨b, hb⟩ := ringB_inv h3
  have nd := ringFrom_nodup hb (by rw [List.length_map]; exact h1)
  exact nodup_of_map nd
theorem ringP_false {ts : List Tie} {rs : List Int} (h : ¬ ringP ts rs = true) : ringP ts rs = false := by
  cases q : ringP ts rs with
  | false => rfl
  | true => exact absurd q h
theorem ringP_more {ts us : List Tie} {rs : List Int} (h : ringP ts rs = true) (x : Int) : ringP us (rs ++ [x]) = false := ringP_false fun z => by
  have h1 := (ringP_true.mp h).1
  have h2 := (ringP_true.mp z).1
  rw [List.length_append, List.length_singleton] at h2
  omega
theorem ringP_le {ts : List Tie} {rs : List Int} (h : ringP ts rs = true) : rs.length ≤ ts.length := by
  have := nodup_upto (ringP_nodup h) (ringP_true.mp h).2.1
  omega
/-! known webs -/
def tri3 : List Tie := [(0, 1), (1, 2), (0, 2)]
def five : List Tie := [(0, 1), (0, 1), (0, 1), (0, 1), (0, 1)]
theorem tri3_web : Web 3 tri3 := fun t ht => by
  have : t = (0, 1) ∨ t = (1, 2) ∨ t = (0, 2) := by simpa [tri3] using ht
  rcases this with h | h | h <;> rw [h] <;> decide
theorem five_web : Web 2 five := fun t ht => by
  have : t = (0, 1) := by simpa [five] using ht
  rw [this]; decide
theorem tri3_not_bip : ¬ Bip tri3 := by
  rintro ⟨f, hf⟩
  have h1 := hf (0, 1) (by decide)
  have h2 := hf (1, 2) (by decide)
  have h3 := hf (0, 2) (by decide)
  have h1 : f 0 ≠ f 1 := h1
  have h2 : f 1 ≠ f 2 := h2
  have h3 : f 0 ≠ f 2 := h3
  cases a : f 0 <;> cases b : f 1 <;> cases c : f 2 <;> simp_all
theorem five_bip : Bip five := ⟨fun v => decide (v = 0), fun t ht => by
  have : t = (0, 1) := by simpa [five] using ht
  rw [this]; decide⟩
theorem sorted_pm {ms rs : List Int} (p : ms.Perm rs) (s : ms.Pairwise (· ≤ ·)) (nd : rs.Nodup) {m : Nat} (hl : rs.length = m) (hr : ∀ i ∈ rs, 0 ≤ i ∧ i < (m : Int)) : ms = upto (m : Int) := by
  have nd' := p.nodup_iff.mpr nd
  refine sorted_ext ?_ (upto_sorted _) fun x => ?_
  · exact List.Pairwise.imp (fun ⟨h1, h2⟩ => by omega) (List.pairwise_and_iff.mpr ⟨s, nd'⟩)
  · rw [p.mem_iff, mem_upto]
    refine ⟨fun h => hr x h, fun h => Classical.byContradiction fun z => ?_⟩
    have := nodup_upto (n := (m : Int)) (List.nodup_cons.mpr ⟨z, nd⟩) fun v hv => (List.mem_cons.mp hv).elim (fun e => by rw [e]; exact h) (hr v)
    rw [List.length_cons] at this
    omega
theorem ring_one {ts : List Tie} {n : Int} (w : Web n ts) {i : Int} : ringP ts [i] = false := ringP_false fun h => by
  obtain ⟨_, h2, h3⟩ := ringP_true.mp h
  have hi := h2 i List.mem_cons_self
  have ht : ts[i.toNat]? = some (ts[i.toNat]'(by omega)) := List.getElem?_eq_getElem (by omega)
  have hw := w _ (List.mem_of_getElem? ht)
  obtain ⟨b, hb⟩ := ringB_inv h3
  obtain ⟨pl, e, _⟩ := ringFrom_true.mp hb
  obtain ⟨t, q, t1, t2, t3, t4⟩ := trail_inv e
  rw [ht] at t1; cases t1
  have t3 : [oth (ts[i.toNat]'(by omega)) b] = q := Option.some.inj t3
  rw [← t3] at t4
  have hl := congrArg List.length t4
  rw [List.length_append] at hl
  cases pl with
  | nil => simp at hl
  | cons y pl =>
    cases pl with
    | cons _ _ => simp at hl
    | nil =>
      injection t4 with h4 h5
      injection h5 with h5 _
      rcases has_iff.mp t2 with z | z
      · rw [z, oth_1] at h5; omega
      · rw [z, oth_2] at h5; omega
theorem tri3_ring {rs ms : List Int} (h : ringP tri3 rs = true) (p : ms.Perm rs) (s : ms.Pairwise (· ≤ ·)) : ms = [0, 1, 2] := by
  have hl := ringP_le h
  have h3 : tri3.length = 3 := rfl
  obtain ⟨ho, hr, _⟩ := ringP_true.mp h
  have e : rs.length = 3 := by
    by_cases e : rs.length = 1
    · obtain ⟨i, rfl⟩ := List.length_eq_one_iff.mp e
      rw [ring_one tri3_web] at h; cases h
    · omega
  exact sorted_pm (m := 3) p s (ringP_nodup h) e fun i hi => by have := hr i hi; rw [h3] at this; exact this
theorem cnt_five {cs : List Int} (hl : cs.length = 5) (c : Int) : cntAt five cs 0 c = cs.count c := by
  match cs, hl with
  | [x1, x2, x3, x4, x5], _ =>
    have h : has (0, 1) 0 = true := by decide
    unfold five
    rw [cntAt_cons, cntAt_cons, cntAt_cons, cntAt_cons, cntAt_cons, h]
    simp only [List.count_cons, List.count_nil, Bool.true_and]
    have : cntAt [] [] 0 c = 0 := rfl
    rw [this]
    simp
theorem five_sorted {cs ms : List Int} (E : EvenCols 2 five cs 3) (p : ms.Perm cs) (s : ms.Pairwise (· ≤ ·)) : ms = [0, 0, 1, 1, 2] ∨ ms = [0, 0, 1, 2, 2] ∨ ms = [0, 1, 1, 2, 2] := by
  obtain ⟨h1, h2, h3⟩ := E
  have hl : cs.length = 5 := h1
  have hm : ∀ c ∈ ms, c ∈ [(0 : Int), 1, 2] := fun c hc => by
    have := h2 c (p.subset hc)
    have h : c = 0 ∨ c = 1 ∨ c = 2 := by omega
    rcases h with e | e | e <;> rw [e] <;> decide
  have hcd : ∀ c ∈ [(0 : Int), 1, 2], ∀ d ∈ [(0 : Int), 1, 2], ms.count c ≤ ms.count d + 1 := fun c hc d hd => by
    have r : ∀ c ∈ [(0 : Int), 1, 2], 0 ≤ c ∧ c < 3 := by decide
    have := h3 0 (by decide) (by decide) c d (r c hc).1 (r c hc).2 (r d hd).1 (r d hd).2
    rw [cnt_five hl, cnt_five hl, ← p.count_eq, ← p.count_eq] at this
    exact this
  have pl := p.length_eq
  rw [hl] at pl
  match ms, pl with
  | [x1, x2, x3, x4, x5], _ =>
    have key : ∀ x1 ∈ [(0 : Int), 1, 2], ∀ x2 ∈ [(0 : Int), 1, 2], ∀ x3 ∈ [(0 : Int), 1, 2], ∀ x4 ∈ [(0 : Int), 1, 2], ∀ x5 ∈ [(0 : Int), 1, 2], x1 ≤ x2 → x2 ≤ x3 → x3 ≤ x4 → x4 ≤ x5 → (∀ c ∈ [(0 : Int), 1, 2], ∀ d ∈ [(0 : Int), 1, 2], [x1, x2, x3, x4, x5].count c ≤ [x1, x2, x3, x4, x5].count d + 1) →
        [x1, x2, x3, x4, x5] = [0, 0, 1, 1, 2] ∨ [x1, x2, x3, x4, x5] = [0, 0, 1, 2, 2] ∨ [x1, x2, x3, x4, x5] = [0, 1, 1, 2, 2] := by decide +kernel
    obtain ⟨s1, s⟩ := List.pairwise_cons.mp s
    obtain ⟨s2, s⟩ := List.pairwise_cons.mp s
    obtain ⟨s3, s⟩ := List.pairwise_cons.mp s
    obtain ⟨s4, s⟩ := List.pairwise_cons.mp s
    exact key x1 (hm _ (by simp)) x2 (hm _ (by simp)) x3 (hm _ (by simp)) x4 (hm _ (by simp)) x5 (hm _ (by simp)) (s1 _ (by simp)) (s2 _ (by simp)) (s3 _ (by simp)) (s4 _ (by simp)) hcd
end TM
set_option Elab.async false
set_option linter.all false
/-! Webs known on paper. -/
namespace TM
theorem reach_closed {ts : List Tie} {S : List Int} {b x : Int} (h : ∀ t ∈ ts, (t.1 ∈ S ↔ t.2 ∈ S)) (hb : b ∈ S) (r : Reach ts b x) : x ∈ S := by
  induction r with
  | refl => exact hb
  | @step c t _ ht hc ih =>
    have := h t ht
    rcases has_iff.mp hc with e | e
    · rw [e, oth_1]; rw [e] at ih; exact this.mp ih
    · rw [e, oth_2]; rw [e] at ih; exact this.mpr ih
theorem part_calc {n : Int} {ts : List Tie} {S : List Int} {b : Int} (hs : S.Pairwise (· < ·)) (h : ∀ t ∈ ts, (t.1 ∈ S ↔ t.2 ∈ S)) (hb : b ∈ S) (hr : ∀ x ∈ S, 0 ≤ x ∧ x < n) (hx : ∀ x ∈ S, Reach ts b x) : part n ts b = S := by
  unfold part
  refine sorted_ext ((upto_sorted n).filter _) hs fun x => ?_
  rw [List.mem_filter, mem_upto]
  have : ∀ d : Decidable (Reach ts b x), @decide _ d = true ↔ Reach ts b x := fun d => @decide_eq_true_iff _ d
  rw [this]
  exact ⟨fun z => reach_closed h hb z.2, fun z => ⟨hr x z, hx x z⟩⟩
def two : List Tie := [(0, 1), (0, 1)]
theorem two_web : Web 2 two := fun t ht => by
  have : t = (0, 1) := by simpa [two] using ht
  rw [this]; decide
theorem tri3_reach : ∀ x ∈ [(0 : Int), 1, 2], Reach tri3 0 x := fun x hx => by
  have h : x = 0 ∨ x = 1 ∨ x = 2 := by simpa using hx
  rcases h with rfl | rfl | rfl
  · exact .refl
  · exact Reach.tie (t := (0, 1)) (by decide) (by decide) (by decide)
  · exact Reach.tie (t := (0, 2)) (by decide) (by decide) (by decide)
theorem tri3_part4 : part 4 tri3 0 = [0, 1, 2] := part_calc (by decide) (by decide) (by decide) (by decide) tri3_reach
theorem tri3_web4 : Web 4 tri3 := fun t ht => by have := tri3_web t ht; omega
theorem tri3_odd4 : oddP 4 tri3 [0, 1, 2] = true := by
  rw [← tri3_part4]
  refine (oddP_part tri3_web4 (by decide)).mpr ((oddAt_iff tri3_web4 (b := 0) (by decide)).mpr ?_)
  rw [tri3_part4]; decide
theorem nil_web (n : Int) : Web n [] := fun t ht => nomatch ht
theorem nil_odd4 : oddP 4 [] [3] = false := by
  unfold oddP
  have : decide (([(3 : Int)].map (deg [])).sum / 2 % 2 = 1) = false := by decide
  rw [this]; simp
theorem two_far : EvenCols 2 two [0, 10 ^ 30] (10 ^ 31) := by
  refine ⟨rfl, by decide, fun v v0 v1 c d c0 c1 d0 d1 => ?_⟩
  have : cntAt two [0, 10 ^ 30] v c ≤ 1 := by
    unfold two
    rw [cntAt_cons, cntAt_cons]
    have e : cntAt [] [] v c = 0 := rfl
    rw [e]
    by_cases h : (0 : Int) = c
    · have h2 : decide ((10 : Int) ^ 30 = c) = false := by rw [← h]; decide
      rw [h2, Bool.and_false]
      split
      · rename_i z; cases z
      · split <;> omega
    · have h2 : decide ((0 : Int) = c) = false := decide_eq_false h
      rw [h2, Bool.and_false]
      split
      · split
        · rename_i z; cases z
        · omega
      · split
        · rename_i z; cases z
        · omega
  omega
theorem two_not : ¬ EvenCols 2 two [0, 0] 2 := fun h => by
  have := h.2.2 0 (by decide) (by decide) 0 1 (by decide) (by decide) (by decide) (by decide)
  revert this; decide
theorem tri3_ring102 : ringP tri3 [1, 0, 2] = true := by decide
theorem one_ring000 : ringP [(0, 1)] [0, 0, 0] = false := by decide
theorem one_web : Web 2 [(0, 1)] := fun t ht => by
  have : t = (0, 1) := by simpa using ht
  rw [this]; decide
end TM
set_option Elab.async false
set_option linter.all false
set_option maxRecDepth 100000
set_option maxHeartbeats 4000000
/-! Heaps by a base that stands and a list of what is one's own; data as a whole; what readings give. -/
namespace TB
open PySem PySem.Spec PyProof.Rows L2
open Evl (Ex Ex.refl Ex.trans Ex.new Ex.mut Ev EvT EvA ev_var ev_c ev_op rv_I0 rv_I rv_eq rv_ne et_test et_B et_and et_or et_not et_is ev_is sz_of sz_lt fresh_back)
abbrev D := PyData
/-! ### data -/
mutual
inductive Da (H : Hp) : V → PyData → Prop
  | non : Da H .non .none
  | bl (b : Bool) : Da H (.bl b) (.bool b)
  | int (i : Int) : Da H (.int i) (.int i)
  | str (x : Str) : Da H (.str x) (.str x)
  | lst {a : Addr} {xs : List V} {ds : List PyData} : H a = some (.lst xs) → DaAll H xs ds → Da H (.ref a) (.list ds)
  | tup {a : Addr} {xs : List V} {ds : List PyData} : H a = some (.tup xs) → DaAll H xs ds → Da H (.ref a) (.tuple ds)
  | dct {a : Addr} : H a = some (.dK []) → Da H (.ref a) (.dict [])
inductive DaAll (H : Hp) : List V → List PyData → Prop
  | nil : DaAll H [] []
  | cons {v : V} {vs : List V} {d : PyData} {ds : List PyData} : Da H v d → DaAll H vs ds → DaAll H (v :: vs) (d :: ds)
end
mutual
theorem Da.ex {H H' : Hp} (e : Ex H H') : ∀ {v : V} {d : PyData}, Da H v d → Da H' v d
  | _, _, .non => .non
  | _, _, .bl b => .bl b
  | _, _, .int i => .int i
  | _, _, .str x => .str x
  | _, _, .lst h k => .lst (e _ _ h) (DaAll.ex e k)
  | _, _, .tup h k => .tup (e _ _ h) (DaAll.ex e k)
  | _, _, .dct h => .dct (e _ _ h)
theorem DaAll.ex {H H' : Hp} (e : Ex H H') : ∀ {vs : List V} {ds : List PyData}, DaAll H vs ds → DaAll H' vs ds
  | _, _, .nil => .nil
  | _, _, .cons h k => .cons (Da.ex e h) (DaAll.ex e k)
end
mutual
theorem Da.dp {K : PySem.W.Frag} {H : Hp} : ∀ {v : V} {d : PyData}, Da H v d → d.canLay0 = true → Dp K H v d
  | _, _, .non, _ => .non
  | _, _, .bl b, _ => .bl b
  | _, _, .int i, _ => .int i
  | _, _, .str x, _ => .str x
  | _, _, .lst h k, c => .lst (SqL.of h) (DaAll.dp k (by unfold PyData.canLay0 at c; exact c))
  | _, _, .tup h k, c => .tup (SqT.of h) (DaAll.dp k (by unfold PyData.canLay0 at c; exact c))
  | _, _, .dct h, c => by unfold PyData.canLay0 at c; cases c
theorem DaAll.dp {K : PySem.W.Frag} {H : Hp} : ∀ {vs : List V} {ds : List PyData}, DaAll H vs ds → PyData.canLayAll0 ds = true → DpAll K H vs ds
  | _, _, .nil, _ => .nil
  | _, _, .cons h k, c => by
    unfold PyData.canLayAll0 at c
    rw [Bool.and_eq_true] at c
    exact .cons (Da.dp h c.1) (DaAll.dp k c.2)
end
section
variable {H : Hp} {v : V} {vs xs ys : List V} {ds es : List PyData} {d : PyData}
theorem Da.int_inv {i : Int} (h : Da H v (.int i)) : v = .int i := by cases h; rfl
theorem Da.bl_inv {b : Bool} (h : Da H v (.bool b)) : v = .bl b := by cases h; rfl
theorem Da.non_inv (h : Da H v .none) : v = .non := by cases h; rfl
theorem Da.lst_inv (h : Da H v (.list ds)) : ∃ a xs, v = .ref a ∧ H a = some (.lst xs) ∧ DaAll H xs ds := by
  cases h with | lst h k => exact ⟨_, _, rfl, h, k⟩
theorem Da.tup_inv (h : Da H v (.tuple ds)) : ∃ a xs, v = .ref a ∧ H a = some (.tup xs) ∧ DaAll H xs ds := by
  cases h with | tup h k => exact ⟨_, _, rfl, h, k⟩
theorem DaAll.len : ∀ {vs : List V} {ds : List PyData}, DaAll H vs ds → vs.length = ds.length
  | _, _, .nil => rfl
  | _, _, .cons _ k => by rw [List.length_cons, List.length_cons, DaAll.len k]
theorem DaAll.get : ∀ {vs : List V} {ds : List PyData} {i : Nat} {d : PyData}, DaAll H vs ds → ds[i]? = some d → ∃ v, vs[i]? = some v ∧ Da H v d
  | _, _, _, _, .nil, e => by simp at e
  | _, _, 0, _, .cons h _, e => by simp at e; subst e; exact ⟨_, rfl, h⟩
  | _, _, i + 1, d, .cons _ k, e => by
    obtain ⟨v, h1, h2⟩ := DaAll.get (i := i) (d := d) k (by simpa using e)
    exact ⟨v, by simpa using h1, h2⟩
theorem DaAll.at : ∀ {vs : List V} {ds : List PyData} {i : Nat} {v : V}, DaAll H vs ds → vs[i]? = some v → ∃ d, ds[i]? = some d ∧ Da H v d
  | _, _, _, _, .nil, e => by simp at e
  | _, _, 0, _, .cons h _, e => by simp at e; subst e; exact ⟨_, rfl, h⟩
  | _, _, i + 1, d, .cons _ k, e => by
    obtain ⟨v, h1, h2⟩ := DaAll.at (i := i) (v := d) k (by simpa using e)
    exact ⟨v, by simpa using h1, h2⟩
theorem DaAll.append : ∀ {xs ys : List V} {ds es : List PyData}, DaAll H xs ds → DaAll H ys es → DaAll H (xs ++ ys) (ds ++ es)
  | _, _, _, _, .nil, k => k
  | _, _, _, _, .cons h t, k => .cons h (DaAll.append t k)
theorem DaAll.snoc (h : DaAll H xs ds) (k : Da H v d) : DaAll H (xs ++ [v]) (ds ++ [d]) := h.append (.cons k .nil)
theorem DaAll.take : ∀ {xs : List V} {ds : List PyData} (n : Nat), DaAll H xs ds → DaAll H (xs.take n) (ds.take n)
  | _, _, 0, _ => .nil
  | _, _, _ + 1, .nil => .nil
  | _, _, n + 1, .cons h t => .cons h (DaAll.take n t)
theorem DaAll.drop : ∀ {xs : List V} {ds : List PyData} (n : Nat), DaAll H xs ds → DaAll H (xs.drop n) (ds.drop n)
  | _, _, 0, h => h
  | _, _, _ + 1, .nil => .nil
  | _, _, n + 1, .cons _ t => DaAll.drop n t
theorem DaAll.rev : ∀ {xs : List V} {ds : List PyData}, DaAll H xs ds → DaAll H xs.reverse ds.reverse
  | _, _, .nil => .nil
  | _, _, .cons h t => by rw [List.reverse_cons, List.reverse_cons]; exact (DaAll.rev t).snoc h
theorem DaAll.dropLast : ∀ {xs : List V} {ds : List PyData}, DaAll H xs ds → DaAll H xs.dropLast ds.dropLast
  | _, _, .nil => .nil
  | _, _, .cons h .nil => .nil
  | _, _, .cons h (.cons h2 t) => .cons h (DaAll.dropLast (.cons h2 t))
theorem DaAll.set : ∀ {xs : List V} {ds : List PyData} (n : Nat), DaAll H xs ds → Da H v d → DaAll H (xs.set n v) (ds.set n d)
  | _, _, _, .nil, _ => .nil
  | _, _, 0, .cons _ t, k => .cons k t
  | _, _, n + 1, .cons h t, k => .cons h (DaAll.set n t k)
theorem DaAll.rep (n : Nat) (h : DaAll H xs ds) : DaAll H (List.replicate n xs).flatten (List.replicate n ds).flatten := by
  induction n with
  | zero => exact .nil
  | succ n ih => rw [List.replicate_succ, List.replicate_succ, List.flatten_cons, List.flatten_cons]; exact h.append ih
theorem DaAll.ints : ∀ {ns : List Int}, DaAll H (ns.map V.int) (ns.map PyData.int)
  | [] => .nil
  | n :: ns => .cons (.int n) DaAll.ints
theorem DaAll.ints_inv : ∀ {ns : List Int} {xs : List V}, DaAll H xs (ns.map PyData.int) → xs = ns.map V.int
  | [], _, .nil => rfl
  | n :: ns, _, .cons h t => by rw [h.int_inv, DaAll.ints_inv t]; rfl
theorem DaAll.bls : ∀ {bs : List Bool}, DaAll H (bs.map V.bl) (bs.map PyData.bool)
  | [] => .nil
  | n :: ns => .cons (.bl n) DaAll.bls
theorem DaAll.bls_inv : ∀ {ns : List Bool} {xs : List V}, DaAll H xs (ns.map PyData.bool) → xs = ns.map V.bl
  | [], _, .nil => rfl
  | n :: ns, _, .cons h t => by rw [h.bl_inv, DaAll.bls_inv t]; rfl
end
/-! ### what grows: B, a base in H; B' has besides B only what is new behind H -/
structure Gr (B H B' H' : Hp) : Prop where
  hh : Ex H H'
  bb : Ex B B'
  bh : Ex B' H'
  old : ∀ a, H a ≠ none → B a = none → B' a = none
theorem Gr.refl {B H : Hp} (e : Ex B H) : Gr B H B H := ⟨Ex.refl H, Ex.refl B, e, fun _ _ h => h⟩
theorem Gr.same {B H H' : Hp} (e : Ex B H) (k : Ex H H') : Gr B H B H' := ⟨k, Ex.refl B, e.trans k, fun _ _ h => h⟩
theorem ex_ne {H H' : Hp} (e : Ex H H') {a : Addr} (h : H a ≠ none) : H' a ≠ none := by
  cases q : H a with
  | none => exact absurd q h
  | some o => rw [e a o q]; exact fun z => by cases z
theorem Gr.trans {B H B1 H1 B2 H2 : Hp} (g : Gr B H B1 H1) (k : Gr B1 H1 B2 H2) : Gr B H B2 H2 :=
  ⟨g.hh.trans k.hh, g.bb.trans k.bb, k.bh, fun a h1 h2 => k.old a (ex_ne g.hh h1) (g.old a h1 h2)⟩
/-- a new object, known as data -/
theorem Gr.new {B H : Hp} {p : Addr} {o : HO} (e : Ex B H) (h : H p = none) : Gr B H (upd B p o) (upd H p o) where
  hh := Ex.new h
  bb := Ex.new (by cases q : B p with | none => rfl | some u => rw [e p u q] at h; cases h)
  bh := fun a u q => by
    by_cases z : a = p
    · subst z; rw [upd_same] at q; rw [upd_same]; exact q
    · rw [upd_ne z] at q; rw [upd_ne z]; exact e a u q
  old := fun a h1 h2 => by
    have : a ≠ p := fun z => h1 (by rw [z]; exact h)
    rw [upd_ne this]; exact h2
theorem base_none {B H : Hp} (e : Ex B H) {p : Addr} (h : H p = none) : B p = none := by
  cases q : B p with
  | none => rfl
  | some u => rw [e p u q] at h; cases h
def mrg (B1 B2 : Hp) : Hp := fun a => match B1 a with | some o => some o | none => B2 a
theorem mrg_l {B1 B2 : Hp} : Ex B1 (mrg B1 B2) := fun a o h => by unfold mrg; rw [h]
theorem Gr.un {B H1 B1 H2 B2 H3 : Hp} (g : Gr B H1 B1 H2) (g2 : Gr B H2 B2 H3) : Gr B H1 (mrg B1 B2) H3 ∧ Ex B1 (mrg B1 B2) ∧ Ex B2 (mrg B1 B2) := by
  have e2 : Ex B2 (mrg B1 B2) := fun a o h => by
    unfold mrg
    cases e1 : B1 a with
    | some o' =>
      have h3 := g2.bh a o h
      rw [g2.hh a o' (g.bh a o' e1)] at h3
      exact h3
    | none => exact h
  refine ⟨⟨g.hh.trans g2.hh, g.bb.trans mrg_l, fun a o h => ?_, fun a h1 h2 => ?_⟩, mrg_l, e2⟩
  · unfold mrg at h
    cases e1 : B1 a with
    | some o' =>
      simp only [e1] at h
      rw [← h]; exact g2.hh a o' (g.bh a o' e1)
    | none =>
      simp only [e1] at h
      exact g2.bh a o h
  · unfold mrg
    rw [g.old a h1 h2]
    exact g2.old a (ex_ne g.hh h1) h2
/-- B0, H0: at the def's start; B: the base now; H: the heap now; L: one's own, new since then, changed -/
structure Fr (B0 H0 B H : Hp) (L : List (Addr × HO)) : Prop where
  ex0 : Ex H0 H
  eb : Ex B0 B
  bh : Ex B H
  old : ∀ a, H0 a ≠ none → B0 a = none → B a = none
  own : ∀ p ∈ L, H0 p.1 = none ∧ B p.1 = none ∧ H p.1 = some p.2
  nd : (L.map (·.1)).Nodup
section
variable {B0 H0 B H B' H' : Hp} {L : List (Addr × HO)} {p : Addr} {o u : HO}
theorem Fr.start (e : Ex B H) : Fr B H B H [] := ⟨Ex.refl H, Ex.refl B, e, fun _ _ h => h, fun _ h => (nomatch h), List.nodup_nil⟩
theorem Fr.gr (f : Fr B0 H0 B H L) (g : Gr B H B' H') : Fr B0 H0 B' H' L where
  ex0 := f.ex0.trans g.hh
  eb := f.eb.trans g.bb
  bh := g.bh
  old := fun a h1 h2 => g.old a (ex_ne f.ex0 h1) (f.old a h1 h2)
  own := fun q hq => by
    obtain ⟨h1, h2, h3⟩ := f.own q hq
    exact ⟨h1, g.old _ (by rw [h3]; exact fun z => by cases z) h2, g.hh _ _ h3⟩
  nd := f.nd
theorem Fr.ev (f : Fr B0 H0 B H L) (e : Ex H H') : Fr B0 H0 B H' L := f.gr (Gr.same f.bh e)
theorem Fr.toGr (f : Fr B0 H0 B H L) : Gr B0 H0 B H := ⟨f.ex0, f.eb, f.bh, f.old⟩
/-- a new object of one's own -/
theorem Fr.made (f : Fr B0 H0 B H L) (n : H p = none) : Fr B0 H0 B (upd H p o) ((p, o) :: L) where
  ex0 := f.ex0.trans (Ex.new n)
  eb := f.eb
  bh := f.bh.trans (Ex.new n)
  old := f.old
  own := fun q hq => by
    rcases List.mem_cons.mp hq with e | hq
    · subst e
      exact ⟨base_none f.ex0 n, base_none f.bh n, upd_same⟩
    · obtain ⟨h1, h2, h3⟩ := f.own q hq
      exact ⟨h1, h2, by rw [upd_ne (ne_of_none h3 n)]; exact h3⟩
  nd := List.nodup_cons.mpr ⟨fun z => by
    obtain ⟨q, hq, e⟩ := List.mem_map.mp z
    have := (f.own q hq).2.2
    rw [show q.1 = p from e, n] at this
    exact (nomatch this), f.nd⟩
/-- .. that stands already, new behind H -/
theorem Fr.take (f : Fr B0 H0 B H L) (g : Gr B H B' H') (n : H p = none) (nb : B' p = none) (h : H' p = some o) : Fr B0 H0 B' H' ((p, o) :: L) where
  ex0 := f.ex0.trans g.hh
  eb := f.eb.trans g.bb
  bh := g.bh
  old := (f.gr g).old
  own := fun q hq => by
    rcases List.mem_cons.mp hq with e | hq
    · subst e
      exact ⟨base_none f.ex0 n, nb, h⟩
    · exact (f.gr g).own q hq
  nd := List.nodup_cons.mpr ⟨fun z => by
    obtain ⟨q, hq, e⟩ := List.mem_map.mp z
    have := (f.own q hq).2.2
    rw [show q.1 = p from e, n] at this
    exact (nomatch this), f.nd⟩
theorem Fr.get (f : Fr B0 H0 B H L) {i : Nat} (e : L[i]? = some (p, o)) : H p = some o := (f.own _ (List.mem_of_getElem? e)).2.2
theorem Fr.get0 {L : List (Addr × HO)} (f : Fr B0 H0 B H ((p, o) :: L)) : H p = some o := (f.own _ List.mem_cons_self).2.2
theorem Fr.get1 {L : List (Addr × HO)} {q : Addr × HO} (f : Fr B0 H0 B H (q :: (p, o) :: L)) : H p = some o := f.get (i := 1) rfl
theorem Fr.get2 {L : List (Addr × HO)} {q r : Addr × HO} (f : Fr B0 H0 B H (q :: r :: (p, o) :: L)) : H p = some o := f.get (i := 2) rfl
theorem Fr.get3 {L : List (Addr × HO)} {q r s : Addr × HO} (f : Fr B0 H0 B H (q :: r :: s :: (p, o) :: L)) : H p = some o := f.get (i := 3) rfl
theorem set_map_fst : ∀ (L : List (Addr × HO)) (i : Nat) (p : Addr) (o u : HO), L[i]? = some (p, o) → (L.set i (p, u)).map (·.1) = L.map (·.1)
  | [], i, p, o, u, h => by simp at h
  | q :: L, 0, p, o, u, h => by
    have e : q = (p, o) := by simpa using h
    subst e; rfl
  | q :: L, i + 1, p, o, u, h => by
    show q.1 :: (L.set i (p, u)).map (·.1) = q.1 :: L.map (·.1)
    rw [set_map_fst L i p o u (by simpa using h)]
theorem Fr.set (f : Fr B0 H0 B H L) {i : Nat} (e : L[i]? = some (p, o)) : Fr B0 H0 B (upd H p u) (L.set i (p, u)) where
  ex0 := f.ex0.mut (f.own _ (List.mem_of_getElem? e)).1
  eb := f.eb
  bh := f.bh.mut (f.own _ (List.mem_of_getElem? e)).2.1
  old := f.old
  own := fun q hq => by
    have hp := f.own _ (List.mem_of_getElem? e)
    obtain ⟨j, hj⟩ := List.mem_iff_getElem?.mp hq
    by_cases ij : i = j
    · subst ij
      have hl := (List.getElem?_eq_some_iff.mp e).1
      rw [List.getElem?_set_self hl] at hj
      cases hj
      exact ⟨hp.1, hp.2.1, upd_same⟩
    · rw [List.getElem?_set_ne ij] at hj
      obtain ⟨h1, h2, h3⟩ := f.own q (List.mem_of_getElem? hj)
      have ne : q.1 ≠ p := fun z => by
        have a1 : (L.map (·.1))[j]? = some q.1 := by rw [List.getElem?_map, hj]; rfl
        have a2 : (L.map (·.1))[i]? = some p := by rw [List.getElem?_map, e]; rfl
        obtain ⟨l1, b1⟩ := List.getElem?_eq_some_iff.mp a1
        obtain ⟨l2, b2⟩ := List.getElem?_eq_some_iff.mp a2
        exact ij ((List.getElem_inj f.nd).mp (b2.trans (z.symm.trans b1.symm)))
      exact ⟨h1, h2, by rw [upd_ne ne]; exact h3⟩
  nd := by rw [set_map_fst L i p o u e]; exact f.nd
theorem Fr.set0 {L : List (Addr × HO)} (f : Fr B0 H0 B H ((p, o) :: L)) : Fr B0 H0 B (upd H p u) ((p, u) :: L) := f.set (i := 0) (o := o) rfl
theorem Fr.set1 {L : List (Addr × HO)} {q : Addr × HO} (f : Fr B0 H0 B H (q :: (p, o) :: L)) : Fr B0 H0 B (upd H p u) (q :: (p, u) :: L) := f.set (i := 1) (o := o) rfl
theorem Fr.set2 {L : List (Addr × HO)} {q r : Addr × HO} (f : Fr B0 H0 B H (q :: r :: (p, o) :: L)) : Fr B0 H0 B (upd H p u) (q :: r :: (p, u) :: L) := f.set (i := 2) (o := o) rfl
theorem Fr.set3 {L : List (Addr × HO)} {q r s : Addr × HO} (f : Fr B0 H0 B H (q :: r :: s :: (p, o) :: L)) : Fr B0 H0 B (upd H p u) (q :: r :: s :: (p, u) :: L) := f.set (i := 3) (o := o) rfl
/-- only some of it -/
theorem Fr.sub {M : List (Addr × HO)} (f : Fr B0 H0 B H L) (s : M.Sublist L) : Fr B0 H0 B H M := ⟨f.ex0, f.eb, f.bh, f.old, fun p hp => f.own p (s.subset hp), f.nd.sublist (s.map _)⟩
theorem Fr.tail {q : Addr × HO} (f : Fr B0 H0 B H (q :: L)) : Fr B0 H0 B H L := f.sub (List.sublist_cons_self _ _)
theorem Fr.nil (f : Fr B0 H0 B H L) : Fr B0 H0 B H [] := f.sub (List.nil_sublist _)
theorem Fr.perm {M : List (Addr × HO)} (f : Fr B0 H0 B H L) (s : M.Perm L) : Fr B0 H0 B H M := ⟨f.ex0, f.eb, f.bh, f.old, fun p hp => f.own p (s.subset hp), (s.map (·.1)).nodup_iff.mpr f.nd⟩
/-- back to an earlier base -/
theorem Fr.back {B1 : Hp} (f : Fr B0 H0 B H L) (e0 : Ex B0 B1) (e : Ex B1 B) : Fr B0 H0 B1 H L where
  ex0 := f.ex0
  eb := e0
  bh := e.trans f.bh
  old := fun a h1 h2 => base_none e (f.old a h1 h2)
  own := fun q hq => by
    obtain ⟨h1, h2, h3⟩ := f.own q hq
    exact ⟨h1, base_none e h2, h3⟩
  nd := f.nd
/-- what is one's own becomes part of the base -/
theorem Fr.fix {L : List (Addr × HO)} (f : Fr B0 H0 B H ((p, o) :: L)) : Fr B0 H0 (upd B p o) H L where
  ex0 := f.ex0
  eb := f.eb.trans (Ex.new (f.own _ List.mem_cons_self).2.1)
  bh := fun a w q => by
    by_cases z : a = p
    · subst z; rw [upd_same] at q; cases q; exact f.get0
    · rw [upd_ne z] at q; exact f.bh a w q
  old := fun a h1 h2 => by
    have : a ≠ p := fun z => by
      have hp := f.own _ List.mem_cons_self
      exact h1 (by rw [z]; exact hp.1)
    rw [upd_ne this]; exact f.old a h1 h2
  own := fun q hq => by
    obtain ⟨h1, h2, h3⟩ := f.own q (List.mem_cons_of_mem _ hq)
    have ne : q.1 ≠ p := fun z => (List.nodup_cons.mp f.nd).1 (List.mem_map.mpr ⟨q, hq, z⟩)
    exact ⟨h1, by rw [upd_ne ne]; exact h2, h3⟩
  nd := (List.nodup_cons.mp f.nd).2
theorem Fr.fixed {L : List (Addr × HO)} (f : Fr B0 H0 B H ((p, o) :: L)) : Ex B (upd B p o) := Ex.new (f.own _ List.mem_cons_self).2.1
/-- a data fact of the start holds of the base -/
theorem Fr.da (f : Fr B0 H0 B H L) {v : V} {d : PyData} (h : Da B0 v d) : Da B v d := h.ex f.eb
end
/-! ### what readings give -/
def EvD (te : TE) (σ : L2.St) (B H : Hp) (d : PyData) : Prop := ∀ H1, Ex H H1 → ∀ Q : VK, (∀ v B' H2, Gr B H1 B' H2 → Da B' v d → Q v H2) → te σ H1 Q
/-- a new list, one's own -/
def EvN (te : TE) (σ : L2.St) (B H : Hp) (ds : List PyData) : Prop := ∀ H1, Ex H H1 → ∀ Q : VK, (∀ p xs B' H2, Gr B H1 B' H2 → H1 p = none → B' p = none → H2 p = some (.lst xs) → DaAll B' xs ds → Q (.ref p) H2) → te σ H1 Q
/-- arguments -/
def EvDs (ta : TA) (σ : L2.St) (B H : Hp) (ds : List PyData) : Prop := ∀ H1, Ex H H1 → ∀ Q : List V → Hp → Prop, (∀ vs B' H2, Gr B H1 B' H2 → DaAll B' vs ds → Q vs H2) → ta σ H1 Q
/-- promises' ends -/
def RetD (B H : Hp) (d : PyData) (Q : VK) : Prop := ∀ v B' H2, Gr B H B' H2 → Da B' v d → Q v H2
def RetN (B H : Hp) (ds : List PyData) (Q : VK) : Prop := ∀ p xs B' H2, Gr B H B' H2 → H p = none → B' p = none → H2 p = some (.lst xs) → DaAll B' xs ds → Q (.ref p) H2
def RetV (H : Hp) (v : V) (Q : VK) : Prop := ∀ H2, Ex H H2 → Q v H2
section
variable {K : PySem.W.Frag} {σ : L2.St} {B H : Hp} {ta tb te tc tl : TE} {t u : TT} {x y z v w : V} {d d1 d2 : PyData} {ds es : List PyData} {i j : Int}
theorem Gr.up {B H H1 B' H2 : Hp} (e : Ex B H1) (g : Gr B H1 B' H2) : Ex B H2 := e.trans g.hh
theorem EvN.toD (h : EvN te σ B H ds) : EvD te σ B H (.list ds) := fun H1 e Q q => h H1 e Q fun p xs B' H2 g n nb h2 a =>
  q (.ref p) (upd B' p (.lst xs)) H2 ⟨g.hh, g.bb.trans (Ex.new nb), fun a w k => by
    by_cases z : a = p
    · subst z; rw [upd_same] at k; cases k; exact h2
    · rw [upd_ne z] at k; exact g.bh a w k, fun a h1 h2 => by
    have : a ≠ p := fun z => h1 (by rw [z]; exact n)
    rw [upd_ne this]; exact g.old a h1 h2⟩ (.lst upd_same (a.ex (Ex.new nb)))
theorem ed_ev (eb : Ex B H) (h : Ev te σ H v) (k : Da B v d) : EvD te σ B H d := fun H1 e Q q => h H1 e Q fun H2 e2 => q v B H2 (Gr.same (eb.trans e) e2) k
theorem ed_var {n : Nat} (eb : Ex B H) (h : σ[n]? = some (some v)) (k : Da B v d) : EvD (tVar n) σ B H d := ed_ev eb (ev_var h) k
theorem ev_int (h : EvD te σ B H (.int i)) : Ev te σ H (.int i) := fun H1 e Q q => h H1 e Q fun v B' H2 g k => by rw [k.int_inv]; exact q H2 g.hh
theorem ev_bl {b : Bool} (h : EvD te σ B H (.bool b)) : Ev te σ H (.bl b) := fun H1 e Q q => h H1 e Q fun v B' H2 g k => by rw [k.bl_inv]; exact q H2 g.hh
theorem ev_non (h : EvD te σ B H .none) : Ev te σ H .non := fun H1 e Q q => h H1 e Q fun v B' H2 g k => by rw [k.non_inv]; exact q H2 g.hh
theorem edi (eb : Ex B H) (h : Ev te σ H (.int i)) : EvD te σ B H (.int i) := ed_ev eb h (.int i)
theorem edb {b : Bool} (eb : Ex B H) (h : Ev te σ H (.bl b)) : EvD te σ B H (.bool b) := ed_ev eb h (.bl b)
theorem ed_up {H' : Hp} (e : Ex H H') (h : EvD te σ B H d) : EvD te σ B H' d := fun H1 k => h H1 (e.trans k)
theorem en_up {H' : Hp} (e : Ex H H') (h : EvN te σ B H ds) : EvN te σ B H' ds := fun H1 k => h H1 (e.trans k)
/-- items by place -/
def atD (ds : List PyData) (i : Int) : Option PyData := atI ds i
theorem ixN_of {n : Nat} {i : Int} {j : Nat} (h : i = (j : Int)) (hj : j < n) : ixN n i = some j := by
  subst h; exact Evl.ixN_nat hj
theorem atD_nat {i : Int} {j : Nat} (h : i = (j : Int)) (hd : ds[j]? = some d) : atD ds i = some d := by
  unfold atD atI
  rw [ixN_of h (List.getElem?_eq_some_iff.mp hd).1]; exact hd
theorem atD_last (h : ds.getLast? = some d) : atD ds (-1) = some d := by
  have hl : ds.length ≠ 0 := fun z => by
    have : ds = [] := List.length_eq_zero_iff.mp z
    rw [this] at h; cases h
  unfold atD atI ixN
  rw [if_neg (by omega), if_pos (by omega)]
  show ds[((-1 : Int) + ds.length).toNat]? = some d
  rw [List.getLast?_eq_getElem?] at h
  rw [← h]; congr 1; omega
theorem at_of_da {xs : List V} (k : DaAll B xs ds) (h : atD ds i = some d) : ∃ v, atI xs i = some v ∧ Da B v d := by
  unfold atD at h
  unfold atI at h ⊢
  rw [k.len]
  cases e : ixN ds.length i with
  | none => rw [e] at h; cases h
  | some j =>
    rw [e] at h
    exact k.get h
theorem ed_ixL (ha : EvD ta σ B H (.list ds)) (hb : Ev tb σ H (.int i)) (h : atD ds i = some d) : EvD (tOp (rIxL K) ta tb) σ B H d := fun H1 e Q q =>
  ha H1 e _ fun v B1 H2 g k => hb H2 (e.trans g.hh) _ fun H3 e3 => by
    obtain ⟨a, xs, rfl, h1, h2⟩ := k.lst_inv
    obtain ⟨w, hw, dw⟩ := at_of_da h2 h
    exact ⟨a, xs, i, w, rfl, rfl, SqL.of (e3 _ _ (g.bh _ _ h1)), hw, q w B1 H3 (g.trans (Gr.same g.bh e3)) dw⟩
theorem ed_ixT (ha : EvD ta σ B H (.tuple ds)) (hb : Ev tb σ H (.int i)) (h : atD ds i = some d) : EvD (tOp (rIxT K) ta tb) σ B H d := fun H1 e Q q =>
  ha H1 e _ fun v B1 H2 g k => hb H2 (e.trans g.hh) _ fun H3 e3 => by
    obtain ⟨a, xs, rfl, h1, h2⟩ := k.tup_inv
    obtain ⟨w, hw, dw⟩ := at_of_da h2 h
    exact ⟨a, xs, i, w, rfl, rfl, SqT.of (e3 _ _ (g.bh _ _ h1)), hw, q w B1 H3 (g.trans (Gr.same g.bh e3)) dw⟩
/-- an item of one's own list -/
theorem ev_ixO {p : Addr} {xs : List V} (ha : Ev ta σ H (.ref p)) (hp : H p = some (.lst xs)) (hb : Ev tb σ H (.int i)) (h : atI xs i = some v) : Ev (tOp (rIxL K) ta tb) σ H v := ev_op ha hb (Evl.rv_ixL (SqL.of hp) h)
theorem ev_I0 {g : Int → Int → V} (ha : Ev ta σ H (.int i)) (hb : Ev tb σ H (.int j)) : Ev (tOp (rI0 g) ta tb) σ H (g i j) := ev_op ha hb rv_I0
theorem ev_I {C : Int → Int → Prop} {g : Int → Int → V} (ha : Ev ta σ H (.int i)) (hb : Ev tb σ H (.int j)) (hc : C i j) : Ev (tOp (rI C g) ta tb) σ H (g i j) := ev_op ha hb (rv_I hc)
theorem ev_eq (ha : Ev ta σ H x) (hb : Ev tb σ H y) (h : scal x y = true) : Ev (tOp rEq ta tb) σ H (.bl (decide (x = y))) := ev_op ha hb (rv_eq h)
theorem ev_ne (ha : Ev ta σ H x) (hb : Ev tb σ H y) (h : scal x y = true) : Ev (tOp rNe ta tb) σ H (.bl (!decide (x = y))) := ev_op ha hb (rv_ne h)
theorem dec_int (i j : Int) : decide (V.int i = V.int j) = decide (i = j) := by
  by_cases e : i = j
  · subst e; simp
  · have : ¬ V.int i = V.int j := fun z => e (V.int.inj z)
    rw [decide_eq_false this, decide_eq_false e]
theorem ev_eqI (ha : Ev ta σ H (.int i)) (hb : Ev tb σ H (.int j)) : Ev (tOp rEq ta tb) σ H (.bl (decide (i = j))) := by
  rw [← dec_int]; exact ev_eq ha hb rfl
theorem ev_neI (ha : Ev ta σ H (.int i)) (hb : Ev tb σ H (.int j)) : Ev (tOp rNe ta tb) σ H (.bl (!decide (i = j))) := by
  rw [← dec_int]; exact ev_ne ha hb rfl
theorem ev_isN (ha : Ev ta σ H x) : Ev (tIsN ta) σ H (.bl (decide (x = .non))) := fun H1 e Q q => ha H1 e _ fun H2 e2 => q H2 e2
theorem ev_notN (ha : Ev ta σ H x) : Ev (tNotN ta) σ H (.bl (!decide (x = .non))) := fun H1 e Q q => ha H1 e _ fun H2 e2 => q H2 e2
/-- in a tuple, in a list of flat things -/
theorem ev_inT {neg : Bool} {xs : List V} (ha : Ev ta σ H x) (hb : EvD tb σ B H (.tuple ds)) (hx : flatV x = true) (hd : ∀ H' vs, DaAll H' vs ds → vs = xs) (ha' : xs.all flatV = true) : Ev (tOp (rIn K neg) ta tb) σ H (.bl (if neg then !inV x xs else inV x xs)) := fun H1 e Q q =>
  ha H1 e _ fun H2 e2 => hb H2 (e.trans e2) _ fun v B1 H3 g k => by
    obtain ⟨a, ys, rfl, h1, h2⟩ := k.tup_inv
    have := hd _ _ h2
    subst this
    exact ⟨a, ys, rfl, .inr (SqT.of (g.bh _ _ h1)), hx, ha', q H3 (e2.trans g.hh)⟩
theorem ev_inL {neg : Bool} {xs : List V} (ha : Ev ta σ H x) (hb : EvD tb σ B H (.list ds)) (hx : flatV x = true) (hd : ∀ H' vs, DaAll H' vs ds → vs = xs) (ha' : xs.all flatV = true) : Ev (tOp (rIn K neg) ta tb) σ H (.bl (if neg then !inV x xs else inV x xs)) := fun H1 e Q q =>
  ha H1 e _ fun H2 e2 => hb H2 (e.trans e2) _ fun v B1 H3 g k => by
    obtain ⟨a, ys, rfl, h1, h2⟩ := k.lst_inv
    have := hd _ _ h2
    subst this
    exact ⟨a, ys, rfl, .inl (SqL.of (g.bh _ _ h1)), hx, ha', q H3 (e2.trans g.hh)⟩
theorem inV_ints (i : Int) : ∀ ns : List Int, inV (.int i) (ns.map V.int) = decide (i ∈ ns)
  | [] => rfl
  | n :: ns => by
    show (eqV (.int n) (.int i) || inV (.int i) (ns.map V.int)) = _
    rw [inV_ints i ns]
    show ((n == i) || _) = _
    by_cases e : n = i
    · subst e; simp
    · have e' : ¬ i = n := fun z => e z.symm
      simp [e, e']
theorem flat_ints : ∀ ns : List Int, (ns.map V.int).all flatV = true
  | [] => rfl
  | n :: ns => by show (true && _) = true; rw [flat_ints ns]; rfl
theorem ev_inTi {ns : List Int} (ha : Ev ta σ H (.int i)) (hb : EvD tb σ B H (.tuple (ns.map PyData.int))) : Ev (tOp (rIn K false) ta tb) σ H (.bl (decide (i ∈ ns))) := by
  rw [← inV_ints]; exact ev_inT (neg := false) ha hb rfl (fun _ _ k => k.ints_inv) (flat_ints ns)
theorem ev_inLi {ns : List Int} (ha : Ev ta σ H (.int i)) (hb : EvD tb σ B H (.list (ns.map PyData.int))) : Ev (tOp (rIn K false) ta tb) σ H (.bl (decide (i ∈ ns))) := by
  rw [← inV_ints]; exact ev_inL (neg := false) ha hb rfl (fun _ _ k => k.ints_inv) (flat_ints ns)
theorem ev_niLi {ns : List Int} (ha : Ev ta σ H (.int i)) (hb : EvD tb σ B H (.list (ns.map PyData.int))) : Ev (tOp (rIn K true) ta tb) σ H (.bl (!decide (i ∈ ns))) := by
  rw [← inV_ints]; exact ev_inL (neg := true) ha hb rfl (fun _ _ k => k.ints_inv) (flat_ints ns)
theorem et_t {b : Bool} (h : Ev te σ H (.bl b)) : EvT (tTest te) σ H b := et_test h
/-! displays -/
theorem eds_nil (eb : Ex B H) : EvDs tNil σ B H [] := fun H1 e Q q => q [] B H1 (Gr.refl (eb.trans e)) .nil
theorem eds_cons {tr : TA} (h : EvD ta σ B H d) (hr : EvDs tr σ B H ds) : EvDs (tCons ta tr) σ B H (d :: ds) := fun H1 e Q q =>
  h H1 e _ fun v B1 H2 g k => hr H2 (e.trans g.hh) _ fun vs B2 H3 g2 k2 => by
    obtain ⟨g3, u1, u2⟩ := g.un g2
    exact q (v :: vs) _ H3 g3 (.cons (k.ex u1) (k2.ex u2))
theorem ed_two (ha : EvD ta σ B H d1) (hb : EvD tb σ B H d2) {H1 : Hp} (e : Ex H H1) {Q : V → V → Hp → Prop} (q : ∀ x y B' H', Gr B H1 B' H' → Da B' x d1 → Da B' y d2 → Q x y H') : ta σ H1 fun x H2 => tb σ H2 fun y H3 => Q x y H3 :=
  ha H1 e _ fun v B1 H2 g k => hb H2 (e.trans g.hh) _ fun w B2 H3 g2 k2 => by
    obtain ⟨g3, u1, u2⟩ := g.un g2
    exact q v w _ H3 g3 (k.ex u1) (k2.ex u2)
theorem ed_tup {ta : TA} (h : EvDs ta σ B H ds) (hl : ds.length ≤ 100000 := by simp) : EvD (tTup ta) σ B H (.tuple ds) := fun H1 e Q q =>
  h H1 e _ fun vs B1 H2 g k => ⟨sz_of (by rw [k.len]; exact hl), fun p hp => q (.ref p) (upd B1 p (.tup vs)) _ (g.trans (Gr.new g.bh hp)) (.tup upd_same (k.ex (Ex.new (base_none g.bh hp))))⟩
theorem en_lst {ta : TA} (h : EvDs ta σ B H ds) (hl : ds.length ≤ 100000 := by simp) : EvN (tLst ta) σ B H ds := fun H1 e Q q =>
  h H1 e _ fun vs B1 H2 g k => ⟨sz_of (by rw [k.len]; exact hl), fun p hp => q p vs B1 _ ⟨g.hh.trans (Ex.new hp), g.bb, g.bh.trans (Ex.new hp), g.old⟩ (base_none g.hh hp) (base_none g.bh hp) upd_same k⟩
theorem en_nil (eb : Ex B H) : EvN (tLst tNil) σ B H [] := en_lst (eds_nil eb) (Nat.zero_le _)
/-- data equal, unequal -/
theorem ev_eqD (ha : EvD ta σ B H d1) (hb : EvD tb σ B H d2) (h1 : SeqAt.shaped d1 = true) (h2 : SeqAt.shaped d2 = true) : Ev (tOp (rEqD K) ta tb) σ H (.bl (PyData.eqv d1 d2)) := fun H1 e Q q =>
  ed_two ha hb e fun x y B' H' g k1 k2 => ⟨d1, d2, (k1.ex g.bh).dp (SeqAt.canLay_of_shaped h1), (k2.ex g.bh).dp (SeqAt.canLay_of_shaped h2), h1, h2, q H' g.hh⟩
theorem ev_neD (ha : EvD ta σ B H d1) (hb : EvD tb σ B H d2) (h1 : SeqAt.shaped d1 = true) (h2 : SeqAt.shaped d2 = true) : Ev (tOp (rNeD K) ta tb) σ H (.bl (!PyData.eqv d1 d2)) := fun H1 e Q q =>
  ed_two ha hb e fun x y B' H' g k1 k2 => ⟨d1, d2, (k1.ex g.bh).dp (SeqAt.canLay_of_shaped h1), (k2.ex g.bh).dp (SeqAt.canLay_of_shaped h2), h1, h2, q H' g.hh⟩
/-! lists made of lists -/
theorem en_cat (ha : EvD ta σ B H (.list ds)) (hb : EvD tb σ B H (.list es)) (hl : ds.length + es.length ≤ 100000) : EvN (tOp rCat ta tb) σ B H (ds ++ es) := fun H1 e Q q =>
  ed_two ha hb e fun x y B' H' g k1 k2 => by
    obtain ⟨a, xs, rfl, h1, h2⟩ := k1.lst_inv
    obtain ⟨b, ys, rfl, h3, h4⟩ := k2.lst_inv
    exact ⟨a, b, xs, ys, rfl, rfl, g.bh _ _ h1, g.bh _ _ h3, sz_of (by rw [h2.len, h4.len]; exact hl), fun p hp =>
      q p (xs ++ ys) B' _ (g.trans (Gr.same g.bh (Ex.new hp))) (base_none g.hh hp) (base_none g.bh hp) upd_same (h2.append h4)⟩
theorem en_rep (ha : EvD ta σ B H (.list ds)) (hb : Ev tb σ H (.int i)) (hi : 0 ≤ i ∧ i ≤ 100000) (hl : ds.length * i.toNat ≤ 100000) : EvN (tOp rRep ta tb) σ B H (List.replicate i.toNat ds).flatten := fun H1 e Q q =>
  ha H1 e _ fun v B1 H2 g k => hb H2 (e.trans g.hh) _ fun H3 e3 => by
    obtain ⟨a, xs, rfl, h1, h2⟩ := k.lst_inv
    have g' := g.trans (Gr.same g.bh e3)
    exact ⟨a, i, xs, rfl, rfl, g'.bh _ _ h1, by omega, by omega, sz_of (by rw [h2.len]; exact hl), fun p hp =>
      q p _ B1 _ (g'.trans (Gr.same g'.bh (Ex.new hp))) (base_none g'.hh hp) (base_none g'.bh hp) upd_same (h2.rep _)⟩
/-- a slice from here to there, both told from the front or left out -/
theorem cut_da {xs : List V} {lo hi : Option Int} (k : DaAll B xs ds) : DaAll B (cutV xs lo hi) ((ds.drop (HT.sIx ds.length 0 lo)).take (HT.sIx ds.length ds.length hi - HT.sIx ds.length 0 lo)) := by
  unfold cutV
  rw [k.len]
  exact (k.drop _).take _
def cutD (ds : List PyData) (lo hi : Option Int) : List PyData := (ds.drop (HT.sIx ds.length 0 lo)).take (HT.sIx ds.length ds.length hi - HT.sIx ds.length 0 lo)
theorem en_sl {tl th : TO} {lo hi : Option Int} (h : EvD te σ B H (.list ds)) (h1 : Evl.EvO tl σ H lo) (h2 : Evl.EvO th σ H hi) : EvN (tSl (rSlL K) te tl th) σ B H (cutD ds lo hi) := fun H1 e Q q =>
  h H1 e _ fun v B1 H2 g k => h1 H2 (e.trans g.hh) _ fun H3 e3 => h2 H3 ((e.trans g.hh).trans e3) _ fun H4 e4 => by
    obtain ⟨a, xs, rfl, q1, q2⟩ := k.lst_inv
    have g' := g.trans (Gr.same g.bh (e3.trans e4))
    exact ⟨a, xs, rfl, SqL.of (g'.bh _ _ q1), fun p hp => q p _ B1 _ (g'.trans (Gr.same g'.bh (Ex.new hp))) (base_none g'.hh hp) (base_none g'.bh hp) upd_same (cut_da q2)⟩
theorem cutD_to {n : Nat} : cutD ds none (some (n : Int)) = ds.take n := by
  unfold cutD
  rw [HT.sIx_none, HT.sIx_nat, List.drop_zero, Nat.sub_zero]
  by_cases h : n ≤ ds.length
  · rw [Nat.min_eq_left h]
  · rw [Nat.min_eq_right (by omega), List.take_length, List.take_of_length_le (by omega)]
theorem cutD_from {n : Nat} : cutD ds (some (n : Int)) none = ds.drop n := by
  unfold cutD
  rw [HT.sIx_none, HT.sIx_nat]
  by_cases h : n ≤ ds.length
  · rw [Nat.min_eq_left h, List.take_of_length_le (by rw [List.length_drop]; exact Nat.le_refl _)]
  · rw [Nat.min_eq_right (by omega), List.drop_length, List.drop_of_length_le (by omega), List.take_nil]
/-! calls of built-in names -/
theorem ev_lenD (h : EvD ta σ B H (.list ds)) : Ev (tCB (fun xs H Q => ∃ p ys, xs = [.ref p] ∧ (SqL K H p ys ∨ SqT K H p ys) ∧ Q (.int ys.length) H) (tCons ta tNil)) σ H (.int (ds.length : Int)) := fun H1 e Q q =>
  h H1 e _ fun v B1 H2 g k => by
    obtain ⟨a, xs, rfl, q1, q2⟩ := k.lst_inv
    exact ⟨a, xs, rfl, .inl (SqL.of (g.bh _ _ q1)), by rw [q2.len]; exact q H2 g.hh⟩
theorem ev_lenT (h : EvD ta σ B H (.tuple ds)) : Ev (tCB (fun xs H Q => ∃ p ys, xs = [.ref p] ∧ (SqL K H p ys ∨ SqT K H p ys) ∧ Q (.int ys.length) H) (tCons ta tNil)) σ H (.int (ds.length : Int)) := fun H1 e Q q =>
  h H1 e _ fun v B1 H2 g k => by
    obtain ⟨a, xs, rfl, q1, q2⟩ := k.tup_inv
    exact ⟨a, xs, rfl, .inr (SqT.of (g.bh _ _ q1)), by rw [q2.len]; exact q H2 g.hh⟩
theorem ev_lenO {p : Addr} {xs : List V} (h : Ev ta σ H (.ref p)) (hp : H p = some (.lst xs)) : Ev (tCB (fun xs H Q => ∃ p ys, xs = [.ref p] ∧ (SqL K H p ys ∨ SqT K H p ys) ∧ Q (.int ys.length) H) (tCons ta tNil)) σ H (.int (xs.length : Int)) := fun H1 e Q q =>
  h H1 e _ fun H2 e2 => ⟨p, xs, rfl, .inl (SqL.of (e2 _ _ (e _ _ hp))), q H2 e2⟩
theorem en_list (h : EvD ta σ B H (.list ds)) : EvN (tCB (fun xs H Q => ∃ p ys, xs = [.ref p] ∧ (SqL K H p ys ∨ SqT K H p ys) ∧ ∀ l, H l = none → Q (.ref l) (upd H l (.lst ys))) (tCons ta tNil)) σ B H ds := fun H1 e Q q =>
  h H1 e _ fun v B1 H2 g k => by
    obtain ⟨a, xs, rfl, q1, q2⟩ := k.lst_inv
    exact ⟨a, xs, rfl, .inl (SqL.of (g.bh _ _ q1)), fun p hp => q p xs B1 _ (g.trans (Gr.same g.bh (Ex.new hp))) (base_none g.hh hp) (base_none g.bh hp) upd_same q2⟩
/-- list(range(..)) -/
theorem en_rg1 (eb : Ex B H) (h : Ev ta σ H (.int i)) (hi : 0 ≤ i ∧ i ≤ 100000) : EvN (tLstRg (tRg1 ta)) σ B H ((List.range i.toNat).map fun (k : Nat) => PyData.int (k : Int)) := fun H1 e Q q =>
  h H1 e _ fun H2 e2 => ⟨i, rfl, ⟨by omega, by omega, by omega, by omega, by omega⟩, fun p hp => q p _ B _ (Gr.same (eb.trans e) (e2.trans (Ex.new hp))) (base_none e2 hp) (base_none ((eb.trans e).trans e2) hp) upd_same (by
    have : rgV 0 i = ((List.range i.toNat).map fun (k : Nat) => (k : Int)).map V.int := by
      unfold rgV
      rw [List.map_map]
      have e0 : (i - 0).toNat = i.toNat := by omega
      rw [e0]
      apply List.map_congr_left
      intro k _
      show V.int (0 + (k : Int)) = V.int (k : Int)
      rw [Int.zero_add]
    rw [this]
    have e1 : ((List.range i.toNat).map fun (k : Nat) => PyData.int (k : Int)) = ((List.range i.toNat).map fun (k : Nat) => (k : Int)).map PyData.int := by rw [List.map_map]; rfl
    rw [e1]
    exact .ints)⟩
theorem ev_sum {ns : List Int} (h : EvD ta σ B H (.list (ns.map PyData.int))) : Ev (tCB (rSum K) (tCons ta tNil)) σ H (.int ns.sum) := fun H1 e Q q =>
  h H1 e _ fun v B1 H2 g k => by
    obtain ⟨a, xs, rfl, q1, q2⟩ := k.lst_inv
    have := q2.ints_inv
    subst this
    exact ⟨a, ns, rfl, SqL.of (g.bh _ _ q1), q H2 g.hh⟩
theorem ev_all {bs : List Bool} (h : EvD ta σ B H (.list (bs.map PyData.bool))) : Ev (tCB (rAll K) (tCons ta tNil)) σ H (.bl (bs.all id)) := fun H1 e Q q =>
  h H1 e _ fun v B1 H2 g k => by
    obtain ⟨a, xs, rfl, q1, q2⟩ := k.lst_inv
    have := q2.bls_inv
    subst this
    exact ⟨a, bs, rfl, SqL.of (g.bh _ _ q1), q H2 g.hh⟩
theorem ev_any {bs : List Bool} (h : EvD ta σ B H (.list (bs.map PyData.bool))) : Ev (tCB (rAny K) (tCons ta tNil)) σ H (.bl (bs.any id)) := fun H1 e Q q =>
  h H1 e _ fun v B1 H2 g k => by
    obtain ⟨a, xs, rfl, q1, q2⟩ := k.lst_inv
    have := q2.bls_inv
    subst this
    exact ⟨a, bs, rfl, SqL.of (g.bh _ _ q1), q H2 g.hh⟩
theorem ev_abs (h : Ev ta σ H (.int i)) : Ev (tCB (fun xs H Q => ∃ i, xs = [.int i] ∧ Q (.int (if i < 0 then -i else i)) H) (tCons ta tNil)) σ H (.int (i.natAbs : Int)) := fun H1 e Q q =>
  h H1 e _ fun H2 e2 => ⟨i, rfl, by
    have : (if i < 0 then -i else i) = (i.natAbs : Int) := by split <;> omega
    rw [this]; exact q H2 e2⟩
/-! relational: one of several answers -/
def EvS (te : TE) (σ : L2.St) (B H : Hp) (P : PyData → Prop) : Prop := ∀ H1, Ex H H1 → ∀ Q : VK, (∀ d v B' H2, P d → Gr B H1 B' H2 → Da B' v d → Q v H2) → te σ H1 Q
def EvM (te : TE) (σ : L2.St) (B H : Hp) (P : List PyData → Prop) : Prop := ∀ H1, Ex H H1 → ∀ Q : VK, (∀ ds p xs B' H2, P ds → Gr B H1 B' H2 → H1 p = none → B' p = none → H2 p = some (.lst xs) → DaAll B' xs ds → Q (.ref p) H2) → te σ H1 Q
theorem EvN.toM (h : EvN te σ B H ds) : EvM te σ B H (· = ds) := fun H1 e Q q => h H1 e Q fun p xs B' H2 g n nb hp k => q ds p xs B' H2 rfl g n nb hp k
theorem EvD.toS (h : EvD te σ B H d) : EvS te σ B H (· = d) := fun H1 e Q q => h H1 e Q fun v B' H2 g k => q d v B' H2 rfl g k
theorem fixD {H1 B' H2 : Hp} {p : Addr} {xs : List V} (g : Gr B H1 B' H2) (n : H1 p = none) (nb : B' p = none) (h2 : H2 p = some (.lst xs)) : Gr B H1 (upd B' p (.lst xs)) H2 :=
  ⟨g.hh, g.bb.trans (Ex.new nb), fun a w k => by
    by_cases z : a = p
    · subst z; rw [upd_same] at k; cases k; exact h2
    · rw [upd_ne z] at k; exact g.bh a w k, fun a h1 h2 => by
    have : a ≠ p := fun z => h1 (by rw [z]; exact n)
    rw [upd_ne this]; exact g.old a h1 h2⟩
theorem EvM.toS {P : List PyData → Prop} (h : EvM te σ B H P) : EvS te σ B H (fun d => ∃ ds, d = .list ds ∧ P ds) := fun H1 e Q q => h H1 e Q fun ds p xs B' H2 pd g n nb h2 a =>
  q (.list ds) (.ref p) (upd B' p (.lst xs)) H2 ⟨ds, rfl, pd⟩ (fixD g n nb h2) (.lst upd_same (a.ex (Ex.new nb)))
def RetM (B H : Hp) (P : List PyData → Prop) (Q : VK) : Prop := ∀ ds p xs B' H2, P ds → Gr B H B' H2 → H p = none → B' p = none → H2 p = some (.lst xs) → DaAll B' xs ds → Q (.ref p) H2
/-! ### statements -/
section
variable {Dn : Ends} {tu tw tz : TS} {n : Nat}
theorem s_asgD (h : EvD te σ B H d) (k : ∀ v B' H', Gr B H B' H' → Da B' v d → Dn.nx (σ.set n (some v)) H') : tAsg te (gName n) Dn σ H := h H (Ex.refl H) _ k
theorem s_asgN (h : EvN te σ B H ds) (k : ∀ p xs B' H', Gr B H B' H' → H p = none → B' p = none → H' p = some (.lst xs) → DaAll B' xs ds → Dn.nx (σ.set n (some (.ref p))) H') : tAsg te (gName n) Dn σ H := h H (Ex.refl H) _ k
theorem s_asgM {P : List PyData → Prop} (h : EvM te σ B H P) (k : ∀ ds p xs B' H', P ds → Gr B H B' H' → H p = none → B' p = none → H' p = some (.lst xs) → DaAll B' xs ds → Dn.nx (σ.set n (some (.ref p))) H') : tAsg te (gName n) Dn σ H := h H (Ex.refl H) _ k
theorem s_retD (h : EvD te σ B H d) (k : RetD B H d Dn.rt) : tRet te Dn σ H := h H (Ex.refl H) _ k
theorem s_retN (h : EvN te σ B H ds) (k : RetN B H ds Dn.rt) : tRet te Dn σ H := h H (Ex.refl H) _ k
theorem s_retM {P : List PyData → Prop} (h : EvM te σ B H P) (k : RetM B H P Dn.rt) : tRet te Dn σ H := h H (Ex.refl H) _ k
theorem s_appD {l : Addr} {xs : List V} (hl : H l = some (.lst xs)) (ha : Ev ta σ H (.ref l)) (h : EvD te σ B H d) (hz : xs.length < 100000) (k : ∀ v B' H1, Gr B H B' H1 → Da B' v d → Dn.nx σ (upd H1 l (.lst (xs ++ [v])))) :
    tDrop (tBM K "list" rAppend ta (tCons te tNil)) Dn σ H := ha H (Ex.refl H) _ fun H1 e1 =>
  ⟨Or.inl ⟨rfl, xs, Evl.sq_of (e1 l _ hl)⟩, h H1 e1 _ fun v B' H2 g k2 => by
    have g' : Gr B H B' H2 := ⟨e1.trans g.hh, g.bb, g.bh, fun a h1 h2 => g.old a (ex_ne e1 h1) h2⟩
    exact ⟨l, xs, v, rfl, rfl, g'.hh l _ hl, sz_lt hz, k v B' H2 g' k2⟩⟩
/-- xs.pop() as a value -/
theorem s_popAsg {l : Addr} {xs : List V} (hl : H l = some (.lst xs)) (ha : Ev ta σ H (.ref l)) (hx : xs[xs.length - 1]? = some v) (k : ∀ H1, Ex H H1 → Dn.nx (σ.set n (some v)) (upd H1 l (.lst xs.dropLast))) :
    tAsg (tBM0 K "list" rPop ta) (gName n) Dn σ H := ha H (Ex.refl H) _ fun H1 e1 =>
  ⟨Or.inl ⟨rfl, xs, Evl.sq_of (e1 l _ hl)⟩, l, xs, v, rfl, rfl, e1 l _ hl, hx, k H1 e1⟩
theorem s_popDrop {l : Addr} {xs : List V} (hl : H l = some (.lst xs)) (ha : Ev ta σ H (.ref l)) (hx : xs[xs.length - 1]? = some v) (k : ∀ H1, Ex H H1 → Dn.nx σ (upd H1 l (.lst xs.dropLast))) :
    tDrop (tBM0 K "list" rPop ta) Dn σ H := ha H (Ex.refl H) _ fun H1 e1 =>
  ⟨Or.inl ⟨rfl, xs, Evl.sq_of (e1 l _ hl)⟩, l, xs, v, rfl, rfl, e1 l _ hl, hx, k H1 e1⟩
theorem s_wh (W : Nat → L2.St → Hp → Prop) (m0 : Nat) (h0 : W m0 σ H)
    (hs : ∀ m σ' H', W m σ' H' → ∃ b, EvT t σ' H' b ∧ (b = true → ∀ H1, Ex H' H1 → tu { Dn with nx := fun σ2 H2 => ∃ m', m' < m ∧ W m' σ2 H2, ct := fun σ2 H2 => ∃ m', m' < m ∧ W m' σ2 H2, bk := Dn.nx } σ' H1) ∧ (b = false → ∀ H1, Ex H' H1 → Dn.nx σ' H1)) : tWhile t tu Dn σ H :=
  Evl.s_while W m0 h0 fun m σ' H' w => by
    obtain ⟨b, hb, h1, h2⟩ := hs m σ' H' w
    exact ⟨b, hb, fun e H1 x => ⟨_, fun _ _ z => z, h1 e H1 x⟩, h2⟩
end
/-! ### what is walked -/
def EvI {α : Type} (wi : TI) (σ : L2.St) (B H : Hp) (dt : α → PyData) (P : List α → Prop) : Prop := ∀ H1, Ex H H1 → ∀ R : It → Hp → Prop, (∀ l J B2 H2, P l → Gr B H1 B2 H2 →
  (∃ G Y, Walk J l.length G Y ∧ (∀ H', Ex B2 H' → G H') ∧ ∀ i a x Bc H' H'', l[i]? = some a → Ex B2 Bc → Ex Bc H' → Y i H' x H'' → ∃ B3, Gr Bc H' B3 H'' ∧ Da B3 x (dt a)) → R J H2) → wi σ H1 R
theorem da_map {α : Type} {dt : α → PyData} {l : List α} {xs : List V} {Bc : Hp} (k : DaAll Bc xs (l.map dt)) {i : Nat} {a : α} (h : l[i]? = some a) {x : V} (hx : xs[i]? = some x) : Da Bc x (dt a) := by
  obtain ⟨d, h1, h2⟩ := k.at hx
  rw [List.getElem?_map, h] at h1
  cases h1
  exact h2
theorem ei_list {α : Type} {dt : α → PyData} {l : List α} (h : EvD tl σ B H (.list (l.map dt))) : EvI (iList K tl) σ B H dt (· = l) := fun H1 e R q => h H1 e _ fun v B2 H2 g k => by
  obtain ⟨a, xs, rfl, h1, h2⟩ := k.lst_inv
  refine ⟨a, rfl, ⟨xs, SqL.of (g.bh _ _ h1)⟩, q l _ B2 H2 rfl g ⟨_, _, by have w := walk_list (K := K) (a := a) (xs := xs); rw [h2.len, List.length_map] at w; exact w, fun H' e' => SqL.of (e' _ _ h1), fun i b x Bc H' H'' hi e1 e2 y => ?_⟩⟩
  obtain ⟨rfl, hx⟩ := y
  exact ⟨Bc, Gr.refl e2, (da_map h2 hi hx).ex e1⟩
theorem ei_listM {α : Type} {dt : α → PyData} {P : List α → Prop} (h : EvM tl σ B H (fun ds => ∃ l, P l ∧ ds = l.map dt)) : EvI (iList K tl) σ B H dt P := fun H1 e R q => h.toS H1 e _ fun d v B2 H2 pd g k => by
  obtain ⟨ds, rfl, l, pl, rfl⟩ := pd
  obtain ⟨a, xs, rfl, h1, h2⟩ := k.lst_inv
  refine ⟨a, rfl, ⟨xs, SqL.of (g.bh _ _ h1)⟩, q l _ B2 H2 pl g ⟨_, _, by have w := walk_list (K := K) (a := a) (xs := xs); rw [h2.len, List.length_map] at w; exact w, fun H' e' => SqL.of (e' _ _ h1), fun i b x Bc H' H'' hi e1 e2 y => ?_⟩⟩
  obtain ⟨rfl, hx⟩ := y
  exact ⟨Bc, Gr.refl e2, (da_map h2 hi hx).ex e1⟩
theorem ei_tup {α : Type} {dt : α → PyData} {l : List α} (h : EvD tl σ B H (.tuple (l.map dt))) : EvI (iTup K tl) σ B H dt (· = l) := fun H1 e R q => h H1 e _ fun v B2 H2 g k => by
  obtain ⟨a, xs, rfl, h1, h2⟩ := k.tup_inv
  refine ⟨a, rfl, ⟨xs, SqT.of (g.bh _ _ h1)⟩, q l _ B2 H2 rfl g ⟨_, _, by have w := walk_tup (K := K) (a := a) (xs := xs); rw [h2.len, List.length_map] at w; exact w, fun H' e' => SqT.of (e' _ _ h1), fun i b x Bc H' H'' hi e1 e2 y => ?_⟩⟩
  obtain ⟨rfl, hx⟩ := y
  exact ⟨Bc, Gr.refl e2, (da_map h2 hi hx).ex e1⟩
theorem ei_rg1 (eb : Ex B H) {n : Int} (h : Ev ta σ H (.int n)) (hn : 0 ≤ n ∧ n ≤ 100000) : EvI (iRng1 (tCons ta tNil)) σ B H (fun (k : Nat) => PyData.int (k : Int)) (· = List.range n.toNat) := fun H1 e R q => h H1 e _ fun H2 e2 => by
  refine ⟨n, rfl, by omega, by omega, q _ _ B H2 rfl (Gr.same (eb.trans e) e2) ⟨_, _, by have w := walk_range (lo := 0) (n := n.toNat); rw [List.length_range]; exact w, fun _ _ => trivial, fun i b x Bc H' H'' hi e1 e2 y => ?_⟩⟩
  obtain ⟨rfl, rfl⟩ := y
  have hb := List.getElem?_eq_some_iff.mp hi
  obtain ⟨h1, h2⟩ := hb
  rw [List.getElem_range] at h2
  subst h2
  show ∃ B3, Gr Bc H'' B3 H'' ∧ Da B3 (.int (0 + (i : Int))) (.int (i : Int))
  rw [Int.zero_add]
  exact ⟨Bc, Gr.refl e2, .int _⟩
theorem da_two {v : V} {d1 d2 : PyData} {Bc : Hp} (k : Da Bc v (.tuple [d1, d2])) : ∃ T x y, v = .ref T ∧ Bc T = some (.tup [x, y]) ∧ Da Bc x d1 ∧ Da Bc y d2 := by
  obtain ⟨T, xs, rfl, h1, h2⟩ := k.tup_inv
  match xs, h2 with
  | [x, y], .cons a (.cons b .nil) => exact ⟨T, x, y, rfl, h1, a, b⟩
/-- for x in .. -/
theorem s_for {α : Type} {dt : α → PyData} {P : List α → Prop} {wi : TI} {j : Nat} {tu : TS} {Dn : Ends} (h : EvI wi σ B H dt P) (Pv : List α → Hp → Nat → L2.St → Hp → Prop) (h0 : ∀ l B2 H2, P l → Gr B H B2 H2 → Pv l B2 0 σ H2)
    (hb : ∀ l B2 i σ' H', Pv l B2 i σ' H' → Ex B2 H')
    (hs : ∀ l B2 i a x B3 σ' H' H'', P l → l[i]? = some a → Pv l B2 i σ' H' → Gr B2 H' B3 H'' → Da B3 x (dt a) → tu { Dn with nx := Pv l B2 (i + 1), ct := Pv l B2 (i + 1), bk := Dn.nx } (σ'.set j (some x)) H'')
    (hd : ∀ l B2 σ' H', P l → Pv l B2 l.length σ' H' → Dn.nx σ' H') : tFor wi (gName j) tu Dn σ H :=
  h H (Ex.refl H) _ fun l J B2 H2 pl g ⟨G, Y, w, hG, hY⟩ => for_it w (Pv l B2) (h0 l B2 H2 pl g) (fun i σ' H' _ p => hG H' (hb l B2 i σ' H' p)) (fun i x σ' H' H'' hi p y => by
    obtain ⟨a, ha⟩ : ∃ a, l[i]? = some a := ⟨l[i], List.getElem?_eq_getElem hi⟩
    obtain ⟨B3, g3, k⟩ := hY i a x B2 H' H'' ha (Ex.refl B2) (hb l B2 i σ' H' p) y
    exact hs l B2 i a x B3 σ' H' H'' pl ha p g3 k) (fun σ' H' p => hd l B2 σ' H' pl p)
/-- for x, y in .. -/
theorem s_for2 {α : Type} {d1 d2 : α → PyData} {P : List α → Prop} {wi : TI} {j k : Nat} {tu : TS} {Dn : Ends} (h : EvI wi σ B H (fun a => .tuple [d1 a, d2 a]) P) (Pv : List α → Hp → Nat → L2.St → Hp → Prop) (h0 : ∀ l B2 H2, P l → Gr B H B2 H2 → Pv l B2 0 σ H2)
    (hb : ∀ l B2 i σ' H', Pv l B2 i σ' H' → Ex B2 H')
    (hs : ∀ l B2 i a x y B3 σ' H' H'', P l → l[i]? = some a → Pv l B2 i σ' H' → Gr B2 H' B3 H'' → Da B3 x (d1 a) → Da B3 y (d2 a) → tu { Dn with nx := Pv l B2 (i + 1), ct := Pv l B2 (i + 1), bk := Dn.nx } ((σ'.set j (some x)).set k (some y)) H'')
    (hd : ∀ l B2 σ' H', P l → Pv l B2 l.length σ' H' → Dn.nx σ' H') : tFor wi (gTup K 2 (gCons (gName j) (gCons (gName k) gNil))) tu Dn σ H :=
  h H (Ex.refl H) _ fun l J B2 H2 pl g ⟨G, Y, w, hG, hY⟩ => for_it w (Pv l B2) (h0 l B2 H2 pl g) (fun i σ' H' _ p => hG H' (hb l B2 i σ' H' p)) (fun i x σ' H' H'' hi p y => by
    obtain ⟨a, ha⟩ : ∃ a, l[i]? = some a := ⟨l[i], List.getElem?_eq_getElem hi⟩
    obtain ⟨B3, g3, q⟩ := hY i a x B2 H' H'' ha (Ex.refl B2) (hb l B2 i σ' H' p) y
    obtain ⟨T, u, z, rfl, hT, q1, q2⟩ := da_two q
    exact ⟨T, [u, z], rfl, SqT.of (g3.bh _ _ hT), rfl, u, [z], rfl, z, [], rfl, rfl, hs l B2 i a u z B3 σ' H' H'' pl ha p g3 q1 q2⟩) (fun σ' H' p => hd l B2 σ' H' pl p)
/-- pairs made on the way -/
theorem gr_pair {Bc H' : Hp} (e : Ex Bc H') {T : Addr} {x y : V} {d1 d2 : PyData} (n : H' T = none) (kx : Da Bc x d1) (ky : Da Bc y d2) : ∃ B3, Gr Bc H' B3 (upd H' T (.tup [x, y])) ∧ Da B3 (.ref T) (.tuple [d1, d2]) :=
  ⟨upd Bc T (.tup [x, y]), Gr.new e n, .tup upd_same (.cons (kx.ex (Ex.new (base_none e n))) (.cons (ky.ex (Ex.new (base_none e n))) .nil))⟩
theorem ei_enum {α : Type} {dt : α → PyData} {P : List α → Prop} (h : EvS ta σ B H (fun d => ∃ l, P l ∧ d = .list (l.map dt))) : EvI (iEnum K (tCons ta tNil)) σ B H (fun (p : α × Nat) => .tuple [.int (p.2 : Int), dt p.1]) (fun m => ∃ l, P l ∧ m = l.zipIdx) := fun H1 e R q => h H1 e _ fun d v B2 H2 pd g k => by
  obtain ⟨l, pl, rfl⟩ := pd
  obtain ⟨a, xs, rfl, h1, h2⟩ := k.lst_inv
  refine ⟨a, xs, rfl, SqL.of (g.bh _ _ h1), q l.zipIdx _ B2 H2 ⟨l, pl, rfl⟩ g ⟨_, _, by have w := walk_enum (K := K) (a := a) (xs := xs); rw [h2.len, List.length_map] at w; rw [List.length_zipIdx]; exact w, fun H' e' => SqL.of (e' _ _ h1), fun i b x Bc H' H'' hi e1 e2 y => ?_⟩⟩
  obtain ⟨T, x1, x2, rfl, nT, rfl, f1, f2⟩ := y
  rw [List.getElem?_zipIdx] at hi
  cases hl : l[i]? with
  | none => rw [hl] at hi; cases hi
  | some c =>
    rw [hl] at hi
    cases hi
    cases f1
    rw [Nat.zero_add]
    exact gr_pair e2 nT (.int _) ((da_map h2 hl f2).ex e1)
theorem ei_zip {α β : Type} {da : α → PyData} {db : β → PyData} {l : List α} {m : List β} (ha : EvD ta σ B H (.list (l.map da))) (hb : EvD tb σ B H (.list (m.map db))) : EvI (iZip K (tCons ta (tCons tb tNil))) σ B H (fun (p : α × β) => .tuple [da p.1, db p.2]) (· = l.zip m) := fun H1 e R q =>
  ed_two (Q := fun x y H2 => ∃ a b xs ys, [x, y] = [.ref a, .ref b] ∧ SqL K H2 a xs ∧ SqL K H2 b ys ∧ R (Itz K a b) H2) ha hb e fun x y B2 H2 g k1 k2 => by
  obtain ⟨a, xs, rfl, h1, h2⟩ := k1.lst_inv
  obtain ⟨b, ys, rfl, h3, h4⟩ := k2.lst_inv
  refine ⟨a, b, xs, ys, rfl, SqL.of (g.bh _ _ h1), SqL.of (g.bh _ _ h3), q (l.zip m) _ B2 H2 rfl g ⟨_, _, walk_zip (K := K) (a := a) (b := b) (xs := xs) (ys := ys) (by rw [h2.len, h4.len, List.length_map, List.length_map, List.length_zip]), fun H' e' => ⟨SqL.of (e' _ _ h1), SqL.of (e' _ _ h3)⟩, fun i c x Bc H' H'' hi e1 e2 y => ?_⟩⟩
  obtain ⟨T, x1, x2, rfl, nT, rfl, f1, f2⟩ := y
  rw [List.getElem?_zip_eq_some] at hi
  exact gr_pair e2 nT ((da_map h2 hi.1 f1).ex e1) ((da_map h4 hi.2 f2).ex e1)
/-! ### comprehensions -/
theorem en_lcG {α : Type} {dt : α → PyData} {l : List α} {wi : TI} {g : TG} {tt : TT} {te : TE} {vs : List Nat} (st : α → V → Hp → L2.St → Prop) (p : α → Bool) (f : α → PyData) (h : EvI wi σ B H dt (· = l)) (hl : l.length ≤ 50000)
    (hg : ∀ a x B3 H3, Ex B3 H3 → Da B3 x (dt a) → ∀ Q : L2.St → Hp → Prop, (∀ σ2, st a x B3 σ2 → Q σ2 H3) → g x (wipe σ vs) H3 Q)
    (hw : ∀ a x B3 σ2, st a x B3 σ2 → wipe σ2 vs = wipe σ vs)
    (ht : ∀ a x B3 H3 σ2, a ∈ l → Ex H H3 → Ex B B3 → Ex B3 H3 → Da B3 x (dt a) → st a x B3 σ2 → EvT tt σ2 H3 (p a))
    (he : ∀ a x B3 H3 σ2, a ∈ l → Ex H H3 → Ex B B3 → Ex B3 H3 → Da B3 x (dt a) → st a x B3 σ2 → p a = true → EvD te σ2 B3 H3 (f a)) : EvN (tLc wi g tt te vs) σ B H ((l.filter p).map f) := fun H1 e Q q =>
  h H1 e _ fun l' J B2 H2 el g1 ⟨G, Y, w, hG, hY⟩ Dl hD => by
    subst el
    refine lc_it w (fun i H' => ∃ Bc acc, Ex B2 Bc ∧ Gr B H1 Bc H' ∧ Bc Dl = none ∧ H' Dl = some (.lst acc) ∧ DaAll Bc acc (((l'.take i).filter p).map f)) ⟨B2, [], Ex.refl _, g1.trans (Gr.same g1.bh (Ex.new hD)), base_none g1.bh hD, upd_same, .nil⟩ (fun i H' _ ⟨Bc, acc, e1, g2, _⟩ => hG H' (e1.trans g2.bh)) (fun i x H' H'' hi ⟨Bc, acc, e1, g2, nD, hA, k⟩ y => ?_) (fun H' ⟨Bc, acc, e1, g2, nD, hA, k⟩ => ?_)
    · obtain ⟨a, ha⟩ : ∃ a, l'[i]? = some a := ⟨l'[i], List.getElem?_eq_getElem hi⟩
      have hm := List.mem_of_getElem? ha
      obtain ⟨B3, g3, kx⟩ := hY i a x Bc H' H'' ha e1 g2.bh y
      have g23 := g2.trans g3
      have eH : Ex H H'' := e.trans g23.hh
      refine hg a x B3 H'' g3.bh kx _ fun σ2 hst => ⟨hw a x B3 σ2 hst, ?_⟩
      have n3 : B3 Dl = none := g3.old Dl (by rw [hA]; exact fun z => by cases z) nD
      have tk : l'.take (i + 1) = l'.take i ++ [a] := by rw [List.take_add_one, ha]; rfl
      refine ht a x B3 H'' σ2 hm eH g23.bb g3.bh kx hst H'' (Ex.refl _) _ fun H3 e3 => ?_
      have A3 : H3 Dl = some (.lst acc) := e3 _ _ (g3.hh _ _ hA)
      have g33 := g23.trans (Gr.same g3.bh e3)
      cases hp : p a with
      | true =>
        show te σ2 H3 fun y H4 => ∃ acc, H4 Dl = some (.lst acc) ∧ acc.length < sizeLine ∧ _
        refine he a x B3 H'' σ2 hm eH g23.bb g3.bh kx hst hp H3 e3 _ fun y B4 H4 g4 ky => ⟨acc, g4.hh _ _ A3, sz_lt ?_, B4, acc ++ [y], e1.trans (g3.bb.trans g4.bb), ?_, ?_, upd_same, ?_⟩
        · rw [k.len, List.length_map]
          have h1 := List.length_filter_le p (l'.take i)
          rw [List.length_take] at h1
          omega
        · have gg := g33.trans g4
          have n4 : B4 Dl = none := g4.old Dl (by rw [A3]; exact fun z => by cases z) n3
          have nH1 : H1 Dl = none := base_none g1.hh hD
          exact ⟨gg.hh.mut nH1, gg.bb, gg.bh.mut n4, gg.old⟩
        · exact g4.old Dl (by rw [A3]; exact fun z => by cases z) n3
        · rw [tk, List.filter_append, List.map_append]
          have : List.filter p [a] = [a] := by simp [hp]
          rw [this]
          exact (k.ex (g3.bb.trans g4.bb)).append (.cons ky .nil)
      | false =>
        refine ⟨B3, acc, e1.trans g3.bb, g33, n3, A3, ?_⟩
        rw [tk, List.filter_append, List.map_append]
        have : List.filter p [a] = [] := by simp [hp]
        rw [this, List.map_nil, List.append_nil]
        exact k.ex g3.bb
    · rw [List.take_length] at k
      exact q Dl acc Bc H' g2 (base_none g1.hh hD) nD hA k
/-- [e for x in .. if t] -/
theorem en_lc {α : Type} {dt : α → PyData} {l : List α} {wi : TI} {tt : TT} {te : TE} {vs : List Nat} {j : Nat} (p : α → Bool) (f : α → PyData) (h : EvI wi σ B H dt (· = l)) (hl : l.length ≤ 50000)
    (ht : ∀ a x B3 H3, a ∈ l → Ex H H3 → Ex B B3 → Ex B3 H3 → Da B3 x (dt a) → EvT tt ((wipe σ vs).set j (some x)) H3 (p a))
    (he : ∀ a x B3 H3, a ∈ l → Ex H H3 → Ex B B3 → Ex B3 H3 → Da B3 x (dt a) → p a = true → EvD te ((wipe σ vs).set j (some x)) B3 H3 (f a)) (hw : ∀ x, wipe ((wipe σ vs).set j (some x)) vs = wipe σ vs := by intros; rfl) : EvN (tLc wi (gName j) tt te vs) σ B H ((l.filter p).map f) :=
  en_lcG (fun a x B3 σ2 => σ2 = (wipe σ vs).set j (some x)) p f h hl (fun a x B3 H3 _ _ Q q => q _ rfl) (fun a x B3 σ2 e => by rw [e]; exact hw x) (fun a x B3 H3 σ2 m e1 e2 e3 k e => by rw [e]; exact ht a x B3 H3 m e1 e2 e3 k) (fun a x B3 H3 σ2 m e1 e2 e3 k e => by rw [e]; exact he a x B3 H3 m e1 e2 e3 k)
theorem en_lcA {α : Type} {dt : α → PyData} {l : List α} {wi : TI} {te : TE} {vs : List Nat} {j : Nat} (f : α → PyData) (h : EvI wi σ B H dt (· = l)) (hl : l.length ≤ 50000)
    (he : ∀ a x B3 H3, a ∈ l → Ex H H3 → Ex B B3 → Ex B3 H3 → Da B3 x (dt a) → EvD te ((wipe σ vs).set j (some x)) B3 H3 (f a)) (hw : ∀ x, wipe ((wipe σ vs).set j (some x)) vs = wipe σ vs := by intros; rfl) : EvN (tLc wi (gName j) tYes te vs) σ B H (l.map f) := by
  have := en_lc (tt := tYes) (j := j) (fun _ => true) f h hl (fun a x B3 H3 _ _ _ _ _ H1 e Q q => q H1 (Ex.refl _)) (fun a x B3 H3 m e1 e2 e3 k _ => he a x B3 H3 m e1 e2 e3 k) hw
  rw [List.filter_eq_self.mpr fun _ _ => rfl] at this
  exact this
/-- [e for x, y in .. if t] -/
theorem en_lc2 {α : Type} {d1 d2 : α → PyData} {l : List α} {wi : TI} {tt : TT} {te : TE} {vs : List Nat} {j k : Nat} (p : α → Bool) (f : α → PyData) (h : EvI wi σ B H (fun a => .tuple [d1 a, d2 a]) (· = l)) (hl : l.length ≤ 50000)
    (ht : ∀ a x y B3 H3, a ∈ l → Ex H H3 → Ex B B3 → Ex B3 H3 → Da B3 x (d1 a) → Da B3 y (d2 a) → EvT tt (((wipe σ vs).set j (some x)).set k (some y)) H3 (p a))
    (he : ∀ a x y B3 H3, a ∈ l → Ex H H3 → Ex B B3 → Ex B3 H3 → Da B3 x (d1 a) → Da B3 y (d2 a) → p a = true → EvD te (((wipe σ vs).set j (some x)).set k (some y)) B3 H3 (f a)) (hw : ∀ x y, wipe (((wipe σ vs).set j (some x)).set k (some y)) vs = wipe σ vs := by intros; rfl) : EvN (tLc wi (gTup K 2 (gCons (gName j) (gCons (gName k) gNil))) tt te vs) σ B H ((l.filter p).map f) :=
  en_lcG (fun a v B3 σ2 => ∃ x y, σ2 = ((wipe σ vs).set j (some x)).set k (some y) ∧ Da B3 x (d1 a) ∧ Da B3 y (d2 a)) p f h hl (fun a v B3 H3 e3 kv Q q => by
      obtain ⟨T, x, y, rfl, hT, q1, q2⟩ := da_two kv
      exact ⟨T, [x, y], rfl, SqT.of (e3 _ _ hT), rfl, x, [y], rfl, y, [], rfl, rfl, q _ ⟨x, y, rfl, q1, q2⟩⟩) (fun a v B3 σ2 ⟨x, y, e, _⟩ => by rw [e]; exact hw x y)
    (fun a v B3 H3 σ2 m e1 e2 e3 kv ⟨x, y, e, q1, q2⟩ => by rw [e]; exact ht a x y B3 H3 m e1 e2 e3 q1 q2) (fun a v B3 H3 σ2 m e1 e2 e3 kv ⟨x, y, e, q1, q2⟩ hp => by rw [e]; exact he a x y B3 H3 m e1 e2 e3 q1 q2 hp)
/-! ### calls of defs -/
theorem ed_call {sp : Sp} {E : XK} {ta : TA} (h : EvDs ta σ B H ds) (hs : ∀ B1 H1 vs (Q : VK) (E : XK), Ex B1 H1 → DaAll B1 vs ds → RetD B1 H1 d Q → sp vs H1 Q E) : EvD (tCall sp [] E ta) σ B H d := fun H1 e Q q =>
  h H1 e _ fun vs B1 H2 g k => by
    rw [List.append_nil]
    exact hs B1 H2 vs Q E g.bh k fun v B' H3 g3 kd => q v B' H3 (g.trans g3) kd
theorem en_call {sp : Sp} {E : XK} {ta : TA} (h : EvDs ta σ B H ds) (hs : ∀ B1 H1 vs (Q : VK) (E : XK), Ex B1 H1 → DaAll B1 vs ds → RetN B1 H1 es Q → sp vs H1 Q E) : EvN (tCall sp [] E ta) σ B H es := fun H1 e Q q =>
  h H1 e _ fun vs B1 H2 g k => by
    rw [List.append_nil]
    exact hs B1 H2 vs Q E g.bh k fun p xs B' H3 g3 n nb hp kd => q p xs B' H3 (g.trans g3) (base_none g.hh n) nb hp kd
theorem em_call {sp : Sp} {E : XK} {ta : TA} {P : List PyData → Prop} (h : EvDs ta σ B H ds) (hs : ∀ B1 H1 vs (Q : VK) (E : XK), Ex B1 H1 → DaAll B1 vs ds → RetM B1 H1 P Q → sp vs H1 Q E) : EvM (tCall sp [] E ta) σ B H P := fun H1 e Q q =>
  h H1 e _ fun vs B1 H2 g k => by
    rw [List.append_nil]
    exact hs B1 H2 vs Q E g.bh k fun es p xs B' H3 pd g3 n nb hp kd => q es p xs B' H3 pd (g.trans g3) (base_none g.hh n) nb hp kd
theorem ev_call {sp : Sp} {E : XK} {ta : TA} (h : EvDs ta σ B H ds) (hs : ∀ B1 H1 vs (Q : VK) (E : XK), Ex B1 H1 → DaAll B1 vs ds → RetV H1 v Q → sp vs H1 Q E) : Ev (tCall sp [] E ta) σ H v := fun H1 e Q q =>
  h H1 e _ fun vs B1 H2 g k => by
    rw [List.append_nil]
    exact hs B1 H2 vs Q E g.bh k fun H3 e3 => q H3 (g.hh.trans e3)
end
end TB
set_option Elab.async false
set_option linter.all false
set_option maxRecDepth 100000
set_option maxHeartbeats 4000000
/-! The data of webs; a few readings more. -/
namespace TB
open PySem PySem.Spec PyProof.Rows L2 TM
open Evl (Ex Ex.refl Ex.trans Ex.new Ex.mut Ev EvT EvA ev_var ev_c ev_op rv_I0 rv_I rv_eq rv_ne et_test et_B et_and et_or et_not et_is ev_is sz_of sz_lt fresh_back)
def natD (k : Nat) : PyData := .int (k : Int)
def natV (k : Nat) : V := .int (k : Int)
def intsD (ns : List Int) : PyData := .list (ns.map PyData.int)
def tieD (t : Tie) : PyData := .tuple [.int t.1, .int t.2]
def tiesD (ts : List Tie) : PyData := .list (ts.map tieD)
def pairD (p : Int × Int) : PyData := .tuple [.int p.1, .int p.2]
theorem DaAll.nats {H : Hp} : ∀ {ns : List Nat}, DaAll H (ns.map natV) (ns.map natD)
  | [] => .nil
  | n :: ns => .cons (.int _) DaAll.nats
/-- a colour or none -/
def optD : Option Int → PyData
  | none => .none
  | some c => .int c
def optV : Option Int → V
  | none => .non
  | some c => .int c
theorem DaAll.opts {H : Hp} : ∀ {cs : List (Option Int)}, DaAll H (cs.map optV) (cs.map optD)
  | [] => .nil
  | none :: cs => .cons .non DaAll.opts
  | some c :: cs => .cons (.int c) DaAll.opts
theorem DaAll.opts_inv {H : Hp} : ∀ {cs : List (Option Int)} {xs : List V}, DaAll H xs (cs.map optD) → xs = cs.map optV
  | [], _, .nil => rfl
  | none :: cs, _, .cons h t => by rw [h.non_inv, DaAll.opts_inv t]; rfl
  | some c :: cs, _, .cons h t => by rw [h.int_inv, DaAll.opts_inv t]; rfl
theorem optV_non (c : Option Int) : decide (optV c = .non) = decide (c = none) := by cases c <;> simp [optV]
theorem range_upto (n : Int) : (List.range n.toNat).map (fun (k : Nat) => PyData.int (k : Int)) = (upto n).map PyData.int := by unfold upto; rw [List.map_map]; rfl
/-! shapes: what == may be asked of -/
def Sh (n : Nat) (d : PyData) : Prop := d.canLay0 = true ∧ d.depth ≤ n
theorem Sh.ok {n : Nat} {d : PyData} (h : Sh n d) (hn : n ≤ 64 := by decide) : SeqAt.shaped d = true := by
  unfold SeqAt.shaped
  rw [h.1, decide_eq_true (Nat.le_trans h.2 hn)]; rfl
theorem sh_int {n : Nat} {i : Int} : Sh n (.int i) := ⟨by unfold PyData.canLay0; rfl, by unfold PyData.depth; omega⟩
theorem sh_bool {n : Nat} {i : Bool} : Sh n (.bool i) := ⟨by unfold PyData.canLay0; rfl, by unfold PyData.depth; omega⟩
theorem sh_none {n : Nat} : Sh n .none := ⟨by unfold PyData.canLay0; rfl, by unfold PyData.depth; omega⟩
theorem shAll {n : Nat} {ds : List PyData} (h : ∀ d ∈ ds, Sh n d) : PyData.canLayAll0 ds = true ∧ PyData.depthAll ds ≤ n := by
  induction ds with
  | nil => exact ⟨by unfold PyData.canLayAll0; rfl, by unfold PyData.depthAll; omega⟩
  | cons d ds ih =>
    obtain ⟨h1, h2⟩ := ih fun e he => h e (List.mem_cons_of_mem _ he)
    obtain ⟨h3, h4⟩ := h d List.mem_cons_self
    refine ⟨by unfold PyData.canLayAll0; rw [h3, h1]; rfl, ?_⟩
    unfold PyData.depthAll
    omega
theorem sh_list {n : Nat} {ds : List PyData} (h : ∀ d ∈ ds, Sh n d) : Sh (n + 1) (.list ds) := by
  obtain ⟨h1, h2⟩ := shAll h
  exact ⟨by unfold PyData.canLay0; exact h1, by unfold PyData.depth; omega⟩
theorem sh_tup {n : Nat} {ds : List PyData} (h : ∀ d ∈ ds, Sh n d) : Sh (n + 1) (.tuple ds) := by
  obtain ⟨h1, h2⟩ := shAll h
  exact ⟨by unfold PyData.canLay0; exact h1, by unfold PyData.depth; omega⟩
theorem sh_map {α : Type} {n : Nat} {f : α → PyData} {l : List α} (h : ∀ a, Sh n (f a)) : Sh (n + 1) (.list (l.map f)) := sh_list fun d hd => by
  obtain ⟨a, _, rfl⟩ := List.mem_map.mp hd; exact h a
theorem sh_pair {n : Nat} {a b : PyData} (ha : Sh n a) (hb : Sh n b) : Sh (n + 1) (.tuple [a, b]) := sh_tup fun d hd => by
  rcases List.mem_cons.mp hd with rfl | hd
  · exact ha
  · rw [List.mem_singleton.mp hd]; exact hb
theorem sh_ints (ns : List Int) : Sh 2 (.list (ns.map PyData.int)) := sh_map fun _ => sh_int
theorem sh_nats (ns : List Nat) : Sh 2 (.list (ns.map natD)) := sh_map fun _ => sh_int
theorem sh_tie (t : Tie) : Sh 2 (tieD t) := sh_pair sh_int sh_int
theorem sh_ties (ts : List Tie) : Sh 3 (tiesD ts) := sh_map sh_tie
theorem sh_nil {n : Nat} : Sh (n + 1) (.list []) := sh_list fun d hd => (nomatch hd)
theorem eqv_nil : ∀ ds : List PyData, PyData.eqv (.list ds) (.list []) = ds.isEmpty
  | [] => by unfold PyData.eqv PyData.eqvAll; rfl
  | d :: ds => by unfold PyData.eqv PyData.eqvAll; rfl
theorem eqv_int (i j : Int) : PyData.eqv (.int i) (.int j) = decide (i = j) := by
  unfold PyData.eqv; rw [Bool.eq_iff_iff]; simp
theorem eqvAll_map {α : Type} [DecidableEq α] {f : α → PyData} (hf : ∀ a b, PyData.eqv (f a) (f b) = decide (a = b)) : ∀ l m : List α, PyData.eqvAll (l.map f) (m.map f) = decide (l = m)
  | [], [] => by unfold PyData.eqvAll; rfl
  | [], b :: m => by
    rw [List.map_cons, List.map_nil]; unfold PyData.eqvAll; rfl
  | a :: l, [] => by
    rw [List.map_cons, List.map_nil]; unfold PyData.eqvAll; rfl
  | a :: l, b :: m => by
    rw [List.map_cons, List.map_cons]; unfold PyData.eqvAll
    rw [hf, eqvAll_map hf l m]
    by_cases h : a = b <;> by_cases k : l = m <;> simp [h, k]
theorem eqv_map {α : Type} [DecidableEq α] {f : α → PyData} (hf : ∀ a b, PyData.eqv (f a) (f b) = decide (a = b)) (l m : List α) : PyData.eqv (.list (l.map f)) (.list (m.map f)) = decide (l = m) := by
  unfold PyData.eqv; exact eqvAll_map hf l m
theorem eqv_ints (l m : List Int) : PyData.eqv (.list (l.map PyData.int)) (.list (m.map PyData.int)) = decide (l = m) := eqv_map eqv_int l m
theorem eqv_tie (t u : Tie) : PyData.eqv (tieD t) (tieD u) = decide (t = u) := by
  obtain ⟨a, b⟩ := t
  obtain ⟨c, e⟩ := u
  show PyData.eqv (.tuple [.int a, .int b]) (.tuple [.int c, .int e]) = _
  unfold PyData.eqv PyData.eqvAll PyData.eqvAll PyData.eqvAll
  rw [eqv_int, eqv_int]
  by_cases h : a = c <;> by_cases k : b = e <;> simp [h, k]
theorem eqv_ties (l m : List Tie) : PyData.eqv (tiesD l) (tiesD m) = decide (l = m) := eqv_map eqv_tie l m
section
variable {K : PySem.W.Frag} {σ : L2.St} {B H : Hp} {ta tb te : TE} {ds : List PyData} {n : Nat}
/-- xs != [], xs == [] -/
theorem ev_neNil (ha : EvD ta σ B H (.list ds)) (eb : Ex B H) (hs : Sh n (.list ds)) (hn : n ≤ 64 := by decide) : Ev (tOp (rNeD K) ta (tLst tNil)) σ H (.bl (!ds.isEmpty)) := by
  rw [← eqv_nil]; exact ev_neD ha (en_nil eb).toD (hs.ok hn) (sh_nil (n := 0)).ok
theorem ev_eqNil (ha : EvD ta σ B H (.list ds)) (eb : Ex B H) (hs : Sh n (.list ds)) (hn : n ≤ 64 := by decide) : Ev (tOp (rEqD K) ta (tLst tNil)) σ H (.bl ds.isEmpty) := by
  rw [← eqv_nil]; exact ev_eqD ha (en_nil eb).toD (hs.ok hn) (sh_nil (n := 0)).ok
/-- v in tie -/
theorem ev_has {t : Tie} {v : Int} (ha : Ev ta σ H (.int v)) (hb : EvD tb σ B H (tieD t)) : Ev (tOp (rIn K false) ta tb) σ H (.bl (has t v)) := by
  have h := ev_inTi (K := K) (ns := [t.1, t.2]) ha hb
  have e : decide (v ∈ [t.1, t.2]) = has t v := by unfold has; simp
  rw [e] at h; exact h
/-- ties[at] -/
theorem ed_tie {ts : List Tie} {t : Tie} {i : Nat} {j : Int} (ha : EvD ta σ B H (tiesD ts)) (hb : Ev tb σ H (.int j)) (hj : j = (i : Int)) (h : ts[i]? = some t) : EvD (tOp (rIxL K) ta tb) σ B H (tieD t) :=
  ed_ixL ha hb (atD_nat hj (by rw [List.getElem?_map, h]; rfl))
theorem ev_t0 {t : Tie} (ha : EvD ta σ B H (tieD t)) : Ev (tOp (rIxT K) ta (tC (.int 0))) σ H (.int t.1) := ev_int (ed_ixT ha ev_c (atD_nat (j := 0) rfl rfl))
theorem ev_t1 {t : Tie} (ha : EvD ta σ B H (tieD t)) : Ev (tOp (rIxT K) ta (tC (.int 1))) σ H (.int t.2) := ev_int (ed_ixT ha ev_c (atD_nat (j := 1) rfl rfl))
/-- ties[at][0] + ties[at][1] - here -/
theorem ev_oth {t : Tie} {v : Int} {tx ty tv : TE} (hx : EvD tx σ B H (tieD t)) (hy : EvD ty σ B H (tieD t)) (hv : Ev tv σ H (.int v)) :
    Ev (tOp (rI0 fun i j => .int (i - j)) (tOp (rI0 fun i j => .int (i + j)) (tOp (rIxT K) tx (tC (.int 0))) (tOp (rIxT K) ty (tC (.int 1)))) tv) σ H (.int (oth t v)) := ev_I0 (ev_I0 (ev_t0 hx) (ev_t1 hy)) hv
end
/-! ### kinds -/
def tyD : PyData → String
  | .none => "NoneType"
  | .bool _ => "bool"
  | .int _ => "int"
  | .str _ => "str"
  | .list _ => "list"
  | .tuple _ => "tuple"
  | .dict _ => "dict"
def numD : PyData → Bool
  | .int _ => true
  | _ => false
def lstD : PyData → Bool
  | .list _ => true
  | _ => false
def tupD : PyData → Bool
  | .tuple _ => true
  | _ => false
theorem tyx_da {K : PySem.W.Frag} {H : Hp} {v : V} {d : PyData} (h : Da H v d) : TyX K H v (.type (tyD d)) := by
  cases h with
  | non => exact .base .non
  | bl b => exact .base (.bl b)
  | int i => exact .base (.int i)
  | str x => exact .base (.str x)
  | lst h _ => exact .base (.lst h)
  | tup h _ => exact .base (.tup h)
  | dct h => exact .base (.dK h)
theorem ev_isi {K : PySem.W.Frag} {σ : L2.St} {B H : Hp} {ta : TE} {d : PyData} {T : String} {b : Bool} (h : EvD ta σ B H d) (hk : kitB (tyD d) T = some b) : Ev (tCB (rIsi K) (tCons ta (tCons (tC (.ty T)) tNil))) σ H (.bl b) := fun H1 e Q q =>
  h H1 e _ fun v B1 H2 g k => ⟨v, .ty T, _, _, b, rfl, .ty T, tyx_da (k.ex g.bh), kit_ty hk, q H2 g.hh⟩
theorem kit_int : ∀ d : PyData, kitB (tyD d) "int" = some (match d with | .int _ => true | .bool _ => true | _ => false)
  | .none => (by decide +kernel : kitB "NoneType" "int" = some false)
  | .bool _ => (by decide +kernel : kitB "bool" "int" = some true)
  | .int _ => (by decide +kernel : kitB "int" "int" = some true)
  | .str _ => (by decide +kernel : kitB "str" "int" = some false)
  | .list _ => (by decide +kernel : kitB "list" "int" = some false)
  | .tuple _ => (by decide +kernel : kitB "tuple" "int" = some false)
  | .dict _ => (by decide +kernel : kitB "dict" "int" = some false)
theorem kit_bool : ∀ d : PyData, kitB (tyD d) "bool" = some (match d with | .bool _ => true | _ => false)
  | .none => (by decide +kernel : kitB "NoneType" "bool" = some false)
  | .bool _ => (by decide +kernel : kitB "bool" "bool" = some true)
  | .int _ => (by decide +kernel : kitB "int" "bool" = some false)
  | .str _ => (by decide +kernel : kitB "str" "bool" = some false)
  | .list _ => (by decide +kernel : kitB "list" "bool" = some false)
  | .tuple _ => (by decide +kernel : kitB "tuple" "bool" = some false)
  | .dict _ => (by decide +kernel : kitB "dict" "bool" = some false)
theorem kit_list : ∀ d : PyData, kitB (tyD d) "list" = some (lstD d)
  | .none => (by decide +kernel : kitB "NoneType" "list" = some false)
  | .bool _ => (by decide +kernel : kitB "bool" "list" = some false)
  | .int _ => (by decide +kernel : kitB "int" "list" = some false)
  | .str _ => (by decide +kernel : kitB "str" "list" = some false)
  | .list _ => (by decide +kernel : kitB "list" "list" = some true)
  | .tuple _ => (by decide +kernel : kitB "tuple" "list" = some false)
  | .dict _ => (by decide +kernel : kitB "dict" "list" = some false)
theorem kit_tuple : ∀ d : PyData, kitB (tyD d) "tuple" = some (tupD d)
  | .none => (by decide +kernel : kitB "NoneType" "tuple" = some false)
  | .bool _ => (by decide +kernel : kitB "bool" "tuple" = some false)
  | .int _ => (by decide +kernel : kitB "int" "tuple" = some false)
  | .str _ => (by decide +kernel : kitB "str" "tuple" = some false)
  | .list _ => (by decide +kernel : kitB "list" "tuple" = some false)
  | .tuple _ => (by decide +kernel : kitB "tuple" "tuple" = some true)
  | .dict _ => (by decide +kernel : kitB "dict" "tuple" = some false)
/-! ### rules more -/
section
variable {X : Cx} {a b c e : Expr} {ta tb tc td : TE} {pos : Pos}
/-- a op b op' c op'' e -/
def tChain3 (r r' r'' : R2) (ta tb tc td : TE) : TE := fun σ H Q => ta σ H fun x H1 => tb σ H1 fun y H2 => r x y H2 fun z H3 => ∃ k, z = .bl k ∧
  (if k = true then tc σ H3 fun w H4 => r' y w H4 fun z H5 => ∃ k, z = .bl k ∧ (if k = true then td σ H5 fun u H6 => r'' w u H6 Q else Q (.bl false) H5) else Q (.bl false) H3)
theorem pe_chain3 {op op' op'' : CmpOp} {r r' r'' : R2} (ho : OpR X (compareOp op) r) (ho' : OpR X (compareOp op') r') (ho'' : OpR X (compareOp op'') r'') (ha : PE X a ta) (hb : PE X b tb) (hc : PE X c tc) (he : PE X e td)
    (hm : lastMarks [op, op', op''] [b, c, e] = false := by with_unfolding_all rfl) : PE X (.Compare a [op, op', op''] [b, c, e] pos) (tChain3 r r' r'' ta tb tc td) := by
  refine ⟨fun pins s σ H Q I h => ?_⟩
  refine Compare_chain (thn (ha.run pins s σ H _ I h) fun v s1 ⟨x, H1, I1, r1, q1⟩ => chain_link (thn (hb.run pins s1 σ H1 _ I1 q1) fun u s2 ⟨y, H2, I2, r2, q2⟩ =>
    thn (ho pins s2 σ H2 x y v u _ I2 r1 r2 q2) fun d s3 ⟨z, H3, I3, r3, k, e, q3⟩ => ?_)) hm
  subst e
  cases r3
  refine wpAny_truthy_bool ?_
  cases k with
  | false => exact ite_ff ⟨.bl false, H3, I3, rfl, q3⟩
  | true =>
    refine ite_tt (chain_link (thn (hc.run pins s3 σ H3 _ I3 q3) fun w s4 ⟨z4, H4, I4, r4, q4⟩ => thn (ho' pins s4 σ H4 y z4 u w _ I4 r2 r4 q4) fun d s5 ⟨z5, H5, I5, r5, k, e, q5⟩ => ?_))
    subst e
    cases r5
    refine wpAny_truthy_bool ?_
    cases k with
    | false => exact ite_ff ⟨.bl false, H5, I5, rfl, q5⟩
    | true => exact ite_tt (chain_last (thn (he.run pins s5 σ H5 _ I5 q5) fun w' s6 ⟨z6, H6, I6, r6, q6⟩ => ho'' pins s6 σ H6 z4 z6 w w' Q I6 r4 r6 q6))
/-- numbers of any size -/
theorem op_mulO : OpR X (binaryOp .Mult) (rI IntMulOk fun i j => .int (i * j)) := opI fun _ _ _ _ _ _ _ hc q => mul_int q hc
end
end TB
set_option Elab.async false
set_option linter.all false
set_option maxRecDepth 100000
set_option maxHeartbeats 4000000
/-! A dict of lists of numbers; statements more. -/
namespace TB
open PySem PySem.Spec PyProof.Rows L2 TM
open Evl (Ex Ex.refl Ex.trans Ex.new Ex.mut Ev EvT EvA ev_var ev_c ev_op rv_I0 rv_I rv_eq rv_ne et_test et_B et_and et_or et_not et_is ev_is sz_of sz_lt fresh_back)
theorem nodup_len {l : List Nat} {n : Nat} (nd : l.Nodup) (h : ∀ i ∈ l, i < n) : l.length ≤ n := by
  have p : ((List.range n).filter fun i => decide (i ∈ l)).Perm l := (List.perm_ext_iff_of_nodup (List.nodup_range.filter _) nd).mpr fun i => by
    rw [List.mem_filter, List.mem_range]
    exact ⟨fun z => by simpa using z.2, fun z => ⟨h i z, by simpa using z⟩⟩
  rw [← p.length_eq]
  refine Nat.le_trans (List.length_filter_le _ _) ?_
  rw [List.length_range]; exact Nat.le_refl _
def kvL (la : List (Int × Addr)) : List (Key × V) := la.map fun p => (Sum.inl p.1, V.ref p.2)
def leftL (dl : Addr) (la : List (Int × Addr)) (left : Int → List Nat) : List (Addr × HO) := (dl, .dK (kvL la)) :: la.map fun p => (p.2, .lst ((left p.1).map natV))
theorem valL_in {v : Int} {a : Addr} : ∀ {la : List (Int × Addr)}, (la.map (·.1)).Nodup → (v, a) ∈ la → valV (kvL la) (Sum.inl v : Key) = some (.ref a)
  | [], _, h => nomatch h
  | p :: la, nd, h => by
    have nd' := List.nodup_cons.mp nd
    unfold valV kvL
    rw [List.map_cons, List.find?_cons]
    by_cases e : p.1 = v
    · have : decide ((Sum.inl p.1 : Key) = Sum.inl v) = true := decide_eq_true (by rw [e])
      rw [this]
      rcases List.mem_cons.mp h with q | q
      · rw [← q]; rfl
      · exact absurd (List.mem_map.mpr ⟨_, q, e.symm⟩) nd'.1
    · have : decide ((Sum.inl p.1 : Key) = Sum.inl v) = false := decide_eq_false fun z => e (Sum.inl.inj z)
      rw [this]
      rcases List.mem_cons.mp h with q | q
      · rw [← q] at e; exact absurd rfl e
      · exact valL_in nd'.2 q
theorem valL_out {v : Int} : ∀ {la : List (Int × Addr)}, v ∉ la.map (·.1) → valV (kvL la) (Sum.inl v : Key) = none
  | [], _ => rfl
  | p :: la, h => by
    unfold valV kvL
    rw [List.map_cons, List.find?_cons]
    have e : ¬ p.1 = v := fun z => h (by rw [List.map_cons, z]; exact List.mem_cons_self)
    have : decide ((Sum.inl p.1 : Key) = Sum.inl v) = false := decide_eq_false fun z => e (Sum.inl.inj z)
    rw [this]
    exact valL_out fun z => h (List.mem_cons_of_mem _ z)
theorem putK_out {κ : Type} [DecidableEq κ] {kvs : List (κ × V)} {k : κ} {v : V} (h : valV kvs k = none) : putK kvs k v = kvs ++ [(k, v)] := by
  unfold putK
  rw [if_neg]
  intro z
  obtain ⟨kv, hk, e⟩ := List.any_eq_true.mp z
  unfold valV at h
  rw [Option.map_eq_none_iff, List.find?_eq_none] at h
  exact h kv hk e
theorem kv_dec {la : List (Int × Addr)} (v : Int) : v ∈ la.map (·.1) ∨ v ∉ la.map (·.1) := Classical.em _
theorem map_upd {v : Int} {a : Addr} {xs : List Nat} {left : Int → List Nat} : ∀ {la : List (Int × Addr)} {i : Nat}, (la.map (·.1)).Nodup → la[i]? = some (v, a) →
    (la.map fun p => ((p.2, .lst ((left p.1).map natV)) : Addr × HO)).set i (a, .lst (xs.map natV)) = la.map fun p => (p.2, .lst (((fun u => if u = v then xs else left u) p.1).map natV))
  | [], i, _, h => by simp at h
  | p :: la, 0, nd, h => by
    have e : p = (v, a) := by simpa using h
    subst e
    have nd' := List.nodup_cons.mp nd
    show (a, HO.lst (xs.map natV)) :: la.map _ = (a, HO.lst ((if v = v then xs else left v).map natV)) :: la.map _
    rw [if_pos rfl]
    congr 1
    apply List.map_congr_left
    intro q hq
    have ne : ¬ q.1 = v := fun z => nd'.1 (List.mem_map.mpr ⟨q, hq, z⟩)
    show (q.2, HO.lst ((left q.1).map natV)) = (q.2, HO.lst ((if q.1 = v then xs else left q.1).map natV))
    rw [if_neg ne]
  | p :: la, i + 1, nd, h => by
    have nd' := List.nodup_cons.mp nd
    have h' : la[i]? = some (v, a) := by simpa using h
    have ne : ¬ p.1 = v := fun z => nd'.1 (List.mem_map.mpr ⟨(v, a), List.mem_of_getElem? h', z.symm⟩)
    show (p.2, HO.lst ((left p.1).map natV)) :: (la.map _).set i _ = (p.2, HO.lst ((if p.1 = v then xs else left p.1).map natV)) :: la.map _
    rw [if_neg ne, map_upd nd'.2 h']
section
variable {B0 H0 B H H1 : Hp} {L R : List (Addr × HO)} {dl a l : Addr} {la : List (Int × Addr)} {left : Int → List Nat} {v : Int} {xs : List Nat}
theorem Fr.leftGet (f : Fr B0 H0 B H (leftL dl la left ++ R)) (h : (v, a) ∈ la) : H a = some (.lst ((left v).map natV)) :=
  (f.own (a, .lst ((left v).map natV)) (List.mem_append_left _ (List.mem_cons_of_mem _ (List.mem_map.mpr ⟨(v, a), h, rfl⟩)))).2.2
theorem Fr.leftDict (f : Fr B0 H0 B H (leftL dl la left ++ R)) : H dl = some (.dK (kvL la)) := f.get (i := 0) rfl
theorem Fr.leftSet (f : Fr B0 H0 B H (leftL dl la left ++ R)) (nd : (la.map (·.1)).Nodup) (h : (v, a) ∈ la) : Fr B0 H0 B (upd H a (.lst (xs.map natV))) (leftL dl la (fun u => if u = v then xs else left u) ++ R) := by
  obtain ⟨i, hi⟩ := List.mem_iff_getElem?.mp h
  have hl : i < la.length := (List.getElem?_eq_some_iff.mp hi).1
  have e : (leftL dl la left ++ R)[i + 1]? = some (a, .lst ((left v).map natV)) := by
    unfold leftL
    rw [List.cons_append, List.getElem?_cons_succ, List.getElem?_append_left (by rw [List.length_map]; exact hl), List.getElem?_map, hi]; rfl
  have g := f.set (u := .lst (xs.map natV)) e
  have e2 : (leftL dl la left ++ R).set (i + 1) (a, .lst (xs.map natV)) = leftL dl la (fun u => if u = v then xs else left u) ++ R := by
    unfold leftL
    rw [List.cons_append, List.set_cons_succ, List.set_append_left _ _ (by rw [List.length_map]; exact hl), map_upd nd hi]; rfl
  rw [e2] at g
  exact g
theorem Fr.leftAdd (f : Fr B0 H0 B H (leftL dl la left ++ R)) (n : H l = none) (hv : v ∉ la.map (·.1)) (hl : left v = []) : Fr B0 H0 B (upd (upd H l (.lst [])) dl (.dK (kvL (la ++ [(v, l)])))) (leftL dl (la ++ [(v, l)]) left ++ R) := by
  have g := (f.made (o := .lst []) n).set1 (u := .dK (kvL (la ++ [(v, l)])))
  refine g.perm ?_
  unfold leftL
  rw [List.map_append, List.map_cons, List.map_nil]
  show ((dl, HO.dK (kvL (la ++ [(v, l)]))) :: ((la.map _ ++ [(l, HO.lst ((left v).map natV))]) ++ R)).Perm ((l, HO.lst []) :: (dl, HO.dK (kvL (la ++ [(v, l)]))) :: (la.map _ ++ R))
  rw [hl]
  refine (List.Perm.cons _ ?_).trans (List.Perm.swap _ _ _)
  rw [List.append_assoc]
  exact List.perm_middle
end
section
variable {K : PySem.W.Frag} {σ : L2.St} {B H : Hp} {te ta : TE} {Dn : Ends} {d1 d2 : PyData} {v : V}
/-- a, b = e -/
theorem s_asg2 {i j : Nat} (h : EvD te σ B H (.tuple [d1, d2])) (k : ∀ x y B' H', Gr B H B' H' → Da B' x d1 → Da B' y d2 → Dn.nx ((σ.set i (some x)).set j (some y)) H') : tAsg te (gTup K 2 (gCons (gName i) (gCons (gName j) gNil))) Dn σ H :=
  h H (Ex.refl H) _ fun v B' H' g q => by
    obtain ⟨T, x, y, rfl, hT, q1, q2⟩ := da_two q
    exact ⟨T, [x, y], rfl, SqT.of (g.bh _ _ hT), rfl, x, [y], rfl, y, [], rfl, rfl, k x y B' H' g q1 q2⟩
theorem ev_neg {i : Int} (h : Ev te σ H (.int i)) : Ev (tUn (rU fun i => .int (-i)) te) σ H (.int (-i)) := Evl.ev_un h Evl.ru_neg
/-- left.setdefault(place, []).append(at) -/
theorem s_setdApp {B0 H0 : Hp} {R : List (Addr × HO)} {dl : Addr} {la : List (Int × Addr)} {left : Int → List Nat} {u : Int} {n : Nat} {i2 i5 i3 : Nat} (h2 : σ[i2]? = some (some (.ref dl))) (h5 : σ[i5]? = some (some (.int u))) (h3 : σ[i3]? = some (some (.int (n : Int))))
    (f : Fr B0 H0 B H (leftL dl la left ++ R)) (nd : (la.map (·.1)).Nodup) (out : ∀ w, w ∉ la.map (·.1) → left w = []) (hl : la.length < 100000) (hx : (left u).length < 100000)
    (k : ∀ la' H', Fr B0 H0 B H' (leftL dl la' (fun w => if w = u then left u ++ [n] else left w) ++ R) → (la'.map (·.1)).Nodup → (∀ w, w ∉ la'.map (·.1) → (if w = u then left u ++ [n] else left w) = []) → la'.length ≤ la.length + 1 → Dn.nx σ H') :
    tDrop (tBM K "list" rAppend (tDSetd (tVar i2) (tVar i5) (tLst tNil)) (tCons (tVar i3) tNil)) Dn σ H := by
  have hd := f.leftDict
  refine ⟨.ref dl, h2, dl, rfl, .inl ⟨_, .inl hd⟩, .int u, h5, Nat.zero_le _, fun p hp => ?_⟩
  have f1 := f.ev (Ex.new (o := .lst []) hp)
  have hd1 := f1.leftDict
  have e3 : ∀ xs : List Nat, xs.map natV ++ [V.int (n : Int)] = (xs ++ [n]).map natV := fun xs => by rw [List.map_append]; rfl
  refine ⟨kvL la, Sum.inl u, hd1, rfl, sz_lt (by unfold kvL; rw [List.length_map]; exact hl), fun w hw => ?_, fun hn => ?_⟩
  · -- it is there
    have hin : u ∈ la.map (·.1) := by
      rcases kv_dec (la := la) u with z | z
      · exact z
      · rw [valL_out z] at hw; cases hw
    obtain ⟨⟨u', a⟩, ha, rfl⟩ := List.mem_map.mp hin
    rw [valL_in nd ha] at hw
    cases hw
    have hA := f1.leftGet ha
    refine ⟨.inl ⟨rfl, _, .inl (.inl hA)⟩, .int (n : Int), h3, a, _, _, rfl, rfl, hA, sz_lt (by rw [List.length_map]; exact hx), ?_⟩
    rw [e3]
    exact k la _ (f1.leftSet nd ha) nd (fun w hw => by
      have : w ≠ u' := fun z => hw (by rw [z]; exact hin)
      rw [if_neg this]; exact out w hw) (by omega)
  · have hout : u ∉ la.map (·.1) := fun z => by
      obtain ⟨⟨u', a⟩, ha, rfl⟩ := List.mem_map.mp z
      rw [valL_in nd ha] at hn; cases hn
    have e0 := out u hout
    have g := f.leftAdd hp hout e0
    have ek : putK (kvL la) (Sum.inl u : Key) (V.ref p) = kvL (la ++ [(u, p)]) := by
      rw [putK_out hn]; unfold kvL; rw [List.map_append]; rfl
    rw [ek]
    have nd' : ((la ++ [(u, p)]).map (·.1)).Nodup := by
      rw [List.map_append]
      refine List.nodup_append.mpr ⟨nd, by simp, fun x hxx y hy => ?_⟩
      rw [List.map_cons, List.map_nil, List.mem_singleton] at hy
      intro z
      have e : x = u := z.trans hy
      exact hout (by rw [← e]; exact hxx)
    have hm : (u, p) ∈ la ++ [(u, p)] := List.mem_append_right _ (List.mem_singleton.mpr rfl)
    have hA := g.leftGet hm
    rw [e0] at hA
    refine ⟨.inl ⟨rfl, _, .inl (.inl hA)⟩, .int (n : Int), h3, p, _, _, rfl, rfl, hA, sz_lt (by simp), ?_⟩
    rw [e3]
    have e5 : ([] : List Nat) ++ [n] = left u ++ [n] := by rw [e0]
    rw [e5]
    exact k _ _ (g.leftSet nd' hm) nd' (fun w hw => by
      rw [List.map_append, List.mem_append] at hw
      have h1 : w ∉ la.map (·.1) := fun z => hw (.inl z)
      have h2 : w ≠ u := fun z => hw (.inr (by rw [z]; simp))
      rw [if_neg h2]; exact out w h1) (by rw [List.length_append]; simp)
theorem ei_enumD {α : Type} {dt : α → PyData} {l : List α} (h : EvD ta σ B H (.list (l.map dt))) : EvI (iEnum K (tCons ta tNil)) σ B H (fun (p : α × Nat) => .tuple [.int (p.2 : Int), dt p.1]) (· = l.zipIdx) := fun H1 e R q =>
  ei_enum (P := (· = l)) (fun H1 e Q q => h H1 e Q fun v B' H2 g k => q _ v B' H2 ⟨l, rfl, rfl⟩ g k) H1 e R fun m J B2 H2 pm g w => by
    obtain ⟨l', rfl, rfl⟩ := pm
    exact q _ J B2 H2 rfl g w
theorem zipIdx_at {α : Type} {l : List α} {i : Nat} {p : α × Nat} (h : l.zipIdx[i]? = some p) : l[i]? = some p.1 ∧ p.2 = i := by
  rw [List.getElem?_zipIdx] at h
  cases e : l[i]? with
  | none => rw [e] at h; cases h
  | some a => rw [e] at h; cases h; exact ⟨rfl, Nat.zero_add i⟩
theorem sq {t1 t2 : TS} (h : t1 { Dn with nx := t2 Dn } σ H) : tSeq t1 t2 Dn σ H := h
end
end TB
set_option Elab.async false
set_option linter.all false
set_option maxRecDepth 100000
set_option maxHeartbeats 4000000
/-! The rules by a written part that is named. -/
namespace TB
open PySem PySem.Spec PyProof.Rows L2 TM
section
variable {X : Cx} {e o a b : Expr} {es : List Expr} {ta te to tl : TE} {t : TA} {pos apos cpos : Pos}
theorem ix_listK (K : PySem.W.Frag) (hK : X.K = K := by rfl) : IxR X (rIxL K) := by subst hK; exact ix_list
theorem ix_tupK (K : PySem.W.Frag) (hK : X.K = K := by rfl) : IxR X (rIxT K) := by subst hK; exact ix_tup
theorem sl_listK (K : PySem.W.Frag) (hK : X.K = K := by rfl) : SlR X (rSlL K) := by subst hK; exact sl_list
theorem in_seqK (K : PySem.W.Frag) (hK : X.K = K := by rfl) : OpR X (compareOp .In) (rIn K false) := by subst hK; exact op_in_seq
theorem notIn_seqK (K : PySem.W.Frag) (hK : X.K = K := by rfl) : OpR X (compareOp .NotIn) (rIn K true) := by subst hK; exact op_notIn_seq
theorem eqDK (K : PySem.W.Frag) (hu : X.A.units + 64 < cLine) (hK : X.K = K := by rfl) : OpR X (compareOp .Eq) (rEqD K) := by subst hK; exact op_eqD hu
theorem neDK (K : PySem.W.Frag) (hu : X.A.units + 64 < cLine) (hK : X.K = K := by rfl) : OpR X (compareOp .NotEq) (rNeD K) := by subst hK; exact op_neD hu
def rLen (K : PySem.W.Frag) : List V → Hp → VK → Prop := fun xs H Q => ∃ p ys, xs = [.ref p] ∧ (SqL K H p ys ∨ SqT K H p ys) ∧ Q (.int ys.length) H
def rLst (K : PySem.W.Frag) : List V → Hp → VK → Prop := fun xs H Q => ∃ p ys, xs = [.ref p] ∧ (SqL K H p ys ∨ SqT K H p ys) ∧ ∀ l, H l = none → Q (.ref l) (upd H l (.lst ys))
theorem lenK (K : PySem.W.Frag) (hK : X.K = K := by rfl) : CallR X (.builtin "len") (rLen K) := by subst hK; exact call_len_seq
theorem lstK (K : PySem.W.Frag) (hK : X.K = K := by rfl) : CallR X (.type "list") (rLst K) := by subst hK; exact call_list_of
theorem sumK (K : PySem.W.Frag) (hc : X.calm = true) (hK : X.K = K := by rfl) : CallR X (.builtin "sum") (rSum K) := by subst hK; exact cr_sum hc
theorem allK (K : PySem.W.Frag) (hc : X.calm = true) (hK : X.K = K := by rfl) : CallR X (.builtin "all") (rAll K) := by subst hK; exact cr_all hc
theorem anyK (K : PySem.W.Frag) (hc : X.calm = true) (hK : X.K = K := by rfl) : CallR X (.builtin "any") (rAny K) := by subst hK; exact cr_any hc
theorem maxK (K : PySem.W.Frag) (hc : X.calm = true) (hK : X.K = K := by rfl) : CallR X (.builtin "max") (rMax K) := by subst hK; exact cr_max hc
theorem minK (K : PySem.W.Frag) (hc : X.calm = true) (hK : X.K = K := by rfl) : CallR X (.builtin "min") (rMin K) := by subst hK; exact cr_min hc
theorem isiK (K : PySem.W.Frag) (hK : X.K = K := by rfl) : CallR X (.builtin "isinstance") (rIsi K) := by subst hK; exact call_isi
theorem sortedK (K : PySem.W.Frag) (hK : X.K = K := by rfl) : CallR X (.builtin "sorted") (rSortedI K) := by subst hK; exact cr_sortedI
theorem indexK (K : PySem.W.Frag) (hK : X.K = K := by rfl) : MtR X "list.index" (rIndex K) := by subst hK; exact mt_index
theorem countK (K : PySem.W.Frag) (hK : X.K = K := by rfl) : MtR X "list.count" (rCntI K) := by subst hK; exact mt_lcount
theorem listK (K : PySem.W.Frag) {tg l : Expr} (hl : PE X l tl) (hK : X.K = K := by rfl) : PI X tg l (iList K tl) := by subst hK; exact pi_list hl
theorem tupK (K : PySem.W.Frag) {tg l : Expr} (hl : PE X l tl) (hK : X.K = K := by rfl) : PI X tg l (iTup K tl) := by subst hK; exact pi_tup hl
theorem enumK (K : PySem.W.Frag) {p tpos : Pos} {elts : List Expr} {kk : Nat} (hg : Gl X "enumerate") (hm : X.mg "enumerate" = none) (ha : PA X [e] t) (hs : starEach [e] X.env = [(false, eval e X.env)] := by rfl) (hK : X.K = K := by rfl) :
    PI X (.Tuple elts kk tpos) (.Call (.Name "enumerate" p) [e] [] pos) (iEnum K t) := by subst hK; exact pi_enum hg hm ha hs
theorem zipK (K : PySem.W.Frag) {e2 : Expr} {p tpos : Pos} {elts : List Expr} {kk : Nat} (hg : Gl X "zip") (hm : X.mg "zip" = none) (ha : PA X [e, e2] t)
    (hs : starEach [e, e2] X.env = (false, eval e X.env) :: starEach [e2] X.env := by rfl) (hpl : (backTo pos (starEach [e2] X.env)).any (·.1) = false := by rfl) (hK : X.K = K := by rfl) :
    PI X (.Tuple elts kk tpos) (.Call (.Name "zip" p) [e, e2] [] pos) (iZip K t) := by subst hK; exact pi_zip hg hm ha hs hpl
theorem gtupK (K : PySem.W.Frag) {k n : Nat} {u : TGs} (hc : X.calm = true) (h : PGs X es u)
    (hn : (assignEach es X.env).length = n := by rfl) (hst : (assignEach es X.env).findIdx? (·.1) = none := by rfl) (hK : X.K = K := by rfl) : PG X (.Tuple es k pos) (gTup K n u) := by subst hK; exact pg_tup hc h hn hst
theorem fldK (K : PySem.W.Frag) {f : Str} (he : PE X e ta) (hb : attributeBase e f X.env (eval e X.env) = eval e X.env) (hK : X.K = K := by rfl) : PE X (.Attribute e f pos) (tFld K ta f) := by subst hK; exact pe_fld he hb
theorem revLK (K : PySem.W.Frag) {k : Nat} {p1 p2 p3 : Pos} (he : PE X e te) (hK : X.K = K := by rfl) : PE X (.Subscript e (.Slice none none (some (.UnaryOp .USub (.Constant (.int 1) k p1) p2)) p3) pos) (tRevL K te) := by subst hK; exact pe_revL he
theorem bm0K (K : PySem.W.Frag) {T id : String} {name : Str} {r : V → List V → Hp → VK → Prop} (pa : PlainAttrs T) (slot : Slot T name id) (hty : typeOf (.builtin id) = pure (.type "method_descriptor")) (hm : MtR X id r) (ho : PE X o to)
    (hbase : attributeBase o name X.env (eval o X.env) = eval o X.env := by rfl) (hline : (apos.endLine == cpos.line) = true := by rfl) (hK : X.K = K := by rfl) : PE X (.Call (.Attribute o name apos) [] [] cpos) (tBM0 K T r to) := by subst hK; exact pe_bm0 pa slot hty hm ho hbase hline
theorem bmK (K : PySem.W.Frag) {T id : String} {name : Str} {r : V → List V → Hp → VK → Prop} (pa : PlainAttrs T) (slot : Slot T name id) (hty : typeOf (.builtin id) = pure (.type "method_descriptor")) (hm : MtR X id r) (ho : PE X o to) (ha : PA X (e :: es) t)
    (hbase : attributeBase o name X.env (eval o X.env) = eval o X.env := by rfl)
    (hfew : ((backTo cpos (starEach (e :: es) X.env)).all (fun x => !x.1) && (backToKw cpos (keywordEach [] X.env)).all (fun x => x.1.isSome)
      && decide ((e :: es).length + ([] : List Keyword).length + (if ([] : List Keyword).isEmpty then 0 else 1) < 30)) = true := by rfl)
    (hline : (apos.endLine == cpos.line) = true := by rfl) (hs : starEach (e :: es) X.env = (false, eval e X.env) :: starEach es X.env := by rfl) (hplain : (backTo cpos (starEach es X.env)).any (·.1) = false := by rfl) (hK : X.K = K := by rfl) :
    PE X (.Call (.Attribute o name apos) (e :: es) [] cpos) (tBM K T r to t) := by subst hK; exact pe_bm pa slot hty hm ho ha hbase hfew hline hs hplain
end
open Evl (Ex Ex.refl Ex.trans Ex.new Ex.mut Ev EvT EvA)
section
variable {K : PySem.W.Frag} {σ : L2.St} {B H : Hp} {ta tb te : TE} {tt : TT} {d d1 d2 : PyData} {ds : List PyData} {v : V} {Dn : Ends} {tu tw tz : TS} {n i j : Nat}
/-! the same, something behind -/
theorem q_asgV (h : Ev te σ H v) (k : ∀ H1, Ex H H1 → tz Dn (σ.set n (some v)) H1) : tSeq (tAsg te (gName n)) tz Dn σ H := Evl.s_asg (D := { Dn with nx := tz Dn }) h k
theorem q_asgD (h : EvD te σ B H d) (k : ∀ v B' H', Gr B H B' H' → Da B' v d → tz Dn (σ.set n (some v)) H') : tSeq (tAsg te (gName n)) tz Dn σ H := s_asgD (Dn := { Dn with nx := tz Dn }) h k
theorem q_asgN (h : EvN te σ B H ds) (k : ∀ p xs B' H', Gr B H B' H' → H p = none → B' p = none → H' p = some (.lst xs) → DaAll B' xs ds → tz Dn (σ.set n (some (.ref p))) H') : tSeq (tAsg te (gName n)) tz Dn σ H := s_asgN (Dn := { Dn with nx := tz Dn }) h k
theorem q_asgM {P : List PyData → Prop} (h : EvM te σ B H P) (k : ∀ ds p xs B' H', P ds → Gr B H B' H' → H p = none → B' p = none → H' p = some (.lst xs) → DaAll B' xs ds → tz Dn (σ.set n (some (.ref p))) H') : tSeq (tAsg te (gName n)) tz Dn σ H := s_asgM (Dn := { Dn with nx := tz Dn }) h k
theorem q_asg2 (h : EvD te σ B H (.tuple [d1, d2])) (k : ∀ x y B' H', Gr B H B' H' → Da B' x d1 → Da B' y d2 → tz Dn ((σ.set i (some x)).set j (some y)) H') : tSeq (tAsg te (gTup K 2 (gCons (gName i) (gCons (gName j) gNil)))) tz Dn σ H := s_asg2 (Dn := { Dn with nx := tz Dn }) h k
theorem q_popAsg {l : Addr} {xs : List V} (hl : H l = some (.lst xs)) (ha : Ev ta σ H (.ref l)) (hx : xs[xs.length - 1]? = some v) (k : ∀ H1, Ex H H1 → tz Dn (σ.set n (some v)) (upd H1 l (.lst xs.dropLast))) :
    tSeq (tAsg (tBM0 K "list" rPop ta) (gName n)) tz Dn σ H := s_popAsg (Dn := { Dn with nx := tz Dn }) hl ha hx k
theorem q_popDrop {l : Addr} {xs : List V} (hl : H l = some (.lst xs)) (ha : Ev ta σ H (.ref l)) (hx : xs[xs.length - 1]? = some v) (k : ∀ H1, Ex H H1 → tz Dn σ (upd H1 l (.lst xs.dropLast))) :
    tSeq (tDrop (tBM0 K "list" rPop ta)) tz Dn σ H := s_popDrop (Dn := { Dn with nx := tz Dn }) hl ha hx k
theorem q_app {l : Addr} {xs : List V} (hl : H l = some (.lst xs)) (ha : Ev ta σ H (.ref l)) (h : Ev te σ H v) (hz : xs.length < 100000) (k : ∀ H1, Ex H H1 → tz Dn σ (upd H1 l (.lst (xs ++ [v])))) :
    tSeq (tDrop (tBM K "list" rAppend ta (tCons te tNil))) tz Dn σ H := Evl.s_app (D := { Dn with nx := tz Dn }) hl ha h hz k
theorem q_appD {l : Addr} {xs : List V} (hl : H l = some (.lst xs)) (ha : Ev ta σ H (.ref l)) (h : EvD te σ B H d) (hz : xs.length < 100000) (k : ∀ v B' H1, Gr B H B' H1 → Da B' v d → tz Dn σ (upd H1 l (.lst (xs ++ [v])))) :
    tSeq (tDrop (tBM K "list" rAppend ta (tCons te tNil))) tz Dn σ H := s_appD (Dn := { Dn with nx := tz Dn }) hl ha h hz k
theorem q_setL {l : Addr} {xs : List V} {m : Nat} (hl : H l = some (.lst xs)) (h : Ev te σ H v) (ho : Ev ta σ H (.ref l)) (hi : Ev tb σ H (.int (m : Int))) (hj : m < xs.length) (k : ∀ H1, Ex H H1 → tz Dn σ (upd H1 l (.lst (xs.set m v)))) :
    tSeq (tAsg te (gSub ta tb rSetL)) tz Dn σ H := Evl.s_setL (D := { Dn with nx := tz Dn }) hl h ho hi hj k
theorem q_if {b : Bool} (h : EvT tt σ H b) (h1 : b = true → ∀ H1, Ex H H1 → tu { Dn with nx := tz Dn } σ H1) (h2 : b = false → ∀ H1, Ex H H1 → tw { Dn with nx := tz Dn } σ H1) : tSeq (tIfS tt tu tw) tz Dn σ H := Evl.s_if (D := { Dn with nx := tz Dn }) h h1 h2
/-- if without else -/
theorem q_when {b : Bool} (h : EvT tt σ H b) (h1 : b = true → ∀ H1, Ex H H1 → tu { Dn with nx := tz Dn } σ H1) (h2 : b = false → ∀ H1, Ex H H1 → tz Dn σ H1) : tSeq (tIfS tt tu tNext) tz Dn σ H := Evl.s_if (D := { Dn with nx := tz Dn }) h h1 h2
theorem s_when {b : Bool} (h : EvT tt σ H b) (h1 : b = true → ∀ H1, Ex H H1 → tu Dn σ H1) (h2 : b = false → ∀ H1, Ex H H1 → Dn.nx σ H1) : tIfS tt tu tNext Dn σ H := Evl.s_if (D := Dn) h h1 h2
theorem q_wh (W : Nat → L2.St → Hp → Prop) (m0 : Nat) (h0 : W m0 σ H)
    (hs : ∀ m σ' H', W m σ' H' → ∃ b, EvT tt σ' H' b ∧ (b = true → ∀ H1, Ex H' H1 → tu { Dn with nx := fun σ2 H2 => ∃ m', m' < m ∧ W m' σ2 H2, ct := fun σ2 H2 => ∃ m', m' < m ∧ W m' σ2 H2, bk := tz Dn } σ' H1) ∧ (b = false → ∀ H1, Ex H' H1 → tz Dn σ' H1)) : tSeq (tWhile tt tu) tz Dn σ H :=
  s_wh (Dn := { Dn with nx := tz Dn }) W m0 h0 hs
theorem q_for {α : Type} {dt : α → PyData} {P : List α → Prop} {wi : TI} (h : EvI wi σ B H dt P) (Pv : List α → Hp → Nat → L2.St → Hp → Prop) (h0 : ∀ l B2 H2, P l → Gr B H B2 H2 → Pv l B2 0 σ H2)
    (hb : ∀ l B2 i σ' H', Pv l B2 i σ' H' → Ex B2 H')
    (hs : ∀ l B2 i a x B3 σ' H' H'', P l → l[i]? = some a → Pv l B2 i σ' H' → Gr B2 H' B3 H'' → Da B3 x (dt a) → tu { Dn with nx := Pv l B2 (i + 1), ct := Pv l B2 (i + 1), bk := tz Dn } (σ'.set j (some x)) H'')
    (hd : ∀ l B2 σ' H', P l → Pv l B2 l.length σ' H' → tz Dn σ' H') : tSeq (tFor wi (gName j) tu) tz Dn σ H := s_for (Dn := { Dn with nx := tz Dn }) h Pv h0 hb hs hd
theorem q_for2 {α : Type} {d1 d2 : α → PyData} {P : List α → Prop} {wi : TI} {k : Nat} (h : EvI wi σ B H (fun a => .tuple [d1 a, d2 a]) P) (Pv : List α → Hp → Nat → L2.St → Hp → Prop) (h0 : ∀ l B2 H2, P l → Gr B H B2 H2 → Pv l B2 0 σ H2)
    (hb : ∀ l B2 i σ' H', Pv l B2 i σ' H' → Ex B2 H')
    (hs : ∀ l B2 i a x y B3 σ' H' H'', P l → l[i]? = some a → Pv l B2 i σ' H' → Gr B2 H' B3 H'' → Da B3 x (d1 a) → Da B3 y (d2 a) → tu { Dn with nx := Pv l B2 (i + 1), ct := Pv l B2 (i + 1), bk := tz Dn } ((σ'.set j (some x)).set k (some y)) H'')
    (hd : ∀ l B2 σ' H', P l → Pv l B2 l.length σ' H' → tz Dn σ' H') : tSeq (tFor wi (gTup K 2 (gCons (gName j) (gCons (gName k) gNil))) tu) tz Dn σ H := s_for2 (Dn := { Dn with nx := tz Dn }) h Pv h0 hb hs hd
/-! the script: a list that is read -/
theorem en_slS {a : Addr} {ns : List Int} {m : Nat} (eb : Ex B H) (h : Ev te σ H (.ref a)) (hS : SqL K H a (ns.map V.int)) : EvN (tSl (rSlL K) te tNoPart (tPart (tC (.int (m : Int))))) σ B H ((ns.take m).map PyData.int) := fun H1 e Q q =>
  h H1 e _ fun H2 e2 => ⟨(m : Int), rfl, a, ns.map V.int, rfl, Evl.ex_l (e.trans e2) hS, fun p hp => q p _ B _ (Gr.same (eb.trans e) (e2.trans (Ex.new hp))) (base_none e2 hp) (base_none ((eb.trans e).trans e2) hp) upd_same (by
    have : cutV (ns.map V.int) none (some (m : Int)) = (ns.take m).map V.int := by
      unfold cutV
      rw [HT.sIx_none, HT.sIx_nat, List.drop_zero, Nat.sub_zero, List.map_take]
      by_cases h : m ≤ (ns.map V.int).length
      · rw [Nat.min_eq_left h]
      · rw [Nat.min_eq_right (by omega), List.take_length, List.take_of_length_le (by omega)]
    rw [this]
    exact .ints)⟩
theorem dpAll_ints : ∀ ns : List Int, DpAll K H (ns.map V.int) (ns.map PyData.int)
  | [] => .nil
  | n :: ns => .cons (.int n) (dpAll_ints ns)
theorem ev_neNilS {a : Addr} {ns : List Int} (h : Ev ta σ H (.ref a)) (hS : SqL K H a (ns.map V.int)) : Ev (tOp (rNeD K) ta (tLst tNil)) σ H (.bl (!ns.isEmpty)) := fun H1 e Q q =>
  h H1 e _ fun H2 e2 => ⟨Nat.zero_le _, fun p hp => ⟨.list (ns.map PyData.int), .list [], .lst (Evl.ex_l (e.trans (e2.trans (Ex.new hp))) hS) (dpAll_ints ns), .lst (SqL.of upd_same) .nil, (sh_ints ns).ok, (sh_nil (n := 0)).ok, by
    rw [eqv_nil]
    have : (ns.map PyData.int).isEmpty = ns.isEmpty := by cases ns <;> rfl
    rw [this]
    exact q _ (e2.trans (Ex.new hp))⟩⟩
theorem en_if {b : Bool} (h : EvT tt σ H b) (h1 : b = true → EvN ta σ B H ds) (h2 : b = false → EvN tb σ B H ds) : EvN (tIf tt ta tb) σ B H ds := fun H1 e Q q => h H1 e _ fun H2 e2 => by
  have key : ∀ {te : TE}, EvN te σ B H ds → te σ H2 Q := fun he => he H2 (e.trans e2) Q fun p xs B' H3 g n nb hp k => q p xs B' H3 ⟨e2.trans g.hh, g.bb, g.bh, fun a h1 h2 => g.old a (ex_ne e2 h1) h2⟩ (base_none e2 n) nb hp k
  cases b with
  | true => exact key (h1 rfl)
  | false => exact key (h2 rfl)
/-- x = f(..), one of several answers -/
theorem q_callAsg {sp : Sp} {E : XK} {ar : TA} (h : EvDs ar σ B H ds) (hs : ∀ B1 H1 vs (E : XK), Gr B H B1 H1 → DaAll B1 vs ds → sp vs H1 (fun v H' => tz Dn (σ.set n (some v)) H') E) : tSeq (tAsg (tCall sp [] E ar) (gName n)) tz Dn σ H :=
  h H (Ex.refl H) _ fun vs B1 H1 g k => by
    rw [List.append_nil]
    exact hs B1 H1 vs E g k
theorem q_par {w : V} (ha : Ev ta σ H v) (hb : Ev tb σ H w) (k : ∀ H1, Ex H H1 → tz Dn ((σ.set i (some v)).set j (some w)) H1) : tSeq (tPar i j (tCons ta (tCons tb tNil))) tz Dn σ H :=
  ha H (Ex.refl H) _ fun H1 e1 => hb H1 e1 _ fun H2 e2 => ⟨v, w, rfl, k H2 (e1.trans e2)⟩
theorem s_par {w : V} (ha : Ev ta σ H v) (hb : Ev tb σ H w) (k : ∀ H1, Ex H H1 → Dn.nx ((σ.set i (some v)).set j (some w)) H1) : tPar i j (tCons ta (tCons tb tNil)) Dn σ H :=
  ha H (Ex.refl H) _ fun H1 e1 => hb H1 e1 _ fun H2 e2 => ⟨v, w, rfl, k H2 (e1.trans e2)⟩
theorem ev_max2 {a b : Int} (ha : Ev ta σ H (.int a)) (hb : Ev tb σ H (.int b)) : Ev (tCB (fun xs H Q => ∃ i j, xs = [.int i, .int j] ∧ Q (.int (if j > i then j else i)) H) (tCons ta (tCons tb tNil))) σ H (.int (max a b)) := fun H1 e Q q =>
  ha H1 e _ fun H2 e2 => hb H2 (e.trans e2) _ fun H3 e3 => ⟨a, b, rfl, by
    have : (if b > a then b else a) = max a b := by split <;> omega
    rw [this]; exact q H3 (e2.trans e3)⟩
theorem ev_min2 {a b : Int} (ha : Ev ta σ H (.int a)) (hb : Ev tb σ H (.int b)) : Ev (tCB (fun xs H Q => ∃ i j, xs = [.int i, .int j] ∧ Q (.int (if j < i then j else i)) H) (tCons ta (tCons tb tNil))) σ H (.int (min a b)) := fun H1 e Q q =>
  ha H1 e _ fun H2 e2 => hb H2 (e.trans e2) _ fun H3 e3 => ⟨a, b, rfl, by
    have : (if b < a then b else a) = min a b := by split <;> omega
    rw [this]; exact q H3 (e2.trans e3)⟩
/-! one's own list of numbers -/
theorem ev_inO {l : Addr} {ns : List Int} {m : Int} (ha : Ev ta σ H (.int m)) (hb : Ev tb σ H (.ref l)) (hl : H l = some (.lst (ns.map V.int))) : Ev (tOp (rIn K false) ta tb) σ H (.bl (decide (m ∈ ns))) := by
  have h := Evl.ev_op ha hb (Evl.rv_isL (K := K) (SqL.of hl) rfl (flat_ints ns))
  rw [inV_ints] at h; exact h
theorem ev_niO {l : Addr} {ns : List Int} {m : Int} (ha : Ev ta σ H (.int m)) (hb : Ev tb σ H (.ref l)) (hl : H l = some (.lst (ns.map V.int))) : Ev (tOp (rIn K true) ta tb) σ H (.bl (!decide (m ∈ ns))) := by
  have h := Evl.ev_op ha hb (Evl.rv_niL (K := K) (SqL.of hl) rfl (flat_ints ns))
  rw [inV_ints] at h; exact h
/-- sorted(xs), numbers -/
theorem en_sortedI {ns : List Int} (h : EvD ta σ B H (.list (ns.map PyData.int))) {P : List PyData → Prop} (hp : ∀ ms : List Int, ms.Perm ns → ms.Pairwise (· ≤ ·) → P (ms.map PyData.int)) : EvM (tCB (rSortedI K) (tCons ta tNil)) σ B H P := fun H1 e Q q =>
  h H1 e _ fun v B1 H2 g k => by
    obtain ⟨a, xs, rfl, q1, q2⟩ := k.lst_inv
    have := q2.ints_inv
    subst this
    exact ⟨a, ns, rfl, SqL.of (g.bh _ _ q1), fun ms p pm sm hp' => q _ p _ B1 _ (hp ms pm sm) (g.trans (Gr.same g.bh (Ex.new hp'))) (base_none g.hh hp') (base_none g.bh hp') upd_same .ints⟩
theorem en_of {P : List PyData → Prop} (h : EvM te σ B H P) (hp : ∀ es, P es → es = ds) : EvN te σ B H ds := fun H1 e Q q => h H1 e Q fun es p xs B' H2 pe g n nb hp' k => by
  have := hp es pe
  subst this
  exact q p xs B' H2 g n nb hp' k
end
end TB
set_option Elab.async false
set_option linter.all false
set_option maxRecDepth 100000
set_option maxHeartbeats 4000000
/-! Bits more: what was of the base becomes one's own again; in a list of lists; sums. -/
namespace TB
open PySem PySem.Spec PyProof.Rows L2 TM
open Evl (Ex Ex.refl Ex.trans Ex.new Ex.mut Ev EvT EvA ev_var ev_c ev_op rv_I0 rv_I rv_eq rv_ne et_test et_B et_and et_or et_not et_is ev_is sz_of sz_lt fresh_back)
theorem Fr.unfix {B0 H0 B H B1 : Hp} {L : List (Addr × HO)} {p : Addr} {o : HO} (f : Fr B0 H0 B H L) (e0 : Ex B0 B1) (e : Ex B1 B) (n0 : H0 p = none) (nb : B1 p = none) (h : B p = some o) : Fr B0 H0 B1 H ((p, o) :: L) where
  ex0 := f.ex0
  eb := e0
  bh := e.trans f.bh
  old := fun a h1 h2 => base_none e (f.old a h1 h2)
  own := fun q hq => by
    rcases List.mem_cons.mp hq with z | hq
    · subst z; exact ⟨n0, nb, f.bh _ _ h⟩
    · obtain ⟨h1, h2, h3⟩ := f.own q hq
      exact ⟨h1, base_none e h2, h3⟩
  nd := List.nodup_cons.mpr ⟨fun z => by
    obtain ⟨q, hq, e⟩ := List.mem_map.mp z
    have := (f.own q hq).2.1
    rw [show q.1 = p from e, h] at this
    exact (nomatch this), f.nd⟩
theorem room65 {k : Nat} {A : Around} (hr : Room k A) : A.units + 65 < cLine := by have := hr.un; omega
theorem inDK (K : PySem.W.Frag) {X : Cx} (hu : X.A.units + 65 < cLine) (hK : X.K = K := by rfl) : OpR X (compareOp .In) (rInD K) := by subst hK; exact op_inD hu
section
variable {K : PySem.W.Frag} {σ : L2.St} {B H : Hp} {ta tb te : TE} {ds : List PyData}
theorem ev_inS {P : PyData → Prop} {b : Bool} (ha : EvS ta σ B H P) (hb : EvD tb σ B H (.list ds)) (h1 : ∀ d, P d → SeqAt.shaped d = true ∧ (ds.any fun z => PyData.eqv z d) = b) (h2 : SeqAt.shaped (.list ds) = true) : Ev (tOp (rInD K) ta tb) σ H (.bl b) := fun H1 e Q q =>
  ha H1 e _ fun d v B1 H2 pd g k => hb H2 (e.trans g.hh) _ fun w B2 H3 g2 k2 => by
    obtain ⟨g3, u1, u2⟩ := g.un g2
    obtain ⟨s1, s2⟩ := h1 d pd
    exact ⟨d, ds, ((k.ex u1).ex g3.bh).dp (SeqAt.canLay_of_shaped s1), ((k2.ex u2).ex g3.bh).dp (SeqAt.canLay_of_shaped h2), s1, h2, by rw [s2]; exact q H3 g3.hh⟩
/-- sorted(xs), numbers, one of several -/
theorem en_sortedM {R : List Int → Prop} (h : EvM ta σ B H fun ds => ∃ ns : List Int, R ns ∧ ds = ns.map PyData.int) : EvM (tCB (rSortedI K) (tCons ta tNil)) σ B H (fun ds => ∃ ms ns : List Int, R ns ∧ ms.Perm ns ∧ ms.Pairwise (· ≤ ·) ∧ ds = ms.map PyData.int) := fun H1 e Q q =>
  h.toS H1 e _ fun d v B1 H2 pd g k => by
    obtain ⟨ds, rfl, ns, hR, rfl⟩ := pd
    obtain ⟨a, xs, rfl, q1, q2⟩ := k.lst_inv
    have := q2.ints_inv
    subst this
    exact ⟨a, ns, rfl, SqL.of (g.bh _ _ q1), fun ms p pm sm hp' => q _ p _ B1 _ ⟨ms, ns, hR, pm, sm, rfl⟩ (g.trans (Gr.same g.bh (Ex.new hp'))) (base_none g.hh hp') (base_none g.bh hp') upd_same .ints⟩
theorem em_mono {P R : List PyData → Prop} (h : EvM te σ B H P) (k : ∀ ds, P ds → R ds) : EvM te σ B H R := fun H1 e Q q => h H1 e Q fun ds p xs B' H2 pd g n nb hp kd => q ds p xs B' H2 (k ds pd) g n nb hp kd
end
theorem tieD_inj {t u : Tie} (h : tieD t = tieD u) : t = u := by
  obtain ⟨a, b⟩ := t
  obtain ⟨c, e⟩ := u
  unfold tieD at h
  cases h; rfl
theorem tiesD_inj {ts us : List Tie} (h : tiesD ts = tiesD us) : ts = us := by
  unfold tiesD at h
  injection h with h
  induction ts generalizing us with
  | nil => cases us with
    | nil => rfl
    | cons u us => cases h
  | cons t ts ih => cases us with
    | nil => cases h
    | cons u us =>
      rw [List.map_cons, List.map_cons] at h
      injection h with h1 h2
      rw [tieD_inj h1, ih h2]
end TB
namespace TM
theorem deg_le (ts : List Tie) (v : Int) : deg ts v ≤ ts.length := List.countP_le_length
theorem perm_sum {l m : List Int} (h : l.Perm m) : l.sum = m.sum := by
  induction h with
  | nil => rfl
  | cons x _ ih => rw [List.sum_cons, List.sum_cons, ih]
  | swap x y l => rw [List.sum_cons, List.sum_cons, List.sum_cons, List.sum_cons]; omega
  | trans _ _ h1 h2 => rw [h1, h2]
/-- two of each place by a web's colours -/
theorem pim_at {ts : List Tie} {cs : List Int} (hl : cs.length = ts.length) (hv : ∀ c ∈ cs, c = 0 ∨ c = 1) (v : Int) : ∀ m, m ≤ ts.length → pim (ts.take m) ((cs.take m).map some) v = 2 * ((adjTo ts m v).map fun i => cs.getD i 0).sum - (deg (ts.take m) v : Int) := by
  intro m
  induction m with
  | zero => intro _; rfl
  | succ m ih =>
    intro hm
    have ht : ts[m]? = some ts[m] := List.getElem?_eq_getElem (by omega)
    have hc : cs[m]? = some cs[m] := List.getElem?_eq_getElem (by omega)
    have hcv := hv _ (List.mem_of_getElem? hc)
    rw [List.take_add_one, List.take_add_one, ht, hc, Option.toList_some, Option.toList_some, List.map_append, pim_append _ _ _ _ _ (by rw [List.length_map, List.length_take, List.length_take, hl]), ih (by omega), adjTo_succ ht, deg_append, List.map_append, List.sum_append]
    have e1 : pim [ts[m]] ([cs[m]].map some) v = (if has ts[m] v then wt (some cs[m]) else 0) + 0 := rfl
    have e2 : deg [ts[m]] v = (if has ts[m] v then 1 else 0) := by
      rw [deg_cons, deg_nil, Nat.zero_add]
    have e3 : cs.getD m 0 = cs[m] := by rw [List.getD_eq_getElem?_getD, hc]; rfl
    rw [e1, e2]
    cases has ts[m] v with
    | false => simp
    | true =>
      have e4 : wt (some cs[m]) = 2 * cs[m] - 1 := by
        rcases hcv with h | h <;> rw [h] <;> rfl
      have e5 : ([m].map fun i => cs.getD i 0).sum = cs[m] := by rw [List.map_cons, e3]; simp
      simp only [if_true, e4]
      rw [e5]; omega
theorem pim_atL {ts : List Tie} {cs : List Int} (hl : cs.length = ts.length) (hv : ∀ c ∈ cs, c = 0 ∨ c = 1) (v : Int) : 2 * ((adjTo ts ts.length v).map fun i => cs.getD i 0).sum - (deg ts v : Int) = pim ts (cs.map some) v := by
  have h := pim_at hl hv v ts.length (Nat.le_refl _)
  rw [List.take_length, List.take_of_length_le (by omega)] at h
  exact h.symm
def offF (ts : List Tie) (cs : List Int) (v : Int) : Int := ((pim ts (cs.map some) v).natAbs : Int)
/-- how far apart the places of a part are that differ by more than one -/
theorem due_part {n : Int} {ts : List Tie} {cs : List Int} (w : Web n ts) (N : Nearly n ts cs) {b : Int} (hb : 0 ≤ b ∧ b < n) :
    ((part n ts b).filter fun v => decide (offF ts cs v > 1)).map (offF ts cs) = if oddP n ts (part n ts b) = true then [2] else [] := by
  have inn : ∀ x ∈ part n ts b, (0 ≤ x ∧ x < n) ∧ Reach ts b x := fun x hx => by
    have r := (mem_part w hb).mp hx
    exact ⟨r.in w hb, r⟩
  have odd1 : ∀ x ∈ part n ts b, deg ts x % 2 = 1 → decide (offF ts cs x > 1) = false := fun x hx h => by
    have := N.odd x (inn x hx).1.1 (inn x hx).1.2 h
    unfold offF; rw [this]; rfl
  have nul1 : ∀ x ∈ part n ts b, deg ts x % 2 = 0 → ¬ (OddAt ts x ∧ Least ts x) → decide (offF ts cs x > 1) = false := fun x hx h h2 => by
    have := N.nul x (inn x hx).1.1 (inn x hx).1.2 h h2
    unfold offF; rw [this]; rfl
  by_cases O : OddAt ts b
  · rw [if_pos ((oddP_part w hb).mpr O)]
    obtain ⟨c, r, e, rc, lc⟩ := part_head w hb
    have hs := part_sorted n ts b
    rw [e] at hs inn nul1 odd1 ⊢
    have hc := inn c List.mem_cons_self
    have h2 := N.two c hc.1.1 hc.1.2 (O.move rc) lc
    have h2' : offF ts cs c = 2 := by unfold offF; rw [h2]; rfl
    rw [List.filter_cons, h2', if_pos (by decide), List.map_cons, h2']
    have : r.filter (fun v => decide (offF ts cs v > 1)) = [] := by
      rw [List.filter_eq_nil_iff]
      intro x hx
      have hxm := List.mem_cons_of_mem c hx
      have hlt := (List.pairwise_cons.mp hs).1 x hx
      have hev : deg ts x % 2 = 0 := O.1 x (inn x hxm).2
      rw [nul1 x hxm hev fun z => ?_]
      · decide
      · have := z.2 c ((inn x hxm).2.symm.trans rc)
        omega
    rw [this]; rfl
  · rw [if_neg fun z => O ((oddP_part w hb).mp z)]
    have : (part n ts b).filter (fun v => decide (offF ts cs v > 1)) = [] := by
      rw [List.filter_eq_nil_iff]
      intro x hx
      have hd : deg ts x % 2 = 1 ∨ deg ts x % 2 = 0 := by omega
      rcases hd with h | h
      · rw [odd1 x hx h]; decide
      · rw [nul1 x hx h fun z => O (z.1.move (inn x hx).2.symm)]
        decide
    rw [this]; rfl
/-- three alike between two -/
theorem near_three {cs ms : List Int} (N : Nearly 2 [(0, 1), (0, 1), (0, 1)] cs) (p : ms.Perm cs) (s : ms.Pairwise (· ≤ ·)) : ms = [0, 0, 1] ∨ ms = [0, 1, 1] := by
  have hl := p.length_eq
  rw [N.len] at hl
  have hv : ∀ x ∈ ms, x = 0 ∨ x = 1 := fun x hx => N.val x (p.subset hx)
  have hs := perm_sum p
  have h1 := N.odd 0 (by decide) (by decide) (by decide)
  rw [← pim_atL N.len N.val] at h1
  have e1 : adjTo [(0, 1), (0, 1), (0, 1)] 3 0 = [0, 1, 2] := by decide
  have e2 : deg [(0, 1), (0, 1), (0, 1)] 0 = 3 := by decide
  have hl2 := N.len
  match ms, hl with
  | [x, y, z], _ =>
    match cs, hl2 with
    | [a, b, c], _ =>
      have e3 : ([(0, 1), (0, 1), (0, 1)] : List Tie).length = 3 := rfl
      rw [e3, e1, e2] at h1
      have h1 : (2 * (a + (b + (c + 0))) - 3 : Int).natAbs = 1 := h1
      have hs : x + (y + (z + 0)) = a + (b + (c + 0)) := by simpa [List.sum_cons] using hs
      have hx := hv x (by simp)
      have hy := hv y (by simp)
      have hz := hv z (by simp)
      have s1 : x ≤ y := by
        have := (List.pairwise_cons.mp s).1 y (by simp)
        exact this
      have s2 : y ≤ z := by
        have := (List.pairwise_cons.mp (List.pairwise_cons.mp s).2).1 z (by simp)
        exact this
      have : (x = 0 ∧ y = 0 ∧ z = 1) ∨ (x = 0 ∧ y = 1 ∧ z = 1) := by omega
      rcases this with ⟨rfl, rfl, rfl⟩ | ⟨rfl, rfl, rfl⟩
      · exact .inl rfl
      · exact .inr rfl
end TM
set_option Elab.async false
set_option linter.all false
/-! Odd parts by their own ties; the halving that is told. -/
namespace TM
theorem part_in {n : Int} {ts : List Tie} (w : Web n ts) {b : Int} (hb : 0 ≤ b ∧ b < n) {t : Tie} (ht : t ∈ ts) {v : Int} (hv : has t v = true) (hp : v ∈ part n ts b) : t.1 ∈ part n ts b := by
  have r := (mem_part w hb).mp hp
  exact (mem_part w hb).mpr (r.trans (Reach.tie ht hv has_1))
def inner (ts : List Tie) (sm : List Int) : List Tie := ts.filter fun t => decide (t.1 ∈ sm)
theorem inner_deg {n : Int} {ts : List Tie} (w : Web n ts) {b : Int} (hb : 0 ≤ b ∧ b < n) {v : Int} (hv : v ∈ part n ts b) : deg (inner ts (part n ts b)) v = deg ts v := by
  unfold deg inner
  rw [List.countP_filter]
  refine countP_same fun t ht => ?_
  cases h : has t v with
  | false => rfl
  | true => rw [Bool.true_and]; exact decide_eq_true (part_in w hb ht h hv)
theorem inner_len (ts : List Tie) (sm : List Int) : (inner ts sm).length = ts.countP (fun t => decide (t.1 ∈ sm)) := by
  unfold inner; rw [List.countP_eq_length_filter]
/-- what is_odd_part says of a part -/
theorem oddP_inner {n : Int} {ts : List Tie} (w : Web n ts) {c : Int} (hc : 0 ≤ c ∧ c < n) {sm : List Int} (e : sm = part n ts c) (h0 : sm ≠ []) (hr : ∀ p ∈ sm, 0 ≤ p ∧ p < n) (hd : sm = part n ts (sm.headD 0)) :
    oddP n ts sm = (!(sm.any fun p => decide (deg (inner ts sm) p % 2 = 1)) && decide ((inner ts sm).length % 2 = 1)) := by
  have h1 : sm.isEmpty = false := by cases sm with | nil => exact absurd rfl h0 | cons _ _ => rfl
  have h2 : (sm.all fun p => decide (0 ≤ p) && decide (p < n)) = true := by
    rw [List.all_eq_true]; intro p hp; simp [hr p hp]
  have h3 : (sm.any fun p => decide (deg (inner ts sm) p % 2 = 1)) = sm.any fun p => decide (deg ts p % 2 = 1) := by
    rw [Bool.eq_iff_iff, List.any_eq_true, List.any_eq_true]
    constructor
    · rintro ⟨p, hp, q⟩
      refine ⟨p, hp, ?_⟩
      rw [e] at q hp
      rw [inner_deg w hc hp] at q; exact q
    · rintro ⟨p, hp, q⟩
      refine ⟨p, hp, ?_⟩
      rw [e] at hp ⊢
      rw [inner_deg w hc hp]; exact q
  unfold oddP
  rw [h1, h2, decide_eq_true hd, h3, inner_len, e, part_hands w hc]
  simp only [Bool.not_false, Bool.true_and]
  congr 2
  apply propext; omega
theorem oddP_false {n : Int} {ts : List Tie} {sm : List Int} (h : ¬ (sm ≠ [] ∧ (∀ p ∈ sm, 0 ≤ p ∧ p < n) ∧ sm = part n ts (sm.headD 0))) : oddP n ts sm = false := by
  unfold oddP
  cases h1 : sm.isEmpty with
  | true => rfl
  | false =>
    cases h2 : sm.all fun p => decide (0 ≤ p) && decide (p < n) with
    | false => rfl
    | true =>
      have : ¬ sm = part n ts (sm.headD 0) := fun z => h ⟨(fun e => by rw [e] at h1; cases h1), (fun p hp => by simpa using List.all_eq_true.mp h2 p hp), z⟩
      rw [decide_eq_false this]; rfl
theorem oddP_ext {n : Int} {ts : List Tie} {sm : List Int} (h : oddP n ts sm = true) : sm ≠ [] ∧ (∀ p ∈ sm, 0 ≤ p ∧ p < n) ∧ sm = part n ts (sm.headD 0) :=
  Classical.byContradiction fun z => by rw [oddP_false z] at h; cases h
/-- told with one more, 0: no odd part -/
theorem oddP_more {n : Int} {ts : List Tie} {sm : List Int} (h : oddP n ts sm = true) (us : List Tie) : oddP n us (sm ++ [0]) = false := by
  obtain ⟨h0, hr, _⟩ := oddP_ext h
  refine oddP_false fun z => ?_
  have hs := part_sorted n us ((sm ++ [0]).headD 0)
  rw [← z.2.2] at hs
  obtain ⟨p, r, e⟩ : ∃ p r, sm = p :: r := by
    cases sm with
    | nil => exact absurd rfl h0
    | cons p r => exact ⟨p, r, rfl⟩
  have hp := hr p (by rw [e]; exact List.mem_cons_self)
  have := (List.pairwise_append.mp hs).2.2 p (by rw [e]; exact List.mem_cons_self) 0 (List.mem_singleton.mpr rfl)
  omega
/-- the first place that is two apart -/
noncomputable def farF (n : Int) (ts : List Tie) : Option Int := (upto n).find? fun v => decide (offF ts (nearF n ts) v > 1)
end TM
set_option Elab.async false
set_option linter.all false
set_option maxRecDepth 100000
set_option maxHeartbeats 4000000
/-! Rules of one's own: max and min with a default; sorted(set(xs)), len(set(xs)) of any list of numbers. -/
namespace TB
open PySem PySem.Spec PyProof.Rows L2 TM
section
variable {X : Cx}
theorem alike_ints (ns : List Int) : PySem.W.AlikeAll (ns.map PyData.int) := by
  refine ⟨fun x hx y hy => ?_, fun x hx => ?_⟩
  · obtain ⟨i, _, rfl⟩ := List.mem_map.mp hx
    obtain ⟨j, _, rfl⟩ := List.mem_map.mp hy
    unfold PySem.W.alike; rfl
  · obtain ⟨i, _, rfl⟩ := List.mem_map.mp hx
    exact fun z => nomatch z
theorem deep_ints (ns : List Int) : PyData.depthAll (ns.map PyData.int) ≤ 1 := (shAll (n := 1) (ds := ns.map PyData.int) fun d hd => by
  obtain ⟨i, _, rfl⟩ := List.mem_map.mp hd
  exact sh_int).2
def rMaxDf (K : PySem.W.Frag) : List V → List V → Hp → VK → Prop := fun vs zs H Q => ∃ (a : Addr) (ns : List Int) (d : Int), vs = [V.ref a] ∧ zs = [.int d] ∧ SqL K H a (ns.map V.int) ∧ Q (.int (maxL d ns)) H
def rMinDf (K : PySem.W.Frag) : List V → List V → Hp → VK → Prop := fun vs zs H Q => ∃ (a : Addr) (ns : List Int) (d : Int), vs = [V.ref a] ∧ zs = [.int d] ∧ SqL K H a (ns.map V.int) ∧ Q (.int (minL d ns)) H
theorem maxDfK (K : PySem.W.Frag) (hc : X.calm = true) (hu : X.A.units + 64 < cLine) (hK : X.K = K := by rfl) : CallRK X (.builtin "max") [Str.ofString "default"] (rMaxDf K) := by
  subst hK
  intro pins s σ H vs zs us ws Q I r rz h
  obtain ⟨a, ns, d, rfl, rfl, hs, q⟩ := h
  obtain rfl := Vals.ref1 r
  obtain ⟨w1, rfl, t, rfl⟩ := vals1 rz
  obtain ⟨its, rv, hl, hz⟩ := I.list hs
  obtain ⟨as, hr⟩ := Dp.readsAll I _ _ its (dpAll_ints ns) rv
  have hd := deep_ints ns
  refine PySem.W.max_list_default (I.ok.hd hc) hl.isList (by simpa using hr) (alike_ints ns) (by omega) (fun e h' tk hk => ?_) fun y ys i v h' tk bs e hv hr' hk => ?_
  · obtain rfl : ns = [] := List.map_eq_nil_iff.mp e
    exact ⟨.int d, H, I.kept hk, ⟨_, rfl⟩, q⟩
  · cases ns with
    | nil => cases e
    | cons n r =>
      rw [List.map_cons] at e
      injection e with e1 e2
      rw [← e1, ← e2, PySem.W.maxD_ints] at hr'
      cases hr'
      exact ⟨.int (r.foldl max n), H, I.kept hk, ⟨_, rfl⟩, q⟩
theorem minDfK (K : PySem.W.Frag) (hc : X.calm = true) (hu : X.A.units + 64 < cLine) (hK : X.K = K := by rfl) : CallRK X (.builtin "min") [Str.ofString "default"] (rMinDf K) := by
  subst hK
  intro pins s σ H vs zs us ws Q I r rz h
  obtain ⟨a, ns, d, rfl, rfl, hs, q⟩ := h
  obtain rfl := Vals.ref1 r
  obtain ⟨w1, rfl, t, rfl⟩ := vals1 rz
  obtain ⟨its, rv, hl, hz⟩ := I.list hs
  obtain ⟨as, hr⟩ := Dp.readsAll I _ _ its (dpAll_ints ns) rv
  have hd := deep_ints ns
  refine PySem.W.min_list_default (I.ok.hd hc) hl.isList (by simpa using hr) (alike_ints ns) (by omega) (fun e h' tk hk => ?_) fun y ys i v h' tk bs e hv hr' hk => ?_
  · obtain rfl : ns = [] := List.map_eq_nil_iff.mp e
    exact ⟨.int d, H, I.kept hk, ⟨_, rfl⟩, q⟩
  · cases ns with
    | nil => cases e
    | cons n r =>
      rw [List.map_cons] at e
      injection e with e1 e2
      rw [← e1, ← e2, PySem.W.minD_ints] at hr'
      cases hr'
      exact ⟨.int (r.foldl min n), H, I.kept hk, ⟨_, rfl⟩, q⟩
end
/-! ### a set made of a list of numbers -/
abbrev set0 (w : World) : Obj := { cls := .type "set", dict := none, data := .set #[] 0 (.fresh 0 0 (!w.params.followText "set-order")) }
abbrev wth (s : Shared) (h : Heap) : Shared := { s with heap := h }
section
variable {P : Program} {w : World} {A : Around} {E : Value → Shared → Prop} {s : Shared}
/-- set(xs): its numbers; what was stays -/
theorem set_of_list {l : Addr} {xs : Array Value} (ns : List Int) {Q : Value → Shared → Prop} (calm : A.handled = none) (hl : s.heap.IsList l xs) (hi : IntsAre xs.toList ns) (hb : ns.length + 1 < scanBound)
    (h : ∀ (h' : Heap) (tk c : Nat), SetR w h' s.heap.objs.size (fun j => decide (j ∈ ns)) c → (∀ b o, s.heap.get? b = some o → h'.get? b = some o) → Q (.ref s.heap.objs.size) { s with heap := h', toks := tk }) :
    wpAny (model P w) A (call (.type "set") [.ref l]) Q E s := by
  have hlen : xs.size = ns.length := by have := IntsAre.length hi; rwa [Array.length_toList] at this
  obtain ⟨_, _, mro⟩ := F.called_set.mro
  obtain ⟨made, sub, notT, canC⟩ := (⟨F.called_set.made, F.called_set.sub, F.called_set.notType, F.called_set.canCreate⟩ : _ ∧ _ ∧ _ ∧ _)
  have tcall := F.typeCall_set_1 (.ref l)
  refine wpAny_call (codeAny_of_tree (show wpAny _ _ (callAny (.type "set") _) _ _ _ from wpAny_pure ⟨Code.quiet_builtin _ (by decide +kernel), codeAny_builtin F.entry_type_call ?_⟩))
  rw [Around.under_plain (weight_type_call_type "set" [.ref l] []) rfl]
  repeat (any_goals (first | assumption | wp_step))
  refine codeAny_mono (code_set_led1 (.ref l) (E := E) (Q₁ := fun v t => v = .ref s.heap.objs.size ∧ t = wth s (s.heap.push (set0 w))) ⟨rfl, rfl⟩) fun r t hr => ?_
  match r, hr with
  | .error _, hr => exact hr
  | .ok (.ret _), ⟨e1, e2⟩ =>
    subst e1 e2
    have at0 : (s.heap.push (set0 w)).get? s.heap.objs.size = some (set0 w) := Heap.get?_push_size _ rfl
    have ty0 : Shared.TypeIs (wth s (s.heap.push (set0 w))) (.ref s.heap.objs.size) "set" := ⟨_, at0, rfl⟩
    have look0 := F.called_set.init.lookup
    have bind0 := F.called_set.init.bind (.ref s.heap.objs.size)
    repeat (any_goals (first | assumption | wp_step))
    refine codeAny_mono (codeAny_call_builtin (R := wants (fun r t => r = .none ∧ ∃ h' tk c, t = { s with heap := h', toks := tk } ∧ SetR w h' s.heap.objs.size (fun j => decide (j ∈ ns)) c ∧ (∀ b o, s.heap.get? b = some o → h'.get? b = some o)) E) F.called_set.init.plain F.entry_set_init (check_set_init_1 ty0 ?_)) fun r t hr => ?_
    · obtain ⟨⟨cl, dc, da, sl⟩, hol, hcl, nl, hda⟩ := hl
      simp only at hcl hda
      subst hcl hda
      have old1 : (s.heap.push (set0 w)).get? l = some { cls := .type "list", dict := dc, data := .seq xs nl, slots := sl } := Heap.get?_push_of_some _ hol
      have sub1 := F.sub_list_set
      have sub2 := F.sub_list_frozenset
      have nodict : (Value.type "list" == Value.type "dict") = false := by decide
      have lst1 : (s.heap.push (set0 w)).IsList l xs := ⟨_, old1, rfl, nl, rfl⟩
      unfold Builtin.«set.__init__» noKeywords Builtin.Frozenset.updateFrom
      generalize hPI : pyIter = PI
      wp_walk
      subst hPI
      refine wpAny_pyIter_list lst1 (wpAny_bind (wpAny_runValue ?_))
      have lt0 : l < s.heap.objs.size := Heap.lt_size hol
      have sz0 : (s.heap.push (set0 w)).objs.size = s.heap.objs.size + 1 := Heap.size_push ..
      have apart : l ≠ (s.heap.push (set0 w)).objs.size := sz0 ▸ Nat.ne_of_lt (Nat.lt_succ_of_lt lt0)
      have out0 : s.heap.objs.size ∉ [(s.heap.push (set0 w)).objs.size, l] := by
        rw [sz0]; exact fun z => (List.mem_cons.mp z).elim (Nat.ne_of_lt (Nat.lt_succ_self _)) fun z => Nat.ne_of_gt lt0 (List.mem_singleton.mp z)
      refine set_update_ints ((Walks.list (by simp [calm]) _ l apart xs).toS) s.heap.objs.size out0 ns hlen hb (fun i v hv => ?_) (xs.size - 0) 0 _ (by omega) (Nat.zero_le _) ⟨⟨_, Heap.get?_push_size _ rfl, rfl, rfl⟩, lst1.push _⟩ ?_ ?_
      · have hi' : i < ns.length := by rw [← hlen]; exact (Array.getElem?_eq_some_iff.mp hv).1
        obtain ⟨t, e⟩ := IntsAre.int_at hi i v (by rw [Array.getElem?_toList]; exact hv)
        exact ⟨ns[i], t, List.getElem?_eq_getElem hi', by rw [e, List.getD_eq_getElem?_getD, List.getElem?_eq_getElem hi']; rfl⟩
      · exact ⟨0, Nat.le_refl 0, setR_new_at (Heap.get?_push_of_some _ at0)⟩
      · rintro ⟨h', g', d', tk', os'⟩ c mv hc hS
        obtain rfl : g' = s.gens := mv.gens
        obtain rfl : d' = s.drawn := mv.drawn
        obtain rfl : os' = s.os := mv.os
        refine wpAny_pure (show wpAny _ _ (ret Value.none) _ _ _ from wpAny_pure ⟨rfl, h', tk', c, rfl, hS, fun b o e => ?_⟩)
        have hb0 : b < s.heap.objs.size := Heap.lt_size e
        refine mv.heap b o ?_ (Heap.get?_push_of_some _ (Heap.get?_push_of_some _ e))
        rw [sz0]; exact fun z => (List.mem_cons.mp z).elim (Nat.ne_of_lt hb0) fun z => Nat.ne_of_lt (Nat.lt_succ_of_lt hb0) (List.mem_singleton.mp z)
    · match r, hr with
      | .error _, hr => exact hr
      | .ok (.ret _), ⟨e1, h', tk, c, e2, hS, hk⟩ =>
        subst e1 e2
        repeat (any_goals (first | assumption | wp_step))
        exact h _ _ _ hS hk
end
end TB
set_option Elab.async false
set_option linter.all false
set_option maxRecDepth 100000
set_option maxHeartbeats 4000000
/-! Rules of one's own: sorted(set(xs)), len(set(xs)) as readings. -/
namespace TB
open PySem PySem.Spec PyProof.Rows L2 TM
section
variable {P : Program} {w : World} {A : Around} {E : Value → Shared → Prop} {s : Shared}
/-- sorted(a set), any size -/
theorem sorted_any {a : Addr} {S : Int → Bool} {n : Nat} {Q : Value → Shared → Prop} (R : SetR w s.heap a S n) (calm : A.handled = none)
    (fin : ∀ (t : Shared) (p : Addr) (out : Array Value) (c : Nat) (ms : List Int), (∀ b o, s.heap.get? b = some o → t.heap.get? b = some o) → t.gens = s.gens → t.os = s.os → s.heap.objs.size ≤ p → t.heap.get? p = some (seqObj "list" out c) →
      IntsAre out.toList ms → ms.Pairwise (· < ·) → (∀ k, k ∈ ms ↔ S k = true) → ms.length ≤ sizeLine → Q (.ref p) t) : wpAny (model P w) A (call (.builtin "sorted") [.ref a]) Q E s := by
  obtain ⟨o, es, ep, tb, ho, hex, hda, good, nd, mem, hb, hf, hn, ris, led⟩ := R
  refine Calls.call_function_entry kind_sorted plain_sorted entry_sorted (args_sorted1 _) (show wpAny _ _ (Builtin.«sorted» _) _ _ _ from ?_)
  unfold Builtin.«sorted»
  refine wpAny_bind (wpAny_pure (wpAny_bind (collect_set (A := A.in1) calm ⟨o, ho, hex.1, hda⟩ hf hb ris led fun s1 vs keep le g1 o1 pm => ?_)))
  have good' : ∀ v ∈ vs, ∃ k t, v = Value.int k t := fun v hv => by
    obtain ⟨e, he, q⟩ := List.mem_map.mp (pm.mem_iff.mp hv)
    obtain ⟨k, t, h1, _⟩ := good e he
    exact ⟨k, t, by rw [← q]; exact h1⟩
  have hI : IntsAre vs (vs.map L2.vInt) := by
    clear pm keep
    induction vs with
    | nil => exact .nil
    | cons v r ih =>
      obtain ⟨k, t, rfl⟩ := good' v List.mem_cons_self
      exact .cons k t (ih fun u hu => good' u (List.mem_cons_of_mem _ hu))
  have perm : (vs.map L2.vInt).Perm (es.toList.map L2.keyOf) := by
    have z := pm.map L2.vInt
    rw [List.map_map, show es.toList.map (L2.vInt ∘ fun x => x.2) = es.toList.map L2.keyOf from List.map_congr_left fun e _ => (L2.key_vInt e).symm] at z
    exact z
  have vlen : vs.length ≤ sizeLine := by
    have z : vs.length = es.size := by simpa using pm.length_eq
    rw [z]; exact fits_of_scanBound hb
  have atL : (s1.heap.push (seqObj "list" vs.toArray 0)).get? s1.heap.objs.size = some (seqObj "list" vs.toArray 0) := Heap.get?_push_size _ rfl
  refine wpAny_bind (wpAny_newList (wpAny_bind (wpAny_holding (wpAny_call_entry slot_list_sort ⟨_, atL, rfl⟩ entry_list_sort (SrtO.list_sort_ord SrtO.swo_int atL vlen (fun h2 => SrtO.ints_sortable hI h2) fun out hs hst => ⟨_, rfl, ?_⟩) (args_list_sort _)))) vlen)
  obtain ⟨k1, k2, k3⟩ := SrtO.ints_out hI hs hst
  obtain ⟨c, hc⟩ := sortedHeap_at (vs := vs) (out := out.toArray) atL
  have pn := k2.trans perm
  refine wpAny_pure ⟨_, rfl, fin _ s1.heap.objs.size out.toArray c (out.map SrtO.iv) (fun b u e => ?_) g1 o1 le hc k1 (lt_of_le_nodup _ k3 (pn.nodup_iff.mpr nd)) (fun k => by rw [pn.mem_iff, ← mem k]) (by rw [k2.length_eq, List.length_map]; exact vlen)⟩
  have q := keep b u e
  have lt1 := Heap.lt_size q
  show (sortedHeap (s1.heap.push (seqObj "list" vs.toArray 0)) s1.heap.objs.size vs out.toArray).get? b = some u
  rw [sortedHeap_old (Nat.ne_of_lt lt1) (by rw [size_push']; exact Nat.lt_succ_of_lt lt1)]
  exact Heap.get?_push_of_some _ q
end
/-! as readings -/
def tSortSet (K : PySem.W.Frag) (ta : TE) : TE := fun σ H Q => ta σ H fun x H1 => ∃ (l : Addr) (ns : List Int), x = .ref l ∧ SqL K H1 l (ns.map V.int) ∧ ns.length ≤ 4000 ∧
  ∀ (ms : List Int) (p : Addr), ms.Pairwise (· < ·) → (∀ k, k ∈ ms ↔ k ∈ ns) → H1 p = none → Q (.ref p) (upd H1 p (.lst (ms.map V.int)))
def tLenSet (K : PySem.W.Frag) (ta : TE) : TE := fun σ H Q => ta σ H fun x H1 => ∃ (l : Addr) (ns : List Int), x = .ref l ∧ SqL K H1 l (ns.map V.int) ∧ ns.length ≤ 4000 ∧
  ∀ (ms : List Int), ms.Nodup → (∀ k, k ∈ ms ↔ k ∈ ns) → Q (.int (ms.length : Int)) H1
section
variable {X : Cx} {a : Expr} {ta : TE} {p p2 q pos : Pos}
/-- set(xs) as an argument -/
theorem set_arg {K : PySem.W.Frag} (hK : X.K = K) (hg : Gl X "set") (hm : X.mg "set" = none) (ha : PE X a ta) (hc : X.calm = true) (na : starEach [a] X.env = (false, eval a X.env) :: starEach [] X.env)
    {pins : List (Addr × Obj)} {s : Shared} {σ : L2.St} {H : Hp} {R : Value → Shared → Prop} {G : Hp → List Int → Prop} (I : Inv X pins σ H s)
    (h : ta σ H fun x H1 => ∃ (l : Addr) (ns : List Int), x = .ref l ∧ SqL K H1 l (ns.map V.int) ∧ ns.length ≤ 4000 ∧ G H1 ns)
    (k : ∀ (H1 : Hp) (ns : List Int) (t : Shared) (b : Addr) (c : Nat), G H1 ns → Inv X pins σ H1 t → SetR X.w t.heap b (fun j => decide (j ∈ ns)) c → R (.ref b) t) :
    wpAny (model X.prog X.w) X.A (eval (.Call (.Name "set" p2) [a] [] q) X.env) R X.xe s := by
  subst hK
  refine Call_ (ld_blt I hg hm boot_set (callWith_type1 (args_cons (thn (ha.run pins s σ H _ I h) fun v s1 ⟨x, H1, I1, r1, l, ns, e, hq, hl, g⟩ => args_nil ?_) na) na rfl))
  subst e
  cases r1
  obtain ⟨its, r, pl, hz⟩ := I1.list hq
  exact set_of_list ns (I1.ok.hd hc) pl.isList (by simpa using r.ints) (by unfold scanBound; omega) fun h' tk c hS keep => k _ _ _ _ c g (I1.kept keep) hS
theorem sortSetK (K : PySem.W.Frag) (hg : Gl X "sorted") (hm : X.mg "sorted" = none) (hg2 : Gl X "set") (hm2 : X.mg "set" = none) (ha : PE X a ta) (hc : X.calm = true := by rfl) (na : starEach [a] X.env = (false, eval a X.env) :: starEach [] X.env := by rfl) (hK : X.K = K := by rfl) :
    PE X (.Call (.Name "sorted" p) [.Call (.Name "set" p2) [a] [] q] [] pos) (tSortSet K ta) := by
  refine ⟨fun pins s σ H Q I h => ?_⟩
  have boot : bootBuiltins "sorted" = some (.builtin "sorted") := by decide +kernel
  refine Call_ (ld_blt I hg hm boot (callWith_builtin1 (args_cons (set_arg hK hg2 hm2 ha hc na I h fun H1 ns t b c g J R => args_nil ?_) rfl) rfl rfl))
  refine sorted_any R (J.ok.hd hc) fun t' p out c ms keep gens os le hp hi hs hmem hz => ?_
  have new : H1 p = none := J.hok.fresh le
  have J' : Inv X pins σ (upd H1 p (.lst (ms.map V.int))) { t with heap := t'.heap, gens := t'.gens, drawn := t'.drawn, toks := t'.toks } :=
    J.call (ch := []) (Un.laid keep le new) (J.hok.laid keep le ⟨by rw [List.length_map]; exact hz, out.toList, c, vals_of_ints hi, hp⟩) (by rw [gens]; exact J.bare) fun _ z => nomatch z
  have e : t' = { t with heap := t'.heap, gens := t'.gens, drawn := t'.drawn, toks := t'.toks } := by
    obtain ⟨_, _, _, _, _⟩ := t'
    obtain ⟨_, _, _, _, _⟩ := t
    cases os; rfl
  rw [e]
  exact ⟨.ref p, _, J', rfl, g ms p hs (fun k => by rw [hmem]; simp) new⟩
theorem lenSetK (K : PySem.W.Frag) (hg : Gl X "len") (hm : X.mg "len" = none) (hg2 : Gl X "set") (hm2 : X.mg "set" = none) (ha : PE X a ta) (hc : X.calm = true := by rfl) (na : starEach [a] X.env = (false, eval a X.env) :: starEach [] X.env := by rfl) (hK : X.K = K := by rfl) :
    PE X (.Call (.Name "len" p) [.Call (.Name "set" p2) [a] [] q] [] pos) (tLenSet K ta) := by
  refine ⟨fun pins s σ H Q I h => ?_⟩
  refine Call_ (ld_blt I hg hm boot_len (callWith_builtin1 (args_cons (set_arg hK hg2 hm2 ha hc na I h fun H1 ns t b c g J R => args_nil ?_) rfl) rfl rfl))
  obtain ⟨o, es, ep, tb, ho, hex, hda, good, nd, mem, hb, hf, hn, ris, led⟩ := R
  have z : es.size < 4096 := hb
  refine call_len_set ho hex hda hf (by omega) ⟨.int es.size, H1, J.tok _, ⟨_, rfl⟩, ?_⟩
  have := g (es.toList.map L2.keyOf) nd fun k => by rw [← mem k]; simp
  rw [List.length_map, Array.length_toList] at this
  exact this
end
end TB
set_option Elab.async false
set_option linter.all false
set_option maxRecDepth 100000
set_option maxHeartbeats 4000000
/-! Objects of the program's classes: one field, a list of numbers; sets; lists of one's own lists. -/
namespace TB
open PySem PySem.Spec PyProof.Rows L2 TM
open Evl (Ex Ex.refl Ex.trans Ex.new Ex.mut Ev EvT EvA ev_var ev_c ev_op rv_I0 rv_I rv_eq rv_ne et_test et_B et_and et_or et_not et_is ev_is sz_of sz_lt fresh_back)
theorem kit_own {K : PySem.W.Frag} {C D : Addr} {b : Bool} (hs : PySem.W.subIn K (.ref C) (.ref D) = some b) (h1 : PySem.W.subIn K (.ref C) (.ref C) = some true) (hc : PySem.W.isClsIn K D = true) (ht : PySem.W.typeIn K (.ref D) = some (.type "type")) : PySem.W.kitOne K (.ref C) (.ref D) = some b := by
  by_cases e : C = D
  · subst e
    rw [hs] at h1
    rw [Option.some.inj h1]
    unfold PySem.W.kitOne
    rw [if_pos (beq_self_eq_true _)]
  · unfold PySem.W.kitOne
    rw [if_neg (by simpa using e)]
    unfold PySem.W.kitCls
    have h : ((PySem.W.clsIn K D).isSome && PySem.W.typeIn K (.ref D) == some (.type "type")) = true := by
      rw [ht, beq_self_eq_true, Bool.and_true]; exact hc
    show (if ((PySem.W.clsIn K D).isSome && PySem.W.typeIn K (.ref D) == some (.type "type")) = true then PySem.W.subIn K (.ref C) (.ref D) else none) = some b
    rw [if_pos h]; exact hs
/-- one of two readings -/
theorem pe_either {X : Cx} {e : Expr} {t1 t2 : TE} (h1 : PE X e t1) (h2 : PE X e t2) : PE X e (fun σ H Q => t1 σ H Q ∨ t2 σ H Q) := ⟨fun pins s σ H Q I h => h.elim (h1.run pins s σ H Q I) (h2.run pins s σ H Q I)⟩
/-- x is an object of C whose field holds these numbers -/
structure Ob (C : Addr) (f : Str) (H : Hp) (x : Addr) (l : Addr) (ns : List Int) : Prop where
  ins : ∃ dx, H x = some (.ins C dx [(f, .ref l)])
  lst : H l = some (.lst (ns.map V.int))
theorem Ob.ex {C : Addr} {f : Str} {H H' : Hp} {x l : Addr} {ns : List Int} (o : Ob C f H x l ns) (e : Ex H H') : Ob C f H' x l ns := ⟨o.ins.elim fun dx h => ⟨dx, e _ _ h⟩, e _ _ o.lst⟩
def RetO (B H : Hp) (C : Addr) (f : Str) (ns : List Int) (Q : VK) : Prop := ∀ x dx l B' H2, Fr B H B' H2 [(x, .ins C dx [(f, .ref l)]), (l, .lst (ns.map V.int))] → Q (.ref x) H2
section
variable {K : PySem.W.Frag} {σ : L2.St} {B H : Hp} {ta tb te : TE} {tt : TT} {Dn : Ends} {C x l : Addr} {f : Str} {ns : List Int}
theorem ev_fld (ha : Ev ta σ H (.ref x)) (o : Ob C f H x l ns) (c : Cls K C) (n : NoAttr K C f) : Ev (tFld K ta f) σ H (.ref l) := fun H1 e Q q => ha H1 e _ fun H2 e2 => by
  obtain ⟨dx, h⟩ := o.ins
  exact ⟨x, C, dx, _, .ref l, rfl, e2 _ _ (e _ _ h), c, n, List.lookup_cons_self, q H2 e2⟩
theorem ev_isiO {D : Addr} {b : Bool} (ha : Ev ta σ H (.ref x)) (o : Ob C f H x l ns) (ty : ∀ (H : Hp) (a dx : Addr) (fs : List (Str × V)), H a = some (.ins C dx fs) → TyX K H (.ref a) (.ref C)) (hk : PySem.W.kitOne K (.ref C) (.ref D) = some b) :
    Ev (tCB (rIsi K) (tCons ta (tCons (tC (.ref D)) tNil))) σ H (.bl b) := fun H1 e Q q => ha H1 e _ fun H2 e2 => by
  obtain ⟨dx, h⟩ := o.ins
  exact ⟨.ref x, .ref D, _, _, b, rfl, .own D, ty H2 x dx _ (e2 _ _ (e _ _ h)), hk, q H2 e2⟩
theorem ev_notB {a b : Bool} (ha : Ev ta σ H (.bl a)) : Ev (tOp rNotB ta (tC (.bl b))) σ H (.bl (!decide (a = b))) := fun H1 e Q q => ha H1 e _ fun H2 e2 => ⟨a, b, rfl, rfl, q H2 e2⟩
theorem ev_isB {a b : Bool} (ha : Ev ta σ H (.bl a)) : Ev (tOp rIsB ta (tC (.bl b))) σ H (.bl (decide (a = b))) := fun H1 e Q q => ha H1 e _ fun H2 e2 => ⟨a, b, rfl, rfl, q H2 e2⟩
/-- what __init__ promises: a list of its own under its field -/
def SpInit (C : Addr) (f : Str) : Sp := fun vs H Q _ => ∃ (x dx : Addr) (v : V) (ns : List Int) (B : Hp), vs = [.ref x, v] ∧ H x = some (.ins C dx []) ∧ Ex B H ∧ Da B v (.list (ns.map PyData.int)) ∧
  ∀ l H2, Ex H H2 → H l = none → H2 l = some (.lst (ns.map V.int)) → Q .non (upd H2 x (.ins C dx [(f, .ref l)]))
theorem len_init {vs : List V} {Q : VK} {E : XK} (h : SpInit C f vs H Q E) : vs.length = 2 := by
  obtain ⟨_, _, _, _, _, rfl, _⟩ := h
  rfl
/-- C(xs) -/
theorem em_make {P : List Int → Prop} {E : XK} {Q : VK} (eb : Ex B H) (h : EvS ta σ B H fun d => ∃ ns : List Int, P ns ∧ d = .list (ns.map PyData.int)) {H1 : Hp} (e : Ex H H1) (q : ∀ ns, P ns → RetO B H1 C f ns Q) : tMake C (SpInit C f) [] E (tCons ta tNil) σ H1 Q :=
  h H1 e _ fun d v B1 H2 pd g k => by
    obtain ⟨ns, pn, rfl⟩ := pd
    intro x dx nx ndx ne
    have f1 := (Fr.start (eb.trans e)).gr g
    have f2 := f1.made (o := .own x) ndx
    have nx2 : upd H2 dx (.own x) x = none := by rw [upd_ne (fun z => ne z.symm)]; exact nx
    have f3 := f2.made (o := .ins C dx []) nx2
    refine ⟨x, dx, v, ns, B1, rfl, upd_same, f3.bh, k, fun l H3 e3 nl hl => ⟨rfl, ?_⟩⟩
    have f4 := f3.take (Gr.same f3.bh e3) nl (base_none f3.bh nl) hl
    have f5 := f4.set1 (u := .ins C dx [(f, .ref l)])
    refine q ns pn x dx l B1 _ ((f5.perm (List.Perm.swap _ _ _)).sub (M := [(x, .ins C dx [(f, .ref l)]), (l, .lst (ns.map V.int))]) ?_)
    exact .cons_cons _ (.cons_cons _ (.cons _ .slnil))
theorem en_sortSet (h : EvD ta σ B H (.list (ns.map PyData.int))) (hl : ns.length ≤ 4000) : EvN (tSortSet K ta) σ B H ((kinds ns).map PyData.int) := fun H1 e Q q => h H1 e _ fun v B1 H2 g k => by
  obtain ⟨a, xs, rfl, q1, q2⟩ := k.lst_inv
  have := q2.ints_inv
  subst this
  refine ⟨a, ns, rfl, SqL.of (g.bh _ _ q1), hl, fun ms p hs hm hp => ?_⟩
  rw [kinds_eq hs hm]
  exact q p _ B1 _ (g.trans (Gr.same g.bh (Ex.new hp))) (base_none g.hh hp) (base_none g.bh hp) upd_same .ints
theorem ev_lenSet (h : EvD ta σ B H (.list (ns.map PyData.int))) (hl : ns.length ≤ 4000) : Ev (tLenSet K ta) σ H (.int ((kinds ns).length : Int)) := fun H1 e Q q => h H1 e _ fun v B1 H2 g k => by
  obtain ⟨a, xs, rfl, q1, q2⟩ := k.lst_inv
  have := q2.ints_inv
  subst this
  refine ⟨a, ns, rfl, SqL.of (g.bh _ _ q1), hl, fun ms hs hm => ?_⟩
  rw [kinds_len hs hm]
  exact q _ g.hh
theorem ev_maxDf {d : Int} (h : EvD ta σ B H (.list (ns.map PyData.int))) : Ev (tCKw (rMaxDf K) (tCons ta tNil) (tCons (tC (.int d)) tNil)) σ H (.int (maxL d ns)) := fun H1 e Q q => h H1 e _ fun v B1 H2 g k => by
  obtain ⟨a, xs, rfl, q1, q2⟩ := k.lst_inv
  have := q2.ints_inv
  subst this
  exact ⟨a, ns, d, rfl, rfl, SqL.of (g.bh _ _ q1), q _ g.hh⟩
theorem ev_minDf {d : Int} (h : EvD ta σ B H (.list (ns.map PyData.int))) : Ev (tCKw (rMinDf K) (tCons ta tNil) (tCons (tC (.int d)) tNil)) σ H (.int (minL d ns)) := fun H1 e Q q => h H1 e _ fun v B1 H2 g k => by
  obtain ⟨a, xs, rfl, q1, q2⟩ := k.lst_inv
  have := q2.ints_inv
  subst this
  exact ⟨a, ns, d, rfl, rfl, SqL.of (g.bh _ _ q1), q _ g.hh⟩
theorem ev_max (h : EvD ta σ B H (.list (ns.map PyData.int))) (h0 : ns ≠ []) : Ev (tCB (rMax K) (tCons ta tNil)) σ H (.int (maxL 0 ns)) := fun H1 e Q q => h H1 e _ fun v B1 H2 g k => by
  obtain ⟨a, xs, rfl, q1, q2⟩ := k.lst_inv
  have := q2.ints_inv
  subst this
  refine ⟨a, ns, rfl, SqL.of (g.bh _ _ q1), List.length_pos_iff.mpr h0, fun m hm hy => ?_⟩
  have e1 := hy (maxL 0 ns) ((maxL_mem ns).resolve_right fun z => h0 z.1)
  have e2 := le_maxL (d := 0) hm
  rw [show m = maxL 0 ns by omega]
  exact q _ g.hh
theorem ev_min (h : EvD ta σ B H (.list (ns.map PyData.int))) (h0 : ns ≠ []) : Ev (tCB (rMin K) (tCons ta tNil)) σ H (.int (minL 0 ns)) := fun H1 e Q q => h H1 e _ fun v B1 H2 g k => by
  obtain ⟨a, xs, rfl, q1, q2⟩ := k.lst_inv
  have := q2.ints_inv
  subst this
  refine ⟨a, ns, rfl, SqL.of (g.bh _ _ q1), List.length_pos_iff.mpr h0, fun m hm hy => ?_⟩
  have e1 := hy (minL 0 ns) ((minL_mem ns).resolve_right fun z => h0 z.1)
  have e2 := minL_le (d := 0) hm
  rw [show m = minL 0 ns by omega]
  exact q _ g.hh
/-- xs.count(m) -/
theorem ev_count {m : Int} (h : EvD ta σ B H (.list (ns.map PyData.int))) (hb : Ev tb σ H (.int m)) : Ev (tBM K "list" (rCntI K) ta (tCons tb tNil)) σ H (.int (ns.count m : Int)) := fun H1 e Q q => h H1 e _ fun v B1 H2 g k => by
  obtain ⟨a, xs, rfl, q1, q2⟩ := k.lst_inv
  have := q2.ints_inv
  subst this
  exact ⟨.inl ⟨rfl, _, .inl (.inl (g.bh _ _ q1))⟩, hb H2 (e.trans g.hh) _ fun H3 e3 => ⟨a, ns, m, rfl, rfl, SqL.of (e3 _ _ (g.bh _ _ q1)), q H3 (g.hh.trans e3)⟩⟩
/-! ### a list of one's own lists -/
def matL (p : Addr) (as : List Addr) (row : Nat → List V) : List (Addr × HO) := (p, .lst (as.map V.ref)) :: as.zipIdx.map fun q => (q.1, .lst (row q.2))
def EvF (te : TE) (σ : L2.St) (B H : Hp) (n : Nat) (row : Nat → List V) : Prop := ∀ H1, Ex H H1 → ∀ Q : VK, (∀ p as B' H2, as.length = n → Fr B H1 B' H2 (matL p as row) → Q (.ref p) H2) → te σ H1 Q
/-- [[..] for x in ..], the rows alike -/
theorem en_lcF {α : Type} {dt : α → PyData} {l : List α} {wi : TI} {te : TE} {vs : List Nat} {j : Nat} {zs : List Int} (eb : Ex B H) (h : EvI wi σ B H dt (· = l)) (hl : l.length ≤ 50000)
    (he : ∀ a x B3 H3, a ∈ l → Ex H H3 → Ex B B3 → Ex B3 H3 → Da B3 x (dt a) → EvN te ((wipe σ vs).set j (some x)) B3 H3 (zs.map PyData.int)) (hw : ∀ x, wipe ((wipe σ vs).set j (some x)) vs = wipe σ vs := by intros; rfl) :
    EvF (tLc wi (gName j) tYes te vs) σ B H l.length fun _ => zs.map V.int := fun H1 e Q q =>
  h H1 e _ fun l' J B2 H2 el g1 ⟨G, Y, w, hG, hY⟩ Dl hD => by
    subst el
    have f0 := ((Fr.start (eb.trans e)).gr g1).made (o := .lst []) hD
    refine lc_it w (fun i H' => ∃ Bc as, Ex B2 Bc ∧ as.length = i ∧ Fr B H1 Bc H' (matL Dl as fun _ => zs.map V.int)) ⟨B2, [], Ex.refl _, rfl, f0⟩ (fun i H' _ ⟨Bc, as, e1, _, f⟩ => hG H' (e1.trans f.bh)) (fun i x H' H'' hi ⟨Bc, as, e1, hlen, f⟩ y => ?_) (fun H' ⟨Bc, as, e1, hlen, f⟩ => q Dl as Bc H' hlen f)
    obtain ⟨a, ha⟩ : ∃ a, l'[i]? = some a := ⟨l'[i], List.getElem?_eq_getElem hi⟩
    obtain ⟨B3, g3, kx⟩ := hY i a x Bc H' H'' ha e1 f.bh y
    have f3 := f.gr g3
    refine ⟨hw x, ?_⟩
    show te ((wipe σ vs).set j (some x)) H'' fun y H4 => ∃ acc, H4 Dl = some (.lst acc) ∧ acc.length < sizeLine ∧ _
    refine he a x B3 H'' (List.mem_of_getElem? ha) (e.trans f3.ex0) f3.eb f3.bh kx H'' (Ex.refl _) _ fun p xs B4 H4 g4 n4 nb4 h4 k4 => ?_
    have k4 := k4.ints_inv
    subst k4
    have f4 := f3.take g4 n4 nb4 h4
    refine ⟨as.map V.ref, f4.get1, sz_lt (by rw [List.length_map]; omega), B4, as ++ [p], e1.trans (g3.bb.trans g4.bb), by rw [List.length_append, hlen]; rfl, ?_⟩
    have f5 := f4.set1 (u := .lst (as.map V.ref ++ [.ref p]))
    refine f5.perm ?_
    unfold matL
    rw [List.map_append, List.zipIdx_append, List.map_append]
    refine (List.Perm.cons _ ?_).trans (List.Perm.swap _ _ _)
    exact List.perm_append_comm.trans (List.Perm.refl _)
section
variable {B0 H0 : Hp} {R : List (Addr × HO)} {p a : Addr} {as : List Addr} {row : Nat → List V} {i : Nat}
theorem mat_at (h : as[i]? = some a) : (matL p as row)[i + 1]? = some (a, .lst (row i)) := by
  unfold matL
  rw [List.getElem?_cons_succ, List.getElem?_map, List.getElem?_zipIdx, h]
  show some (a, HO.lst (row (0 + i))) = _
  rw [Nat.zero_add]
theorem _root_.TB.Fr.matGet (f : Fr B0 H0 B H (matL p as row ++ R)) (h : as[i]? = some a) : H a = some (.lst (row i)) :=
  f.get (i := i + 1) (by
    have hl : i + 1 < (matL p as row).length := (List.getElem?_eq_some_iff.mp (mat_at (p := p) (row := row) h)).1
    rw [List.getElem?_append_left hl]; exact mat_at h)
theorem _root_.TB.Fr.matTop (f : Fr B0 H0 B H (matL p as row ++ R)) : H p = some (.lst (as.map V.ref)) := f.get (i := 0) rfl
theorem _root_.TB.Fr.matSet (f : Fr B0 H0 B H (matL p as row ++ R)) (h : as[i]? = some a) (xs : List V) : Fr B0 H0 B (upd H a (.lst xs)) (matL p as (fun k => if k = i then xs else row k) ++ R) := by
  have hl : i + 1 < (matL p as row).length := (List.getElem?_eq_some_iff.mp (mat_at (p := p) (row := row) h)).1
  have g := f.set (u := .lst xs) (i := i + 1) (o := .lst (row i)) (by rw [List.getElem?_append_left hl]; exact mat_at h)
  rw [List.set_append_left _ _ hl] at g
  have e : (matL p as row).set (i + 1) (a, .lst xs) = matL p as (fun k => if k = i then xs else row k) := by
    apply List.ext_getElem?
    intro k
    rw [List.getElem?_set]
    cases k with
    | zero => rw [if_neg (by omega)]; rfl
    | succ k =>
      by_cases hk : i = k
      · subst hk
        rw [if_pos rfl, if_pos hl, mat_at h, if_pos rfl]
      · rw [if_neg (by omega)]
        unfold matL
        rw [List.getElem?_cons_succ, List.getElem?_cons_succ, List.getElem?_map, List.getElem?_map, List.getElem?_zipIdx]
        cases as[k]? with
        | none => rfl
        | some b =>
          show some (b, HO.lst (row (0 + k))) = some (b, HO.lst (if 0 + k = i then xs else row (0 + k)))
          rw [if_neg (by omega)]
  rw [e] at g
  exact g
end
/-- all that is new becomes part of the base -/
def newB (B0 H0 H : Hp) : Hp := fun a => match H0 a with | none => H a | some _ => B0 a
theorem Fr.all {B0 H0 : Hp} {L : List (Addr × HO)} (f : Fr B0 H0 B H L) (e0 : Ex B0 H0) : Fr B0 H0 (newB B0 H0 H) H [] where
  ex0 := f.ex0
  eb := fun a o h => by unfold newB; rw [e0 a o h]; exact h
  bh := fun a o h => by
    unfold newB at h
    cases q : H0 a with
    | none => rw [q] at h; exact h
    | some u => rw [q] at h; exact f.bh a o (f.eb a o h)
  old := fun a h1 h2 => by
    unfold newB
    cases q : H0 a with
    | none => exact absurd q h1
    | some u => exact h2
  own := fun _ h => (nomatch h)
  nd := List.nodup_nil
theorem Fr.allB {B0 H0 : Hp} {L : List (Addr × HO)} (f : Fr B0 H0 B H L) : Ex B (newB B0 H0 H) := fun a o h => by
  unfold newB
  cases q : H0 a with
  | none => exact f.bh a o h
  | some u =>
    show B0 a = some o
    cases z : B0 a with
    | none => rw [f.old a (by rw [q]; exact fun z => by cases z) z] at h; cases h
    | some v => rw [f.eb a v z] at h; rw [h]
theorem Fr.allO {B0 H0 : Hp} {L : List (Addr × HO)} (f : Fr B0 H0 B H L) {q : Addr × HO} (hq : q ∈ L) : newB B0 H0 H q.1 = some q.2 := by
  obtain ⟨h1, h2, h3⟩ := f.own q hq
  unfold newB
  rw [h1]; exact h3
end
end TB
set_option Elab.async false
set_option linter.all false
set_option maxRecDepth 100000
set_option maxHeartbeats 4000000
/-! Own things put together; lists of lists of numbers; made and asked at once. -/
namespace TB
open PySem PySem.Spec PyProof.Rows L2 TM
open Evl (Ex Ex.refl Ex.trans Ex.new Ex.mut Ev EvT EvA ev_var ev_c ev_op rv_I0 rv_I rv_eq rv_ne et_test et_B et_and et_or et_not et_is ev_is sz_of sz_lt fresh_back)
/-- what was made from H on is one's own, too -/
theorem Fr.join {B0 H0 B H B' H' : Hp} {L M : List (Addr × HO)} (f : Fr B0 H0 B H L) (k : Fr H H B' H' M) : Fr B0 H0 B H' (M ++ L) where
  ex0 := f.ex0.trans k.ex0
  eb := f.eb
  bh := f.bh.trans k.ex0
  old := f.old
  own := fun q hq => by
    rcases List.mem_append.mp hq with z | z
    · obtain ⟨h1, _, h3⟩ := k.own q z
      exact ⟨base_none f.ex0 h1, base_none f.bh h1, h3⟩
    · obtain ⟨h1, h2, h3⟩ := f.own q z
      exact ⟨h1, h2, k.ex0 _ _ h3⟩
  nd := by
    rw [List.map_append, List.nodup_append]
    refine ⟨k.nd, f.nd, fun a ha b hb e => ?_⟩
    subst e
    obtain ⟨q, hq, e1⟩ := List.mem_map.mp ha
    obtain ⟨r, hr, e2⟩ := List.mem_map.mp hb
    have h1 := (k.own q hq).1
    have h2 := (f.own r hr).2.2
    rw [show r.1 = q.1 from e2.trans e1.symm, h1] at h2
    cases h2
def numsD (l : List Int) : PyData := .list (l.map PyData.int)
theorem eqv_nums (l m : List Int) : PyData.eqv (numsD l) (numsD m) = decide (l = m) := eqv_ints l m
theorem eqv_numss (l m : List (List Int)) : PyData.eqv (.list (l.map numsD)) (.list (m.map numsD)) = decide (l = m) := eqv_map eqv_nums l m
theorem sh_nums (l : List Int) : Sh 2 (numsD l) := sh_ints l
theorem sh_numss (l : List (List Int)) : Sh 3 (.list (l.map numsD)) := sh_map sh_nums
section
variable {K : PySem.W.Frag} {σ : L2.St} {B H : Hp} {te1 te2 te3 te4 : TE} {tz : TS} {Dn : Ends} {n : Nat}
theorem lst4 (h : te1 σ H fun x1 H1 => te2 σ H1 fun x2 H2 => te3 σ H2 fun x3 H3 => te4 σ H3 fun x4 H4 => [x1, x2, x3, x4].length ≤ PySem.sizeLine ∧ ∀ p, H4 p = none → tz Dn (σ.set n (some (.ref p))) (upd H4 p (.lst [x1, x2, x3, x4]))) :
    tSeq (tAsg (tLst (tCons te1 (tCons te2 (tCons te3 (tCons te4 tNil))))) (gName n)) tz Dn σ H := h
/-- an own object's word, made and asked at once -/
theorem ev_madeAsk {C : Addr} {f : Str} {sp : Sp} {E E2 : XK} {ta : TE} {t : TA} {m : Str} {cs : List Int} {ds : List PyData} {b : Bool} (eb : Ex B H) (h : EvD ta σ B H (.list (cs.map PyData.int))) (ht : ∀ H1, Ex H H1 → EvDs t σ B H1 ds) (hm : (decide (f = m)) = false)
    (hs : ∀ (x l : Addr) (B1 H1 : Hp) (vs : List V) (Q : VK) (E : XK), Ob C f H1 x l cs → Ex B1 H1 → DaAll B1 vs ds → RetV H1 (.bl b) Q → sp (.ref x :: vs) H1 Q E) :
    Ev (tMeth C m sp [] E2 (tMake C (SpInit C f) [] E (tCons ta tNil)) t) σ H (.bl b) := fun H1 e Q q => by
  show tMake _ _ _ _ _ _ _ _
  refine em_make (P := (· = cs)) eb (fun H6 e6 Q6 q6 => h H6 e6 Q6 fun v B' H7 g k => q6 _ v B' H7 ⟨_, rfl, rfl⟩ g k) e ?_
  rintro ns rfl x dx l B' H2 fr
  refine ⟨x, dx, _, rfl, fr.get0, ?_, ht H2 (e.trans fr.ex0) H2 (Ex.refl _) _ fun vs B1 H3 g k => ?_⟩
  · show List.lookup m [(f, V.ref l)] = none
    have : (m == f) = false := by
      have := of_decide_eq_false hm
      simpa using fun z => this z.symm
    rw [List.lookup_cons, this]; rfl
  · rw [List.append_nil]
    exact hs x l B1 H3 vs Q E2 ⟨⟨dx, g.hh _ _ fr.get0⟩, g.hh _ _ fr.get1⟩ g.bh k fun H4 e4 => q H4 (fr.ex0.trans (g.hh.trans e4))
end
end TB
set_option Elab.async false
set_option linter.all false
set_option maxRecDepth 100000
set_option maxHeartbeats 4000000
/-! Caught errors of own classes; data of any sort. -/
namespace TB
open PySem PySem.Spec PyProof.Rows L2 TM
open Evl (Ex Ex.refl Ex.trans Ex.new Ex.mut Ev EvT EvA ev_var ev_c ev_op rv_I0 rv_I rv_eq rv_ne et_test et_B et_and et_or et_not et_is ev_is sz_of sz_lt fresh_back)
theorem kit_val {K : PySem.W.Frag} {C : Addr} (h : PySem.W.subIn K (.ref C) (.type "ValueError") = some true) : PySem.W.kitOne K (.ref C) (.type "ValueError") = some true := by
  unfold PySem.W.kitOne
  rw [if_neg (by simp)]
  show (if PySem.W.kitMeta "ValueError" = true then PySem.W.subIn K (.ref C) (.type "ValueError") else none) = some true
  rw [if_pos (by decide +kernel)]
  exact h
/-- isinstance(e, c), whatever e's class is -/
def rIsE2 (K : PySem.W.Frag) (cls : Value) (d : Option Addr) (a : Addr) : List V → Hp → VK → Prop := fun xs H Q => ∃ D, cls = .ref D ∧ d = none ∧ ExcC K D ∧ rIsE K D a xs H Q
theorem isEK (K : PySem.W.Frag) {X : Cx} {a : Addr} {oe : Obj} {cls : Value} {d : Option Addr} {pn : List (Addr × Obj)} (hz : Zc cls d oe) (hf : ∃ vs, oe.data = .fields vs) (hK : X.K = K := by rfl) : CallR (X.suite a ((a, oe) :: pn)) (.builtin "isinstance") (rIsE2 K cls d a) := by
  subst hK
  intro pins s σ H xs us Q I r h
  obtain ⟨D, rfl, rfl, C, h⟩ := h
  exact call_isE C hz hf pins s σ H xs us Q I r h
section
variable {K : PySem.W.Frag} {σ : L2.St} {B H : Hp} {te : TE} {Dn : Ends} {C D a : Addr} {i : Nat} {b : Bool}
theorem ev_isE (h : σ[i]? = some (some (.ref a))) (c : ExcC K C) (k : PySem.W.kitOne K (.ref C) (.ref D) = some b) : Ev (tCB (rIsE2 K (.ref C) none a) (tCons (tVar i) (tCons (tC (.ref D)) tNil))) σ H (.bl b) := fun H1 e Q q =>
  ⟨.ref a, h, C, rfl, rfl, c, .ref D, .ref D, b, rfl, fun u r => by cases r; rfl, k, q H1 (Ex.refl _)⟩
theorem ev_isEV (h : σ[i]? = some (some (.ref a))) (c : ExcC K C) (k : PySem.W.kitOne K (.ref C) (.type "ValueError") = some b) : Ev (tCB (rIsE2 K (.ref C) none a) (tCons (tVar i) (tCons (tC (.ty "ValueError")) tNil))) σ H (.bl b) := fun H1 e Q q =>
  ⟨.ref a, h, C, rfl, rfl, c, .ty "ValueError", .type "ValueError", b, rfl, fun u r => by cases r; rfl, k, q H1 (Ex.refl _)⟩
def RetS (B H : Hp) (P : PyData → Prop) (Q : VK) : Prop := ∀ d v B' H2, P d → Gr B H B' H2 → Da B' v d → Q v H2
theorem s_retS {P : PyData → Prop} (h : EvS te σ B H P) (k : RetS B H P Dn.rt) : tRet te Dn σ H := h H (Ex.refl H) _ k
theorem RetS.toN {P : PyData → Prop} {ds : List PyData} {Q : VK} (q : RetS B H P Q) (h : P (.list ds)) : RetN B H ds Q := fun p xs B' H2 g n nb hp k => q (.list ds) (.ref p) (upd B' p (.lst xs)) H2 h (fixD g n nb hp) (.lst upd_same (k.ex (Ex.new nb)))
theorem es_call {sp : Sp} {E : XK} {ta : TA} {ds : List PyData} {P : PyData → Prop} (h : EvDs ta σ B H ds) (hs : ∀ B1 H1 vs (Q : VK) (E : XK), Ex B1 H1 → DaAll B1 vs ds → RetS B1 H1 P Q → sp vs H1 Q E) : EvS (tCall sp [] E ta) σ B H P := fun H1 e Q q =>
  h H1 e _ fun vs B1 H2 g k => by
    rw [List.append_nil]
    exact hs B1 H2 vs Q E g.bh k fun d v B' H3 pd g3 kd => q d v B' H3 pd (g.trans g3) kd
theorem ed_dnew (eb : Ex B H) : EvD (fun _ H Q => ∀ p, H p = none → Q (.ref p) (upd H p (.dK []))) σ B H (.dict []) := fun H1 e Q q p hp => q (.ref p) (upd B p (.dK [])) _ (Gr.new (eb.trans e) hp) (.dct upd_same)
theorem eN (e : Ex B H) : EvD (tC .non) σ B H .none := ed_ev e ev_c .non
theorem eI {i : Int} (e : Ex B H) : EvD (tC (.int i)) σ B H (.int i) := edi e ev_c
theorem eB {b : Bool} (e : Ex B H) : EvD (tC (.bl b)) σ B H (.bool b) := edb e ev_c
theorem eS {x : Str} (e : Ex B H) : EvD (tC (.str x)) σ B H (.str x) := ed_ev e ev_c (.str x)
theorem eL1 {t1 : TE} {d1 : PyData} (e : Ex B H) (h1 : EvD t1 σ B H d1) : EvD (tLst (tCons t1 tNil)) σ B H (.list [d1]) := (en_lst (eds_cons h1 (eds_nil e))).toD
theorem eL2 {t1 t2 : TE} {d1 d2 : PyData} (e : Ex B H) (h1 : EvD t1 σ B H d1) (h2 : EvD t2 σ B H d2) : EvD (tLst (tCons t1 (tCons t2 tNil))) σ B H (.list [d1, d2]) := (en_lst (eds_cons h1 (eds_cons h2 (eds_nil e)))).toD
theorem eT1 {t1 : TE} {d1 : PyData} (e : Ex B H) (h1 : EvD t1 σ B H d1) : EvD (tTup (tCons t1 tNil)) σ B H (.tuple [d1]) := ed_tup (eds_cons h1 (eds_nil e))
theorem eT2 {t1 t2 : TE} {d1 d2 : PyData} (e : Ex B H) (h1 : EvD t1 σ B H d1) (h2 : EvD t2 σ B H d2) : EvD (tTup (tCons t1 (tCons t2 tNil))) σ B H (.tuple [d1, d2]) := ed_tup (eds_cons h1 (eds_cons h2 (eds_nil e)))
/-- one of a list's items -/
theorem es_ix {ta tb : TE} {ds : List PyData} {P : PyData → Prop} {i : Int} (h : EvD ta σ B H (.list ds)) (hb : Ev tb σ H (.int i)) (h0 : 0 ≤ i) (h1 : i < (ds.length : Int)) (hp : ∀ d ∈ ds, P d) : EvS (tOp (rIxL K) ta tb) σ B H P := by
  have hj : i.toNat < ds.length := by omega
  have hd := List.getElem?_eq_getElem hj
  intro H1 e Q q
  exact ed_ixL h hb (atD_nat (j := i.toNat) (by omega) hd) H1 e Q fun v B' H2 g k => q _ v B' H2 (hp _ (List.mem_of_getElem? hd)) g k
theorem q_asgS {P : PyData → Prop} {tz : TS} {n : Nat} (h : EvS te σ B H P) (k : ∀ d v B' H', P d → Gr B H B' H' → Da B' v d → tz Dn (σ.set n (some v)) H') : tSeq (tAsg te (gName n)) tz Dn σ H := h H (Ex.refl H) _ k
/-- a walk over the script -/
theorem ei_listS {tl : TE} {ns : List Int} {s : Addr} (eb : Ex B H) (h : Ev tl σ H (.ref s)) (hS : SqL K B s (ns.map V.int)) : EvI (iList K tl) σ B H PyData.int (· = ns) := fun H1 e R q => h H1 e _ fun H2 e2 => by
  refine ⟨s, rfl, ⟨_, Evl.ex_l ((eb.trans e).trans e2) hS⟩, q ns _ B H2 rfl (Gr.same (eb.trans e) e2) ⟨_, _, by have w := walk_list (K := K) (a := s) (xs := ns.map V.int); rw [List.length_map] at w; exact w, fun H' e' => Evl.ex_l e' hS, fun i b x Bc H' H'' hi e1 e2 y => ?_⟩⟩
  obtain ⟨rfl, hx⟩ := y
  rw [List.getElem?_map, hi] at hx
  cases hx
  exact ⟨Bc, Gr.refl e2, .int b⟩
end
end TB
set_option Elab.async false
set_option linter.all false
set_option maxRecDepth 100000
set_option maxHeartbeats 600000
/-! A lambda of one parameter: made, known by the heap, called. -/
namespace TB
open PySem PySem.Spec PyProof.Rows L2 TM
open LamX (CodeO TabS TabB ExtN inv_table among_app codeO_ne)
/-- the lambda's object, as it was made -/
def LamO (f : Addr) (q : Str) (params : Arguments) (body : Expr) (scope : Scope) (pm : Value) (c' : Addr) (ctv : Value) : HO := .ext fun h => h.get? f = some (PySem.W.kla_obj "<lambda>" q params body scope [] pm c' ctv)
theorem clo_none {cells : List (Str × Addr)} : ∀ {names : List (Str × NameKind)}, (∀ y ∈ names, y.2 ≠ .free) → cloFrom cells names [] = []
  | [], _ => by unfold cloFrom; rfl
  | (n, k) :: r, h => by
    have hk : k ≠ .free := h (n, k) List.mem_cons_self
    have ih := clo_none (cells := cells) (names := r) fun y hy => h y (List.mem_cons_of_mem _ hy)
    unfold cloFrom
    cases k <;> first | exact absurd rfl hk | exact ih | simpa using ih
/-- all but what stands at P stays -/
def ExP (P : Addr) (H H' : Hp) : Prop := ∀ b o, b ≠ P → H b = some o → H' b = some o
/-! one table of code objects -/
section
variable {X : Cx} {pins : List (Addr × Obj)} {σ : L2.St} {H : Hp} {s : Shared}
theorem lam_new {c P : Addr} {params : Arguments} {body : Expr} {scope : Scope} {pos : Pos} {E : Value → Shared → Prop} {Q : Value → Shared → Prop} (I : Inv X pins σ H s) (tb : TabB X.base X.mg c P) (hcode : X.env.code = .ref c)
    (hT : TabS H P (X.env.qual ++ "<lambda>")) (hdef : defaultsOf params X.env = ([], [])) (hno : ∀ y ∈ scope.names, y.2 ≠ .free)
    (k : ∀ (f c' : Addr) (pm ctv : Value) (H1 : Hp) (s' : Shared), Inv X pins σ H1 s' → ExP P H H1 → TabS H1 P (X.env.qual ++ "<lambda>") → H f = none → H1 f = some (LamO f (X.env.qual ++ "<lambda>") params body scope pm c' ctv) → H1 c' = some (CodeO c' (X.env.qual ++ "<lambda>")) → Q (.ref f) s') :
    wpAny (model X.prog X.w) X.A (eval (.Lambda params body scope pos) X.env) Q E s := by
  obtain ⟨ps, hP, tri, among⟩ := hT
  refine PySem.W.kla_eval hdef ?_
  have hcl : closureFor scope X.env = pure [] := by
    have z := closure_ok (scope := scope) (env := X.env) fun y hy e => absurd e (hno y hy)
    rw [clo_none hno] at z; exact z
  have atP := I.hok P _ hP
  have atP : s.heap.get? P = some { cls := .none, data := .fields ps } := atP
  have code0 := tb.code.keeps I.bk
  have blt := tb.bm.keeps I.bk
  cases hc : codeAmong pos ps.toList with
  | none =>
    refine PySem.W.kla_makeFunction (mg := X.mg) (clos := []) hcl I.ok.glob (I.mod.glob.keeps I.bk) hcode code0 atP tri hc tb.gP blt fun c' ctv h' tk but big small rec grown => ?_
    obtain ⟨c2, oc, vs, t, e2, hoc, hd, hv⟩ := rec
    cases e2
    have free1 : H c' = none := I.hok.fresh big
    have I1 := inv_table (t' := tk) (q := X.env.qual ++ "<lambda>") (more := #[rawInt pos.line, rawInt pos.col, .ref c']) I hP but grown big ⟨oc, vs, t, hoc, hd, hv⟩
    generalize hH2 : upd (upd H P (.tbl (ps ++ #[rawInt pos.line, rawInt pos.col, .ref c']))) c' (CodeO c' (X.env.qual ++ "<lambda>")) = H2 at I1
    have ext2 : ExtN H H2 := fun b o e n => by
      have n1 : b ≠ c' := ne_of_none e free1
      have n2 : b ≠ P := fun z => n ps (by rw [z, hP] at e; exact (Option.some.inj e).symm)
      rw [← hH2, upd_ne n1, upd_ne n2]; exact e
    have codeAt : H2 c' = some (CodeO c' (X.env.qual ++ "<lambda>")) := by rw [← hH2]; exact upd_same
    have nPc : P ≠ c' := ne_of_none hP free1
    have tabAt : H2 P = some (.tbl (ps ++ #[rawInt pos.line, rawInt pos.col, .ref c'])) := by rw [← hH2, upd_ne nPc]; exact upd_same
    have free2 : H2 h'.objs.size = none := I1.hok.fresh (Nat.le_refl _)
    have I2 := I1.laid (a := h'.objs.size) (o := LamO h'.objs.size (X.env.qual ++ "<lambda>") params body scope ((X.mg "__name__").getD .none) c' ctv) (h' := h'.push (PySem.W.kla_obj "<lambda>" (X.env.qual ++ "<lambda>") params body scope [] ((X.mg "__name__").getD .none) c' ctv)) (t' := tk)
      (fun b u e => Heap.get?_push_of_some _ e) (Nat.le_refl _) ⟨Heap.get?_push_size _ rfl, ⟨_, Heap.get?_push_size _ rfl⟩, fun a b e st => st _ e⟩
    have ex23 : ∀ b o, H2 b = some o → upd H2 h'.objs.size (LamO h'.objs.size (X.env.qual ++ "<lambda>") params body scope ((X.mg "__name__").getD .none) c' ctv) b = some o := fun b o e => by rw [upd_ne (ne_of_none e free2)]; exact e
    refine k _ c' _ ctv _ _ I2 (fun b o n e => ex23 _ _ (by rw [← hH2, upd_ne (ne_of_none e free1), upd_ne n]; exact e)) ⟨_, ex23 _ _ tabAt, ?_, fun p cv hcv => ?_⟩ (I.hok.fresh (Nat.le_trans big (Nat.le_of_lt small))) upd_same (ex23 _ _ codeAt)
    · have e : (ps ++ #[rawInt pos.line, rawInt pos.col, .ref c']).toList = ps.toList ++ [rawInt pos.line, rawInt pos.col, .ref c'] := by simp
      rw [e]; exact PySem.TriplesOk_snoc _ _ _ _ tri
    · have e : (ps ++ #[rawInt pos.line, rawInt pos.col, .ref c']).toList = ps.toList ++ [rawInt pos.line, rawInt pos.col, .ref c'] := by simp
      rw [e] at hcv
      rcases among_app _ tri hcv with z | z
      · obtain ⟨c0, e1, e3⟩ := among p cv z
        exact ⟨c0, e1, ex23 _ _ (ext2 _ _ e3 codeO_ne)⟩
      · exact ⟨c', z, ex23 _ _ codeAt⟩
  | some cv =>
    obtain ⟨c', e, hco⟩ := among pos cv hc
    subst e
    refine PySem.W.kla_makeFunctionHit (mg := X.mg) (clos := []) hcl I.ok.glob (I.mod.glob.keeps I.bk) hcode code0 atP tri hc blt fun ctv h' tk but big => ?_
    have free2 : H h'.objs.size = none := I.hok.fresh big
    have I2 := I.laid (a := h'.objs.size) (o := LamO h'.objs.size (X.env.qual ++ "<lambda>") params body scope ((X.mg "__name__").getD .none) c' ctv) (h' := h'.push (PySem.W.kla_obj "<lambda>" (X.env.qual ++ "<lambda>") params body scope [] ((X.mg "__name__").getD .none) c' ctv)) (t' := tk)
      (fun b u e => Heap.get?_push_of_some _ (but b u e)) big ⟨Heap.get?_push_size _ rfl, ⟨_, Heap.get?_push_size _ rfl⟩, fun a b e st => st _ e⟩
    have ex23 : ∀ b o, H b = some o → upd H h'.objs.size (LamO h'.objs.size (X.env.qual ++ "<lambda>") params body scope ((X.mg "__name__").getD .none) c' ctv) b = some o := fun b o e => by rw [upd_ne (ne_of_none e free2)]; exact e
    exact k _ c' _ ctv _ _ I2 (fun b o _ e => ex23 b o e) ⟨ps, ex23 _ _ hP, tri, fun p cv hcv => by
      obtain ⟨c0, e1, e3⟩ := among p cv hcv
      exact ⟨c0, e1, ex23 _ _ e3⟩⟩ free2 upd_same (ex23 _ _ hco)
end
/-- at f stands a lambda of one parameter that keeps the promise sp -/
def LamRun (P : Program) (w : World) (K : PySem.W.Frag) (mg : Str → Option Value) (base : Heap) (CX : CXT) (k : Nat) (H : Hp) (f : Addr) (sp : Sp) : Prop :=
  ∃ (q : Str) (params : Arguments) (body : Expr) (scope : Scope) (pm : Value) (c' : Addr) (ctv : Value) (p : Str), H f = some (LamO f q params body scope pm c' ctv) ∧ H c' = some (CodeO c' q) ∧ FnScope [p] [p] scope ∧
    (∀ u, bindArgs (PySem.W.kla_fn "<lambda>" q params body scope [] pm (.ref c') ctv) ⟨[u], []⟩ = pure [(p, u)]) ∧
    ∀ (A : Around) (outer : List Env) (s : Shared) (H' : Hp) (v : V) (Q : VK) (E : XK), Room k (A.deeper (envOfC q scope s.heap.objs.size f (.ref c'))) → sp [v] H' Q E →
      ∃ t, PE (cxOf CX P w K mg base [p] q scope f (.ref c') A outer s H' E) body t ∧ t (start [p] [v]) H' Q
theorem LamRun.ex {P : Program} {w : World} {K : PySem.W.Frag} {mg : Str → Option Value} {base : Heap} {CX : CXT} {k : Nat} {H H' : Hp} {f : Addr} {sp : Sp} (l : LamRun P w K mg base CX k H f sp) (e : Evl.Ex H H') : LamRun P w K mg base CX k H' f sp := by
  obtain ⟨q, params, body, scope, pm, c', ctv, p, h1, h2, r⟩ := l
  exact ⟨q, params, body, scope, pm, c', ctv, p, e _ _ h1, e _ _ h2, r⟩
section
variable {X : Cx} {CX : CXT} {k : Nat} {pins : List (Addr × Obj)} {σ : L2.St} {H : Hp} {s : Shared}
theorem run_lam {f : Addr} {sp : Sp} {u : Value} {v : V} {Q : VK} {E : XK} (l : LamRun X.prog X.w X.K X.mg X.base CX k H f sp) (hr : Room (k + 1) X.A) (I : Inv X pins σ H s) (r : RelV v u) (h : sp [v] H Q E) :
    codeAny (model X.prog X.w) X.A (.call (.ref f) ⟨[u], []⟩) (CR CX X.stack X.prog X.w H s Q E) s := by
  obtain ⟨q, params, body, scope, pm, c', ctv, p, hf, hc, S, hb, hbody⟩ := l
  obtain ⟨atF, _, _⟩ := I.hok f _ hf
  obtain ⟨⟨oc, vs, tq, hoc, hd, hv⟩, _, _⟩ := I.hok c' _ hc
  refine PySem.W.kla_callFunE hr.depth atF rfl S.co S.gen rfl ⟨c', oc, vs, tq, rfl, hoc, hd, hv⟩ ?_
  rw [hb u]
  have par : ∀ y ∈ [(p, u)], scope.names.lookup y.1 = some .local ∨ (scope.names.lookup y.1 = some .cell ∧ ((cellsFrom (s.heap.objs.size + 1) scope.names []).lookup y.1).isSome = true) := fun y hy => by
    rw [List.mem_singleton.mp hy]
    exact (S.par p List.mem_cons_self).imp id fun z => ⟨z, PySem.W.cellsFrom_some _ _ _ (.inl z)⟩
  refine wpAny_pure (wpAny_newFunctionEnv_cells S.kind par fun env he s1 x => ?_)
  subst he
  refine ⟨I.nolimit.keeps x.toInCall.keep, PySem.W.kla_codeExpr ?_⟩
  obtain ⟨t, pe, ht⟩ := hbody X.A X.stack s H v Q E (hr.deeper _) h
  have J : Inv (cxOf CX X.prog X.w X.K X.mg X.base [p] q scope f (.ref c') X.A X.stack s H E) [] (start [p] [v]) H s1 := inv_start (ps := [p]) (us := [u]) S hr.hd I.env0 rfl (.cons r .nil) x
  exact wpAny_mono (pe.run [] s1 _ H Q J ht) (fun u' s' ⟨v', H', J', rv, q'⟩ => ⟨v', H', J'.os, J'.bare, J'.base, J'.hok, rv, q'⟩) fun _ _ z => z
/-- a(e), a a local name that holds a lambda -/
def tCallLam (P : Program) (w : World) (K : PySem.W.Frag) (mg : Str → Option Value) (base : Heap) (CX : CXT) (k i : Nat) (E : L2.St → XK) (ta : TA) : TE := fun σ H Q => ∃ f sp, σ[i]? = some (some (.ref f)) ∧ LamRun P w K mg base CX k H f sp ∧
  ta σ H fun vs H1 => vs.length = 1 ∧ LamRun P w K mg base CX k H1 f sp ∧ sp vs H1 Q (E σ)
theorem lam_known {f : Addr} {sp : Sp} (l : LamRun X.prog X.w X.K X.mg X.base CX k H f sp) (J : Inv X pins σ H s) : PySem.W.FnAt f s.heap := by
  obtain ⟨_, _, _, _, _, _, _, _, hf, _⟩ := l
  obtain ⟨atF, _, _⟩ := J.hok f _ hf
  exact ⟨_, _, _, _, atF⟩
theorem lam_call {f : Addr} {sp : Sp} {us : List Value} {vs : List V} {Q : VK} {E : L2.St → XK} (hx : ∀ σ, PassesAt CX X σ (E σ)) (hr : Room (k + 1) X.A) (I : Inv X pins σ H s) (r : Vals vs us) (hl : vs.length = 1) (l : LamRun X.prog X.w X.K X.mg X.base CX k H f sp) (h : sp vs H Q (E σ)) :
    wpAny (model X.prog X.w) X.A (call (.ref f) us) (EP X pins σ Q) X.xe s := by
  match vs, us, r, hl with
  | [v], _, .cons ru .nil, _ =>
    refine wpAny_call (codeAny_mono (run_lam l hr I ru h) fun r s' hq => ?_)
    cases r with
    | error e' => exact hx σ pins _ s e' s' I hq
    | ok fl =>
      cases fl with
      | ret u' => exact I.after hq
      | next => exact False.elim hq
      | brk => exact False.elim hq
      | cont => exact False.elim hq
theorem pe_callLam {i : Nat} {E : L2.St → XK} {ta : TA} {a : Str} {e : Expr} {p1 p2 : Pos} (hr : Room (k + 1) X.A) (hN : X.N[i]? = some a) (hv : Vis X.env.scope a) (hx : ∀ σ, PassesAt CX X σ (E σ)) (pa : PA X [e] ta) (hd : (a == ("__debug__" : Str)) = false := by decide) (hcd : (a == ("__classdict__" : Str)) = false := by decide)
    (h1 : starEach [e] X.env = (false, eval e X.env) :: starEach [] X.env := by rfl) (h2 : (backTo p2 (starEach [] X.env)).any (·.1) = false := by rfl) : PE X (.Call (.Name a p1) [e] [] p2) (tCallLam X.prog X.w X.K X.mg X.base CX k i E ta) := by
  refine ⟨fun pins s σ H Q I h => ?_⟩
  obtain ⟨f, sp, hs, hl, ht⟩ := h
  refine wpAny_Call_Name_kw (thn ((pe_var (pos := p1) hN hv hd hcd).run pins s σ H (fun v H1 => v = .ref f ∧ H1 = H) I ⟨.ref f, hs, rfl, rfl⟩) fun u s1 hh => ?_)
  obtain ⟨v, H1, I1, r1, rfl, rfl⟩ := hh
  cases r1
  have hp := pa.run p2 pins s1 σ _ _ I1 ht
  refine PySem.W.callWith_F (lam_known hl I1) (thn hp fun us s2 hq => ?_) h1 h2
  obtain ⟨vs, H2, I2, r, l0, l2, q2⟩ := hq
  exact ⟨lam_known l2 I2, lam_call hx hr I2 r l0 l2 q2⟩
/-- a lambda as a value -/
def tLamN (P : Addr) (q : Str) (params : Arguments) (body : Expr) (scope : Scope) : TE := fun σ H Q => TabS H P q ∧ ∀ (f c' : Addr) (pm ctv : Value) (H1 : Hp), ExP P H H1 → TabS H1 P q → H f = none → H1 f = some (LamO f q params body scope pm c' ctv) → H1 c' = some (CodeO c' q) → Q (.ref f) H1
theorem pe_lam {c P : Addr} {q : Str} {params : Arguments} {body : Expr} {scope : Scope} {pos : Pos} (tb : TabB X.base X.mg c P) (hcode : X.env.code = .ref c) (hq : X.env.qual ++ "<lambda>" = q) (hdef : defaultsOf params X.env = ([], [])) (hno : ∀ y ∈ scope.names, y.2 ≠ .free) :
    PE X (.Lambda params body scope pos) (tLamN P q params body scope) := by
  subst hq
  exact ⟨fun pins s σ H Q I h => lam_new I tb hcode h.1 hdef hno fun f c' pm ctv H1 s' I1 e t n l c => ⟨.ref f, H1, I1, rfl, h.2 f c' pm ctv H1 e t n l c⟩⟩
end
end TB
set_option Elab.async false
set_option linter.all false
set_option maxRecDepth 100000
set_option maxHeartbeats 1000000
/-! A list made over a range while an exception is handled. -/
namespace TB
open PySem PySem.Spec PyProof.Rows L2 TM L2H HotX
open Evl (Ex Ex.refl Ex.trans Ex.new Ex.mut Ev EvT EvA ev_var ev_c ev_op rv_I0 rv_I rv_eq rv_ne et_test et_B et_and et_or et_not et_is ev_is sz_of sz_lt fresh_back)
/-- the context of a block within a suite: the handled exception stays pinned -/
abbrev blkH (X : Cx) (s : Shared) (H : Hp) (scope : Scope) (env : Env) (fp : List Addr) : Cx := { X.blk s H scope env fp with pn := X.pn }
/-- [te for .. in range(n)], the target at slot j -/
def tLcH (wi : TI) (n j : Nat) (te : TE) (own : List Nat) : TE := fun σ H Q => wi σ H fun J H1 => J = Itr 0 n ∧ ∀ D, H1 D = none → ∃ V : Nat → Hp → Prop, V 0 (upd H1 D (.lst [])) ∧
  (∀ i H2, i < n → V i H2 → j < σ.length ∧ te ((wipe σ own).set j (some (.int (i : Int)))) H2 fun y H3 => ∃ ys, H3 D = some (.lst ys) ∧ ys.length < sizeLine ∧ V (i + 1) (upd H3 D (.lst (ys ++ [y])))) ∧ ∀ H2, V n H2 → Q (.ref D) H2
section
variable {X : Cx}
theorem inv_blkH {pins : List (Addr × Obj)} {σ σ' : L2.St} {H : Hp} {s s' : Shared} {scope : Scope} {env : Env} {fp : List Addr} (I : Inv X pins σ H s) (J : Inv (X.blk s H scope env fp) [] σ' H s') (k : ∀ b o, s.heap.get? b = some o → s'.heap.get? b = some o) (hl : env.locals = s.heap.objs.size) :
    Inv (blkH X s H scope env fp) [] σ' H s' :=
  { ok := ⟨J.ok.mod, J.ok.kind, J.ok.glob, J.ok.blt, J.ok.above, J.ok.inj, J.ok.has, J.ok.cab, J.ok.hd, J.ok.frames, J.ok.stk, J.ok.exf, J.ok.bs, J.ok.bsz, J.ok.noex, J.ok.exfs, J.ok.funs, J.ok.frf⟩
    os := J.os, bare := J.bare, base := J.base, loc := J.loc, cell := J.cell, free := J.free, freeC := J.freeC, hok := J.hok, len := J.len
    pin := fun p hp => by
      have hp : p ∈ X.pn := by simpa using hp
      obtain ⟨p1, p2, p3, p4, p5⟩ := I.pin p (List.mem_append_left _ hp)
      refine ⟨k _ _ p1, p2, fun z => ?_, fun z => ?_, p5⟩
      · have z : p.1 = s.heap.objs.size := z.trans hl
        exact absurd (Heap.lt_size p1) (by rw [z]; exact Nat.lt_irrefl _)
      · rcases List.mem_cons.mp (I.stkSub p.1 z) with y | y
        · exact p3 y
        · exact p4 y }
theorem pe_lcH {elt iter : Expr} {y : Str} {py pos : Pos} {scope : Scope} {own : List (Str × Nat)} {wi : TI} {n j : Nat} {te : TE} (hc : HotC X) (hN : X.N.Nodup) (hi : PIH X (.Name y py) iter wi) (ok : BlkOk X.N X.env.scope scope own) (hj : own = [(y, j)])
    (hg : ∀ (s : Shared) (H : Hp) (C : Addr) (cl : List (Str × Addr)) (fp : List Addr), PG (blkH X s H scope (compEnvC scope cl C X.env) fp) (.Name y py) (gName j))
    (he : ∀ (s : Shared) (H : Hp) (C : Addr) (cl : List (Str × Addr)) (fp : List Addr), PE (blkH X s H scope (compEnvC scope cl C X.env) fp) elt te) (hs : ∀ x, foldedSetIterable iter X.env x = pure x := by intro _; rfl) :
    PE X (.ListComp elt [⟨.Name y py, iter, [], 0⟩] scope pos) (tLcH wi n j te (own.map (·.2))) := by
  refine ⟨fun pins s σ H Q I h => ?_⟩
  rw [eval_ListComp]
  have hfree : ∀ z ∈ scope.names, z.2 = .free → ∃ c, X.env.cells.lookup z.1 = some c := fun z hz e => I.ok.has _ (ok.free z hz e)
  refine wpAny_comprehension_free (use := none) rfl hs (closure_ok hfree) ok.kind (fun z hz e => by rw [ok.uniq z hz, e]) (thn (hi.run pins s σ H _ I h) fun xv s1 hx => thn hx fun itv s2 h2 => ?_)
  obtain ⟨it, fp, tn, J, H2, e, I2, T, st2, f2, hJ, q⟩ := h2
  subst e hJ
  refine wpAny_newObj_type (newEnv_comp ?_) (by show 0 ≤ sizeLine; decide)
  have hDn : H2 s2.heap.objs.size = none := I2.hok.fresh (Nat.le_refl _)
  obtain ⟨V, v0, step, fin⟩ := q _ hDn
  have keep2 : ∀ b o, s2.heap.get? b = some o → (s2.heap.push { cls := .type "list", data := .seq ([] : List Value).toArray }).get? b = some o := fun b o e => Heap.get?_push_of_some _ e
  have I3 := I2.laid (a := s2.heap.objs.size) (o := .lst []) (h' := s2.heap.push { cls := .type "list", data := .seq ([] : List Value).toArray }) (t' := s2.toks) keep2 (Nat.le_refl _) ⟨Nat.zero_le _, [], 0, .nil, Heap.get?_push_size _ rfl⟩
  have inF : ∀ b ∈ fp, b < s2.heap.objs.size := fun b hb => (T.obj _ _ st2 b hb).elim fun o ho => Heap.lt_size ho.1
  have f3 : ∀ b ∈ fp, FpOk X pins (upd H2 s2.heap.objs.size (.lst [])) b ∧ b < (s2.heap.push { cls := .type "list", data := .seq ([] : List Value).toArray }).objs.size := fun b hb =>
    ⟨⟨by rw [upd_ne (Nat.ne_of_lt (inF b hb))]; exact (f2 b hb).1, (f2 b hb).2⟩, by rw [Heap.size_push]; exact Nat.lt_succ_of_lt (inF b hb)⟩
  have keep3 : ∀ b o, (s2.heap.push { cls := .type "list", data := .seq ([] : List Value).toArray }).get? b = some o → (pushCells ((s2.heap.push { cls := .type "list", data := .seq ([] : List Value).toArray }).push { cls := .type "dict", data := .dict #[] }) scope.names).get? b = some o :=
    fun b o e => pushCells_keeps _ _ _ _ (Heap.get?_push_of_some _ e)
  have I4 := inv_blkH I3 (block_start I3 ok hN f3) keep3 rfl
  show codeAny _ _ (.compStart (.ListComp elt [⟨.Name y py, iter, [], 0⟩] scope pos) 0 (.ref it) (.ref s2.heap.objs.size) (compEnvC scope (cellsFrom ((s2.heap.push { cls := .type "list", data := .seq ([] : List Value).toArray }).objs.size + 1) scope.names (cloFrom X.env.cells scope.names [])) (s2.heap.push { cls := .type "list", data := .seq ([] : List Value).toArray }).objs.size X.env)) (compPost (model X.prog X.w) X.A X.xe none _ (.ref s2.heap.objs.size) (s2.heap.push { cls := .type "list", data := .seq ([] : List Value).toArray }).objs.size)
    { s2 with heap := pushCells ((s2.heap.push { cls := .type "list", data := .seq ([] : List Value).toArray }).push { cls := .type "dict", data := .dict #[] }) scope.names }
  generalize hS3 : ({ s2 with heap := s2.heap.push { cls := .type "list", data := .seq ([] : List Value).toArray } } : Shared) = S3 at I3 I4
  have hh3 : s2.heap.push { cls := .type "list", data := .seq ([] : List Value).toArray } = S3.heap := by rw [← hS3]
  rw [hh3] at f3 keep2 keep3 ⊢
  have st4 : tn 0 (pushCells (S3.heap.push { cls := .type "dict", data := .dict #[] }) scope.names) := T.keep _ _ _ st2 fun b _ o e => keep3 b o (keep2 b o e)
  have pgs := hg S3 (upd H2 s2.heap.objs.size (.lst [])) S3.heap.objs.size (cellsFrom (S3.heap.objs.size + 1) scope.names (cloFrom X.env.cells scope.names [])) fp
  have pes := he S3 (upd H2 s2.heap.objs.size (.lst [])) S3.heap.objs.size (cellsFrom (S3.heap.objs.size + 1) scope.names (cloFrom X.env.cells scope.names [])) fp
  have cL : (compEnvC scope (cellsFrom (S3.heap.objs.size + 1) scope.names (cloFrom X.env.cells scope.names [])) S3.heap.objs.size X.env).locals = S3.heap.objs.size := rfl
  generalize compEnvC scope (cellsFrom (S3.heap.objs.size + 1) scope.names (cloFrom X.env.cells scope.names [])) S3.heap.objs.size X.env = ce at I4 pgs pes cL ⊢
  have hcB : HotC (blkH X S3 (upd H2 s2.heap.objs.size (.lst [])) scope ce fp) := hc
  have nfp : ∀ b ∈ fp, upd H2 s2.heap.objs.size (.lst []) b = none := fun b hb => (f3 b hb).1.1
  have foot : ∀ {σ' : L2.St} {H' : Hp} {s' : Shared}, Inv (blkH X S3 (upd H2 s2.heap.objs.size (.lst [])) scope ce fp) [] σ' H' s' → (∀ b ∈ fp, H' b = none) → ∀ b ∈ fp, FpOk (blkH X S3 (upd H2 s2.heap.objs.size (.lst [])) scope ce fp) [] H' b := fun {σ' H' s'} I' hn b hb =>
    ⟨hn b hb, (I'.ok.exf b hb).1, I'.ok.exfs b hb, .inl hb, (I'.ok.exf b hb).2, fun p hp => (f3 b hb).1.2.2.2.2.2 p (List.mem_append_left _ (by simpa using hp))⟩
  have loop : codeAny (model X.prog X.w) X.A (.compLoop (.ListComp elt [⟨.Name y py, iter, [], 0⟩] scope pos) 0 (.ref it) (.ref s2.heap.objs.size) ce) (compPost (model X.prog X.w) X.A X.xe none (EP X pins σ Q) (.ref s2.heap.objs.size) S3.heap.objs.size) { s2 with heap := pushCells (S3.heap.push { cls := .type "dict", data := .dict #[] }) scope.names } := by
    refine compLoop_any (fun m s' => ∃ i H', m = n - i ∧ i ≤ n ∧ Inv (blkH X S3 (upd H2 s2.heap.objs.size (.lst [])) scope ce fp) [] (wipe σ (own.map (·.2))) H' s' ∧ tn i s'.heap ∧ (∀ b ∈ fp, H' b = none) ∧ V i H') ?_ n ⟨0, _, rfl, Nat.zero_le _, by subst hS3; exact I4, st4, nfp, v0⟩
    rintro m s5 ⟨i, H5, rfl, hin, I5, st5, n5, w5⟩
    by_cases hlt : i < n
    · refine thnF (T.item (blkH X S3 (upd H2 s2.heap.objs.size (.lst [])) scope ce fp) rfl rfl rfl hcB i [] s5 _ H5 (fun _ _ => False) I5 (foot I5 n5) st5 hlt) fun r s6 h6 => ?_
      obtain ⟨u, rfl, h6⟩ := h6
      refine thnF h6 fun _ s7 h7 => ?_
      obtain ⟨x, H7, I7, r7, ⟨ex, eH⟩, st7, n7⟩ := h7
      subst ex eH
      obtain ⟨hjl, ht⟩ := step i _ hlt w5
      have I8 := I7.pinned (foot I7 n7) (T.obj _ _ st7)
      have goal := pgs.run _ s7 _ _ _ u (fun σ' H' => σ' = (wipe σ (own.map (·.2))).set j (some (.int (0 + (i : Int)))) ∧ H' = H7) I8 r7 ⟨rfl, rfl⟩
      refine thnF goal fun _ s8 h8 => ?_
      obtain ⟨σ8, H8, I9, rfl, rfl⟩ := h8
      refine wpAny_tests_nil ?_
      simp only [if_true]
      rw [Int.zero_add] at I9
      refine thnF (pes.run _ s8 _ _ _ I9 ht) fun z s10 h10 => ?_
      obtain ⟨yv, H10, I10, r10, ys, hD10, hz10, nx⟩ := h10
      refine app_ok (X := blkH X S3 (upd H2 s2.heap.objs.size (.lst [])) scope ce fp) I10 hD10 hz10 r10 fun s11 I11 => ⟨n - (i + 1), by omega, i + 1, _, rfl, hlt, (I11.unpinned (pins := [])).weak ?_ fun k v e => ?_, T.keep _ _ _ st7 fun b hb o e => ?_, fun b hb => ?_, nx⟩
      · rw [wipe_length, List.length_set, wipe_length]
      · have e2 := wipe_some e
        have nj : j ≠ k := fun z => e2.2 (by rw [hj, ← z]; exact List.mem_cons_self)
        rw [List.getElem?_set_ne nj]; exact e
      · exact (I11.pin (b, o) (List.mem_append_right _ (List.mem_append_right _ (mem_pinsAt hb e)))).1
      · obtain ⟨o, e, _⟩ := T.obj _ _ st7 b hb
        exact (I11.pin (b, o) (List.mem_append_right _ (List.mem_append_right _ (mem_pinsAt hb e)))).2.1
    · have ei : i = n := by omega
      subst ei
      refine thnF (T.done (blkH X S3 (upd H2 s2.heap.objs.size (.lst [])) scope ce fp) rfl rfl rfl hcB i [] s5 _ H5 (fun _ _ => False) I5 (foot I5 n5) st5 (Nat.le_refl _)) fun r s6 h6 => ?_
      obtain ⟨rfl, I6⟩ := h6
      have I7 : Inv X pins σ H5 s6 := I3.call' (ch := fp) I6.os I6.base I6.hok I6.bare fun b hb => ⟨(f3 b hb).1.2.2.2.1, (f3 b hb).1.2.1, (f3 b hb).1.2.2.2.2.1, (f3 b hb).1.2.2.2.2.2⟩
      have nC : H5 S3.heap.objs.size = none := by rw [← cL]; exact I6.free
      obtain ⟨m, hm, _⟩ := I6.loc
      have hm : s6.heap.Ns ce.locals m := hm
      rw [cL] at hm
      refine ⟨m, hm, fun h2 sb => ?_⟩
      obtain ⟨g0, g1, g2, g3, g4, g5⟩ := I3.fpOk (H' := H5) (Nat.le_refl _) nC
      exact ⟨.ref s2.heap.objs.size, H5, I7.turned (t' := s6.toks) (fun b o hb e => (sb.2 b hb).trans e) g0 g1 g3 g4 g5, rfl, fin _ w5⟩
  exact codeAny_compStart_list loop (T.self X.A 0 _ _ _ st4 loop)
end
theorem en_lcH {σ : L2.St} {B H : Hp} {wi : TI} {n j : Nat} {te : TE} {own : List Nat} (v : Nat → V) (f : Nat → PyData) (eb : Ex B H) (hw : ∀ (H1 : Hp) (R : It → Hp → Prop), R (Itr 0 n) H1 → wi σ H1 R) (hj : j < σ.length) (hn : n ≤ PySem.sizeLine)
    (hv : ∀ i B1, i < n → Da B1 (v i) (f i)) (he : ∀ i H1, i < n → Ex H H1 → Ev te ((wipe σ own).set j (some (.int (i : Int)))) H1 (v i)) : EvN (tLcH wi n j te own) σ B H ((List.range n).map f) := fun H1 e Q q => by
  refine hw H1 _ ⟨rfl, fun D hD => ⟨fun i H' => H' D = some (.lst ((List.range i).map v)) ∧ Ex H1 H', ⟨upd_same, Ex.new hD⟩, fun i H2 hi hV => ⟨hj, ?_⟩, fun H2 hV => ?_⟩⟩
  · refine he i H2 hi (e.trans hV.2) H2 (Ex.refl _) _ fun H3 e3 => ⟨_, e3 _ _ hV.1, by simp; omega, ?_, fun a o ha => ?_⟩
    · rw [upd_same, List.range_succ, List.map_append]; rfl
    · have : a ≠ D := fun z => by rw [z, hD] at ha; cases ha
      rw [upd_ne this]; exact e3 _ _ (hV.2 _ _ ha)
  · refine q D _ B H2 (Gr.same (eb.trans e) hV.2) hD (base_none (eb.trans e) hD) hV.1 ?_
    have : ∀ l : List Nat, (∀ i ∈ l, i < n) → DaAll B (l.map v) (l.map f) := fun l => by
      induction l with
      | nil => exact fun _ => .nil
      | cons i l ih => exact fun h => .cons (hv i B (h i List.mem_cons_self)) (ih fun k hk => h k (List.mem_cons_of_mem _ hk))
    exact this _ fun i hi => List.mem_range.mp hi
end TB
set_option Elab.async false
set_option linter.all false
set_option maxRecDepth 100000
set_option maxHeartbeats 1000000
/-! Defs that raise, the context told; the end of a law with a table. -/
namespace TB
open PySem PySem.Spec PyProof.Rows L2 TM
theorem passN {X : Cx} : Passes (L2N.CX X.prog X.w) X E0 := fun _ _ _ _ _ _ _ h => by
  obtain ⟨_, _, _, _, _, _, _, _, _, _, _, _, z⟩ := h
  exact z.elim
theorem takesN {X : Cx} : L2N.Takes X (fun _ _ _ _ => False) := fun _ _ x => by
  obtain ⟨_, _, _, _, _, _, _, _, _, _, _, _, _, _, _, _, z⟩ := x
  exact z.elim
section
variable {P : Program} {w : World} {K : PySem.W.Frag} {mg : Str → Option Value} {base : Heap}
theorem fun_okN {x qual : Str} {st : Stmt} {f : Addr} {fd : FuncData} {N ps : List Str} {k : Nat} {sp : Sp} (F : Fun K x qual st f fd) (S : FnScope N ps (defScope st)) (len : ∀ vs H Q E, sp vs H Q E → vs.length = ps.length)
    (hb : ∀ (cdv : Value) (A : Around) (outer : List Env) (s : Shared) (H : Hp) (vs : List V) (Q : VK) (E : XK), Room k (A.deeper (envOfC qual (defScope st) s.heap.objs.size f cdv)) → sp vs H Q E →
      ∃ t, PSs (cxOf (L2N.CX P w) P w K mg base N qual (defScope st) f cdv A outer s H E) (defBody st) t ∧ t { nx := fun _ H' => Q .non H', rt := Q } (start N vs) H) : FnOk P w K mg base (L2N.CX P w) (k + 1) f fd ps sp := by
  obtain ⟨_, _, _, _, _, _, cdv, _, _, rfl, lk, hcd⟩ := F.ex
  exact fn_of lk hcd S len fun A outer s H vs Q E hr h => hb cdv A outer s H vs Q E hr h
/-- the def of the text, its code object told -/
structure FunC (K : PySem.W.Frag) (x qual : Str) (st : Stmt) (f c : Addr) (fd : FuncData) : Prop where
  ex : ∃ (oc : Value) (od : Option Addr) (kV doc pm : Value) (an : Option Addr) (ct : Value) (osl : Array (Option Value)),
    fd = PySem.W.fnOf x qual (defArgs st) (defBody st) (defScope st) .none kV doc pm an (.ref c) ct ∧ K.lookup f = some ⟨oc, od, .func fd, osl⟩ ∧ PySem.W.codeIn K (.ref c) qual = true
theorem FunC.ok {x qual : Str} {st : Stmt} {f c : Addr} {fd : FuncData} {N ps : List Str} {k : Nat} {sp : Sp} (F : FunC K x qual st f c fd) (S : FnScope N ps (defScope st)) (len : ∀ vs H Q E, sp vs H Q E → vs.length = ps.length)
    (hb : ∀ (A : Around) (outer : List Env) (s : Shared) (H : Hp) (vs : List V) (Q : VK) (E : XK), Room k (A.deeper (envOfC qual (defScope st) s.heap.objs.size f (.ref c))) → sp vs H Q E →
      ∃ t, PSs (cxOf CX0 P w K mg base N qual (defScope st) f (.ref c) A outer s H E).nox (defBody st) t ∧ t { nx := fun _ H' => Q .non H', rt := Q } (start N vs) H) : FnOk P w K mg base CX0 (k + 1) f fd ps sp := by
  obtain ⟨_, _, _, _, _, _, _, _, rfl, lk, hcd⟩ := F.ex
  refine fn_of lk hcd S len fun A outer s H vs Q E hr h => ?_
  obtain ⟨t, h1, q⟩ := hb A outer s H vs Q E hr h
  exact ⟨t, h1.nox, q⟩
end
/-- the end of a law, the tables of its defs told -/
theorem walk_tab {l : PySem.W.OpenLaw} {n k : Nat} {q : Program} {loose : List Str} {XP : (Str → Option Value) → Heap → Prop} {YP : World → Heap → Prop} {d : DefRec} {K : Params → PySem.W.Frag} {x : Str} (hn : l.most = some n) (hn2 : n ≤ sizeLine) (hdf : d.params.defaults = []) (hr : Room k callerA)
    (hY : ∀ (w : World) (h : Heap), YP w h → (K w.params).In h)
    (F : ∀ (w : World) (mg : Str → Option Value) (fa : Addr) (h : Heap), (K w.params).In h → h.Ns mainGlobals mg → mg d.name = some (.ref fa) →
      (∀ (y : Str) (f c P : Addr) (o : Obj) (fd : FuncData) (cls : Value) (dd : Option Addr) (vs : Array Value) (sl : Array (Option Value)), ((recsOf q).any fun e => e.name == y) = true → mg y = some (.ref f) → (K w.params).lookup f = some o → o.data = .func fd → fd.code = .ref c → (K w.params).lookup c = some ⟨cls, dd, .fields vs, sl⟩ → vs[11]? = some (.ref P) →
        PySem.W.CodeHd h c P ∧ h.get? P = some { cls := .none, data := .fields #[] }) → LamX.LawAtS l w (K w.params) CX0 k n x mg fa h) :
    PySem.W.WalkO q loose XP YP l.row.toRowW d [] (fun f vs => PySem.call f vs) := by
  refine Att.attach_callB hn hdf fun w s₀ s₁ mg mb fa o pm cd doc a vs ns G Y ho hd hcd hmg hobj hints hlen hbits hg => ?_
  have KX := hY w _ Y
  obtain ⟨fd, cs, sp, e1, e2, e3, e4, e5, e6⟩ := F w mg fa _ KX G.T.g hmg fun y f c P o2 fd2 cls dd vs2 sl hy m1 m2 m3 m4 m5 m6 => by
    obtain ⟨dL, hm, hn1⟩ := List.any_eq_true.mp hy
    have hn1 : dL.name = y := beq_iff_eq.mp hn1
    obtain ⟨a2, o3, fd3, c3, P3, h1, h2, h3, h4, h5, h6⟩ := G.T.tab dL hm
    rw [hn1, m1] at h1
    cases h1
    rw [KX _ _ m2] at h2
    cases h2
    rw [m3] at h3
    cases h3
    rw [m4] at h4
    cases h4
    have hh := PySem.W.CodeHd.of h5 h6
    obtain ⟨⟨oc, vc, g1, _, g3, g4⟩, g5⟩ := h6
    rw [KX _ _ m5] at g1
    cases g1
    cases g3
    rw [m6] at g4
    cases g4
    exact ⟨hh, g5⟩
  exact LamX.law_callTs KX G.T.g G.T.b G.T.builtins G.T.nolimit hg e1 e2 e3 G.T.bmain hobj hints (Nat.le_trans hlen hn2) hr e6 e4 (fun H hH hS => e5 H a ns hlen hbits hH hS) fun _ _ _ z => z
/-- the handled exception of a suite has no context -/
theorem hot_of {X : Cx} {a : Addr} {oe : Obj} {cls : Value} {d : Option Addr} {pn : List (Addr × Obj)} (hz : L2N.Zn cls d oe) (hf : ∃ vs, oe.data = .fields vs) : L2H.HotC (X.suite a ((a, oe) :: pn)) :=
  hf.elim fun vs e => ⟨(a, oe), ⟨rfl, vs, e, hz.2.2 vs e⟩, List.mem_cons_self⟩
theorem notInDK (K : PySem.W.Frag) {X : Cx} (hu : X.A.units + 65 < cLine) (hK : X.K = K := by rfl) : OpR X (compareOp .NotIn) (rNotInD K) := by subst hK; exact op_notInD hu
theorem sortedPK (K : PySem.W.Frag) {X : Cx} (hK : X.K = K := by rfl) : CallR X (.builtin "sorted") (rSortedP K) := by subst hK; exact cr_sortedP
end TB
set_option Elab.async false
set_option linter.all false
set_option maxRecDepth 100000
set_option maxHeartbeats 4000000
/-! The text by places, and what the top leaves. -/
namespace TW
open PySem PySem.Spec PyProof.Rows L2 TB TM
def top (i : Nat) : Stmt := PySem.Challenge.pw_tiehalves_k06_whole_known.main.body.getD i (.Pass ⟨0, 0, 0, 0⟩)
abbrev s_is_number : Stmt := top 8
theorem sc_is_number : FnScope (["thing"] : List Str) ["thing"] (defScope s_is_number) := ⟨rfl, rfl, rfl, by decide +kernel, rfl, by decide +kernel, by decide +kernel⟩
abbrev s_is_tie : Stmt := top 9
theorem sc_is_tie : FnScope (["thing", "places", "one"] : List Str) ["thing", "places"] (defScope s_is_tie) := ⟨rfl, rfl, rfl, by decide +kernel, rfl, by decide +kernel, by decide +kernel⟩
abbrev s_asked_web : Stmt := top 10
theorem sc_asked_web : FnScope (["places", "ties", "tie"] : List Str) ["places", "ties"] (defScope s_asked_web) := ⟨rfl, rfl, rfl, by decide +kernel, rfl, by decide +kernel, by decide +kernel⟩
abbrev s_counts : Stmt := top 11
theorem sc_counts : FnScope (["places", "ties", "colours", "many", "found", "tie", "colour", "place"] : List Str) ["places", "ties", "colours", "many"] (defScope s_counts) := ⟨rfl, rfl, rfl, by decide +kernel, rfl, by decide +kernel, by decide +kernel⟩
abbrev s_part_of : Stmt := top 12
theorem sc_part_of : FnScope (["ties", "begin", "some", "found", "waiting", "here", "at", "there"] : List Str) ["ties", "begin", "some"] (defScope s_part_of) := ⟨rfl, rfl, rfl, by decide +kernel, rfl, by decide +kernel, by decide +kernel⟩
abbrev s_is_odd_part : Stmt := top 13
theorem sc_is_odd_part : FnScope (["places", "ties", "some", "inner", "place", "tie"] : List Str) ["places", "ties", "some"] (defScope s_is_odd_part) := ⟨rfl, rfl, rfl, by decide +kernel, rfl, by decide +kernel, by decide +kernel⟩
abbrev s_are_even : Stmt := top 16
theorem sc_are_even : FnScope (["places", "ties", "colours", "many", "colour", "some"] : List Str) ["places", "ties", "colours", "many"] (defScope s_are_even) := ⟨rfl, rfl, rfl, by decide +kernel, rfl, by decide +kernel, by decide +kernel⟩
abbrev s_Even___init__ : Stmt := inClass (top 17) 0
theorem sc_Even___init__ : FnScope (["self", "colours"] : List Str) ["self", "colours"] (defScope s_Even___init__) := ⟨rfl, rfl, rfl, by decide +kernel, rfl, by decide +kernel, by decide +kernel⟩
abbrev s_Even_shows : Stmt := inClass (top 17) 1
theorem sc_Even_shows : FnScope (["self", "places", "ties"] : List Str) ["self", "places", "ties"] (defScope s_Even_shows) := ⟨rfl, rfl, rfl, by decide +kernel, rfl, by decide +kernel, by decide +kernel⟩
abbrev s_Odd___init__ : Stmt := inClass (top 18) 0
theorem sc_Odd___init__ : FnScope (["self", "some"] : List Str) ["self", "some"] (defScope s_Odd___init__) := ⟨rfl, rfl, rfl, by decide +kernel, rfl, by decide +kernel, by decide +kernel⟩
abbrev s_Odd_shows : Stmt := inClass (top 18) 1
theorem sc_Odd_shows : FnScope (["self", "places", "ties"] : List Str) ["self", "places", "ties"] (defScope s_Odd_shows) := ⟨rfl, rfl, rfl, by decide +kernel, rfl, by decide +kernel, by decide +kernel⟩
abbrev s_Shares___init__ : Stmt := inClass (top 19) 0
theorem sc_Shares___init__ : FnScope (["self", "colours"] : List Str) ["self", "colours"] (defScope s_Shares___init__) := ⟨rfl, rfl, rfl, by decide +kernel, rfl, by decide +kernel, by decide +kernel⟩
abbrev s_Shares_shows : Stmt := inClass (top 19) 1
theorem sc_Shares_shows : FnScope (["self", "places", "ties", "many", "kinds", "told", "some", "least", "colour"] : List Str) ["self", "places", "ties", "many"] (defScope s_Shares_shows) := ⟨rfl, rfl, rfl, by decide +kernel, rfl, by decide +kernel, by decide +kernel⟩
abbrev s_Ring___init__ : Stmt := inClass (top 20) 0
theorem sc_Ring___init__ : FnScope (["self", "ring"] : List Str) ["self", "ring"] (defScope s_Ring___init__) := ⟨rfl, rfl, rfl, by decide +kernel, rfl, by decide +kernel, by decide +kernel⟩
abbrev s_Ring_shows : Stmt := inClass (top 20) 1
theorem sc_Ring_shows : FnScope (["self", "places", "ties", "many", "begin", "came", "at"] : List Str) ["self", "places", "ties", "many"] (defScope s_Ring_shows) := ⟨rfl, rfl, rfl, by decide +kernel, rfl, by decide +kernel, by decide +kernel⟩
abbrev s_circuit : Stmt := top 22
theorem sc_circuit : FnScope (["ties", "begin", "left", "at", "tie", "place", "used", "way", "found", "here", "by", "some"] : List Str) ["ties", "begin"] (defScope s_circuit) := ⟨rfl, rfl, rfl, by decide +kernel, rfl, by decide +kernel, by decide +kernel⟩
abbrev s_nearly_of : Stmt := top 23
theorem sc_nearly_of : FnScope (["places", "ties", "odd", "more", "colours", "begin", "fresh", "turn", "at", "place", "tie"] : List Str) ["places", "ties"] (defScope s_nearly_of) := ⟨rfl, rfl, rfl, by decide +kernel, rfl, by decide +kernel, by decide +kernel⟩
abbrev s_nearly : Stmt := top 24
theorem sc_nearly : FnScope (["places", "ties"] : List Str) ["places", "ties"] (defScope s_nearly) := ⟨rfl, rfl, rfl, by decide +kernel, rfl, by decide +kernel, by decide +kernel⟩
abbrev s_halved_of : Stmt := top 25
theorem sc_halved_of : FnScope (["places", "ties", "colours", "place", "mine", "tie", "colour"] : List Str) ["places", "ties"] (defScope s_halved_of) := ⟨rfl, rfl, rfl, by decide +kernel, rfl, by decide +kernel, by decide +kernel⟩
abbrev s_halved : Stmt := top 26
theorem sc_halved : FnScope (["places", "ties"] : List Str) ["places", "ties"] (defScope s_halved) := ⟨rfl, rfl, rfl, by decide +kernel, rfl, by decide +kernel, by decide +kernel⟩
abbrev s_odd_ring : Stmt := top 28
theorem sc_odd_ring : FnScope (["places", "ties", "side", "by", "begin", "waiting", "here", "at", "tie", "there"] : List Str) ["places", "ties"] (defScope s_odd_ring) := ⟨rfl, rfl, rfl, by decide +kernel, rfl, by decide +kernel, by decide +kernel⟩
abbrev s_way_up : Stmt := top 29
theorem sc_way_up : FnScope (["ties", "by", "place", "found"] : List Str) ["ties", "by", "place"] (defScope s_way_up) := ⟨rfl, rfl, rfl, by decide +kernel, rfl, by decide +kernel, by decide +kernel⟩
abbrev s_closed : Stmt := top 30
theorem sc_closed : FnScope (["ties", "by", "here", "there", "at", "mine", "theirs"] : List Str) ["ties", "by", "here", "there", "at"] (defScope s_closed) := ⟨rfl, rfl, rfl, by decide +kernel, rfl, by decide +kernel, by decide +kernel⟩
abbrev s_spread : Stmt := top 31
theorem sc_spread : FnScope (["places", "ties", "many", "colours", "again", "one", "other", "some", "halves", "at", "half"] : List Str) ["places", "ties", "many"] (defScope s_spread) := ⟨rfl, rfl, rfl, by decide +kernel, rfl, by decide +kernel, by decide +kernel⟩
abbrev s_is_uneven : Stmt := top 32
theorem sc_is_uneven : FnScope (["places", "ties", "colours", "one", "other", "apart", "tie", "colour", "place"] : List Str) ["places", "ties", "colours", "one", "other"] (defScope s_is_uneven) := ⟨rfl, rfl, rfl, by decide +kernel, rfl, by decide +kernel, by decide +kernel⟩
abbrev s_shared : Stmt := top 33
theorem sc_shared : FnScope (["places", "ties", "many", "ring"] : List Str) ["places", "ties", "many"] (defScope s_shared) := ⟨rfl, rfl, rfl, by decide +kernel, rfl, by decide +kernel, by decide +kernel⟩
abbrev s__law_refused : Stmt := top 35
theorem sc__law_refused : FnScope (["_law_ask", "_law_thing", "_law_due", "error", "_law_kinds", "_law_kind"] : List Str) ["_law_ask", "_law_thing", "_law_due"] (defScope s__law_refused) := ⟨rfl, rfl, rfl, by decide +kernel, rfl, by decide +kernel, by decide +kernel⟩
abbrev s__law_plain : Stmt := top 36
theorem sc__law_plain : FnScope (["_law_thing", "_law_one"] : List Str) ["_law_thing"] (defScope s__law_plain) := ⟨rfl, rfl, rfl, by decide +kernel, rfl, by decide +kernel, by decide +kernel⟩
abbrev s__law_truths : Stmt := top 37
theorem sc__law_truths : FnScope (["_law_things", "_law_one"] : List Str) ["_law_things"] (defScope s__law_truths) := ⟨rfl, rfl, rfl, by decide +kernel, rfl, by decide +kernel, by decide +kernel⟩
abbrev s__law_counts : Stmt := top 38
theorem sc__law_counts : FnScope (["_law_places", "_law_ties", "_law_colours", "_law_many", "_law_found", "_law_tie", "_law_colour", "_law_place"] : List Str) ["_law_places", "_law_ties", "_law_colours", "_law_many"] (defScope s__law_counts) := ⟨rfl, rfl, rfl, by decide +kernel, rfl, by decide +kernel, by decide +kernel⟩
abbrev s__law_even_right : Stmt := top 39
theorem sc__law_even_right : FnScope (["_law_places", "_law_ties", "_law_many", "_law_answer", "_law_row"] : List Str) ["_law_places", "_law_ties", "_law_many"] (defScope s__law_even_right) := ⟨rfl, rfl, rfl, by decide +kernel, rfl, by decide +kernel, by decide +kernel⟩
abbrev s__law_two_right : Stmt := top 40
theorem sc__law_two_right : FnScope (["_law_places", "_law_ties", "_law_even", "_law_answer", "_law_colours", "_law_rows", "_law_row"] : List Str) ["_law_places", "_law_ties", "_law_even"] (defScope s__law_two_right) := ⟨rfl, rfl, rfl, by decide +kernel, rfl, by decide +kernel, by decide +kernel⟩
abbrev s__law_known_right : Stmt := top 41
theorem sc__law_known_right : FnScope (["_law_many", "_law_alike", "_law_ring", "_law_sides", "_law_star", "_law_three", "_law_lone", "_law_odd", "_law_six", "_law_colours", "_law_told", "_law_none", "_law_at"] : List Str) ["_law_many"] (defScope s__law_known_right) := ⟨rfl, rfl, rfl, by decide +kernel, rfl, by decide +kernel, by decide +kernel⟩
abbrev s__law_changed_right : Stmt := top 42
theorem sc__law_changed_right : FnScope (["_law_ties", "_law_turn", "_law_first"] : List Str) [] (defScope s__law_changed_right) := ⟨rfl, rfl, rfl, by decide +kernel, rfl, by decide +kernel, by decide +kernel⟩
abbrev s__law_bad_right : Stmt := top 43
theorem sc__law_bad_right : FnScope (["_law_whole", "_law_ties", "_law_spot", "_law_bad", "_law_row", "_law_at"] : List Str) ["_law_whole"] (defScope s__law_bad_right) := ⟨rfl, rfl, rfl, by decide +kernel, rfl, by decide +kernel, by decide +kernel⟩
abbrev s__law_far : Stmt := top 44
theorem sc__law_far : FnScope (["_law_places", "_law_ties", "_law_colours", "_law_found", "_law_tie", "_law_colour", "_law_place", "_law_one"] : List Str) ["_law_places", "_law_ties", "_law_colours"] (defScope s__law_far) := ⟨rfl, rfl, rfl, by decide +kernel, rfl, by decide +kernel, by decide +kernel⟩
abbrev s__law_promises_right : Stmt := top 45
theorem sc__law_promises_right : FnScope (["_law_three", "_law_two", "_law_lone", "_law_square", "_law_great", "_law_cases", "_law_some", "_law_places", "_law_ties", "_law_due", "_law_colours"] : List Str) [] (defScope s__law_promises_right) := ⟨rfl, rfl, rfl, by decide +kernel, rfl, by decide +kernel, by decide +kernel⟩
abbrev s__law_more_promises : Stmt := top 46
theorem sc__law_more_promises : FnScope (["_law_three", "_law_two", "_law_lone", "_law_square", "_law_great", "_law_pair", "_law_cases", "_law_ring", "_law_due"] : List Str) ["_law_three", "_law_two", "_law_lone", "_law_square", "_law_great"] (defScope s__law_more_promises) := ⟨rfl, rfl, rfl, by decide +kernel, rfl, by decide +kernel, by decide +kernel⟩
abbrev s_law : Stmt := top 47
theorem sc_law : FnScope (["_law_script", "_law_whole"] : List Str) ["_law_script"] (defScope s_law) := ⟨rfl, rfl, rfl, by decide +kernel, rfl, by decide +kernel, by decide +kernel⟩
structure Ad where
  is_number : Addr
  is_tie : Addr
  asked_web : Addr
  counts : Addr
  part_of : Addr
  is_odd_part : Addr
  are_even : Addr
  Even___init__ : Addr
  Even_shows : Addr
  Odd___init__ : Addr
  Odd_shows : Addr
  Shares___init__ : Addr
  Shares_shows : Addr
  Ring___init__ : Addr
  Ring_shows : Addr
  circuit : Addr
  nearly_of : Addr
  nearly : Addr
  halved_of : Addr
  halved : Addr
  odd_ring : Addr
  way_up : Addr
  closed : Addr
  spread : Addr
  is_uneven : Addr
  shared : Addr
  _law_refused : Addr
  _law_plain : Addr
  _law_truths : Addr
  _law_counts : Addr
  _law_even_right : Addr
  _law_two_right : Addr
  _law_known_right : Addr
  _law_changed_right : Addr
  _law_bad_right : Addr
  _law_far : Addr
  _law_promises_right : Addr
  _law_more_promises : Addr
  law : Addr
  TieError : Addr
  BadPlaces : Addr
  BadTies : Addr
  BadMany : Addr
  Even : Addr
  Odd : Addr
  Shares : Addr
  Ring : Addr
  c_bad : Addr
  P_bad : Addr
structure TX (K : PySem.W.Frag) (mg : Str → Option Value) (A : Ad) : Prop where
  g_is_number : mg "is_number" = some (.ref A.is_number)
  F_is_number : ∃ fd, Fun K "is_number" "is_number" s_is_number A.is_number fd
  g_is_tie : mg "is_tie" = some (.ref A.is_tie)
  F_is_tie : ∃ fd, Fun K "is_tie" "is_tie" s_is_tie A.is_tie fd
  g_asked_web : mg "asked_web" = some (.ref A.asked_web)
  F_asked_web : ∃ fd, Fun K "asked_web" "asked_web" s_asked_web A.asked_web fd
  g_counts : mg "counts" = some (.ref A.counts)
  F_counts : ∃ fd, Fun K "counts" "counts" s_counts A.counts fd
  g_part_of : mg "part_of" = some (.ref A.part_of)
  F_part_of : ∃ fd, Fun K "part_of" "part_of" s_part_of A.part_of fd
  g_is_odd_part : mg "is_odd_part" = some (.ref A.is_odd_part)
  F_is_odd_part : ∃ fd, Fun K "is_odd_part" "is_odd_part" s_is_odd_part A.is_odd_part fd
  g_are_even : mg "are_even" = some (.ref A.are_even)
  F_are_even : ∃ fd, Fun K "are_even" "are_even" s_are_even A.are_even fd
  F_Even___init__ : ∃ fd, Fun K "__init__" "Even.__init__" s_Even___init__ A.Even___init__ fd
  F_Even_shows : ∃ fd, Fun K "shows" "Even.shows" s_Even_shows A.Even_shows fd
  F_Odd___init__ : ∃ fd, Fun K "__init__" "Odd.__init__" s_Odd___init__ A.Odd___init__ fd
  F_Odd_shows : ∃ fd, Fun K "shows" "Odd.shows" s_Odd_shows A.Odd_shows fd
  F_Shares___init__ : ∃ fd, Fun K "__init__" "Shares.__init__" s_Shares___init__ A.Shares___init__ fd
  F_Shares_shows : ∃ fd, Fun K "shows" "Shares.shows" s_Shares_shows A.Shares_shows fd
  F_Ring___init__ : ∃ fd, Fun K "__init__" "Ring.__init__" s_Ring___init__ A.Ring___init__ fd
  F_Ring_shows : ∃ fd, Fun K "shows" "Ring.shows" s_Ring_shows A.Ring_shows fd
  g_circuit : mg "circuit" = some (.ref A.circuit)
  F_circuit : ∃ fd, Fun K "circuit" "circuit" s_circuit A.circuit fd
  g_nearly_of : mg "nearly_of" = some (.ref A.nearly_of)
  F_nearly_of : ∃ fd, Fun K "nearly_of" "nearly_of" s_nearly_of A.nearly_of fd
  g_nearly : mg "nearly" = some (.ref A.nearly)
  F_nearly : ∃ fd, Fun K "nearly" "nearly" s_nearly A.nearly fd
  g_halved_of : mg "halved_of" = some (.ref A.halved_of)
  F_halved_of : ∃ fd, Fun K "halved_of" "halved_of" s_halved_of A.halved_of fd
  g_halved : mg "halved" = some (.ref A.halved)
  F_halved : ∃ fd, Fun K "halved" "halved" s_halved A.halved fd
  g_odd_ring : mg "odd_ring" = some (.ref A.odd_ring)
  F_odd_ring : ∃ fd, Fun K "odd_ring" "odd_ring" s_odd_ring A.odd_ring fd
  g_way_up : mg "way_up" = some (.ref A.way_up)
  F_way_up : ∃ fd, Fun K "way_up" "way_up" s_way_up A.way_up fd
  g_closed : mg "closed" = some (.ref A.closed)
  F_closed : ∃ fd, Fun K "closed" "closed" s_closed A.closed fd
  g_spread : mg "spread" = some (.ref A.spread)
  F_spread : ∃ fd, Fun K "spread" "spread" s_spread A.spread fd
  g_is_uneven : mg "is_uneven" = some (.ref A.is_uneven)
  F_is_uneven : ∃ fd, Fun K "is_uneven" "is_uneven" s_is_uneven A.is_uneven fd
  g_shared : mg "shared" = some (.ref A.shared)
  F_shared : ∃ fd, Fun K "shared" "shared" s_shared A.shared fd
  g__law_refused : mg "_law_refused" = some (.ref A._law_refused)
  F__law_refused : ∃ fd, Fun K "_law_refused" "_law_refused" s__law_refused A._law_refused fd
  g__law_plain : mg "_law_plain" = some (.ref A._law_plain)
  F__law_plain : ∃ fd, Fun K "_law_plain" "_law_plain" s__law_plain A._law_plain fd
  g__law_truths : mg "_law_truths" = some (.ref A._law_truths)
  F__law_truths : ∃ fd, Fun K "_law_truths" "_law_truths" s__law_truths A._law_truths fd
  g__law_counts : mg "_law_counts" = some (.ref A._law_counts)
  F__law_counts : ∃ fd, Fun K "_law_counts" "_law_counts" s__law_counts A._law_counts fd
  g__law_even_right : mg "_law_even_right" = some (.ref A._law_even_right)
  F__law_even_right : ∃ fd, Fun K "_law_even_right" "_law_even_right" s__law_even_right A._law_even_right fd
  g__law_two_right : mg "_law_two_right" = some (.ref A._law_two_right)
  F__law_two_right : ∃ fd, Fun K "_law_two_right" "_law_two_right" s__law_two_right A._law_two_right fd
  g__law_known_right : mg "_law_known_right" = some (.ref A._law_known_right)
  F__law_known_right : ∃ fd, Fun K "_law_known_right" "_law_known_right" s__law_known_right A._law_known_right fd
  g__law_changed_right : mg "_law_changed_right" = some (.ref A._law_changed_right)
  F__law_changed_right : ∃ fd, Fun K "_law_changed_right" "_law_changed_right" s__law_changed_right A._law_changed_right fd
  g__law_bad_right : mg "_law_bad_right" = some (.ref A._law_bad_right)
  C__law_bad_right : ∃ fd, FunC K "_law_bad_right" "_law_bad_right" s__law_bad_right A._law_bad_right A.c_bad fd ∧ Fun K "_law_bad_right" "_law_bad_right" s__law_bad_right A._law_bad_right fd
  g__law_far : mg "_law_far" = some (.ref A._law_far)
  F__law_far : ∃ fd, Fun K "_law_far" "_law_far" s__law_far A._law_far fd
  g__law_promises_right : mg "_law_promises_right" = some (.ref A._law_promises_right)
  F__law_promises_right : ∃ fd, Fun K "_law_promises_right" "_law_promises_right" s__law_promises_right A._law_promises_right fd
  g__law_more_promises : mg "_law_more_promises" = some (.ref A._law_more_promises)
  F__law_more_promises : ∃ fd, Fun K "_law_more_promises" "_law_more_promises" s__law_more_promises A._law_more_promises fd
  g_law : mg "law" = some (.ref A.law)
  F_law : ∃ fd, Fun K "law" "law" s_law A.law fd
  n_ValueError : mg "ValueError" = none
  n_len : mg "len" = none
  n_abs : mg "abs" = none
  n_sum : mg "sum" = none
  n_all : mg "all" = none
  n_any : mg "any" = none
  n_min : mg "min" = none
  n_max : mg "max" = none
  n_sorted : mg "sorted" = none
  n_list : mg "list" = none
  n_set : mg "set" = none
  n_range : mg "range" = none
  n_enumerate : mg "enumerate" = none
  n_zip : mg "zip" = none
  n_isinstance : mg "isinstance" = none
  n_int : mg "int" = none
  n_bool : mg "bool" = none
  n_tuple : mg "tuple" = none
  n_str : mg "str" = none
  g_MOST : ∃ t, mg "MOST" = some (.int 40 t)
  g_MOST_TIES : ∃ t, mg "MOST_TIES" = some (.int 120 t)
  g_TieError : mg "TieError" = some (.ref A.TieError)
  g_BadPlaces : mg "BadPlaces" = some (.ref A.BadPlaces)
  g_BadTies : mg "BadTies" = some (.ref A.BadTies)
  g_BadMany : mg "BadMany" = some (.ref A.BadMany)
  x_BadPlaces : PySem.W.excIn K A.BadPlaces [.type "ValueError", .type "Exception", .type "BaseException", .type "object"] "ValueError.__new__" = true
  k_BadPlaces : PySem.W.keepIn K (.ref A.BadPlaces) = true
  b_BadPlaces : PySem.W.subIn K (.ref A.BadPlaces) (.type "BaseException") = some true
  t_BadPlaces : PySem.W.typeIn K (.ref A.BadPlaces) = some (.type "type")
  x_BadTies : PySem.W.excIn K A.BadTies [.type "ValueError", .type "Exception", .type "BaseException", .type "object"] "ValueError.__new__" = true
  k_BadTies : PySem.W.keepIn K (.ref A.BadTies) = true
  b_BadTies : PySem.W.subIn K (.ref A.BadTies) (.type "BaseException") = some true
  t_BadTies : PySem.W.typeIn K (.ref A.BadTies) = some (.type "type")
  x_BadMany : PySem.W.excIn K A.BadMany [.type "ValueError", .type "Exception", .type "BaseException", .type "object"] "ValueError.__new__" = true
  k_BadMany : PySem.W.keepIn K (.ref A.BadMany) = true
  b_BadMany : PySem.W.subIn K (.ref A.BadMany) (.type "BaseException") = some true
  t_BadMany : PySem.W.typeIn K (.ref A.BadMany) = some (.type "type")
  e_BadPlaces : ExcC K A.BadPlaces
  h_BadPlaces : PySem.W.exmOne K (.ref A.BadPlaces) (.ref A.TieError) = some true
  v_BadPlaces : PySem.W.kitOne K (.ref A.BadPlaces) (.type "ValueError") = some true
  j_BadPlaces_BadPlaces : PySem.W.kitOne K (.ref A.BadPlaces) (.ref A.BadPlaces) = some true
  j_BadPlaces_BadTies : PySem.W.kitOne K (.ref A.BadPlaces) (.ref A.BadTies) = some false
  j_BadPlaces_BadMany : PySem.W.kitOne K (.ref A.BadPlaces) (.ref A.BadMany) = some false
  e_BadTies : ExcC K A.BadTies
  h_BadTies : PySem.W.exmOne K (.ref A.BadTies) (.ref A.TieError) = some true
  v_BadTies : PySem.W.kitOne K (.ref A.BadTies) (.type "ValueError") = some true
  j_BadTies_BadPlaces : PySem.W.kitOne K (.ref A.BadTies) (.ref A.BadPlaces) = some false
  j_BadTies_BadTies : PySem.W.kitOne K (.ref A.BadTies) (.ref A.BadTies) = some true
  j_BadTies_BadMany : PySem.W.kitOne K (.ref A.BadTies) (.ref A.BadMany) = some false
  e_BadMany : ExcC K A.BadMany
  h_BadMany : PySem.W.exmOne K (.ref A.BadMany) (.ref A.TieError) = some true
  v_BadMany : PySem.W.kitOne K (.ref A.BadMany) (.type "ValueError") = some true
  j_BadMany_BadPlaces : PySem.W.kitOne K (.ref A.BadMany) (.ref A.BadPlaces) = some false
  j_BadMany_BadTies : PySem.W.kitOne K (.ref A.BadMany) (.ref A.BadTies) = some false
  j_BadMany_BadMany : PySem.W.kitOne K (.ref A.BadMany) (.ref A.BadMany) = some true
  g_Even : mg "Even" = some (.ref A.Even)
  c_Even : Cls K A.Even
  m_Even : Mk K A.Even A.Even___init__
  a_Even : NoAttr K A.Even "colours"
  y_Even : ∀ (H : Hp) (a dx : Addr) (fs : List (Str × V)), H a = some (.ins A.Even dx fs) → TyX K H (.ref a) (.ref A.Even)
  i_Even_Even : PySem.W.kitOne K (.ref A.Even) (.ref A.Even) = some true
  i_Even_Odd : PySem.W.kitOne K (.ref A.Even) (.ref A.Odd) = some false
  i_Even_Shares : PySem.W.kitOne K (.ref A.Even) (.ref A.Shares) = some false
  i_Even_Ring : PySem.W.kitOne K (.ref A.Even) (.ref A.Ring) = some false
  m_Even_shows : Meth K A.Even "shows" A.Even_shows
  g_Odd : mg "Odd" = some (.ref A.Odd)
  c_Odd : Cls K A.Odd
  m_Odd : Mk K A.Odd A.Odd___init__
  a_Odd : NoAttr K A.Odd "some"
  y_Odd : ∀ (H : Hp) (a dx : Addr) (fs : List (Str × V)), H a = some (.ins A.Odd dx fs) → TyX K H (.ref a) (.ref A.Odd)
  i_Odd_Even : PySem.W.kitOne K (.ref A.Odd) (.ref A.Even) = some false
  i_Odd_Odd : PySem.W.kitOne K (.ref A.Odd) (.ref A.Odd) = some true
  i_Odd_Shares : PySem.W.kitOne K (.ref A.Odd) (.ref A.Shares) = some false
  i_Odd_Ring : PySem.W.kitOne K (.ref A.Odd) (.ref A.Ring) = some false
  m_Odd_shows : Meth K A.Odd "shows" A.Odd_shows
  g_Shares : mg "Shares" = some (.ref A.Shares)
  c_Shares : Cls K A.Shares
  m_Shares : Mk K A.Shares A.Shares___init__
  a_Shares : NoAttr K A.Shares "colours"
  y_Shares : ∀ (H : Hp) (a dx : Addr) (fs : List (Str × V)), H a = some (.ins A.Shares dx fs) → TyX K H (.ref a) (.ref A.Shares)
  i_Shares_Even : PySem.W.kitOne K (.ref A.Shares) (.ref A.Even) = some false
  i_Shares_Odd : PySem.W.kitOne K (.ref A.Shares) (.ref A.Odd) = some false
  i_Shares_Shares : PySem.W.kitOne K (.ref A.Shares) (.ref A.Shares) = some true
  i_Shares_Ring : PySem.W.kitOne K (.ref A.Shares) (.ref A.Ring) = some false
  m_Shares_shows : Meth K A.Shares "shows" A.Shares_shows
  g_Ring : mg "Ring" = some (.ref A.Ring)
  c_Ring : Cls K A.Ring
  m_Ring : Mk K A.Ring A.Ring___init__
  a_Ring : NoAttr K A.Ring "ring"
  y_Ring : ∀ (H : Hp) (a dx : Addr) (fs : List (Str × V)), H a = some (.ins A.Ring dx fs) → TyX K H (.ref a) (.ref A.Ring)
  i_Ring_Even : PySem.W.kitOne K (.ref A.Ring) (.ref A.Even) = some false
  i_Ring_Odd : PySem.W.kitOne K (.ref A.Ring) (.ref A.Odd) = some false
  i_Ring_Shares : PySem.W.kitOne K (.ref A.Ring) (.ref A.Shares) = some false
  i_Ring_Ring : PySem.W.kitOne K (.ref A.Ring) (.ref A.Ring) = some true
  m_Ring_shows : Meth K A.Ring "shows" A.Ring_shows
/-- the def at f keeps its promise, from this level on -/
def Ok (P : Program) (w : World) (K : PySem.W.Frag) (mg : Str → Option Value) (base : Heap) (CX : CXT) (k : Nat) (f : Addr) (ps : List Str) (sp : Sp) : Prop :=
  ∃ fd : FuncData, FnOk P w K mg base CX k f fd ps sp ∧ Binds K fd ps [] ∧ PySem.W.keepIn K (.ref f) = true
end TW
set_option Elab.async false
set_option linter.all false
set_option maxRecDepth 100000
set_option maxHeartbeats 4000000
namespace TW
open PySem PySem.Spec PyProof.Rows L2 TM TB
open Evl (Ex Ex.refl Ex.trans Ex.new Ex.mut Ev EvT EvA ev_var ev_c ev_op rv_I0 rv_I rv_eq rv_ne et_test et_B et_and et_or et_not et_is ev_is sz_of sz_lt fresh_back)
section
variable {P : Program} {w : World} {K : PySem.W.Frag} {mg : Str → Option Value} {base : Heap} {A : Ad}
/-! ### numbers, ties, webs -/
def sp_is_number : Sp := fun vs H Q _ => ∃ d B, Ex B H ∧ DaAll B vs [d] ∧ RetV H (.bl (numD d)) Q
theorem len_is_number {vs : List V} {H : Hp} {Q : VK} {E : XK} (h : sp_is_number vs H Q E) : vs.length = 1 := by
  obtain ⟨d, B, _, k, _⟩ := h
  exact k.len
theorem ok_is_number (T : TX K mg A) : Ok P w K mg base CX0 1 A.is_number ["thing"] sp_is_number := by
  obtain ⟨fd, F⟩ := T.F_is_number
  refine ⟨fd, ?_, F.binds (ps := ["thing"]) fun _ _ _ _ _ _ us hl => match us, hl with | [_], _ => rfl, F.kp⟩
  refine F.ok sc_is_number (fun vs H Q E h => len_is_number h) (fun cdv Ar outer s H vs Q E hr h => ?_)
  have nd := sc_is_number.nd
  have hu := hu_of hr
  obtain ⟨d, B, eb, k, q⟩ := h
  match vs, k with
  | [v], .cons k0 .nil =>
  refine ⟨_, (pss_one (ps_ret (pe_and (pe_callB (isiK K) (by rfl) T.n_isinstance (by decide +kernel) (pa_cons (pv 0) (pa_cons (pe_bltn (v := .ty "int") (by rfl) T.n_int (by decide +kernel) rfl) pa_nil))) (pe_one (pe_not (pe_callB (isiK K) (by rfl) T.n_isinstance (by decide +kernel) (pa_cons (pv 0) (pa_cons (pe_bltn (v := .ty "bool") (by rfl) T.n_bool (by decide +kernel) rfl) pa_nil)))))))), ?_⟩
  have h0 := ed_var (σ := start ["thing"] [v]) (n := 0) eb rfl k0
  refine Evl.s_ret (ev_is (Evl.ev_andV (ev_isi h0 (kit_int d)) fun _ => Evl.ev_notV (ev_isi h0 (kit_bool d))) ?_) q
  cases d <;> rfl
/-! ties -/
def tieB (n : Int) : PyData → Bool
  | .tuple [.int a, .int b] => decide (0 ≤ a ∧ a < b ∧ b < n)
  | _ => false
theorem num_inv {d : PyData} (h : numD d = true) : ∃ a, d = .int a := by
  cases d with
  | int a => exact ⟨a, rfl⟩
  | _ => cases h
theorem tieB_iff {n : Int} {d : PyData} : tieB n d = true ↔ ∃ a b, d = .tuple [.int a, .int b] ∧ 0 ≤ a ∧ a < b ∧ b < n := by
  constructor
  · intro h
    unfold tieB at h
    split at h
    · exact ⟨_, _, rfl, of_decide_eq_true h⟩
    · cases h
  · rintro ⟨a, b, rfl, h⟩
    exact decide_eq_true h
theorem tieB_no {n : Int} {d : PyData} (h : ∀ a b, d ≠ .tuple [.int a, .int b]) : tieB n d = false := by
  cases e : tieB n d with
  | false => rfl
  | true =>
    obtain ⟨a, b, e2, _⟩ := tieB_iff.mp e
    exact absurd e2 (h a b)
def sp_is_tie : Sp := fun vs H Q _ => ∃ d n B, Ex B H ∧ DaAll B vs [d, .int n] ∧ RetV H (.bl (tieB n d)) Q
theorem len_is_tie {vs : List V} {H : Hp} {Q : VK} {E : XK} (h : sp_is_tie vs H Q E) : vs.length = 2 := by
  obtain ⟨d, n, B, _, k, _⟩ := h
  exact k.len
theorem ev_chain3 {σ : L2.St} {H : Hp} {t1 t2 t3 t4 : TE} {a b c e : Int} (h1 : Ev t1 σ H (.int a)) (h2 : Ev t2 σ H (.int b)) (h3 : Ev t3 σ H (.int c)) (h4 : Ev t4 σ H (.int e)) :
    Ev (tChain3 (rI0 fun i j => .bl (decide (i ≤ j))) (rI0 fun i j => .bl (decide (i < j))) (rI0 fun i j => .bl (decide (i < j))) t1 t2 t3 t4) σ H (.bl (decide (a ≤ b ∧ b < c ∧ c < e))) := fun H1 x1 Q q =>
  h1 H1 x1 _ fun H2 x2 => h2 H2 (x1.trans x2) _ fun H3 x3 => ⟨a, b, rfl, rfl, _, rfl, by
    have x13 := (x1.trans x2).trans x3
    by_cases e1 : a ≤ b
    · rw [if_pos (decide_eq_true e1)]
      refine h3 H3 x13 _ fun H4 x4 => ⟨b, c, rfl, rfl, _, rfl, ?_⟩
      by_cases e2 : b < c
      · rw [if_pos (decide_eq_true e2)]
        refine h4 H4 (x13.trans x4) _ fun H5 x5 => ⟨c, e, rfl, rfl, ?_⟩
        have : decide (a ≤ b ∧ b < c ∧ c < e) = decide (c < e) := by simp [e1, e2]
        show Q (.bl (decide (c < e))) H5
        rw [← this]
        exact q H5 (((x2.trans x3).trans x4).trans x5)
      · rw [if_neg (by simp [e2])]
        have : decide (a ≤ b ∧ b < c ∧ c < e) = false := by simp [e2]
        rw [← this]
        exact q H4 ((x2.trans x3).trans x4)
    · rw [if_neg (by simp [e1])]
      have : decide (a ≤ b ∧ b < c ∧ c < e) = false := by simp [e1]
      rw [← this]
      exact q H3 (x2.trans x3)⟩
theorem ok_is_tie (T : TX K mg A) : Ok P w K mg base CX0 2 A.is_tie ["thing", "places"] sp_is_tie := by
  obtain ⟨fd, F⟩ := T.F_is_tie
  obtain ⟨fd_is_number, G_is_number, B_is_number, K_is_number⟩ := ok_is_number (P := P) (w := w) (base := base) T
  refine ⟨fd, ?_, F.binds (ps := ["thing", "places"]) fun _ _ _ _ _ _ us hl => match us, hl with | [_, _], _ => rfl, F.kp⟩
  refine F.ok sc_is_tie (fun vs H Q E h => len_is_tie h) (fun cdv Ar outer s H vs Q E hr h => ?_)
  have nd := sc_is_tie.nd
  have hu := hu_of hr
  obtain ⟨d, n, B, eb, k, q⟩ := h
  match vs, k with
  | [v, _], .cons k0 (.cons (.int _) .nil) =>
  refine ⟨_, (pss_cons (ps_if (PW.pt (pw_or (pt_not (pt_val (pe_callB (isiK K) (by rfl) T.n_isinstance (by decide +kernel) (pa_cons (pv 0) (pa_cons (pe_bltn (v := .ty "tuple") (by rfl) T.n_tuple (by decide +kernel) rfl) pa_nil))))) (pw_or (pt_cmpR op_ne (pe_callB (lenK K) (by rfl) T.n_len PySem.boot_len (pa_cons (pv 0) pa_nil)) pe_int (by first | exact nomark _ | rfl)) (pw_or1 (pt_not (pt_val (pe_callB (allK K rfl) (by rfl) T.n_all (by decide +kernel) (pa_cons (pe_lc (own := [("one", 2)]) (g := gName 2) (tt := tYes)  rfl nd  (tupK K (pv 0)) (blkOk_by (by kernel_rfl)) (fun _ _ _ _ _ => (pg_name (i := 2) nd rfl (by first | exact .inl rfl | exact .inr rfl))) (fun _ _ _ _ _ => pts_nil) (fun _ _ _ _ _ => (pe_call G_is_number (hr.mono (by decide)) (by rfl) T.g_is_number K_is_number B_is_number .nil pass0 (pa_cons (pv 2) pa_nil)))) pa_nil)))))))) (pss_one (ps_ret pe_bl)) pss_nil) (pss_one (ps_ret (pe_chain3 op_le op_lt op_lt pe_int (pe_ix (ix_tupK K) (pv 0) pe_int (fun _ _ => rfl)) (pe_ix (ix_tupK K) (pv 0) pe_int (fun _ _ => rfl)) (pv 1))))), ?_⟩
  have h0 : ∀ H1, Ex H H1 → EvD (tVar 0) (start ["thing", "places", "one"] [v, .int n]) B H1 d := fun H1 e => ed_var (n := 0) (eb.trans e) rfl k0
  by_cases ht : tupD d = true
  · obtain ⟨ds, rfl⟩ : ∃ ds, d = .tuple ds := by
      cases d with
      | tuple ds => exact ⟨ds, rfl⟩
      | _ => cases ht
    have tA := et_not (et_B (ev_isi (K := K) (h0 H (Ex.refl H)) (kit_tuple (.tuple ds))))
    by_cases hl : ds.length = 2
    · match ds, hl with
      | [d1, d2], _ =>
      have tB' := et_test (ev_neI (ev_lenT (K := K) (h0 H (Ex.refl H))) (ev_c (v := .int 2)))
      refine q_when (b := !(numD d1 && numD d2)) (et_is (et_or (a := false) (b := !(numD d1 && numD d2)) (et_is tA rfl) fun _ => et_is (et_or (a := false) (b := !(numD d1 && numD d2)) (et_is tB' rfl) fun _ => et_not ?_) rfl) rfl) (fun hb H1 e1 => ?_) (fun hb H1 e1 => ?_)
      · have hall : [d1, d2].map (fun d => PyData.bool (numD d)) = [numD d1, numD d2].map PyData.bool := rfl
        have h := EvN.toD (en_lcA (dt := id) (l := [d1, d2]) (te := tCall sp_is_number [] E0 (tCons (tVar 2) tNil)) (vs := [2]) (j := 2) (fun d => .bool (numD d)) (ei_tup (K := K) (h0 H (Ex.refl H))) (by simp) fun a x B3 H3 _ e1 e2 e3 kx =>
          edb e3 (ev_call (eds_cons (ed_var (n := 2) e3 rfl kx) (eds_nil e3)) fun B4 H4 ws Q4 E4 e4 k4 q4 => ⟨a, B4, e4, k4, q4⟩))
        rw [hall] at h
        exact et_is (et_B (ev_all (K := K) h)) (by simp)
      · have hb : (numD d1 && numD d2) = false := by
          cases z : (numD d1 && numD d2) with
          | false => rfl
          | true => rw [z] at hb; cases hb
        refine Evl.s_ret (ev_c (v := .bl false)) fun H2 e2 => ?_
        have : tieB n (.tuple [d1, d2]) = false := tieB_no fun a b e => by
          have e1 : [d1, d2] = [.int a, .int b] := PyData.tuple.inj e
          cases e1
          cases hb
        rw [← this]; exact q H2 (e1.trans e2)
      · have hb : (numD d1 && numD d2) = true := by
          cases z : (numD d1 && numD d2) with
          | true => rfl
          | false => rw [z] at hb; cases hb
        rw [Bool.and_eq_true] at hb
        obtain ⟨a, rfl⟩ : ∃ a, d1 = .int a := num_inv hb.1
        obtain ⟨b, rfl⟩ : ∃ b, d2 = .int b := num_inv hb.2
        refine Evl.s_ret (ev_chain3 ev_c (ev_t0 (K := K) (t := (a, b)) (h0 H1 e1)) (ev_t1 (K := K) (t := (a, b)) (h0 H1 e1)) (ev_var (i := 1) rfl)) fun H2 e2 => ?_
        exact q H2 (e1.trans e2)
    · have tB' := et_test (ev_neI (ev_lenT (K := K) (h0 H (Ex.refl H))) (ev_c (v := .int 2)))
      refine q_when (b := true) (et_is (et_or (a := false) (b := true) (et_is tA rfl) fun _ => et_is (et_or (a := true) (b := true) (et_is tB' ?_) fun z => (nomatch z)) rfl) rfl) (fun hb H1 e1 => ?_) (fun hb => (nomatch hb))
      · have : ¬ ((ds.length : Int) = 2) := by omega
        simp [this]
      · refine Evl.s_ret (ev_c (v := .bl false)) fun H2 e2 => ?_
        have : tieB n (.tuple ds) = false := tieB_no fun a b e => hl (by rw [PyData.tuple.inj e]; rfl)
        rw [← this]; exact q H2 (e1.trans e2)
  · have ht : tupD d = false := by simpa using ht
    have tA := et_not (et_B (ev_isi (K := K) (h0 H (Ex.refl H)) (kit_tuple d)))
    refine q_when (b := true) (et_is (et_or (a := true) (b := true) (et_is tA (by rw [ht]; rfl)) fun z => (nomatch z)) rfl) (fun hb H1 e1 => ?_) (fun hb => (nomatch hb))
    refine Evl.s_ret (ev_c (v := .bl false)) fun H2 e2 => ?_
    have : tieB n d = false := tieB_no fun a b e => by rw [e] at ht; cases ht
    rw [← this]; exact q H2 (e1.trans e2)
/-! webs asked -/
theorem ev_chain2 {f f' : Int → Int → Bool} {σ : L2.St} {H : Hp} {t1 t2 t3 : TE} {a b c : Int} (h1 : Ev t1 σ H (.int a)) (h2 : Ev t2 σ H (.int b)) (h3 : Ev t3 σ H (.int c)) : Ev (tChain (rI0 fun i j => .bl (f i j)) (rI0 fun i j => .bl (f' i j)) t1 t2 t3) σ H (.bl (f a b && f' b c)) := fun H1 x1 Q q =>
  h1 H1 x1 _ fun H2 x2 => h2 H2 (x1.trans x2) _ fun H3 x3 => ⟨a, b, rfl, rfl, _, rfl, by
    cases e : f a b with
    | true =>
      rw [if_pos rfl]
      refine h3 H3 ((x1.trans x2).trans x3) _ fun H4 x4 => ⟨b, c, rfl, rfl, ?_⟩
      rw [e, Bool.true_and] at q
      exact q H4 ((x2.trans x3).trans x4)
    | false =>
      rw [if_neg Bool.false_ne_true]
      rw [e, Bool.false_and] at q
      exact q H3 (x2.trans x3)⟩
def RetE (H : Hp) (C : Addr) (E : XK) : Prop := ∀ H', Ex H H' → E (.ref C) none H'
def okP : PyData → Bool
  | .int n => decide (1 ≤ n) && decide (n ≤ 40)
  | _ => false
def okT (n : Int) : PyData → Bool
  | .list ds => decide (ds.length ≤ 120) && ds.all (tieB n)
  | _ => false
theorem okT_web {n : Int} {ts : List Tie} (hW : Web n ts) (hl : ts.length ≤ 120) : okT n (tiesD ts) = true := by
  show (decide ((ts.map tieD).length ≤ 120) && (ts.map tieD).all (tieB n)) = true
  rw [List.length_map, decide_eq_true hl, Bool.true_and, List.all_eq_true]
  intro d hd
  obtain ⟨t, ht, rfl⟩ := List.mem_map.mp hd
  exact tieB_iff.mpr ⟨t.1, t.2, rfl, hW t ht⟩
def sp_asked_web (A : Ad) : Sp := fun vs H Q E => ∃ d1 d2 B, Ex B H ∧ DaAll B vs [d1, d2] ∧ (okP d1 = false → RetE H A.BadPlaces E) ∧ (∀ n, d1 = .int n → okP d1 = true → okT n d2 = false → RetE H A.BadTies E) ∧ (∀ n, d1 = .int n → okP d1 = true → okT n d2 = true → RetV H .non Q)
theorem len_asked_web {A : Ad} {vs : List V} {H : Hp} {Q : VK} {E : XK} (h : sp_asked_web A vs H Q E) : vs.length = 2 := by
  obtain ⟨d, n, B, _, k, _⟩ := h
  exact k.len
theorem ok_asked_web (T : TX K mg A) : Ok P w K mg base (L2N.CX P w) 3 A.asked_web ["places", "ties"] (sp_asked_web A) := by
  obtain ⟨fd, F⟩ := T.F_asked_web
  obtain ⟨fd_is_number, G_is_number, B_is_number, K_is_number⟩ := ok_is_number (P := P) (w := w) (base := base) T
  obtain ⟨fd_is_tie, G_is_tie, B_is_tie, K_is_tie⟩ := ok_is_tie (P := P) (w := w) (base := base) T
  refine ⟨fd, ?_, F.binds (ps := ["places", "ties"]) fun _ _ _ _ _ _ us hl => match us, hl with | [_, _], _ => rfl, F.kp⟩
  refine fun_okN F sc_asked_web (fun vs H Q E h => len_asked_web h) (fun cdv Ar outer s H vs Q E hr h => ?_)
  have nd := sc_asked_web.nd
  have hu := hu_of hr
  obtain ⟨tk_MOST, g_MOST⟩ := T.g_MOST
  obtain ⟨tk_MOST_TIES, g_MOST_TIES⟩ := T.g_MOST_TIES
  obtain ⟨d1, d2, B, eb, k, q1, q2, q3⟩ := h
  match vs, k with
  | [v0, v1], .cons k0 (.cons k1 .nil) =>
  refine ⟨_, (pss_cons (ps_if (PW.pt (pw_or (pt_not (pt_val (pe_call G_is_number (hr.mono (by decide)) (by rfl) T.g_is_number K_is_number B_is_number .nil pass0 (pa_cons (pv 0) pa_nil)))) (pw_or1 (pt_not (pt_chain op_le op_le pe_int (pv 0) (pe_glob (v := .int 40) rfl g_MOST ⟨_, rfl⟩)))))) (pss_one (L2N.ps_raise rfl (L2N.takes_of rfl rfl rfl rfl) (L2N.pmk_own PySem.F.excBase_ValueError T.x_BadPlaces T.g_BadPlaces T.k_BadPlaces (raises_own T.b_BadPlaces T.t_BadPlaces) rfl))) pss_nil) (pss_one (ps_if (PW.pt (pw_or (pt_not (pt_val (pe_callB (isiK K) (by rfl) T.n_isinstance (by decide +kernel) (pa_cons (pv 1) (pa_cons (pe_bltn (v := .ty "list") (by rfl) T.n_list (by decide +kernel) rfl) pa_nil))))) (pw_or (pt_cmpR op_gt (pe_callB (lenK K) (by rfl) T.n_len PySem.boot_len (pa_cons (pv 1) pa_nil)) (pe_glob (v := .int 120) rfl g_MOST_TIES ⟨_, rfl⟩) (by first | exact nomark _ | rfl)) (pw_or1 (pt_not (pt_val (pe_callB (allK K rfl) (by rfl) T.n_all (by decide +kernel) (pa_cons (pe_lc (own := [("tie", 2)]) (g := gName 2) (tt := tYes)  rfl nd  (listK K (pv 1)) (blkOk_by (by kernel_rfl)) (fun _ _ _ _ _ => (pg_name (i := 2) nd rfl (by first | exact .inl rfl | exact .inr rfl))) (fun _ _ _ _ _ => pts_nil) (fun _ _ _ _ _ => (pe_call G_is_tie (hr.mono (by decide)) (by rfl) T.g_is_tie K_is_tie B_is_tie .nil pass0 (pa_cons (pv 2) (pa_cons (pv 0) pa_nil))))) pa_nil)))))))) (pss_one (L2N.ps_raise rfl (L2N.takes_of rfl rfl rfl rfl) (L2N.pmk_own PySem.F.excBase_ValueError T.x_BadTies T.g_BadTies T.k_BadTies (raises_own T.b_BadTies T.t_BadTies) rfl))) pss_nil))), ?_⟩
  have h0 : ∀ H1, Ex H H1 → EvD (tVar 0) (start ["places", "ties", "tie"] [v0, v1]) B H1 d1 := fun H1 e => ed_var (n := 0) (eb.trans e) rfl k0
  have h1 : ∀ H1, Ex H H1 → EvD (tVar 1) (start ["places", "ties", "tie"] [v0, v1]) B H1 d2 := fun H1 e => ed_var (n := 1) (eb.trans e) rfl k1
  have tN : EvT (tB (tCall sp_is_number [] E0 (tCons (tVar 0) tNil))) (start ["places", "ties", "tie"] [v0, v1]) H (numD d1) := et_B (ev_call (eds_cons (h0 H (Ex.refl H)) (eds_nil eb)) fun B4 H4 ws Q4 E4 e4 k4 q4 => ⟨d1, B4, e4, k4, q4⟩)
  refine q_when (b := !(okP d1)) (et_is (et_or (a := !(numD d1)) (b := !(okP d1)) (et_not tN) fun hz => ?_) ?_) (fun hb H1 e1 => ?_) (fun hb H1 e1 => ?_)
  · obtain ⟨n, rfl⟩ : ∃ n, d1 = .int n := num_inv (by cases e : numD d1 <;> simp [e] at hz ⊢)
    exact et_not (et_is (et_test (ev_chain2 (f := fun i j => decide (i ≤ j)) (f' := fun i j => decide (i ≤ j)) ev_c (ev_int (h0 H (Ex.refl H))) ev_c)) rfl)
  · cases d1 <;> first | rfl | simp [numD, okP]
  · exact q1 (by cases e : okP d1 <;> simp [e] at hb ⊢) H1 e1
  · have hb : okP d1 = true := by cases e : okP d1 <;> simp [e] at hb ⊢
    obtain ⟨n, rfl⟩ : ∃ n, d1 = .int n := by
      cases d1 with
      | int n => exact ⟨n, rfl⟩
      | _ => cases hb
    obtain rfl := k0.int_inv
    have tL := et_not (et_B (ev_isi (K := K) (h1 H1 e1) (kit_list d2)))
    refine s_when (b := !(okT n d2)) (et_is (et_or (a := !(lstD d2)) (b := !(okT n d2)) tL fun hz => ?_) ?_) (fun hc H2 e2 => ?_) (fun hc H2 e2 => ?_)
    · obtain ⟨ds, rfl⟩ : ∃ ds, d2 = .list ds := by
        cases d2 with
        | list ds => exact ⟨ds, rfl⟩
        | _ => cases hz
      refine et_is (et_or (a := decide ((120 : Int) < (ds.length : Int))) (b := !(ds.all (tieB n))) (et_test (ev_I0 (ev_lenD (K := K) (h1 H1 e1)) (ev_c (v := .int 120)))) fun hz => et_not ?_) ?_
      · have hl : ds.length ≤ 120 := by have := of_decide_eq_false hz; omega
        have h := EvN.toD (en_lcA (dt := id) (l := ds) (te := tCall sp_is_tie [] E0 (tCons (tVar 2) (tCons (tVar 0) tNil))) (vs := [2]) (j := 2) (fun d => .bool (tieB n d)) (ei_list (K := K) (by rw [List.map_id]; exact h1 H1 e1)) (by omega) fun a x B3 H3 _ e1 e2 e3 kx =>
          edb e3 (ev_call (eds_cons (ed_var (n := 2) e3 rfl kx) (eds_cons (edi e3 (ev_var (i := 0) rfl)) (eds_nil e3))) fun B4 H4 ws Q4 E4 e4 k4 q4 => ⟨a, n, B4, e4, k4, q4⟩))
        have e0 : ds.map (fun d => PyData.bool (tieB n d)) = (ds.map (tieB n)).map PyData.bool := by rw [List.map_map]; rfl
        rw [e0] at h
        exact et_is (et_B (ev_all (K := K) h)) (by rw [List.all_map]; rfl)
      · unfold okT
        by_cases hl : ds.length ≤ 120
        · have : ¬ (120 : Int) < (ds.length : Int) := by omega
          simp [hl, this]
        · have : (120 : Int) < (ds.length : Int) := by omega
          simp [hl, this]
    · cases d2 <;> first | rfl | simp [lstD, okT]
    · exact q2 n rfl hb (by cases e : okT n d2 <;> simp [e] at hc ⊢) H2 (e1.trans e2)
    · exact q3 n rfl hb (by cases e : okT n d2 <;> simp [e] at hc ⊢) H2 (e1.trans e2)

end
end TW
set_option Elab.async false
set_option linter.all false
set_option maxRecDepth 100000
set_option maxHeartbeats 4000000
namespace TW
open PySem PySem.Spec PyProof.Rows L2 TM TB
open Evl (Ex Ex.refl Ex.trans Ex.new Ex.mut Ev EvT EvA ev_var ev_c ev_op rv_I0 rv_I rv_eq rv_ne et_test et_B et_and et_or et_not et_is ev_is sz_of sz_lt fresh_back)
section
variable {P : Program} {w : World} {K : PySem.W.Frag} {mg : Str → Option Value} {base : Heap} {A : Ad}
/-! ### circuit -/
def sp_circuit : Sp := fun vs H Q _ => ∃ (ts : List Tie) (b : Int) (B : Hp), Ex B H ∧ DaAll B vs [tiesD ts, .int b] ∧ (ts.length ≤ 1000 ∧ (∀ t ∈ ts, t.1 ≠ t.2) ∧ ∀ v, deg ts v % 2 = 0) ∧ RetM B H (fun ds => Circ ts b (circF ts b) ∧ ds = (circF ts b).map natD) Q
theorem len_circuit {vs : List V} {H : Hp} {Q : VK} {E : XK} (h : sp_circuit vs H Q E) : vs.length = 2 := by
  obtain ⟨_, _, _, _, k, _⟩ := h
  exact k.len
def wayD (b : Int) (st : List (Int × Nat)) : List PyData := pairD (b, -1) :: st.reverse.map fun p => pairD (p.1, (p.2 : Int))
theorem wayD_push (b : Int) (st : List (Int × Nat)) (p : Int × Nat) : wayD b (p :: st) = wayD b st ++ [pairD (p.1, (p.2 : Int))] := by
  unfold wayD
  rw [List.reverse_cons, List.map_append]; rfl
theorem wayD_len (b : Int) (st : List (Int × Nat)) : (wayD b st).length = st.length + 1 := by
  unfold wayD; simp
def wtop (b : Int) : List (Int × Nat) → Int × Int
  | [] => (b, -1)
  | p :: _ => (p.1, (p.2 : Int))
theorem wayD_last (b : Int) (st : List (Int × Nat)) : (wayD b st).getLast? = some (pairD (wtop b st)) := by
  cases st with
  | nil => rfl
  | cons p r => rw [wayD_push, List.getLast?_concat]; rfl
theorem sh_way (b : Int) (st : List (Int × Nat)) : Sh 3 (.list (wayD b st)) := sh_list fun d hd => by
  unfold wayD at hd
  rcases List.mem_cons.mp hd with rfl | hd
  · exact sh_pair sh_int sh_int
  · obtain ⟨p, _, rfl⟩ := List.mem_map.mp hd
    exact sh_pair sh_int sh_int
/-- what left holds -/
def LI (ts : List Tie) (left : Int → List Nat) (U : List Nat) : Prop := (∀ v i, i ∈ left v → ∃ t, ts[i]? = some t ∧ has t v = true) ∧ ∀ v i t, ts[i]? = some t → has t v = true → i ∉ U → i ∈ left v
/-- used -/
def UI (kvsU : List (Key × V)) (U : List Nat) : Prop := (∀ i : Nat, (valV kvsU (Sum.inl (i : Int) : Key)).isSome = decide (i ∈ U)) ∧ kvsU.length ≤ U.length
theorem UI.put {kvsU : List (Key × V)} {U U' : List Nat} (h : UI kvsU U) {i : Nat} (hU : ∀ j, j ∈ U' ↔ j = i ∨ j ∈ U) (hl : U'.length = U.length + 1) : UI (putK kvsU (Sum.inl (i : Int) : Key) (.bl true)) U' := by
  refine ⟨fun j => ?_, by have := length_putK kvsU (Sum.inl (i : Int) : Key) (.bl true); have := h.2; omega⟩
  rw [valV_put]
  by_cases e : j = i
  · subst e
    have : j ∈ U' := (hU j).mpr (.inl rfl)
    simp [this]
  · have ne : ¬ (Sum.inl (j : Int) : Key) = Sum.inl (i : Int) := fun z => e (by have := Sum.inl.inj z; omega)
    rw [if_neg ne, h.1 j]
    have : (j ∈ U') ↔ j ∈ U := ⟨fun z => ((hU j).mp z).elim (fun q => absurd q e) id, fun z => (hU j).mpr (.inr z)⟩
    simp [this]
theorem UI.same {kvsU : List (Key × V)} {U U' : List Nat} (h : UI kvsU U) (hU : ∀ j, j ∈ U' ↔ j ∈ U) (hl : U'.length = U.length) : UI kvsU U' := ⟨fun i => by rw [h.1 i]; simp [hU], by rw [hl]; exact h.2⟩
theorem LI.same {ts : List Tie} {left : Int → List Nat} {U U' : List Nat} (h : LI ts left U) (hU : ∀ j, j ∈ U → j ∈ U') : LI ts left U' := ⟨h.1, fun v i t e hv hn => h.2 v i t e hv fun z => hn (hU i z)⟩
theorem LI.cut {ts : List Tie} {left : Int → List Nat} {U : List Nat} (h : LI ts left U) {u : Int} {xs : List Nat} {x : Nat} (e : left u = xs ++ [x]) (hx : x ∈ U) : LI ts (fun w => if w = u then xs else left w) U := by
  refine ⟨fun v i hi => ?_, fun v i t ht hv hn => ?_⟩
  · by_cases vu : v = u
    · subst vu
      have hi' : i ∈ xs := by simpa using hi
      exact h.1 v i (by rw [e]; exact List.mem_append_left _ hi')
    · exact h.1 v i (by simpa [vu] using hi)
  · have hm := h.2 v i t ht hv hn
    by_cases vu : v = u
    · subst vu
      rw [e] at hm
      rcases List.mem_append.mp hm with z | z
      · simpa using z
      · rw [List.mem_singleton.mp z] at hn; exact absurd hx hn
    · simpa [vu] using hm
/-- the list some, of one place -/
structure Some3 (B0 H0 B H : Hp) (R : List (Addr × HO)) (ts : List Tie) (U : List Nat) (dl a : Addr) (left : Int → List Nat) (here : Int) (xs : List Nat) : Prop where
  ex : ∃ la, Fr B0 H0 B H (leftL dl la (put left here xs) ++ R) ∧ (la.map (·.1)).Nodup ∧ (∀ w, w ∉ la.map (·.1) → put left here xs w = []) ∧ LI ts (put left here xs) U ∧ ((here, a) ∈ la ∨ (xs = [] ∧ H a = some (.lst [])))
section
variable {B0 H0 B H H' : Hp} {R : List (Addr × HO)} {ts : List Tie} {U U' : List Nat} {dl a : Addr} {left : Int → List Nat} {here : Int} {xs : List Nat} {x : Nat}
theorem Some3.at (h : Some3 B0 H0 B H R ts U dl a left here xs) : H a = some (.lst (xs.map natV)) := by
  obtain ⟨la, f, nd, out, li, z | ⟨z, y⟩⟩ := h.ex
  · have := f.leftGet z
    rw [put_self] at this; exact this
  · rw [z]; exact y
theorem Some3.ev (h : Some3 B0 H0 B H R ts U dl a left here xs) (e : Ex H H') : Some3 B0 H0 B H' R ts U dl a left here xs := by
  obtain ⟨la, f, nd, out, li, z⟩ := h.ex
  exact ⟨la, f.ev e, nd, out, li, z.imp id fun y => ⟨y.1, e _ _ y.2⟩⟩
theorem Some3.pop (h : Some3 B0 H0 B H R ts U dl a left here (xs ++ [x])) (hs : ∀ j, j ∈ U → j ∈ U') (hx : x ∈ U') : Some3 B0 H0 B (upd H a (.lst (xs.map natV))) R ts U' dl a left here xs := by
  obtain ⟨la, f, nd, out, li, z | ⟨z, _⟩⟩ := h.ex
  · have f' := f.leftSet (xs := xs) nd z
    have e : (fun u => if u = here then xs else put left here (xs ++ [x]) u) = put left here xs := put_put left here _ _
    have li' := (li.same hs).cut (u := here) (xs := xs) (x := x) (put_self _ _ _) hx
    rw [e] at f' li'
    refine ⟨la, f', nd, fun w hw => ?_, li', .inl z⟩
    have ne : w ≠ here := fun q => hw (by rw [q]; exact List.mem_map.mpr ⟨_, z, rfl⟩)
    have := out w hw
    unfold put at this ⊢
    rw [if_neg ne] at this ⊢; exact this
  · simp at z
theorem Some3.tie (h : Some3 B0 H0 B H R ts U dl a left here xs) {i : Nat} (hi : i ∈ xs) : ∃ t, ts[i]? = some t ∧ has t here = true := by
  obtain ⟨la, f, nd, out, li, z⟩ := h.ex
  exact li.1 here i (by rw [put_self]; exact hi)
theorem Some3.full (h : Some3 B0 H0 B H R ts U dl a left here []) {i : Nat} {t : Tie} (ht : ts[i]? = some t) (hv : has t here = true) : i ∈ U := by
  obtain ⟨la, f, nd, out, li, z⟩ := h.ex
  by_cases hn : i ∈ U
  · exact hn
  · have := li.2 here i t ht hv hn
    rw [put_self] at this; cases this
end
theorem _root_.TB.Fr.setR {B0 H0 B H : Hp} {L R : List (Addr × HO)} {p : Addr} {o u : HO} {i : Nat} (f : Fr B0 H0 B H (L ++ R)) (e : R[i]? = some (p, o)) : Fr B0 H0 B (upd H p u) (L ++ R.set i (p, u)) := by
  have e2 : (L ++ R)[L.length + i]? = some (p, o) := by rw [List.getElem?_append_right (by omega), Nat.add_sub_cancel_left]; exact e
  have g := f.set (u := u) e2
  rw [List.set_append_right _ _ (by omega), Nat.add_sub_cancel_left] at g
  exact g
theorem _root_.TB.Fr.getR {B0 H0 B H : Hp} {L R : List (Addr × HO)} {p : Addr} {o : HO} {i : Nat} (f : Fr B0 H0 B H (L ++ R)) (e : R[i]? = some (p, o)) : H p = some o := (f.own _ (List.mem_append_right _ (List.mem_of_getElem? e))).2.2
theorem ev_din {σ : L2.St} {H : Hp} {ty td : TE} {i : Int} {a : Addr} {kvs : List (Key × V)} (h : Ev ty σ H (.int i)) (hd : Ev td σ H (.ref a)) (ha : H a = some (.dK kvs)) : Ev (tDIn ty td) σ H (.bl (valV kvs (Sum.inl i : Key)).isSome) := fun H1 e Q q =>
  h H1 e _ fun H2 e2 => hd H2 (e.trans e2) _ fun H3 e3 => ⟨a, _, rfl, DGet.k (k := Sum.inl i) (((e.trans e2).trans e3) _ _ ha), q H3 (e2.trans e3)⟩
/-- some = left.get(here, []) -/
theorem s_getSome {σ : L2.St} {B0 H0 B H : Hp} {R : List (Addr × HO)} {ts : List Tie} {U : List Nat} {dl : Addr} {la : List (Int × Addr)} {left : Int → List Nat} {here : Int} {i2 i9 n : Nat} {Dn : Ends} (h2 : σ[i2]? = some (some (.ref dl))) (h9 : σ[i9]? = some (some (.int here)))
    (f : Fr B0 H0 B H (leftL dl la left ++ R)) (nd : (la.map (·.1)).Nodup) (out : ∀ w, w ∉ la.map (·.1) → left w = []) (li : LI ts left U) (k : ∀ a H', Some3 B0 H0 B H' R ts U dl a left here (left here) → Ex H H' → Dn.nx (σ.set n (some (.ref a))) H') :
    tAsg (tDGet2 (tVar i2) (tVar i9) (tLst tNil)) (gName n) Dn σ H := by
  have pid : put left here (left here) = left := put_id rfl
  refine ⟨.ref dl, h2, dl, rfl, .inl ⟨_, .inl f.leftDict⟩, .int here, h9, Nat.zero_le _, fun p hp => ?_⟩
  have f1 := f.ev (Ex.new (o := .lst []) hp)
  refine ⟨_, DGet.k (k := Sum.inl here) f1.leftDict, ?_⟩
  rcases kv_dec (la := la) here with z | z
  · obtain ⟨⟨u, a⟩, ha, e⟩ := List.mem_map.mp z
    have e : u = here := e
    subst e
    rw [valL_in nd ha]
    exact k a _ ⟨la, by rw [pid]; exact f1, nd, by rw [pid]; exact out, by rw [pid]; exact li, .inl ha⟩ (Ex.new hp)
  · rw [valL_out z]
    exact k p _ ⟨la, by rw [pid]; exact f1, nd, by rw [pid]; exact out, by rw [pid]; exact li, .inr ⟨out _ z, upd_same⟩⟩ (Ex.new hp)
theorem last_of {H : Hp} {xs : List V} {ds : List PyData} {n : Nat} (k : DaAll H xs ds) (h : ds.length = n + 1) : ∃ v, xs[xs.length - 1]? = some v :=
  ⟨_, List.getElem?_eq_getElem (by have := k.len; omega)⟩
abbrev Rl (du lw lf : Addr) (kvsU : List (Key × V)) (xsW : List V) (F : List Nat) : List (Addr × HO) := [(du, .dK kvsU), (lw, .lst xsW), (lf, .lst (F.map natV))]
theorem ok_circuit (T : TX K mg A) : Ok P w K mg base CX0 1 A.circuit ["ties", "begin"] sp_circuit := by
  obtain ⟨fd, F⟩ := T.F_circuit
  refine ⟨fd, ?_, F.binds (ps := ["ties", "begin"]) fun _ _ _ _ _ _ us hl => match us, hl with | [_, _], _ => rfl, F.kp⟩
  refine F.ok sc_circuit (fun vs H Q E h => len_circuit h) (fun cdv Ar outer s H vs Q E hr h => ?_)
  have nd := sc_circuit.nd
  have hu := hu_of hr
  obtain ⟨ts, b, B, eb, k, ⟨hn, hne, hev⟩, q⟩ := h
  match vs, k with
  | [v0, v1], .cons k0 (.cons k1 .nil) =>
  obtain rfl := k1.int_inv
  refine ⟨_, (pss_cons (ps_set (i := 2) nd rfl (by first | exact .inl rfl | exact .inr rfl) pe_dnewK) (pss_cons (ps_for PassesOwn.never rfl (enumK K (by rfl) T.n_enumerate (pa_cons (pv 0) pa_nil)) (gtupK K rfl (pgs_cons (pg_name (i := 3) nd rfl (by first | exact .inl rfl | exact .inr rfl)) (pgs_cons (pg_name (i := 4) nd rfl (by first | exact .inl rfl | exact .inr rfl)) pgs_nil))) (pss_one (ps_for PassesOwn.never rfl (tupK K (pv 4)) (pg_name (i := 5) nd rfl (by first | exact .inl rfl | exact .inr rfl)) (pss_one (ps_expr (bmK K PySem.F.plainAttrs_list PySem.F.slot_list_append PySem.F.type_list_append mt_append (pe_dsetd (pv 2) (pv 5) (pe_lst pa_nil) ⟨by rfl, by rfl, by rfl, by rfl⟩) (pa_cons (pv 3) pa_nil))))))) (pss_cons (ps_set (i := 6) nd rfl (by first | exact .inl rfl | exact .inr rfl) pe_dnewK) (pss_cons (ps_set (i := 7) nd rfl (by first | exact .inl rfl | exact .inr rfl) (pe_lst (pa_cons (pe_tup (pa_cons (pv 1) (pa_cons (pe_un un_neg pe_int) pa_nil))) pa_nil))) (pss_cons (ps_set (i := 8) nd rfl (by first | exact .inl rfl | exact .inr rfl) (pe_lst pa_nil)) (pss_cons (ps_while PassesOwn.never (pt_cmpR (neDK K hr.units) (pv 7) (pe_lst pa_nil) (by first | exact nomark _ | rfl)) (pss_cons (ps_asg (pe_ix (ix_listK K) (pv 7) (pe_un un_neg pe_int) (fun _ _ => rfl)) (gtupK K rfl (pgs_cons (pg_name (i := 9) nd rfl (by first | exact .inl rfl | exact .inr rfl)) (pgs_cons (pg_name (i := 10) nd rfl (by first | exact .inl rfl | exact .inr rfl)) pgs_nil)))) (pss_cons (ps_set (i := 11) nd rfl (by first | exact .inl rfl | exact .inr rfl) (pe_dget2 hu (pv 2) (pv 9) (pe_lst pa_nil) ⟨by rfl, by rfl, by rfl, by rfl⟩)) (pss_cons (ps_while PassesOwn.never (PW.pt (pw_and (pt_cmpR (neDK K hr.units) (pv 11) (pe_lst pa_nil) (by first | exact nomark _ | rfl)) (pw_and1 (pt_cmp (pc_din hu (pe_ix (ix_listK K) (pv 11) (pe_un un_neg pe_int) (fun _ _ => rfl)) (pv 6)))))) (pss_one (ps_expr (bm0K K PySem.F.plainAttrs_list PySem.F.slot_list_pop PySem.F.type_list_pop mt_pop (pv 11))))) (pss_one (ps_if (pt_cmpR (eqDK K hr.units) (pv 11) (pe_lst pa_nil) (by first | exact nomark _ | rfl)) (pss_cons (ps_expr (bm0K K PySem.F.plainAttrs_list PySem.F.slot_list_pop PySem.F.type_list_pop mt_pop (pv 7))) (pss_one (ps_if (pt_cmpR op_ge (pv 10) pe_int (by first | exact nomark _ | rfl)) (pss_one (ps_expr (bmK K PySem.F.plainAttrs_list PySem.F.slot_list_append PySem.F.type_list_append mt_append (pv 8) (pa_cons (pv 10) pa_nil)))) pss_nil))) (pss_cons (ps_set (i := 3) nd rfl (by first | exact .inl rfl | exact .inr rfl) (bm0K K PySem.F.plainAttrs_list PySem.F.slot_list_pop PySem.F.type_list_pop mt_pop (pv 11))) (pss_cons (ps_dput hu (pv 6) (pv 3) pe_bl rfl) (pss_one (ps_expr (bmK K PySem.F.plainAttrs_list PySem.F.slot_list_append PySem.F.type_list_append mt_append (pv 7) (pa_cons (pe_tup (pa_cons (pe_op op_sub (pe_op op_add (pe_ix (ix_tupK K) (pe_ix (ix_listK K) (pv 0) (pv 3) (fun _ _ => rfl)) pe_int (fun _ _ => rfl)) (pe_ix (ix_tupK K) (pe_ix (ix_listK K) (pv 0) (pv 3) (fun _ _ => rfl)) pe_int (fun _ _ => rfl))) (pv 9)) (pa_cons (pv 3) pa_nil))) pa_nil)))))))))))) (pss_one (ps_ret (pv 8))))))))), ?_⟩
  -- left = {}
  refine sq fun dl hdl => ?_
  have f0 : Fr B H B (upd H dl (.dK [])) (leftL dl [] (fun _ => [])) := (Fr.start eb).made hdl
  -- for at, tie in enumerate(ties): for place in tie: ..
  refine sq (s_for2 (d1 := fun p : Tie × Nat => .int (p.2 : Int)) (d2 := fun p : Tie × Nat => tieD p.1) (ei_enumD (ed_var (n := 0) f0.bh rfl k0)) (fun l B2 i σ' H' => ∃ (la : List (Int × Addr)) (y3 y4 y5 : Option V), σ' = [some v0, some (.int b), some (.ref dl), y3, y4, y5, none, none, none, none, none, none] ∧
    Fr B H B2 H' (leftL dl la (adjTo ts i) ++ []) ∧ (la.map (·.1)).Nodup ∧ (∀ w, w ∉ la.map (·.1) → adjTo ts i w = []) ∧ la.length ≤ 2 * i) ?_ ?_ ?_ ?_)
  · rintro l B2 H2 - g
    exact ⟨[], none, none, none, rfl, by rw [List.append_nil]; exact f0.gr g, List.nodup_nil, fun _ _ => rfl, Nat.zero_le _⟩
  · rintro l B2 i σ' H' ⟨la, y3, y4, y5, -, f, -⟩
    exact f.bh
  · rintro l B2 i ⟨t, i'⟩ x y B3 σ' H' H'' rfl hi ⟨la, y3, y4, y5, rfl, f, nd1, out, hla⟩ g kx ky
    obtain ⟨hti, hi'⟩ := zipIdx_at hi
    have hi'' : i' = i := hi'
    subst hi''
    have hti : ts[i']? = some t := hti
    have hil : i' < ts.length := (List.getElem?_eq_some_iff.mp hti).1
    obtain rfl := kx.int_inv
    have f1 := f.gr g
    have hne' := hne t (List.mem_of_getElem? hti)
    refine s_for (dt := PyData.int) (P := (· = [t.1, t.2])) (ei_tup (ed_var (n := 4) f1.bh rfl ky)) (fun l B4 j σ' H' => Ex B2 B4 ∧ ∃ (la : List (Int × Addr)) (left : Int → List Nat) (y5 : Option V), σ' = [some v0, some (.int b), some (.ref dl), some (.int (i' : Int)), some y, y5, none, none, none, none, none, none] ∧
      Fr B H B4 H' (leftL dl la left ++ []) ∧ (la.map (·.1)).Nodup ∧ (∀ w, w ∉ la.map (·.1) → left w = []) ∧ la.length ≤ 2 * i' + j ∧ ∀ v, left v = adjTo ts i' v ++ (if (1 ≤ j ∧ v = t.1) ∨ (2 ≤ j ∧ v = t.2) then [i'] else [])) ?_ ?_ ?_ ?_
    · rintro l' B4 H4 - g4
      exact ⟨g.bb.trans g4.bb, la, _, y5, rfl, f1.gr g4, nd1, out, hla, fun v => by simp⟩
    · rintro l' B4 j σ' H' ⟨-, la, left, y5, -, f, -⟩
      exact f.bh
    · rintro l' B4 j u z B5 σ' H4 H5 rfl hj ⟨e24, la2, left2, y52, rfl, f2, nd2, out2, hla2, hmem2⟩ g5 kz
      obtain rfl := kz.int_inv
      have f3 := f2.gr g5
      have hj2 : j < 2 := (List.getElem?_eq_some_iff.mp hj).1
      have hx := adjTo_len ts i' u
      have hx2 := hmem2 u
      refine s_setdApp (K := K) (i2 := 2) (i5 := 5) (i3 := 3) (n := i') rfl rfl rfl f3 nd2 out2 (by omega) (by
        rw [hx2, List.length_append]
        have : (if (1 ≤ j ∧ u = t.1) ∨ (2 ≤ j ∧ u = t.2) then [i'] else []).length ≤ 1 := by split <;> simp
        omega) fun la' H6 f4 nd4 out4 hl4 => ?_
      refine ⟨e24, la', _, some (.int u), rfl, f4.back (f2.eb) g5.bb, nd4, out4, by omega, fun v => ?_⟩
      show (if v = u then left2 u ++ [i'] else left2 v) = _
      have hu2 : (j = 0 ∧ u = t.1) ∨ (j = 1 ∧ u = t.2) := by
        match j, hj2, hj with
        | 0, _, hj => exact .inl ⟨rfl, (Option.some.inj hj).symm⟩
        | 1, _, hj => exact .inr ⟨rfl, (Option.some.inj hj).symm⟩
      by_cases vu : v = u
      · subst vu
        rw [if_pos rfl, hmem2, if_neg (by omega), if_pos (by omega), List.append_nil]
      · rw [if_neg vu, hmem2]
        congr 1
        have : ((1 ≤ j ∧ v = t.1) ∨ (2 ≤ j ∧ v = t.2)) ↔ ((1 ≤ j + 1 ∧ v = t.1) ∨ (2 ≤ j + 1 ∧ v = t.2)) := by omega
        simp only [this]
    · rintro l' B4 σ' H' rfl ⟨e24, la2, left2, y52, rfl, f2, nd2, out2, hla2, hmem2⟩
      have el : left2 = adjTo ts (i' + 1) := by
        funext v
        rw [hmem2, adjTo_succ hti]
        congr 1
        have : ((1 ≤ [t.1, t.2].length ∧ v = t.1) ∨ (2 ≤ [t.1, t.2].length ∧ v = t.2)) ↔ has t v = true := by rw [has_iff]; simp
        simp only [this]
      rw [el] at f2 out2
      exact ⟨la2, _, _, _, rfl, f2.back f.eb e24, nd2, out2, by simp at hla2; omega⟩
  · rintro l B2 σ2 H2 rfl ⟨la, y3, y4, y5, rfl, f, nd1, out, hla⟩
    rw [List.length_zipIdx] at f out
    obtain ⟨left, hleft⟩ : ∃ left, left = adjTo ts ts.length := ⟨_, rfl⟩
    rw [← hleft] at f out
    -- used = {}; way = [(begin, -1)]; found = []
    refine sq fun du hdu => ?_
    have f1 := f.made (o := .dK []) hdu
    refine sq (s_asgN (en_lst (eds_cons (ed_tup (eds_cons (edi f1.bh (ev_var (i := 1) rfl)) (eds_cons (edi f1.bh (ev_neg ev_c)) (eds_nil f1.bh)))) (eds_nil f1.bh))) fun lw xs B3 H3 g3 n3 nb3 hw3 kw3 => ?_)
    have f2 := f1.take g3 n3 nb3 hw3
    refine sq (s_asgN (en_nil f2.bh) fun lf xs4 B4 H4 g4 n4 nb4 hf4 kf4 => ?_)
    cases kf4
    have f3 := f2.take g4 n4 nb4 hf4
    have f5 : Fr B H B4 H4 (leftL dl la left ++ Rl du lw lf [] xs []) := by
      refine f3.perm ?_
      rw [List.append_nil]
      show (leftL dl la left ++ [(du, HO.dK []), (lw, HO.lst xs), (lf, HO.lst [])]).Perm ((lf, HO.lst []) :: (lw, HO.lst xs) :: (du, HO.dK []) :: leftL dl la left)
      refine List.perm_append_comm.trans ?_
      show ((du, HO.dK []) :: (lw, HO.lst xs) :: (lf, HO.lst []) :: leftL dl la left).Perm _
      exact ((List.Perm.cons _ (List.Perm.swap _ _ _)).trans (List.Perm.swap _ _ _)).trans (List.Perm.cons _ (List.Perm.swap _ _ _))
    have li0 : LI ts left ([] ++ bys []) := by
      rw [hleft]
      exact ⟨fun v i hi => (mem_adjTo.mp hi).2, fun v i t ht hv _ => mem_adjTo.mpr ⟨(List.getElem?_eq_some_iff.mp ht).1, t, ht, hv⟩⟩
    -- while way != []: ..
    refine sq (s_wh (fun m σ' H' => ∃ (B1 : Hp) (la : List (Int × Addr)) (left : Int → List Nat) (kvsU : List (Key × V)) (xsW : List V) (F : List Nat) (y3 y4 y5 y9 y10 y11 : Option V), σ' = [some v0, some (.int b), some (.ref dl), y3, y4, y5, some (.ref du), some (.ref lw), some (.ref lf), y9, y10, y11] ∧
      Fr B H B1 H' (leftL dl la left ++ Rl du lw lf kvsU xsW F) ∧ (la.map (·.1)).Nodup ∧ (∀ w, w ∉ la.map (·.1) → left w = []) ∧
      ((∃ st, DaAll B1 xsW (wayD b st) ∧ CInv ts b st F ∧ LI ts left (F ++ bys st) ∧ UI kvsU (F ++ bys st) ∧ m = 2 * (ts.length - (F ++ bys st).length) + st.length + 1 ∧ ∀ R, Run ts b left st F R → Run ts b (adjTo ts ts.length) [] [] R) ∨ (xsW = [] ∧ Circ ts b F ∧ m = 0 ∧ Run ts b (adjTo ts ts.length) [] [] F))) (2 * (ts.length - 0) + 0 + 1)
      ⟨B4, la, left, [], xs, [], y3, y4, y5, none, none, none, rfl, f5, nd1, out, .inl ⟨[], kw3.ex g4.bb, CInv.start ts b, li0, ⟨fun i => rfl, Nat.le_refl _⟩, rfl, fun R h => by rw [← hleft]; exact h⟩⟩ ?_)
    rintro m σ3 H5 ⟨B1, la, left, kvsU, xsW, F, y3, y4, y5, y9, y10, y11, rfl, f, nd1, out, ⟨st, kw, CI, li, ui, rfl, hrun⟩ | ⟨rfl, C, rfl, hrun⟩⟩
    · -- some tie is on the way
      have hW := f.getR (i := 1) rfl
      have hlU := nodup_len CI.nd CI.lt
      refine ⟨true, ?_, fun _ H6 e6 => ?_, fun z => (nomatch z)⟩
      · have h1 := ev_neNil (K := K) (ed_var (σ := [some v0, some (.int b), some (.ref dl), y3, y4, y5, some (.ref du), some (.ref lw), some (.ref lf), y9, y10, y11]) (n := 7) (Ex.refl H5) rfl (.lst hW (kw.ex f.bh))) (Ex.refl H5) (sh_way b st)
        exact et_is (et_test h1) rfl
      have f := f.ev e6
      have hW := f.getR (i := 1) rfl
      -- here, by = way[-1]
      obtain ⟨by', ebt⟩ : ∃ by' : Int, wtop b st = (TM.top b st, by') := by
        cases st with
        | nil => exact ⟨-1, rfl⟩
        | cons p r => exact ⟨(p.2 : Int), rfl⟩
      have hlast := wayD_last b st
      rw [ebt] at hlast
      refine sq (s_asg2 (d1 := .int (TM.top b st)) (d2 := .int by') (B := H6) (ed_ixL (ed_var (n := 7) (Ex.refl H6) rfl (.lst hW (kw.ex f.bh))) (ev_neg ev_c) (atD_last hlast)) fun x9 x10 B7 H7 g7 k9 k10 => ?_)
      obtain rfl := k9.int_inv
      obtain rfl := k10.int_inv
      have f := f.ev g7.hh
      -- some = left.get(here, [])
      refine sq (s_getSome (i2 := 2) (i9 := 9) rfl rfl f nd1 out li fun a H8 S e8 => ?_)
      -- while some != [] and some[-1] in used: some.pop()
      refine sq (s_wh (fun m σ' H' => ∃ xs, σ' = [some v0, some (.int b), some (.ref dl), y3, y4, y5, some (.ref du), some (.ref lw), some (.ref lf), some (.int (TM.top b st)), some (.int by'), some (.ref a)] ∧
        Some3 B H B1 H' (Rl du lw lf kvsU xsW F) ts (F ++ bys st) dl a left (TM.top b st) xs ∧ m = xs.length ∧ trim (F ++ bys st) xs = trim (F ++ bys st) (left (TM.top b st))) _ ⟨_, rfl, S, rfl, rfl⟩ ?_)
      rintro m σ' H9 ⟨xs, rfl, S, rfl, htr⟩
      have hA := S.at
      have tN := ev_neNil (K := K) (ed_var (σ := [some v0, some (.int b), some (.ref dl), y3, y4, y5, some (.ref du), some (.ref lw), some (.ref lf), some (.int (TM.top b st)), some (.int by'), some (.ref a)]) (n := 11) (Ex.refl H9) rfl (.lst hA .nats)) (Ex.refl H9) (sh_nats xs)
      rcases List.eq_nil_or_concat xs with e | ⟨ys, x, e⟩
      · subst e
        refine ⟨false, et_and (a := false) (b := false) (et_test (ev_is tN rfl)) fun z => (nomatch z), fun z => (nomatch z), fun _ HA eA => ?_⟩
        have S := S.ev eA
        -- if some == []: way.pop()
        have tE := ev_eqNil (K := K) (ed_var (σ := [some v0, some (.int b), some (.ref dl), y3, y4, y5, some (.ref du), some (.ref lw), some (.ref lf), some (.int (TM.top b st)), some (.int by'), some (.ref a)]) (n := 11) (Ex.refl HA) rfl (.lst S.at .nats)) (Ex.refl HA) (sh_nats [])
        refine Evl.s_if (b := true) (et_test (ev_is tE rfl)) (fun _ HB eB => ?_) fun z => (nomatch z)
        have S := S.ev eB
        have full := fun i t => S.full (i := i) (t := t)
        obtain ⟨la', f', nd', out', li', -⟩ := S.ex
        have htr0 : trim (F ++ bys st) (left (TM.top b st)) = [] := by rw [← htr]; rfl
        obtain ⟨v, hv⟩ := last_of kw (wayD_len b st)
        refine sq (s_popDrop (f'.getR (i := 1) rfl) (ev_var (i := 7) rfl) hv fun HC eC => ?_)
        have fC := (f'.ev eC).setR (i := 1) (o := .lst xsW) (u := .lst xsW.dropLast) rfl
        have fC : Fr B H B1 (upd HC lw (.lst xsW.dropLast)) (leftL dl la' (put left (TM.top b st) []) ++ Rl du lw lf kvsU xsW.dropLast F) := fC
        cases st with
        | nil =>
          have eby : by' = -1 := (congrArg Prod.snd ebt).symm
          subst eby
          refine Evl.s_if (b := false) (et_test (ev_is (ev_I0 (ev_var (i := 10) rfl) ev_c) rfl)) (fun z => (nomatch z)) fun _ HD eD => ?_
          refine ⟨0, by omega, B1, la', _, kvsU, _, F, _, _, _, _, _, _, rfl, fC.ev eD, nd', out', .inr ⟨?_, CI.done hne (hev b) (fun j t h1 h2 => full j t h1 h2), rfl, hrun _ (.done htr0)⟩⟩
          match xsW, kw with
          | [_], .cons _ .nil => rfl
        | cons p r =>
          obtain ⟨p, i⟩ := p
          have eby : by' = (i : Int) := (congrArg Prod.snd ebt).symm
          subst eby
          refine Evl.s_if (b := true) (et_test (ev_is (ev_I0 (ev_var (i := 10) rfl) ev_c) (by simp))) (fun _ HD eD => ?_) fun z => (nomatch z)
          have fD := fC.ev eD
          refine Evl.s_app (fD.getR (i := 2) rfl) (ev_var (i := 8) rfl) (ev_var (i := 10) rfl) (by rw [List.length_map]; have := hlU; rw [List.length_append] at this; omega) fun HE eE => ?_
          have fE := (fD.ev eE).setR (i := 2) (o := .lst (F.map natV)) (u := .lst (F.map natV ++ [.int (i : Int)])) rfl
          have ef : F.map natV ++ [V.int (i : Int)] = (F ++ [i]).map natV := by rw [List.map_append]; rfl
          rw [ef] at fE ⊢
          have mm : ∀ j, j ∈ F ++ [i] ++ bys r ↔ j ∈ F ++ bys ((p, i) :: r) := fun j => by rw [List.append_assoc]; exact Iff.rfl
          have ml : (F ++ [i] ++ bys r).length = (F ++ bys ((p, i) :: r)).length := by rw [List.append_assoc]; rfl
          refine ⟨_, ?_, B1, la', _, kvsU, _, F ++ [i], _, _, _, _, _, _, rfl, fE, nd', out', .inl ⟨r, ?_, CI.pop hne (hev _) (fun j t h1 h2 => full j t h1 h2), li'.same fun j hj => (mm j).mpr hj, ui.same mm ml, rfl, fun R hR => hrun R (.pop htr0 hR)⟩⟩
          · rw [ml, List.length_cons]; omega
          · have kd := kw.dropLast
            rw [wayD_push, List.dropLast_concat] at kd
            exact kd
      · have e : xs = ys ++ [x] := by rw [e, List.concat_eq_append]
        subst e
        have hx : ((ys ++ [x]).map natV)[((ys ++ [x]).map natV).length - 1]? = some (.int (x : Int)) := by
          rw [List.map_append, List.length_append]; simp [natV]
        have tI := ev_din (ev_ixO (K := K) (ev_var (σ := [some v0, some (.int b), some (.ref dl), y3, y4, y5, some (.ref du), some (.ref lw), some (.ref lf), some (.int (TM.top b st)), some (.int by'), some (.ref a)]) (i := 11) rfl) hA (ev_neg ev_c) (v := .int (x : Int)) (by
          have := atI_last (ys.map natV) (V.int (x : Int))
          rw [List.map_append]; exact this)) (ev_var (i := 6) rfl) (show H9 du = _ from by
          obtain ⟨la', f', _⟩ := S.ex
          exact f'.getR (i := 0) rfl)
        rw [ui.1 x] at tI
        have tI' := et_and (a := true) (b := decide (x ∈ F ++ bys st)) (et_test (ev_is tN (by simp))) fun _ => et_B tI
        refine ⟨_, tI', fun hb HA eA => ?_, fun hb HA eA => ?_⟩
        · have hb : x ∈ F ++ bys st := by simpa using hb
          have S := S.ev eA
          refine s_popDrop S.at (ev_var (i := 11) rfl) hx fun HB eB => ?_
          have S := S.ev eB
          refine ⟨ys.length, by rw [List.length_append, List.length_singleton]; omega, ys, rfl, ?_, rfl, by rw [← htr, trim_in hb]⟩
          have ed : ((ys ++ [x]).map natV).dropLast = ys.map natV := by rw [List.map_append]; simp
          rw [ed]
          exact S.pop (fun _ h => h) hb
        · have hb : x ∉ F ++ bys st := by simpa using hb
          have S := S.ev eA
          have tE := ev_eqNil (K := K) (ed_var (σ := [some v0, some (.int b), some (.ref dl), y3, y4, y5, some (.ref du), some (.ref lw), some (.ref lf), some (.int (TM.top b st)), some (.int by'), some (.ref a)]) (n := 11) (Ex.refl HA) rfl (.lst S.at .nats)) (Ex.refl HA) (sh_nats (ys ++ [x]))
          refine Evl.s_if (b := false) (et_test (ev_is tE (by simp))) (fun z => (nomatch z)) fun _ HB eB => ?_
          have S := S.ev eB
          obtain ⟨t, ht, hp⟩ := S.tie (i := x) (by simp)
          -- at = some.pop()
          refine sq (s_popAsg S.at (ev_var (i := 11) rfl) hx fun HC eC => ?_)
          have S := S.ev eC
          have ed : ((ys ++ [x]).map natV).dropLast = ys.map natV := by rw [List.map_append]; simp
          rw [ed]
          have S := S.pop (U' := x :: (F ++ bys st)) (fun _ h => List.mem_cons_of_mem _ h) List.mem_cons_self
          obtain ⟨la', f', nd', out', li', -⟩ := S.ex
          have htr1 : trim (F ++ bys st) (left (TM.top b st)) = ys ++ [x] := by rw [← htr, trim_out hb]
          -- used[at] = True
          have hlk : kvsU.length < sizeLine := sz_lt (by have := ui.2; omega)
          refine sq ⟨.ref du, rfl, .int (x : Int), rfl, du, _, rfl, DPut.k (k := Sum.inl (x : Int)) (f'.getR (i := 0) rfl) hlk, ?_⟩
          have f2 := f'.setR (i := 0) (o := .dK kvsU) (u := .dK (putK kvsU (Sum.inl (x : Int)) (.bl true))) rfl
          have f2 : Fr B H B1 _ (leftL dl la' (put left (TM.top b st) ys) ++ Rl du lw lf (putK kvsU (Sum.inl (x : Int)) (.bl true)) xsW F) := f2
          -- way.append((.., at))
          have h0 := ed_var (σ := [some v0, some (.int b), some (.ref dl), some (.int (x : Int)), y4, y5, some (.ref du), some (.ref lw), some (.ref lf), some (.int (TM.top b st)), some (.int by'), some (.ref a)]) (n := 0) f2.bh rfl (k0.ex f2.eb)
          have hat := ed_tie (K := K) h0 (ev_var (i := 3) rfl) rfl ht
          refine s_appD (f2.getR (i := 1) rfl) (ev_var (i := 7) rfl) (ed_tup (eds_cons (edi f2.bh (ev_oth hat hat (ev_var (i := 9) rfl))) (eds_cons (edi f2.bh (ev_var (i := 3) rfl)) (eds_nil f2.bh)))) (by rw [kw.len, wayD_len]; have := hlU; rw [List.length_append, List.length_map] at this; omega) fun v B' HD g kv => ?_
          have f3 := (f2.gr g).setR (i := 1) (o := .lst xsW) (u := .lst (xsW ++ [v])) rfl
          have CI' := CI.push ht hp hb
          have hl' := nodup_len CI'.nd CI'.lt
          have ml : (F ++ bys ((oth t (TM.top b st), x) :: st)).length = (F ++ bys st).length + 1 := by simp [bys]; omega
          refine ⟨_, ?_, B', la', _, _, _, F, _, _, _, _, _, _, rfl, f3, nd', out', .inl ⟨_ :: st, ?_, CI', li'.same fun j hj => mem_push.mpr (List.mem_cons.mp hj), ui.put (fun j => mem_push) ml, rfl, fun R hR => hrun R (.push htr1 ht hR)⟩⟩
          · rw [ml] at hl' ⊢
            rw [List.length_cons]; omega
          · rw [wayD_push]
            exact (kw.ex g.bb).snoc kv
    · refine ⟨false, ?_, fun z => (nomatch z), fun _ H6 e6 => ?_⟩
      · have hW := f.getR (i := 1) rfl
        have h1 := ev_neNil (K := K) (ds := []) (ed_var (σ := [some v0, some (.int b), some (.ref dl), y3, y4, y5, some (.ref du), some (.ref lw), some (.ref lf), y9, y10, y11]) (n := 7) (Ex.refl H5) rfl (.lst hW .nil)) (Ex.refl H5) (sh_nil (n := 0))
        exact et_is (et_test h1) rfl
      · -- return found
        have f := f.ev e6
        obtain ⟨o1, o2, o3⟩ := f.own _ (List.mem_append_right _ (List.mem_of_getElem? (i := 2) rfl))
        have eF := circF_eq hrun
        exact ⟨.ref lf, rfl, q _ lf _ B1 H6 ⟨by rw [eF]; exact C, rfl⟩ f.toGr o1 o2 o3 (by rw [eF]; exact .nats)⟩

end
end TW
set_option Elab.async false
set_option linter.all false
set_option maxRecDepth 100000
set_option maxHeartbeats 4000000
namespace TW
open PySem PySem.Spec PyProof.Rows L2 TM TB
open Evl (Ex Ex.refl Ex.trans Ex.new Ex.mut Ev EvT EvA ev_var ev_c ev_op rv_I0 rv_I rv_eq rv_ne et_test et_B et_and et_or et_not et_is ev_is sz_of sz_lt fresh_back)
section
variable {P : Program} {w : World} {K : PySem.W.Frag} {mg : Str → Option Value} {base : Heap} {A : Ad}
/-! ### nearly_of -/
def sp_nearly_of : Sp := fun vs H Q _ => ∃ (n : Int) (ts : List Tie) (B : Hp), Ex B H ∧ DaAll B vs [.int n, tiesD ts] ∧ (0 ≤ n ∧ n ≤ 100 ∧ Web n ts ∧ ts.length ≤ 500) ∧ RetM B H (fun ds => Nearly n ts (nearF n ts) ∧ ds = (nearF n ts).map PyData.int) Q
theorem len_nearly_of {vs : List V} {H : Hp} {Q : VK} {E : XK} (h : sp_nearly_of vs H Q E) : vs.length = 2 := by
  obtain ⟨_, _, _, _, k, _⟩ := h
  exact k.len
theorem filt_odd (n : Int) (ts : List Tie) : ((List.range n.toNat).filter fun (k : Nat) => decide (deg ts (k : Int) % 2 = 1)).map (fun (k : Nat) => PyData.int (k : Int)) = (oddL n ts).map PyData.int := by
  unfold oddL upto
  rw [List.filter_map, List.map_map]; rfl
theorem deg_len (ts : List Tie) (v : Int) : ((ts.filter fun t => has t v).map tieD).length = deg ts v := by
  rw [List.length_map]; unfold deg; rw [List.countP_eq_length_filter]
theorem more_map (n : Int) (ts : List Tie) : ts.map tieD ++ (oddL n ts).map (fun p => tieD (p, n)) = (more n ts).map tieD := by
  unfold more virt; rw [List.map_append, List.map_map]; rfl
theorem mem_zip {α : Type} {l : List α} {p : α × Nat} (h : p ∈ l.zipIdx) : l[p.2]? = some p.1 := by
  obtain ⟨i, hi⟩ := List.mem_iff_getElem?.mp h
  obtain ⟨h1, h2⟩ := zipIdx_at hi
  rw [h2]; exact h1
theorem zip_mem {α : Type} {l : List α} {i : Nat} {a : α} (h : l[i]? = some a) : (a, i) ∈ l.zipIdx := by
  refine List.mem_of_getElem? (i := i) ?_
  rw [List.getElem?_zipIdx, h]; simp
def idxD (p : Tie × Nat) : PyData := .int (p.2 : Int)
theorem ok_nearly_of (T : TX K mg A) : Ok P w K mg base CX0 2 A.nearly_of ["places", "ties"] sp_nearly_of := by
  obtain ⟨fd, F⟩ := T.F_nearly_of
  obtain ⟨fd_circuit, G_circuit, B_circuit, K_circuit⟩ := ok_circuit (P := P) (w := w) (base := base) T
  refine ⟨fd, ?_, F.binds (ps := ["places", "ties"]) fun _ _ _ _ _ _ us hl => match us, hl with | [_, _], _ => rfl, F.kp⟩
  refine F.ok sc_nearly_of (fun vs H Q E h => len_nearly_of h) (fun cdv Ar outer s H vs Q E hr h => ?_)
  have nd := sc_nearly_of.nd
  have hu := hu_of hr
  obtain ⟨n, ts, B, eb, k, ⟨hn0, hn1, hW, hl⟩, q⟩ := h
  match vs, k with
  | [v0, v1], .cons k0 (.cons k1 .nil) =>
  obtain rfl := k0.int_inv
  refine ⟨_, (pss_cons (ps_setLc (i := 2) (own := [("place", 9)]) (g := gName 9)  rfl nd rfl rfl (sw_true rfl rfl rfl (by decide +kernel))  (pi_range1 rfl T.n_range (pa_cons (pv 0) pa_nil)) (blkOk_by (by kernel_rfl)) (fun _ _ _ _ _ => (pg_name (i := 9) nd rfl (by first | exact .inl rfl | exact .inr rfl))) (fun _ _ _ _ _ => (pts_one (pt_cmpR op_eq (pe_op op_mod (pe_callB (lenK K) (by rfl) T.n_len PySem.boot_len (pa_cons (pe_lc (own := [("tie", 10)]) (g := gName 10)  rfl nd  (listK K (pv 1)) (blkOk_by (by kernel_rfl)) (fun _ _ _ _ _ => (pg_name (i := 10) nd rfl (by first | exact .inl rfl | exact .inr rfl))) (fun _ _ _ _ _ => (pts_one (pt_cmpR (in_seqK K) (pv 9) (pv 10) (by first | exact nomark _ | rfl)))) (fun _ _ _ _ _ => (pv 10))) pa_nil)) pe_int) pe_int (by first | exact nomark _ | rfl)))) (fun _ _ _ _ _ => (pv 9))) (pss_cons (ps_set (i := 3) nd rfl (by first | exact .inl rfl | exact .inr rfl) (pe_op op_cat (pv 1) (pe_lc (own := [("place", 9)]) (g := gName 9) (tt := tYes)  rfl nd  (listK K (pv 2)) (blkOk_by (by kernel_rfl)) (fun _ _ _ _ _ => (pg_name (i := 9) nd rfl (by first | exact .inl rfl | exact .inr rfl))) (fun _ _ _ _ _ => pts_nil) (fun _ _ _ _ _ => (pe_tup (pa_cons (pv 9) (pa_cons (pv 0) pa_nil))))))) (pss_cons (ps_set (i := 4) nd rfl (by first | exact .inl rfl | exact .inr rfl) (pe_op op_rep (pe_lst (pa_cons pe_non pa_nil)) (pe_callB (lenK K) (by rfl) T.n_len PySem.boot_len (pa_cons (pv 3) pa_nil)))) (pss_cons (ps_for PassesOwn.never rfl (listK K (pe_op op_cat (pe_lst (pa_cons (pv 0) pa_nil)) (pe_listRg rfl (by rfl) T.n_list (prg_1 (by rfl) T.n_range (pv 0))))) (pg_name (i := 5) nd rfl (by first | exact .inl rfl | exact .inr rfl)) (pss_cons (ps_setLc (i := 6) (own := [("at", 8), ("tie", 10)]) (g := gTup K 2 (gCons (gName 8) (gCons (gName 10) gNil)))  rfl nd rfl rfl (sw_true rfl rfl rfl (by decide +kernel))  (enumK K (by rfl) T.n_enumerate (pa_cons (pv 3) pa_nil)) (blkOk_by (by kernel_rfl)) (fun _ _ _ _ _ => (gtupK K rfl (pgs_cons (pg_name (i := 8) nd rfl (by first | exact .inl rfl | exact .inr rfl)) (pgs_cons (pg_name (i := 10) nd rfl (by first | exact .inl rfl | exact .inr rfl)) pgs_nil)))) (fun _ _ _ _ _ => (pts_one (PW.pt (pw_and (pt_cmpR (in_seqK K) (pv 5) (pv 10) (by first | exact nomark _ | rfl)) (pw_and1 (pt_cmp (pc_isN (pe_ix (ix_listK K) (pv 4) (pv 8) (fun _ _ => rfl))))))))) (fun _ _ _ _ _ => (pv 8))) (pss_one (ps_if (pt_cmpR (neDK K hr.units) (pv 6) (pe_lst pa_nil) (by first | exact nomark _ | rfl)) (pss_one (ps_for PassesOwn.never rfl (enumK K (by rfl) T.n_enumerate (pa_cons (pe_call G_circuit (hr.mono (by decide)) (by rfl) T.g_circuit K_circuit B_circuit .nil pass0 (pa_cons (pv 3) (pa_cons (pv 5) pa_nil))) pa_nil)) (gtupK K rfl (pgs_cons (pg_name (i := 7) nd rfl (by first | exact .inl rfl | exact .inr rfl)) (pgs_cons (pg_name (i := 8) nd rfl (by first | exact .inl rfl | exact .inr rfl)) pgs_nil))) (pss_one (ps_asg (pe_op op_mod (pv 7) pe_int) (pg_sub (pv 4) (pv 8) set_list))))) pss_nil)))) (pss_one (ps_ret (pe_slice (sl_listK K) (pv 4) po_none (po_some (pe_callB (lenK K) (by rfl) T.n_len PySem.boot_len (pa_cons (pv 1) pa_nil)))))))))), ?_⟩
  -- odd
  refine (q_asgN (en_lc (dt := fun (k : Nat) => PyData.int (k : Int)) (fun (k : Nat) => decide (deg ts (k : Int) % 2 = 1)) (fun (k : Nat) => PyData.int (k : Int)) (ei_rg1 eb (ev_var (i := 0) rfl) ⟨hn0, by omega⟩) (by rw [List.length_range]; omega) ?_ ?_) fun lo xo B1 H1 g1 n1 nb1 h1 ko => ?_)
  · intro a x B3 H3 _ e1 e2 e3 kx
    obtain rfl := kx.int_inv
    refine et_is (et_test (ev_eqI (ev_I (ev_lenD (K := K) (EvN.toD (en_lc (dt := tieD) (l := ts) (fun t => has t (a : Int)) tieD (ei_list (K := K) (ed_var (n := 1) e3 rfl (k1.ex e2))) (by omega) (fun t y B5 H5 _ _ f2 f3 ky => et_test (ev_has (K := K) (ev_var (i := 9) rfl) (ed_var (n := 10) f3 rfl ky))) (fun t y B5 H5 _ _ f2 f3 ky _ => ed_var (n := 10) f3 rfl ky)))) (ev_c (v := .int 2)) (C := fun _ j => 0 < j) (g := fun i j => .int (i % j)) (by decide)) (ev_c (v := .int 1)))) ?_
    rw [deg_len]
    congr 1
    apply propext; omega
  · intro a x B3 H3 _ e1 e2 e3 kx _
    exact ed_var (n := 9) e3 rfl kx
  rw [filt_odd] at ko
  have ko := ko.ints_inv
  subst ko
  -- more
  have f1 := (Fr.start eb).gr (fixD g1 n1 nb1 h1)
  refine (q_asgN (en_cat (ed_var (n := 1) f1.bh rfl (k1.ex f1.eb)) (EvN.toD (en_lcA (dt := PyData.int) (l := oddL n ts) (fun p => tieD (p, n)) (ei_list (K := K) (ed_var (n := 2) f1.bh rfl (.lst upd_same .ints))) (by have := more_len n ts; unfold more virt at this; rw [List.length_append, List.length_map] at this; omega) ?_)) (by rw [List.length_map, List.length_map]; have := more_len n ts; unfold more virt at this; rw [List.length_append, List.length_map] at this; omega)) fun lm xm B2 H2 g2 n2 nb2 h2 km => ?_)
  · intro a x B3 H3 _ e1 e2 e3 kx
    obtain rfl := kx.int_inv
    exact ed_tup (eds_cons (edi e3 (ev_var (i := 9) rfl)) (eds_cons (edi e3 (ev_var (i := 0) rfl)) (eds_nil e3)))
  rw [more_map] at km
  have f2 := f1.gr (fixD g2 n2 nb2 h2)
  have kM : ∀ B3, Ex (upd B2 lm (.lst xm)) B3 → Da B3 (.ref lm) (tiesD (more n ts)) := fun B3 e => .lst (e _ _ upd_same) (km.ex ((Ex.new nb2).trans e))
  have hml := more_len n ts
  -- colours
  refine (q_asgN (en_rep (EvN.toD (en_lst (eds_cons (ed_ev f2.bh ev_c .non) (eds_nil f2.bh)))) (ev_lenD (K := K) (ed_var (n := 3) f2.bh rfl (kM _ (Ex.refl _)))) (by rw [List.length_map]; omega) (by simp; omega)) fun lc xc B3 H3 g3 n3 nb3 h3 kc => ?_)
  have ec : (List.replicate ((((more n ts).map tieD).length : Int)).toNat [PyData.none]).flatten = (List.replicate (more n ts).length (none : Option Int)).map optD := by
    rw [List.length_map, Int.toNat_natCast, List.map_replicate]
    induction (more n ts).length with
    | zero => rfl
    | succ m ih => rw [List.replicate_succ, List.flatten_cons, ih]; rfl
  rw [ec] at kc
  have kc := kc.opts_inv
  subst kc
  have f3 := f2.take g3 n3 nb3 h3
  have kM3 : ∀ B5, Ex B3 B5 → Da B5 (.ref lm) (tiesD (more n ts)) := fun B5 e => kM B5 (g3.bb.trans e)
  -- for begin in ..
  refine (q_for (B := B3) (dt := PyData.int) (P := (· = begins n)) (ei_list (K := K) ?_) (fun l B4 i σ' H' => Ex B3 B4 ∧ ∃ (cols : List (Option Int)) (y5 y6 y7 y8 : Option V), σ' = [some (.int n), some v1, some (.ref lo), some (.ref lm), some (.ref lc), y5, y6, y7, y8, none, none] ∧
    Fr B H B4 H' [(lc, .lst (cols.map optV))] ∧ NInv (more n ts) (l.take i) cols ∧ cols = colsF (more n ts) (l.take i)) ?_ ?_ ?_ ?_)
  · have e0 : (begins n).map PyData.int = [PyData.int n] ++ (List.range n.toNat).map (fun (k : Nat) => PyData.int (k : Int)) := by rw [range_upto]; rfl
    rw [e0]
    exact EvN.toD (en_cat (EvN.toD (en_lst (eds_cons (edi f3.bh (ev_var (i := 0) rfl)) (eds_nil f3.bh)))) (EvN.toD (en_rg1 f3.bh (ev_var (i := 0) rfl) ⟨hn0, by omega⟩)) (by simp; omega))
  · rintro l B4 H4 rfl g4
    exact ⟨g4.bb, _, none, none, none, none, rfl, f3.gr g4, NInv.start _, rfl⟩
  · rintro l B4 i σ' H' ⟨_, _, _, _, _, _, _, f, _⟩
    exact f.bh
  · rintro l B4 i b x B5 σ' H' H5 rfl hi ⟨e34, cols, y5, y6, y7, y8, rfl, f, I, hcol⟩ g5 kx
    obtain rfl := kx.int_inv
    have f5 := f.gr g5
    have e35 := e34.trans g5.bb
    have tk : (begins n).take (i + 1) = (begins n).take i ++ [b] := by rw [List.take_add_one, hi]; rfl
    -- fresh
    refine (q_asgN (en_lc2 (K := K) (d1 := fun p : Tie × Nat => .int (p.2 : Int)) (d2 := fun p : Tie × Nat => tieD p.1) (l := (more n ts).zipIdx) (TM.frs b cols) idxD (ei_enumD (K := K) (ed_var (n := 3) f5.bh rfl (kM3 _ e35))) (by rw [List.length_zipIdx]; omega) ?_ ?_) fun lf xf B6 H6 g6 n6 nb6 h6 kf => ?_)
    · rintro ⟨t, j⟩ x y B7 H7 hm e1 e2 e3 kx ky
      obtain rfl := kx.int_inv
      have hj := mem_zip hm
      have hjl : j < cols.length := by rw [I.len]; exact (List.getElem?_eq_some_iff.mp hj).1
      refine et_and (et_test (ev_has (K := K) (ev_var (i := 5) rfl) (ed_var (n := 10) e3 rfl ky))) fun _ => ?_
      have hlc : H7 lc = some (.lst (cols.map optV)) := e1 _ _ f5.get0
      have hv : atI (cols.map optV) (j : Int) = some (optV cols[j]) := atI_nat (by rw [List.getElem?_map, List.getElem?_eq_getElem hjl]; rfl)
      refine et_B (ev_is (ev_isN (ev_ixO (K := K) (ev_var (i := 4) rfl) hlc (ev_var (i := 8) rfl) hv)) ?_)
      rw [optV_non, List.getElem?_eq_getElem hjl]
      congr 1
      simp
    · rintro ⟨t, j⟩ x y B7 H7 hm e1 e2 e3 kx ky _
      exact ed_var (n := 8) e3 rfl kx
    have f6 := f5.gr (fixD g6 n6 nb6 h6)
    have kF : Da (upd B6 lf (.lst xf)) (.ref lf) (.list (((more n ts).zipIdx.filter (TM.frs b cols)).map idxD)) := .lst upd_same (kf.ex (Ex.new nb6))
    have e36 : Ex B3 (upd B6 lf (.lst xf)) := e35.trans (g6.bb.trans (Ex.new nb6))
    -- if fresh != []
    refine s_when (et_test (ev_neNil (K := K) (ed_var (n := 6) f6.bh rfl kF) f6.bh (sh_map (n := 1) fun _ => sh_int))) (fun hb H7 e7 => ?_) (fun hb H7 e7 => ?_)
    · have f7 := f6.ev e7
      obtain ⟨⟨t0, i0⟩, h0⟩ : ∃ p : Tie × Nat, p ∈ (more n ts).zipIdx.filter (TM.frs b cols) := by
        cases e : (more n ts).zipIdx.filter (TM.frs b cols) with
        | nil => rw [e] at hb; cases hb
        | cons p r => exact ⟨p, List.mem_cons_self⟩
      rw [List.mem_filter] at h0
      unfold TM.frs at h0
      rw [Bool.and_eq_true, decide_eq_true_iff] at h0
      obtain ⟨hz, hbt, hf⟩ := h0
      have hz := mem_zip hz
      -- for turn, at in enumerate(circuit(more, begin))
      refine s_for2 (K := K) (B := upd B6 lf (.lst xf)) (d1 := fun p : Nat × Nat => .int (p.2 : Int)) (d2 := fun p : Nat × Nat => natD p.1) (P := fun m => ∃ F, (Circ (more n ts) b F ∧ F = circF (more n ts) b) ∧ m = F.zipIdx) (ei_enum (K := K) (P := fun F => Circ (more n ts) b F ∧ F = circF (more n ts) b) ?_)
        (fun l B8 j σ' H' => Ex (upd B6 lf (.lst xf)) B8 ∧ ∃ (y7 y8 : Option V), σ' = [some (.int n), some v1, some (.ref lo), some (.ref lm), some (.ref lc), some (.int b), some (.ref lf), y7, y8, none, none] ∧
          Fr B H B8 H' [(lc, .lst ((paint cols ((l.map (·.1)).take j) 0).map optV))]) ?_ ?_ ?_ ?_
      · have h := EvM.toS (em_call (sp := sp_circuit) (E := E0) (ta := tCons (tVar 3) (tCons (tVar 5) tNil)) (σ := [some (.int n), some v1, some (.ref lo), some (.ref lm), some (.ref lc), some (.int b), some (.ref lf), y7, y8, none, none]) (eds_cons (ed_var (n := 3) f7.bh rfl (kM3 _ e36)) (eds_cons (edi f7.bh (ev_var (i := 5) rfl)) (eds_nil f7.bh)))
          (P := fun ds => Circ (more n ts) b (circF (more n ts) b) ∧ ds = (circF (more n ts) b).map natD) fun Bc Hc vs Qc Ec ebc kc qc => ⟨more n ts, b, Bc, ebc, kc, ⟨by omega, more_ne hW, more_even hW⟩, qc⟩)
        intro H8 e8 Q8 q8
        refine h H8 e8 Q8 fun d v B' H9 pd g k => q8 d v B' H9 ?_ g k
        obtain ⟨ds, rfl, C, rfl⟩ := pd
        exact ⟨_, ⟨C, rfl⟩, rfl⟩
      · rintro l B8 H8 - g8
        exact ⟨g8.bb, _, _, rfl, f7.gr g8⟩
      · rintro l B8 j σ' H' ⟨_, _, _, _, f⟩
        exact f.bh
      · rintro l B8 j ⟨a, j'⟩ x y B9 σ' H' H9 ⟨F, ⟨C, -⟩, rfl⟩ hj ⟨e68, y7', y8', rfl, f8⟩ g9 kx ky
        obtain ⟨ha, hj'⟩ := zipIdx_at hj
        have hj' : j' = j := hj'
        subst hj'
        have ha : F[j']? = some a := ha
        obtain rfl := kx.int_inv
        obtain rfl := ky.int_inv
        have f9 := f8.gr g9
        have hF : (F.zipIdx.map (·.1)) = F := List.zipIdx_map_fst 0 F
        rw [hF] at f9 ⊢
        have hal := C.lt a (List.mem_of_getElem? ha)
        refine Evl.s_setL (j := a) f9.get0 (ev_I (ev_var (i := 7) rfl) (ev_c (v := .int 2)) (C := fun _ j => 0 < j) (g := fun i j => .int (i % j)) (by decide)) (ev_var (i := 4) rfl) (ev_var (i := 8) rfl) (by rw [List.length_map, paint_len, I.len]; exact hal) fun H10 e10 => ?_
        have f10 := f9.ev e10
        refine ⟨e68, _, _, rfl, ?_⟩
        have ep : ((paint cols (F.take j') 0).map optV).set a (.int ((j' : Int) % 2)) = (paint cols (F.take (j' + 1)) 0).map optV := by
          have et : F.take (j' + 1) = F.take j' ++ [a] := by rw [List.take_add_one, ha]; rfl
          rw [et, paint_snoc, List.map_set]
          congr 1
          rw [List.length_take]
          have hl2 := (List.getElem?_eq_some_iff.mp ha).1
          show V.int _ = V.int _
          congr 1
          unfold tn
          rw [Nat.zero_add, Nat.min_eq_left (by omega)]; omega
        rw [ep]
        exact (f10.set0 (u := .lst ((paint cols (F.take (j' + 1)) 0).map optV))).back f8.eb g9.bb
      · rintro l B8 σ' H' ⟨F, ⟨C, eF⟩, rfl⟩ ⟨e68, y7', y8', rfl, f8⟩
        have hF : (F.zipIdx.map (·.1)) = F := List.zipIdx_map_fst 0 F
        rw [hF, List.length_zipIdx, List.take_length] at f8
        refine ⟨e34, _, _, _, _, _, rfl, f8.back f.eb ((g5.bb.trans (g6.bb.trans (Ex.new nb6))).trans e68), ?_, ?_⟩
        · rw [tk]
          exact I.fresh C hz hbt hf
        · rw [tk, colsF_snoc, ← hcol]
          unfold colStep
          rw [if_neg, eF]
          intro z
          rw [List.isEmpty_iff] at z
          have hm : (t0, i0) ∈ (more n ts).zipIdx.filter (TM.frs b cols) := by
            rw [List.mem_filter]
            unfold TM.frs
            rw [Bool.and_eq_true, decide_eq_true_iff]
            exact ⟨zip_mem hz, hbt, hf⟩
          rw [z] at hm; cases hm
    · refine ⟨e34, cols, _, _, _, _, rfl, (f6.ev e7).back f.eb (g5.bb.trans (g6.bb.trans (Ex.new nb6))), ?_, ?_⟩
      rotate_left
      · rw [tk, colsF_snoc, ← hcol]
        unfold colStep
        rw [if_pos]
        cases e : (more n ts).zipIdx.filter (TM.frs b cols) with
        | nil => rfl
        | cons p r => rw [e] at hb; cases hb
      rw [tk]
      refine I.old fun i t ht hv hc => ?_
      have hm : (t, i) ∈ (more n ts).zipIdx.filter (TM.frs b cols) := by
        rw [List.mem_filter]
        unfold TM.frs
        rw [Bool.and_eq_true, decide_eq_true_iff]
        exact ⟨zip_mem ht, hv, hc⟩
      cases e : (more n ts).zipIdx.filter (TM.frs b cols) with
      | nil => rw [e] at hm; cases hm
      | cons p r => rw [e] at hb; cases hb
  · rintro l B4 σ' H' rfl ⟨e34, cols, y5, y6, y7, y8, rfl, f, I, hcol⟩
    rw [List.take_length] at I hcol
    obtain ⟨cs, ecs, N⟩ := I.nearly hW
    have eN : nearF n ts = cs := nearF_eq (by rw [← hcol]; exact ecs)
    -- return colours[:len(ties)]
    have fx := f.fix
    have h := en_sl (K := K) (te := tVar 4) (σ := [some (.int n), some v1, some (.ref lo), some (.ref lm), some (.ref lc), y5, y6, y7, y8, none, none]) (ed_var (n := 4) fx.bh rfl (.lst upd_same .opts)) Evl.eo_none (Evl.eo_some (ev_lenD (K := K) (ed_var (n := 1) fx.bh rfl (k1.ex fx.eb))))
    rw [cutD_to, List.length_map, ← List.map_take, ecs, List.map_map] at h
    refine s_retM h.toM ?_
    rintro ds p xs B' H2 rfl g n0 nb hp kd
    exact q _ p xs B' H2 ⟨by rw [eN]; exact N, by rw [eN]; rfl⟩ (fx.toGr.trans g) (base_none fx.ex0 n0) nb hp kd

end
end TW
set_option Elab.async false
set_option linter.all false
set_option maxRecDepth 100000
set_option maxHeartbeats 4000000
namespace TW
open PySem PySem.Spec PyProof.Rows L2 TM TB
open Evl (Ex Ex.refl Ex.trans Ex.new Ex.mut Ev EvT EvA ev_var ev_c ev_op rv_I0 rv_I rv_eq rv_ne et_test et_B et_and et_or et_not et_is ev_is sz_of sz_lt fresh_back)
section
variable {P : Program} {w : World} {K : PySem.W.Frag} {mg : Str → Option Value} {base : Heap} {A : Ad}
/-! ### what the doors take -/
theorem okP_iff {d : PyData} : okP d = true ↔ ∃ n, d = .int n ∧ 1 ≤ n ∧ n ≤ 40 := by
  constructor
  · intro h
    cases d with
    | int n => exact ⟨n, rfl, by simpa [okP] using h⟩
    | _ => cases h
  · rintro ⟨n, rfl, h1, h2⟩
    simp [okP, h1, h2]
theorem okT_inv {n : Int} {d : PyData} (h : okT n d = true) : ∃ ts, d = tiesD ts ∧ Web n ts ∧ ts.length ≤ 120 := by
  cases d with
  | list ds =>
    have h : (decide (ds.length ≤ 120) && ds.all (tieB n)) = true := h
    rw [Bool.and_eq_true, decide_eq_true_iff, List.all_eq_true] at h
    obtain ⟨hl, ha⟩ := h
    have key : ∀ ds : List PyData, (∀ d ∈ ds, tieB n d = true) → ∃ ts : List Tie, ds = ts.map tieD ∧ Web n ts := by
      intro ds
      induction ds with
      | nil => exact fun _ => ⟨[], rfl, fun t ht => (nomatch ht)⟩
      | cons d ds ih =>
        intro ha
        obtain ⟨ts, e, w⟩ := ih fun d hd => ha d (List.mem_cons_of_mem _ hd)
        obtain ⟨a, b, e2, h⟩ := tieB_iff.mp (ha d List.mem_cons_self)
        refine ⟨(a, b) :: ts, by rw [e, e2]; rfl, fun t ht => ?_⟩
        rcases List.mem_cons.mp ht with rfl | ht
        · exact h
        · exact w t ht
    obtain ⟨ts, e, w⟩ := key ds ha
    exact ⟨ts, by rw [e]; rfl, w, by rw [e, List.length_map] at hl; exact hl⟩
  | _ => cases h
theorem okT_of {n : Int} {ts : List Tie} (w : Web n ts) (hl : ts.length ≤ 120) : okT n (tiesD ts) = true := by
  show (decide ((ts.map tieD).length ≤ 120) && (ts.map tieD).all (tieB n)) = true
  rw [List.length_map, decide_eq_true hl, Bool.true_and, List.all_eq_true]
  intro d hd
  obtain ⟨t, ht, rfl⟩ := List.mem_map.mp hd
  exact tieB_iff.mpr ⟨t.1, t.2, rfl, w t ht⟩
/-- the opening row of each door -/
theorem asked_row {A : Ad} {d1 d2 : PyData} {B H : Hp} {vs : List V} {E : XK} {Q : VK} (eb : Ex B H) (k : DaAll B vs [d1, d2]) (q1 : okP d1 = false → RetE H A.BadPlaces E) (q2 : ∀ n, d1 = .int n → okP d1 = true → okT n d2 = false → RetE H A.BadTies E)
    (q3 : ∀ n ts H', d1 = .int n → d2 = tiesD ts → 1 ≤ n → n ≤ 40 → Web n ts → ts.length ≤ 120 → Ex H H' → Q .non H') : sp_asked_web A vs H Q E := by
  refine ⟨d1, d2, B, eb, k, q1, q2, fun n e h1 h2 H' e' => ?_⟩
  obtain ⟨m, e1, h3, h4⟩ := okP_iff.mp h1
  rw [e] at e1
  cases e1
  obtain ⟨ts, e2, w, hl⟩ := okT_inv h2
  exact q3 n ts H' e e2 h3 h4 w hl e'
theorem en_rev {σ : L2.St} {B H : Hp} {te : TE} {ds : List PyData} (h : EvD te σ B H (.list ds)) : EvN (tRevL K te) σ B H ds.reverse := fun H1 e Q q => h H1 e _ fun v B1 H2 g k => by
  obtain ⟨a, xs, rfl, q1, q2⟩ := k.lst_inv
  exact ⟨a, xs, rfl, SqL.of (g.bh _ _ q1), fun p hp => q p _ B1 _ (g.trans (Gr.same g.bh (Ex.new hp))) (base_none g.hh hp) (base_none g.bh hp) upd_same q2.rev⟩

end
end TW
set_option Elab.async false
set_option linter.all false
set_option maxRecDepth 100000
set_option maxHeartbeats 4000000
namespace TW
open PySem PySem.Spec PyProof.Rows L2 TM TB
open Evl (Ex Ex.refl Ex.trans Ex.new Ex.mut Ev EvT EvA ev_var ev_c ev_op rv_I0 rv_I rv_eq rv_ne et_test et_B et_and et_or et_not et_is ev_is sz_of sz_lt fresh_back)
section
variable {P : Program} {w : World} {K : PySem.W.Frag} {mg : Str → Option Value} {base : Heap} {A : Ad}
/-! ### nearly -/
def sp_nearly (A : Ad) : Sp := fun vs H Q E => ∃ d1 d2 B, Ex B H ∧ DaAll B vs [d1, d2] ∧ (okP d1 = false → RetE H A.BadPlaces E) ∧ (∀ n, d1 = .int n → okP d1 = true → okT n d2 = false → RetE H A.BadTies E) ∧
  (∀ n ts, d1 = .int n → d2 = tiesD ts → 1 ≤ n → n ≤ 40 → Web n ts → ts.length ≤ 120 → RetM B H (fun ds => Nearly n ts (nearF n ts) ∧ ds = (nearF n ts).map PyData.int) Q)
theorem len_nearly {A : Ad} {vs : List V} {H : Hp} {Q : VK} {E : XK} (h : sp_nearly A vs H Q E) : vs.length = 2 := by
  obtain ⟨d, n, B, _, k, _⟩ := h
  exact k.len
theorem ok_nearly (T : TX K mg A) : Ok P w K mg base (L2N.CX P w) 4 A.nearly ["places", "ties"] (sp_nearly A) := by
  obtain ⟨fd, F⟩ := T.F_nearly
  obtain ⟨fd_asked_web, G_asked_web, B_asked_web, K_asked_web⟩ := ok_asked_web (P := P) (w := w) (base := base) T
  obtain ⟨fd_nearly_of, G_nearly_of, B_nearly_of, K_nearly_of⟩ := ok_nearly_of (P := P) (w := w) (base := base) T
  refine ⟨fd, ?_, F.binds (ps := ["places", "ties"]) fun _ _ _ _ _ _ us hl => match us, hl with | [_, _], _ => rfl, F.kp⟩
  refine fun_okN F sc_nearly (fun vs H Q E h => len_nearly h) (fun cdv Ar outer s H vs Q E hr h => ?_)
  have nd := sc_nearly.nd
  have hu := hu_of hr
  obtain ⟨d1, d2, B, eb, k, q1, q2, q3⟩ := h
  match vs, k with
  | [v0, v1], .cons k0 (.cons k1 .nil) =>
  refine ⟨_, (pss_cons (ps_expr (pe_call G_asked_web (hr.mono (by decide)) (by rfl) T.g_asked_web K_asked_web B_asked_web .nil (L2N.passes_call (L2N.takes_of rfl rfl rfl rfl) fun _ _ _ _ h => h) (pa_cons (pv 0) (pa_cons (pv 1) pa_nil)))) (pss_one (ps_ret (pe_call G_nearly_of (hr.mono (by decide)) (by rfl) T.g_nearly_of K_nearly_of B_nearly_of .nil pass0 (pa_cons (pv 0) (pa_cons (pv 1) pa_nil)))))), ?_⟩
  refine sq ⟨v0, rfl, v1, rfl, asked_row eb (.cons k0 (.cons k1 .nil)) q1 q2 fun n ts H1 e1 e2 h1 h2 w hl x1 => ?_⟩
  subst e1 e2
  have eb1 := eb.trans x1
  refine s_retM (em_call (eds_cons (ed_var (n := 0) eb1 rfl k0) (eds_cons (ed_var (n := 1) eb1 rfl k1) (eds_nil eb1))) fun B4 H4 ws Q4 E4 e4 k4 q4 => ⟨n, ts, B4, e4, k4, ⟨by omega, by omega, w, by omega⟩, q4⟩) ?_
  intro ds p xs B' H2 pd g n0 nb hp kd
  exact q3 n ts rfl rfl h1 h2 w hl ds p xs B' H2 pd ((Gr.same eb x1).trans g) (base_none x1 n0) nb hp kd
theorem near_sp {A : Ad} {n : Int} {ts : List Tie} {B H : Hp} {vs : List V} {Q : VK} {E : XK} (hn : 1 ≤ n ∧ n ≤ 40) (w : Web n ts) (hl : ts.length ≤ 120) (eb : Ex B H) (k : DaAll B vs [.int n, tiesD ts])
    (q : RetM B H (fun ds => Nearly n ts (nearF n ts) ∧ ds = (nearF n ts).map PyData.int) Q) : sp_nearly A vs H Q E := by
  have h1 : okP (.int n) = true := okP_iff.mpr ⟨n, rfl, hn.1, hn.2⟩
  refine ⟨_, _, B, eb, k, fun z => ?_, fun m e _ z => ?_, fun m us e1 e2 _ _ _ _ => ?_⟩
  · rw [h1] at z; cases z
  · cases e
    rw [okT_of w hl] at z; cases z
  · cases e1
    rw [← tiesD_inj e2]; exact q

end
end TW
set_option Elab.async false
set_option linter.all false
set_option maxRecDepth 100000
set_option maxHeartbeats 4000000
namespace TW
open PySem PySem.Spec PyProof.Rows L2 TM TB
open Evl (Ex Ex.refl Ex.trans Ex.new Ex.mut Ev EvT EvA ev_var ev_c ev_op rv_I0 rv_I rv_eq rv_ne et_test et_B et_and et_or et_not et_is ev_is sz_of sz_lt fresh_back)
section
variable {P : Program} {w : World} {K : PySem.W.Frag} {mg : Str → Option Value} {base : Heap} {A : Ad}
/-! ### part_of -/
def kvD (L : List Int) : List (Key × V) := L.map fun v => (Sum.inl v, V.bl true)
theorem kvD_in (L : List Int) (v : Int) : (valV (kvD L) (Sum.inl v : Key)).isSome = decide (v ∈ L) := by
  induction L with
  | nil => rfl
  | cons a L ih =>
    unfold valV kvD at ih ⊢
    rw [List.map_cons, List.find?_cons]
    by_cases e : a = v
    · have : decide ((Sum.inl a : Key) = Sum.inl v) = true := decide_eq_true (by rw [e])
      rw [this]; simp [e]
    · have : decide ((Sum.inl a : Key) = Sum.inl v) = false := decide_eq_false fun z => e (Sum.inl.inj z)
      have e' : ¬ v = a := fun z => e z.symm
      rw [this, ih]; simp [e']
theorem kvD_put {L : List Int} {v : Int} (h : v ∉ L) : putK (kvD L) (Sum.inl v : Key) (.bl true) = kvD (L ++ [v]) := by
  rw [putK_out]
  · unfold kvD; rw [List.map_append]; rfl
  · have := kvD_in L v
    rw [decide_eq_false h] at this
    cases q : valV (kvD L) (Sum.inl v : Key) with
    | none => rfl
    | some u => rw [q] at this; cases this
theorem ev_dni {σ : L2.St} {H : Hp} {ti td : TE} {v : Int} {d : Addr} {kvs : List (Key × V)} (hi : Ev ti σ H (.int v)) (ho : Ev td σ H (.ref d)) (hd : H d = some (.dK kvs)) : Ev (tDNotIn ti td) σ H (.bl (!(valV kvs (Sum.inl v : Key)).isSome)) := fun H1 e Q q =>
  hi H1 e _ fun H2 e2 => ho H2 (e.trans e2) _ fun H3 e3 => ⟨d, _, rfl, DGet.k (k := Sum.inl v) (e3 _ _ (e2 _ _ (e _ _ hd))), q H3 (e2.trans e3)⟩
def sp_part_of : Sp := fun vs H Q _ => ∃ (n : Int) (ts : List Tie) (b : Int) (B : Hp), Ex B H ∧ DaAll B vs [tiesD ts, .int b, .list ((List.range ts.length).map natD)] ∧ (0 ≤ b ∧ b < n ∧ n ≤ 60 ∧ Web n ts ∧ ts.length ≤ 1000) ∧ RetN B H ((part n ts b).map PyData.int) Q
theorem len_part_of {vs : List V} {H : Hp} {Q : VK} {E : XK} (h : sp_part_of vs H Q E) : vs.length = 3 := by
  obtain ⟨_, _, _, _, _, k, _⟩ := h
  exact k.len
theorem ok_part_of (T : TX K mg A) : Ok P w K mg base CX0 1 A.part_of ["ties", "begin", "some"] sp_part_of := by
  obtain ⟨fd, F⟩ := T.F_part_of
  refine ⟨fd, ?_, F.binds (ps := ["ties", "begin", "some"]) fun _ _ _ _ _ _ us hl => match us, hl with | [_, _, _], _ => rfl, F.kp⟩
  refine F.ok sc_part_of (fun vs H Q E h => len_part_of h) (fun cdv Ar outer s H vs Q E hr h => ?_)
  have nd := sc_part_of.nd
  have hu := hu_of hr
  obtain ⟨n, ts, b, B, eb, k, ⟨hb0, hb1, hn, hW, hl⟩, q⟩ := h
  match vs, k with
  | [v0, _, v2], .cons k0 (.cons (.int _) (.cons k2 .nil)) =>
  refine ⟨_, (pss_cons (ps_set (i := 3) nd rfl (by first | exact .inl rfl | exact .inr rfl) (pe_disp (pps_cons (pv 1) pe_bl pps_nil) (by rfl) (by rfl) (fun z => by cases z) (by decide))) (pss_cons (ps_set (i := 4) nd rfl (by first | exact .inl rfl | exact .inr rfl) (pe_lst (pa_cons (pv 1) pa_nil))) (pss_cons (ps_while PassesOwn.never (pt_cmpR (neDK K hr.units) (pv 4) (pe_lst pa_nil) (by first | exact nomark _ | rfl)) (pss_cons (ps_set (i := 5) nd rfl (by first | exact .inl rfl | exact .inr rfl) (bm0K K PySem.F.plainAttrs_list PySem.F.slot_list_pop PySem.F.type_list_pop mt_pop (pv 4))) (pss_one (ps_for PassesOwn.never rfl (listK K (pv 2)) (pg_name (i := 6) nd rfl (by first | exact .inl rfl | exact .inr rfl)) (pss_one (ps_if (pt_cmpR (in_seqK K) (pv 5) (pe_ix (ix_listK K) (pv 0) (pv 6) (fun _ _ => rfl)) (by first | exact nomark _ | rfl)) (pss_cons (ps_set (i := 7) nd rfl (by first | exact .inl rfl | exact .inr rfl) (pe_op op_sub (pe_op op_add (pe_ix (ix_tupK K) (pe_ix (ix_listK K) (pv 0) (pv 6) (fun _ _ => rfl)) pe_int (fun _ _ => rfl)) (pe_ix (ix_tupK K) (pe_ix (ix_listK K) (pv 0) (pv 6) (fun _ _ => rfl)) pe_int (fun _ _ => rfl))) (pv 5))) (pss_one (ps_if (pt_cmp (pc_dnotin hu (pv 7) (pv 3))) (pss_cons (ps_dput hu (pv 3) (pv 7) pe_bl rfl) (pss_one (ps_expr (bmK K PySem.F.plainAttrs_list PySem.F.slot_list_append PySem.F.type_list_append mt_append (pv 4) (pa_cons (pv 7) pa_nil))))) pss_nil))) pss_nil)))))) (pss_one (ps_ret (pe_callB (call_sortedDI rfl) (by rfl) T.n_sorted (by decide +kernel) (pa_cons (pv 3) pa_nil))))))), ?_⟩
  -- found = {begin: True}
  refine sq fun df hdf => ⟨.int b, rfl, upd_same, [(Sum.inl b, .bl true)], rfl, Nat.le_succ_of_le (Nat.le_of_ble_eq_true rfl), ?_⟩
  have f1 := ((Fr.start eb).made (o := .dK []) hdf).set0 (u := .dK (kvD [b]))
  refine q_asgN (B := B) (en_lst (eds_cons (edi f1.bh (ev_var (i := 1) rfl)) (eds_nil f1.bh))) fun ln xn B2 H2 g2 n2 nb2 h2 k2' => ?_
  have k2' : xn = [b].map V.int := DaAll.ints_inv (ns := [b]) k2'
  subst k2'
  have f2 := f1.take g2 n2 nb2 h2
  -- while waiting != []
  refine q_wh (fun m σ' H' => ∃ (B3 : Hp) (L N : List Int) (y5 y6 y7 : Option V), σ' = [some v0, some (.int b), some v2, some (.ref df), some (.ref ln), y5, y6, y7] ∧ Fr B H B3 H' [(ln, .lst (N.map V.int)), (df, .dK (kvD L))] ∧ PInv ts b L N ∧ m = 2 * (n.toNat - L.length) + N.length ∧ m ≤ 2 * n.toNat + 1) _ ⟨B2, [b], [b], none, none, none, rfl, f2, PInv.start ts b, rfl, by simp; omega⟩ ?_
  rintro m σ' H3 ⟨B3, L, N, y5, y6, y7, rfl, f, I, rfl, hmb⟩
  have tN := ev_neNil (K := K) (ed_var (σ := [some v0, some (.int b), some v2, some (.ref df), some (.ref ln), y5, y6, y7]) (n := 4) (Ex.refl H3) rfl (.lst f.get0 .ints)) (Ex.refl H3) (sh_ints N)
  rcases List.eq_nil_or_concat N with e | ⟨N', here, e⟩
  · subst e
    refine ⟨false, et_test (ev_is tN rfl), fun z => (nomatch z), fun _ H4 e4 => ?_⟩
    have f := (f.ev e4)
    have hd := f.get1
    refine s_retN (B := B3) (ds := (part n ts b).map PyData.int) (fun H1 e Q q => ⟨.ref df, rfl, df, kvD L, L, rfl, Rd.of (e _ _ hd), by unfold kvD; rw [List.map_map]; rfl, by have := I.len hW ⟨hb0, hb1⟩; omega, fun ys p pm sm hp => ?_⟩) fun p xs B' H2 g n0 nb hp kd => q p xs B' H2 (f.toGr.trans g) (base_none f.ex0 n0) nb hp kd
    rw [← I.sorted hW ⟨hb0, hb1⟩ pm sm] at q
    exact q p _ B3 _ (Gr.same (f.bh.trans e) (Ex.new hp)) hp (base_none (f.bh.trans e) hp) upd_same .ints
  · have e : N = N' ++ [here] := by rw [e, List.concat_eq_append]
    subst e
    refine ⟨true, et_test (ev_is tN (by simp)), fun _ H4 e4 => ?_, fun z => (nomatch z)⟩
    have f := f.ev e4
    have M0 := I.pop
    have hLl := I.len hW ⟨hb0, hb1⟩
    rw [List.length_append, List.length_singleton] at hmb
    refine q_popAsg (v := .int here) f.get0 (ev_var (i := 4) rfl) (by rw [List.map_append, List.length_append]; simp) fun H5 e5 => ?_
    have ed : ((N' ++ [here]).map V.int).dropLast = N'.map V.int := by rw [List.map_append]; simp
    rw [ed]
    have f := (f.ev e5).set0 (u := .lst (N'.map V.int))
    -- for at in some
    refine s_for (dt := natD) (B := B3) (P := (· = List.range ts.length)) (ei_list (K := K) (ed_var (n := 2) f.bh rfl (k2.ex f.eb)))
      (fun l B6 j σ' H' => ∃ (L1 N1 : List Int) (y6 y7 : Option V), σ' = [some v0, some (.int b), some v2, some (.ref df), some (.ref ln), some (.int here), y6, y7] ∧ Fr B H B6 H' [(ln, .lst (N1.map V.int)), (df, .dK (kvD L1))] ∧ PMid ts b L1 N1 here (fun i => i ∈ l.take j) ∧ 2 * (n.toNat - L1.length) + N1.length ≤ 2 * (n.toNat - L.length) + N'.length) ?_ ?_ ?_ ?_
    · rintro l B6 H6 rfl g6
      exact ⟨L, N', _, _, rfl, f.gr g6, M0.mono (fun i hi => by simp at hi), Nat.le_refl _⟩
    · rintro l B6 j σ' H' ⟨_, _, _, _, _, f, _⟩
      exact f.bh
    · rintro l B6 j i x B7 σ' H' H7 rfl hj ⟨L1, N1, y6, y7, rfl, f, M, hm⟩ g7 kx
      have eb6 := f.eb
      have kx : x = .int (i : Int) := kx.int_inv
      subst kx
      have f := f.gr g7
      have hil : i < ts.length := List.mem_range.mp (List.mem_of_getElem? hj)
      have ht : ts[i]? = some ts[i] := List.getElem?_eq_getElem hil
      obtain ⟨t, htt⟩ : ∃ t, t = ts[i] := ⟨_, rfl⟩
      rw [← htt] at ht
      have htk : (List.range ts.length).take (j + 1) = (List.range ts.length).take j ++ [i] := by rw [List.take_add_one, hj]; rfl
      have hq : ∀ m, m ∈ (List.range ts.length).take (j + 1) → m ∈ (List.range ts.length).take j ∨ m = i := fun m hm => by
        rw [htk] at hm
        exact (List.mem_append.mp hm).imp id fun z => List.mem_singleton.mp z
      have h0 := ed_var (σ := [some v0, some (.int b), some v2, some (.ref df), some (.ref ln), some (.int here), some (.int (i : Int)), y7]) (n := 0) f.bh rfl (k0.ex f.eb)
      have hat := ed_tie (K := K) h0 (ev_var (i := 6) rfl) rfl ht
      refine s_when (et_test (ev_has (K := K) (ev_var (i := 5) rfl) hat)) (fun hv H8 e8 => ?_) (fun hv H8 e8 => ?_)
      · have f := f.ev e8
        have h0 := ed_var (σ := [some v0, some (.int b), some v2, some (.ref df), some (.ref ln), some (.int here), some (.int (i : Int)), y7]) (n := 0) f.bh rfl (k0.ex f.eb)
        have hat := ed_tie (K := K) h0 (ev_var (i := 6) rfl) rfl ht
        refine q_asgV (ev_oth hat hat (ev_var (i := 5) rfl)) fun H9 e9 => ?_
        have f := f.ev e9
        refine s_when (et_test (ev_is (ev_dni (ev_var (i := 7) rfl) (ev_var (i := 3) rfl) f.get1) (by rw [kvD_in]))) (fun hb H9 e9 => ?_) (fun hb H9 e9 => ?_)
        · have hb : oth t here ∉ L1 := by simpa using hb
          have f := f.ev e9
          have M' := M.push hq ht hv hb
          have hL' := M'.len hW ⟨hb0, hb1⟩
          rw [List.length_append, List.length_singleton] at hL'
          refine sq ⟨.ref df, rfl, .int (oth t here), rfl, df, _, rfl, DPut.k (k := Sum.inl (oth t here)) f.get1 (sz_lt (by unfold kvD; rw [List.length_map]; omega)), ?_⟩
          rw [kvD_put hb]
          have f := f.set1 (u := .dK (kvD (L1 ++ [oth t here])))
          refine Evl.s_app (K := K) f.get0 (ev_var (i := 4) rfl) (ev_var (i := 7) rfl) (by rw [List.length_map]; omega) fun H11 e11 => ?_
          have f := (f.ev e11).set0 (u := .lst (N1.map V.int ++ [.int (oth t here)]))
          refine ⟨L1 ++ [oth t here], N1 ++ [oth t here], _, _, rfl, ?_, M', ?_⟩
          · rw [List.map_append]
            exact f.back eb6 g7.bb
          · rw [List.length_append, List.length_append, List.length_singleton]; omega
        · have hb : oth t here ∈ L1 := by simpa using hb
          exact ⟨L1, N1, _, _, rfl, (f.ev e9).back eb6 g7.bb, M.skip hq (fun u hu hvu => by rw [ht] at hu; cases hu; exact hb), hm⟩
      · exact ⟨L1, N1, _, _, rfl, (f.ev e8).back eb6 g7.bb, M.skip hq (fun u hu hvu => by rw [ht] at hu; cases hu; rw [hv] at hvu; cases hvu), hm⟩
    · rintro l B6 σ' H' rfl ⟨L1, N1, y6, y7, rfl, f, M, hm⟩
      rw [List.take_length] at M
      refine ⟨_, ?_, B6, L1, N1, _, _, _, rfl, f, M.done fun i t ht hv => List.mem_range.mpr (List.getElem?_eq_some_iff.mp ht).1, rfl, by omega⟩
      rw [List.length_append, List.length_singleton]; omega
/-! ### is_odd_part -/
def sp_is_odd_part : Sp := fun vs H Q _ => ∃ (n : Int) (ts : List Tie) (sm : List Int) (B : Hp), Ex B H ∧ DaAll B vs [.int n, tiesD ts, .list (sm.map PyData.int)] ∧ (n ≤ 60 ∧ Web n ts ∧ ts.length ≤ 1000 ∧ sm.length ≤ 1000) ∧ RetV H (.bl (oddP n ts sm)) Q
theorem len_is_odd_part {vs : List V} {H : Hp} {Q : VK} {E : XK} (h : sp_is_odd_part vs H Q E) : vs.length = 3 := by
  obtain ⟨_, _, _, _, _, k, _⟩ := h
  exact k.len
theorem ok_is_odd_part (T : TX K mg A) : Ok P w K mg base CX0 2 A.is_odd_part ["places", "ties", "some"] sp_is_odd_part := by
  obtain ⟨fd, F⟩ := T.F_is_odd_part
  obtain ⟨fd_part_of, G_part_of, B_part_of, K_part_of⟩ := ok_part_of (P := P) (w := w) (base := base) T
  refine ⟨fd, ?_, F.binds (ps := ["places", "ties", "some"]) fun _ _ _ _ _ _ us hl => match us, hl with | [_, _, _], _ => rfl, F.kp⟩
  refine F.ok sc_is_odd_part (fun vs H Q E h => len_is_odd_part h) (fun cdv Ar outer s H vs Q E hr h => ?_)
  have nd := sc_is_odd_part.nd
  have hu := hu_of hr
  obtain ⟨n, ts, sm, B, eb, k, ⟨hn, hW, hl, hs⟩, q⟩ := h
  match vs, k with
  | [_, v1, v2], .cons (.int _) (.cons k1 (.cons k2 .nil)) =>
  refine ⟨_, (pss_cons (ps_if (PW.pt (pw_or (pt_cmpR (eqDK K hr.units) (pv 2) (pe_lst pa_nil) (by first | exact nomark _ | rfl)) (pw_or1 (pt_not (pt_val (pe_callB (allK K rfl) (by rfl) T.n_all (by decide +kernel) (pa_cons (pe_lc (own := [("place", 4)]) (g := gName 4) (tt := tYes)  rfl nd  (listK K (pv 2)) (blkOk_by (by kernel_rfl)) (fun _ _ _ _ _ => (pg_name (i := 4) nd rfl (by first | exact .inl rfl | exact .inr rfl))) (fun _ _ _ _ _ => pts_nil) (fun _ _ _ _ _ => (pe_chain op_le op_lt pe_int (pv 4) (pv 0)))) pa_nil))))))) (pss_one (ps_ret pe_bl)) pss_nil) (pss_cons (ps_if (pt_cmpR (neDK K hr.units) (pv 2) (pe_call G_part_of (hr.mono (by decide)) (by rfl) T.g_part_of K_part_of B_part_of .nil pass0 (pa_cons (pv 1) (pa_cons (pe_ix (ix_listK K) (pv 2) pe_int (fun _ _ => rfl)) (pa_cons (pe_listRg rfl (by rfl) T.n_list (prg_1 (by rfl) T.n_range (pe_callB (lenK K) (by rfl) T.n_len PySem.boot_len (pa_cons (pv 1) pa_nil)))) pa_nil)))) (by first | exact nomark _ | rfl)) (pss_one (ps_ret pe_bl)) pss_nil) (pss_cons (ps_set (i := 3) nd rfl (by first | exact .inl rfl | exact .inr rfl) (pe_lc (own := [("tie", 5)]) (g := gName 5)  rfl nd  (listK K (pv 1)) (blkOk_by (by kernel_rfl)) (fun _ _ _ _ _ => (pg_name (i := 5) nd rfl (by first | exact .inl rfl | exact .inr rfl))) (fun _ _ _ _ _ => (pts_one (pt_cmpR (in_seqK K) (pe_ix (ix_tupK K) (pv 5) pe_int (fun _ _ => rfl)) (pv 2) (by first | exact nomark _ | rfl)))) (fun _ _ _ _ _ => (pv 5)))) (pss_cons (ps_if (pt_val (pe_callB (anyK K rfl) (by rfl) T.n_any (by decide +kernel) (pa_cons (pe_lc (own := [("place", 4)]) (g := gName 4) (tt := tYes)  rfl nd  (listK K (pv 2)) (blkOk_by (by kernel_rfl)) (fun _ _ _ _ _ => (pg_name (i := 4) nd rfl (by first | exact .inl rfl | exact .inr rfl))) (fun _ _ _ _ _ => pts_nil) (fun _ _ _ _ _ => (pe_cmpR op_eq (pe_op op_mod (pe_callB (lenK K) (by rfl) T.n_len PySem.boot_len (pa_cons (pe_lc (own := [("tie", 5)]) (g := gName 5)  rfl nd  (listK K (pv 3)) (blkOk_by (by kernel_rfl)) (fun _ _ _ _ _ => (pg_name (i := 5) nd rfl (by first | exact .inl rfl | exact .inr rfl))) (fun _ _ _ _ _ => (pts_one (pt_cmpR (in_seqK K) (pv 4) (pv 5) (by first | exact nomark _ | rfl)))) (fun _ _ _ _ _ => (pv 5))) pa_nil)) pe_int) pe_int (by first | exact nomark _ | rfl)))) pa_nil))) (pss_one (ps_ret pe_bl)) pss_nil) (pss_one (ps_ret (pe_cmpR op_eq (pe_op op_mod (pe_callB (lenK K) (by rfl) T.n_len PySem.boot_len (pa_cons (pv 3) pa_nil)) pe_int) pe_int (by first | exact nomark _ | rfl)))))))), ?_⟩
  have h2 : ∀ H', Ex H H' → EvD (tVar 2) (start ["places", "ties", "some", "inner", "place", "tie"] [.int n, v1, v2]) B H' (.list (sm.map PyData.int)) := fun H' e => ed_var (n := 2) (eb.trans e) rfl k2
  refine q_when (b := sm.isEmpty || !(sm.all fun p => decide (0 ≤ p) && decide (p < n))) (et_or (et_is (et_test (ev_eqNil (K := K) (h2 H (Ex.refl H)) eb (sh_ints sm))) (by cases sm <;> rfl)) fun hne => et_not (a := (sm.all fun p => decide (0 ≤ p) && decide (p < n))) (et_B (ev_is (ev_all (K := K) (B := B) (bs := sm.map fun p => decide (0 ≤ p) && decide (p < n)) ?_) ?_))) (fun hb H1 e1 => ?_) (fun hb H1 e1 => ?_)
  · rw [List.map_map]
    refine EvN.toD (en_lcA (dt := PyData.int) (l := sm) (fun p => .bool (decide (0 ≤ p) && decide (p < n))) (ei_list (K := K) (h2 H (Ex.refl H))) (by omega) fun a x B3 H3 _ e1 e2 e3 kx => ?_)
    obtain rfl := kx.int_inv
    exact edb e3 (ev_chain2 (f := fun i j => decide (i ≤ j)) (f' := fun i j => decide (i < j)) ev_c (ev_var (i := 4) rfl) (ev_var (i := 0) rfl))
  · rw [List.all_map]; rfl
  · refine Evl.s_ret (ev_c (v := .bl false)) fun H2 e2 => ?_
    have : oddP n ts sm = false := oddP_false fun z => by
      rcases Bool.or_eq_true_iff.mp hb with h | h
      · exact z.1 (List.isEmpty_iff.mp h)
      · have : (sm.all fun p => decide (0 ≤ p) && decide (p < n)) = true := List.all_eq_true.mpr fun p hp => by simp [z.2.1 p hp]
        rw [this] at h; cases h
    rw [← this]; exact q H2 (e1.trans e2)
  have hb := Bool.or_eq_false_iff.mp hb
  have hne : sm ≠ [] := fun e => by rw [e] at hb; cases hb.1
  have hall : ∀ p ∈ sm, 0 ≤ p ∧ p < n := fun p hp => by
    have h : (sm.all fun p => decide (0 ≤ p) && decide (p < n)) = true := by simpa using hb.2
    simpa using List.all_eq_true.mp h p hp
  obtain ⟨c, r, hcr⟩ : ∃ c r, sm = c :: r := by
    cases sm with
    | nil => exact absurd rfl hne
    | cons c r => exact ⟨c, r, rfl⟩
  have hc := hall c (by rw [hcr]; exact List.mem_cons_self)
  have hhd : sm.headD 0 = c := by rw [hcr]; rfl
  have eb1 := eb.trans e1
  refine q_when (b := !decide (sm = part n ts (sm.headD 0))) (et_is (et_test (ev_neD (K := K) (h2 H1 e1) (EvN.toD (en_call (eds_cons (ed_var (n := 1) eb1 rfl k1) (eds_cons (ed_ixL (K := K) (h2 H1 e1) ev_c (atD_nat (j := 0) (d := .int c) rfl (by rw [hcr]; rfl))) (eds_cons (EvN.toD (en_rg1 eb1 (ev_lenD (K := K) (ed_var (n := 1) eb1 rfl k1)) (by rw [List.length_map]; omega))) (eds_nil eb1)))) fun B6 H6 ws Q6 E6 e6 k6 q6 => ⟨n, ts, c, B6, e6, by rw [List.length_map] at k6; exact k6, ⟨hc.1, hc.2, hn, hW, hl⟩, q6⟩)) (sh_ints _).ok (sh_ints _).ok)) (by rw [eqv_ints, hhd])) (fun hb H2 e2 => ?_) (fun hb H2 e2 => ?_)
  · refine Evl.s_ret (ev_c (v := .bl false)) fun H3 e3 => ?_
    have : oddP n ts sm = false := oddP_false fun z => by
      rw [decide_eq_true z.2.2] at hb; cases hb
    rw [← this]; exact q H3 ((e1.trans e2).trans e3)
  have hd : sm = part n ts (sm.headD 0) := by simpa using hb
  have e12 := e1.trans e2
  have eb2 := eb.trans e12
  rw [oddP_inner hW hc (hd.trans (by rw [hhd])) hne hall hd] at q
  -- inner
  refine q_asgN (en_lc (dt := tieD) (l := ts) (fun t => decide (t.1 ∈ sm)) tieD (ei_list (K := K) (ed_var (n := 1) eb2 rfl k1)) (by omega) ?_ ?_) fun li xi B3 H3 g3 n3 nb3 h3 ki => ?_
  · intro t y B5 H5 _ f1 f2 f3 ky
    exact et_test (ev_inLi (K := K) (ev_t0 (ed_var (n := 5) f3 rfl ky)) (ed_var (n := 2) f3 rfl (k2.ex f2)))
  · intro t y B5 H5 _ f1 f2 f3 ky _
    exact ed_var (n := 5) f3 rfl ky
  have f3 := (Fr.start eb2).gr (fixD g3 n3 nb3 h3)
  have kI : ∀ B4, Ex (upd B3 li (.lst xi)) B4 → Da B4 (.ref li) (.list ((inner ts sm).map tieD)) := fun B4 e => .lst (e _ _ upd_same) (ki.ex ((Ex.new nb3).trans e))
  have hil : (inner ts sm).length ≤ ts.length := List.length_filter_le _ _
  refine q_when (b := sm.any fun p => decide (deg (inner ts sm) p % 2 = 1)) (et_B (ev_is (ev_any (K := K) (B := upd B3 li (.lst xi)) (bs := sm.map fun p => decide (deg (inner ts sm) p % 2 = 1)) ?_) ?_)) (fun hc H4 e4 => ?_) (fun hc H4 e4 => ?_)
  · rw [List.map_map]
    refine EvN.toD (en_lcA (dt := PyData.int) (l := sm) (fun p => .bool (decide (deg (inner ts sm) p % 2 = 1))) (ei_list (K := K) (ed_var (n := 2) f3.bh rfl (k2.ex f3.eb))) (by omega) fun a x B5 H5 _ f1 f2 f4 kx => ?_)
    obtain rfl := kx.int_inv
    refine edb f4 (ev_is (ev_eqI (ev_I (ev_lenD (K := K) (EvN.toD (en_lc (dt := tieD) (l := inner ts sm) (fun t => has t a) tieD (ei_list (K := K) (ed_var (n := 3) f4 rfl (kI _ f2))) (by omega) (fun t y B7 H7 _ _ g2 g3 ky => et_test (ev_has (K := K) (ev_var (i := 4) rfl) (ed_var (n := 5) g3 rfl ky))) (fun t y B7 H7 _ _ g2 g3 ky _ => ed_var (n := 5) g3 rfl ky)))) ev_c (C := fun _ j => 0 < j) (g := fun i j => .int (i % j)) (by decide)) (ev_c (v := .int 1))) ?_)
    rw [deg_len]
    congr 2
    apply propext; omega
  · rw [List.any_map]; rfl
  · refine Evl.s_ret (ev_c (v := .bl false)) fun H5 e5 => ?_
    rw [hc] at q
    exact q H5 (((e12.trans f3.ex0).trans e4).trans e5)
  · have f4 := f3.ev e4
    refine Evl.s_ret (ev_is (ev_eqI (ev_I (ev_lenD (K := K) (ed_var (n := 3) f4.bh rfl (kI _ (Ex.refl _)))) ev_c (C := fun _ j => 0 < j) (g := fun i j => .int (i % j)) (by decide)) (ev_c (v := .int 1))) ?_) fun H5 e5 => q H5 ((e12.trans f4.ex0).trans e5)
    rw [hc, List.length_map]
    simp only [Bool.not_false, Bool.true_and]
    congr 2
    apply propext; omega

end
end TW
set_option Elab.async false
set_option linter.all false
set_option maxRecDepth 100000
set_option maxHeartbeats 4000000
namespace TW
open PySem PySem.Spec PyProof.Rows L2 TM TB
open Evl (Ex Ex.refl Ex.trans Ex.new Ex.mut Ev EvT EvA ev_var ev_c ev_op rv_I0 rv_I rv_eq rv_ne et_test et_B et_and et_or et_not et_is ev_is sz_of sz_lt fresh_back)
section
variable {P : Program} {w : World} {K : PySem.W.Frag} {mg : Str → Option Value} {base : Heap} {A : Ad}
/-! ### counts -/
theorem ev_ifV {σ : L2.St} {H : Hp} {tt : TT} {ta tb : TE} {b : Bool} {v : V} (h : EvT tt σ H b) (h1 : b = true → Ev ta σ H v) (h2 : b = false → Ev tb σ H v) : Ev (tIf tt ta tb) σ H v := fun H1 e Q q => h H1 e _ fun H2 e2 => by
  cases b with
  | true => exact h1 rfl H2 (e.trans e2) Q fun H3 e3 => q H3 (e2.trans e3)
  | false => exact h2 rfl H2 (e.trans e2) Q fun H3 e3 => q H3 (e2.trans e3)
theorem q_asgF {σ : L2.St} {B H : Hp} {te : TE} {tz : TS} {Dn : Ends} {n i : Nat} {row : Nat → List V} (h : EvF te σ B H n row) (k : ∀ p as B' H', as.length = n → Fr B H B' H' (matL p as row) → tz Dn (σ.set i (some (.ref p))) H') : tSeq (tAsg te (gName i)) tz Dn σ H := h H (Ex.refl H) _ k
def cntL (l : List (Tie × Int)) (v c : Int) : Nat := l.countP fun p => has p.1 v && decide (p.2 = c)
def rowM (m : Nat) (M : Nat → Nat → Nat) (k : Nat) : List V := (List.range m).map fun c => V.int (M k c : Int)
theorem rowM_len (m : Nat) (M : Nat → Nat → Nat) (k : Nat) : (rowM m M k).length = m := by unfold rowM; rw [List.length_map, List.length_range]
theorem rowM_at {m c : Nat} (h : c < m) (M : Nat → Nat → Nat) (k : Nat) : (rowM m M k)[c]? = some (V.int (M k c : Int)) := by
  unfold rowM; rw [List.getElem?_map, List.getElem?_range h]; rfl
theorem rowM_set {m : Nat} {M : Nat → Nat → Nat} {k c x : Nat} : (rowM m M k).set c (.int (x : Int)) = rowM m (fun k' c' => if k' = k ∧ c' = c then x else M k' c') k := by
  unfold rowM
  apply List.ext_getElem?
  intro i
  rw [List.getElem?_set, List.getElem?_map, List.getElem?_map, List.length_map, List.length_range]
  by_cases hi : i < m
  · rw [List.getElem?_range hi]
    by_cases e : c = i
    · subst e; simp [hi]
    · have e' : ¬ i = c := fun z => e z.symm
      simp [e, e']
  · have : (List.range m)[i]? = none := by rw [List.getElem?_eq_none_iff, List.length_range]; omega
    rw [this]
    by_cases e : c = i
    · subst e; simp [hi]
    · simp [e]
theorem row_upd {m k : Nat} {M M' : Nat → Nat → Nat} {xs : List V} (h : xs = rowM m M' k) (o : ∀ j, j ≠ k → M' j = M j) : (fun j => if j = k then xs else rowM m M j) = rowM m M' := by
  funext j
  by_cases e : j = k
  · subst e; rw [if_pos rfl, h]
  · rw [if_neg e]; unfold rowM; rw [o j e]
theorem da_rows {B : Hp} : ∀ {as : List Addr} {d : Nat → PyData}, (∀ (i : Nat) (a : Addr), as[i]? = some a → Da B (.ref a) (d i)) → DaAll B (as.map V.ref) ((List.range as.length).map d)
  | [], _, _ => .nil
  | a :: as, d, h => by
    rw [List.length_cons, List.range_succ_eq_map, List.map_cons, List.map_cons, List.map_map]
    exact .cons (h 0 a rfl) (da_rows (d := d ∘ Nat.succ) fun i b hb => h (i + 1) b (by simpa using hb))
def rowsD (n many : Int) (ts : List Tie) (cs : List Int) : List PyData := (List.range n.toNat).map fun (v : Nat) => .list (((List.range many.toNat).map fun (c : Nat) => (cntAt ts cs (v : Int) (c : Int) : Int)).map PyData.int)
def sp_counts : Sp := fun vs H Q _ => ∃ (n : Int) (ts : List Tie) (cs : List Int) (many : Int) (B : Hp), Ex B H ∧ DaAll B vs [.int n, tiesD ts, .list (cs.map PyData.int), .int many] ∧
  (0 ≤ n ∧ n ≤ 1000 ∧ Web n ts ∧ ts.length ≤ 1000 ∧ 0 ≤ many ∧ many ≤ 1000 ∧ ∀ c ∈ cs, 0 ≤ c ∧ c < many) ∧ RetD B H (.list (rowsD n many ts cs)) Q
theorem len_counts {vs : List V} {H : Hp} {Q : VK} {E : XK} (h : sp_counts vs H Q E) : vs.length = 4 := by
  obtain ⟨_, _, _, _, _, _, k, _⟩ := h
  exact k.len
theorem ok_counts (T : TX K mg A) : Ok P w K mg base CX0 1 A.counts ["places", "ties", "colours", "many"] sp_counts := by
  obtain ⟨fd, F⟩ := T.F_counts
  refine ⟨fd, ?_, F.binds (ps := ["places", "ties", "colours", "many"]) fun _ _ _ _ _ _ us hl => match us, hl with | [_, _, _, _], _ => rfl, F.kp⟩
  refine F.ok sc_counts (fun vs H Q E h => len_counts h) (fun cdv Ar outer s H vs Q E hr h => ?_)
  have nd := sc_counts.nd
  have hu := hu_of hr
  obtain ⟨n, ts, cs, many, B, eb, k, ⟨hn0, hn1, hW, hl, hm0, hm1, hr⟩, q⟩ := h
  match vs, k with
  | [_, v1, v2, _], .cons (.int _) (.cons k1 (.cons k2 (.cons (.int _) .nil))) =>
  refine ⟨_, (pss_cons (ps_setLc (i := 4) (own := [("place", 7)]) (g := gName 7) (tt := tYes)  rfl nd rfl rfl (sw_true rfl rfl rfl (by decide +kernel))  (pi_range1 rfl T.n_range (pa_cons (pv 0) pa_nil)) (blkOk_by (by kernel_rfl)) (fun _ _ _ _ _ => (pg_name (i := 7) nd rfl (by first | exact .inl rfl | exact .inr rfl))) (fun _ _ _ _ _ => pts_nil) (fun _ _ _ _ _ => (pe_op op_rep (pe_lst (pa_cons pe_int pa_nil)) (pv 3)))) (pss_cons (ps_for PassesOwn.never rfl (zipK K (by rfl) T.n_zip (pa_cons (pv 1) (pa_cons (pv 2) pa_nil))) (gtupK K rfl (pgs_cons (pg_name (i := 5) nd rfl (by first | exact .inl rfl | exact .inr rfl)) (pgs_cons (pg_name (i := 6) nd rfl (by first | exact .inl rfl | exact .inr rfl)) pgs_nil))) (pss_one (ps_for PassesOwn.never rfl (tupK K (pv 5)) (pg_name (i := 7) nd rfl (by first | exact .inl rfl | exact .inr rfl)) (pss_one (ps_asg (pe_op op_add (pe_ix (ix_listK K) (pe_ix (ix_listK K) (pv 4) (pv 7) (fun _ _ => rfl)) (pv 6) (fun _ _ => rfl)) pe_int) (pg_sub (pe_ix (ix_listK K) (pv 4) (pv 7) (fun _ _ => rfl)) (pv 6) set_list)))))) (pss_one (ps_ret (pv 4))))), ?_⟩
  -- found
  refine q_asgF (B := B) (n := (List.range n.toNat).length) (row := fun _ => (List.replicate many.toNat (0 : Int)).map V.int) (en_lcF (dt := fun (k : Nat) => PyData.int (k : Int)) (l := List.range n.toNat) (zs := List.replicate many.toNat (0 : Int)) eb (ei_rg1 eb (ev_var (i := 0) rfl) ⟨hn0, by omega⟩) (by rw [List.length_range]; omega) fun a x B3 H3 _ e1 e2 e3 kx => ?_) fun lf as B1 H1 hal f1 => ?_
  · have h := en_rep (EvN.toD (en_lst (eds_cons (edi (σ := (wipe (start ["places", "ties", "colours", "many", "found", "tie", "colour", "place"] [.int n, v1, v2, .int many]) [7]).set 7 (some x)) e3 (ev_c (v := .int 0))) (eds_nil e3)))) (ev_var (i := 3) rfl) ⟨hm0, by omega⟩ (by simp; omega)
    have e : (List.replicate many.toNat [PyData.int 0]).flatten = (List.replicate many.toNat (0 : Int)).map PyData.int := by
      rw [List.map_replicate]
      induction many.toNat with
      | zero => rfl
      | succ m ih => rw [List.replicate_succ, List.flatten_cons, ih]; rfl
    rw [e] at h
    exact h
  rw [List.length_range] at hal
  have e0 : (fun _ : Nat => (List.replicate many.toNat (0 : Int)).map V.int) = rowM many.toNat (fun _ _ => 0) := by
    funext k
    unfold rowM
    rw [List.map_replicate]
    apply List.ext_getElem?
    intro i
    rw [List.getElem?_replicate, List.getElem?_map]
    by_cases hi : i < many.toNat
    · rw [if_pos hi, List.getElem?_range hi]; rfl
    · rw [if_neg hi, List.getElem?_eq_none (by rw [List.length_range]; omega)]; rfl
  rw [e0] at f1
  have f1 : Fr B H B1 H1 (matL lf as (rowM many.toNat fun _ _ => 0) ++ []) := by rw [List.append_nil]; exact f1
  -- for tie, colour in zip(ties, colours)
  refine q_for2 (K := K) (B := B1) (d1 := fun p : Tie × Int => tieD p.1) (d2 := fun p : Tie × Int => .int p.2) (P := (· = ts.zip cs)) (ei_zip (K := K) (ed_var (n := 1) f1.bh rfl (k1.ex f1.eb)) (ed_var (n := 2) f1.bh rfl (k2.ex f1.eb)))
    (fun l B2 i σ' H' => Ex B1 B2 ∧ ∃ (y5 y6 y7 : Option V), σ' = [some (.int n), some v1, some v2, some (.int many), some (.ref lf), y5, y6, y7] ∧ Fr B H B2 H' (matL lf as (rowM many.toNat fun k c => cntL (l.take i) (k : Int) (c : Int)) ++ [])) ?_ ?_ ?_ ?_
  · rintro l B2 H2 - g2
    exact ⟨g2.bb, none, none, none, rfl, f1.gr g2⟩
  · rintro l B2 i σ' H' ⟨_, _, _, _, _, f⟩
    exact f.bh
  · rintro l B2 i ⟨t, col⟩ x y B3 σ' H' H3 rfl hi ⟨e12, y5, y6, y7, rfl, f⟩ g3 kx ky
    obtain rfl := ky.int_inv
    have eb2 := f.eb
    have f3 := f.gr g3
    have hmem := List.of_mem_zip (List.mem_of_getElem? hi)
    have ht := hW t hmem.1
    have hcol := hr col hmem.2
    have htk : (ts.zip cs).take (i + 1) = (ts.zip cs).take i ++ [(t, col)] := by rw [List.take_add_one, hi]; rfl
    -- for place in tie
    refine s_for (B := B3) (dt := PyData.int) (P := (· = [t.1, t.2])) (ei_tup (K := K) (ed_var (n := 5) f3.bh rfl kx))
      (fun l2 B4 j σ' H' => Ex B3 B4 ∧ ∃ (y7 : Option V), σ' = [some (.int n), some v1, some v2, some (.int many), some (.ref lf), some x, some (.int col), y7] ∧ Fr B H B4 H' (matL lf as (rowM many.toNat fun k c => cntL ((ts.zip cs).take i) (k : Int) (c : Int) + (if (c : Int) = col then (l2.take j).count (k : Int) else 0)) ++ [])) ?_ ?_ ?_ ?_
    · rintro l2 B4 H4 - g4
      refine ⟨g4.bb, _, rfl, ?_⟩
      have : (fun (k c : Nat) => cntL ((ts.zip cs).take i) (k : Int) (c : Int) + (if (c : Int) = col then (l2.take 0).count (k : Int) else 0)) = fun (k c : Nat) => cntL ((ts.zip cs).take i) (k : Int) (c : Int) := by
        funext k c
        rw [List.take_zero, List.count_nil]; split <;> rfl
      rw [this]; exact f3.gr g4
    · rintro l2 B4 j σ' H' ⟨_, _, _, f⟩
      exact f.bh
    · rintro l2 B4 j pl z B5 σ' H' H5 rfl hj ⟨e34, y7, rfl, f⟩ g5 kz
      obtain rfl := kz.int_inv
      have eb4 := f.eb
      have f5 := f.gr g5
      have hpl : 0 ≤ pl ∧ pl < n := by
        have : pl = t.1 ∨ pl = t.2 := by simpa using List.mem_of_getElem? hj
        rcases this with e | e <;> rw [e] <;> omega
      obtain ⟨a, ha⟩ : ∃ a, as[pl.toNat]? = some a := ⟨as[pl.toNat]'(by omega), List.getElem?_eq_getElem (by omega)⟩
      have hA := f5.matGet ha
      have hT := f5.matTop
      have hrow : Ev (tOp (rIxL K) (tVar 4) (tVar 7)) [some (.int n), some v1, some v2, some (.int many), some (.ref lf), some x, some (.int col), some (.int pl)] H5 (.ref a) := ev_ixO (K := K) (ev_var (i := 4) rfl) hT (ev_var (i := 7) rfl) (by
        have h : atI (as.map V.ref) ((pl.toNat : Nat) : Int) = some (.ref a) := atI_nat (by rw [List.getElem?_map, ha]; rfl)
        rw [Int.toNat_of_nonneg hpl.1] at h; exact h)
      have hcm : col.toNat < many.toNat := by omega
      have hv := ev_ixO (K := K) hrow hA (ev_var (i := 6) rfl) (v := .int ((cntL ((ts.zip cs).take i) (pl.toNat : Int) (col.toNat : Int) + (if (col.toNat : Int) = col then ([t.1, t.2].take j).count (pl.toNat : Int) else 0) : Nat) : Int)) (by
        have h : atI (rowM many.toNat (fun k c => cntL ((ts.zip cs).take i) (k : Int) (c : Int) + (if (c : Int) = col then ([t.1, t.2].take j).count (k : Int) else 0)) pl.toNat) ((col.toNat : Nat) : Int) = _ := atI_nat (rowM_at hcm _ _)
        rw [Int.toNat_of_nonneg hcol.1] at h ⊢; exact h)
      refine Evl.s_setL (j := col.toNat) hA (ev_I0 (g := fun i j => .int (i + j)) hv (ev_c (v := .int 1))) hrow (by rw [Int.toNat_of_nonneg hcol.1]; exact ev_var (i := 6) rfl) (by rw [rowM_len]; exact hcm) fun H6 e6 => ?_
      have f6 := (f5.ev e6).matSet ha ((rowM many.toNat (fun k c => cntL ((ts.zip cs).take i) (k : Int) (c : Int) + (if (c : Int) = col then ([t.1, t.2].take j).count (k : Int) else 0)) pl.toNat).set col.toNat (.int (((cntL ((ts.zip cs).take i) (pl.toNat : Int) (col.toNat : Int) + (if (col.toNat : Int) = col then ([t.1, t.2].take j).count (pl.toNat : Int) else 0) : Nat) : Int) + 1)))
      refine ⟨e34, _, rfl, ?_⟩
      have tk2 : [t.1, t.2].take (j + 1) = [t.1, t.2].take j ++ [pl] := by rw [List.take_add_one, hj]; rfl
      rw [row_upd (M' := fun k c => cntL ((ts.zip cs).take i) (k : Int) (c : Int) + (if (c : Int) = col then ([t.1, t.2].take (j + 1)).count (k : Int) else 0))] at f6
      · exact f6.back eb4 g5.bb
      · have e1 : ∀ m : Nat, ((m : Int) + 1) = ((m + 1 : Nat) : Int) := fun m => by omega
        rw [e1, rowM_set]
        unfold rowM
        apply List.map_congr_left
        intro c _
        show V.int _ = V.int _
        congr 1
        simp only []
        have hz : ((pl.toNat : Nat) : Int) = pl := Int.toNat_of_nonneg hpl.1
        have hzc : ((col.toNat : Nat) : Int) = col := Int.toNat_of_nonneg hcol.1
        by_cases e : c = col.toNat
        · subst e
          rw [if_pos ⟨trivial, rfl⟩, if_pos hzc, if_pos hzc, tk2, List.count_append, hz]
          simp; omega
        · have : ¬ (c : Int) = col := fun z => e (by omega)
          rw [if_neg (fun z => e z.2), if_neg this, if_neg this]
      · intro k hk
        funext c
        congr 1
        rw [tk2, List.count_append]
        have : ¬ pl = (k : Int) := fun z => hk (by omega)
        have h0 : [pl].count (k : Int) = 0 := by rw [List.count_eq_zero]; simpa using fun z => this z.symm
        rw [h0, Nat.add_zero]
    · rintro l2 B4 σ' H' rfl ⟨e34, y7, rfl, f⟩
      refine ⟨e12, _, _, _, rfl, ?_⟩
      have : (fun (k c : Nat) => cntL ((ts.zip cs).take i) (k : Int) (c : Int) + (if (c : Int) = col then ([t.1, t.2].take [t.1, t.2].length).count (k : Int) else 0)) = fun (k c : Nat) => cntL ((ts.zip cs).take (i + 1)) (k : Int) (c : Int) := by
        funext k c
        rw [htk, List.take_length]
        unfold cntL
        rw [List.countP_append]
        congr 1
        have hc2 : [t.1, t.2].count (k : Int) = if has t (k : Int) = true then 1 else 0 := by
          rw [List.count_cons, List.count_cons, List.count_nil]
          have ne : ¬ t.1 = t.2 := by omega
          by_cases h1 : t.1 = (k : Int)
          · have h2 : ¬ t.2 = (k : Int) := fun z => ne (h1.trans z.symm)
            have : has t (k : Int) = true := has_iff.mpr (.inl h1.symm)
            simp [h1, h2, this]
          · by_cases h2 : t.2 = (k : Int)
            · have : has t (k : Int) = true := has_iff.mpr (.inr h2.symm)
              simp [h1, h2, this]
            · have : has t (k : Int) = false := by
                cases q : has t (k : Int) with
                | false => rfl
                | true => rcases has_iff.mp q with z | z
                          · exact absurd z.symm h1
                          · exact absurd z.symm h2
              simp [h1, h2, this]
        rw [hc2, List.countP_cons, List.countP_nil]
        by_cases e : (c : Int) = col
        · rw [if_pos e, e]; cases has t (k : Int) <;> simp
        · have e' : ¬ col = (c : Int) := fun z => e z.symm
          rw [if_neg e, decide_eq_false e']; simp
      rw [this] at f
      exact f.back eb2 (g3.bb.trans e34)
  rintro l B2 σ' H' rfl ⟨e12, y5, y6, y7, rfl, f⟩
  rw [List.take_length, List.append_nil] at f
  have fa := f.all eb
  refine s_retD (ed_var (n := 4) (d := .list (rowsD n many ts cs)) fa.bh rfl (.lst (f.allO (q := (lf, .lst (as.map V.ref))) List.mem_cons_self) ?_)) fun v B3 H3 g k => q v B3 H3 (fa.toGr.trans g) k
  unfold rowsD
  rw [← hal]
  refine da_rows fun i a ha => ?_
  have hm := f.allO (List.mem_of_getElem? (mat_at (p := lf) (row := rowM many.toNat fun k c => cntL (ts.zip cs) (k : Int) (c : Int)) ha))
  refine .lst hm ?_
  unfold rowM
  have : ((List.range many.toNat).map fun (c : Nat) => V.int ((cntL (ts.zip cs) (i : Int) (c : Int) : Nat) : Int)) = ((List.range many.toNat).map fun (c : Nat) => (cntAt ts cs (i : Int) (c : Int) : Int)).map V.int := by rw [List.map_map]; rfl
  show DaAll _ ((List.range many.toNat).map fun (c : Nat) => V.int ((cntL (ts.zip cs) (i : Int) (c : Int) : Nat) : Int)) _
  rw [this]
  exact .ints

end
end TW
set_option Elab.async false
set_option linter.all false
set_option maxRecDepth 100000
set_option maxHeartbeats 4000000
namespace TW
open PySem PySem.Spec PyProof.Rows L2 TM TB
open Evl (Ex Ex.refl Ex.trans Ex.new Ex.mut Ev EvT EvA ev_var ev_c ev_op rv_I0 rv_I rv_eq rv_ne et_test et_B et_and et_or et_not et_is ev_is sz_of sz_lt fresh_back)
section
variable {P : Program} {w : World} {K : PySem.W.Frag} {mg : Str → Option Value} {base : Heap} {A : Ad}
/-! ### way_up, closed -/
def byD (by_ : Int → Option Nat) (n : Int) : List PyData := ((List.range n.toNat).map fun (v : Nat) => (by_ (v : Int)).map fun (i : Nat) => (i : Int)).map optD
theorem byD_at {by_ : Int → Option Nat} {n v : Int} (h0 : 0 ≤ v) (h1 : v < n) : atD (byD by_ n) v = some (optD ((by_ v).map fun (i : Nat) => (i : Int))) := by
  refine atD_nat (j := v.toNat) (by omega) ?_
  unfold byD
  rw [List.getElem?_map, List.getElem?_map, List.getElem?_range (by omega)]
  show some (optD ((by_ ((v.toNat : Nat) : Int)).map _)) = _
  rw [Int.toNat_of_nonneg h0]
theorem _root_.TM.Up.rng {n : Int} {ts : List Tie} {by_ : Int → Option Nat} (w : Web n ts) {v : Int} {p : List Nat} {r : Int} (h : Up ts by_ v p r) (hv : 0 ≤ v ∧ v < n) : ∀ i ∈ p, i < ts.length := h.lt
theorem s_retOwn {σ : L2.St} {B H B' H' : Hp} {R : List (Addr × HO)} {lf : Addr} {xs : List V} {ds : List PyData} {Dn : Ends} {i : Nat} (f : Fr B H B' H' ((lf, .lst xs) :: R)) (hs : σ[i]? = some (some (.ref lf))) (k : DaAll B' xs ds) (q : RetN B H ds Dn.rt) : tRet (tVar i) Dn σ H' := by
  obtain ⟨o1, o2, o3⟩ := f.own _ List.mem_cons_self
  exact ⟨.ref lf, hs, q lf xs B' H' f.toGr o1 o2 o3 k⟩
theorem DaAll.nats_inv {H : Hp} : ∀ {ns : List Nat} {xs : List V}, DaAll H xs (ns.map natD) → xs = ns.map natV
  | [], _, .nil => rfl
  | n :: ns, _, .cons h t => by rw [show _ = V.int (n : Int) from h.int_inv, DaAll.nats_inv t]; rfl
def sp_way_up : Sp := fun vs H Q _ => ∃ (n : Int) (ts : List Tie) (by_ : Int → Option Nat) (v r : Int) (p : List Nat) (B : Hp), Ex B H ∧ DaAll B vs [tiesD ts, .list (byD by_ n), .int v] ∧ (0 ≤ v ∧ v < n ∧ Web n ts ∧ ts.length ≤ 1000 ∧ p.length ≤ 1000 ∧ Up ts by_ v p r) ∧ RetN B H (p.map natD) Q
theorem len_way_up {vs : List V} {H : Hp} {Q : VK} {E : XK} (h : sp_way_up vs H Q E) : vs.length = 3 := by
  obtain ⟨_, _, _, _, _, _, _, _, k, _⟩ := h
  exact k.len
theorem ok_way_up (T : TX K mg A) : Ok P w K mg base CX0 1 A.way_up ["ties", "by", "place"] sp_way_up := by
  obtain ⟨fd, F⟩ := T.F_way_up
  refine ⟨fd, ?_, F.binds (ps := ["ties", "by", "place"]) fun _ _ _ _ _ _ us hl => match us, hl with | [_, _, _], _ => rfl, F.kp⟩
  refine F.ok sc_way_up (fun vs H Q E h => len_way_up h) (fun cdv Ar outer s H vs Q E hr h => ?_)
  have nd := sc_way_up.nd
  have hu := hu_of hr
  obtain ⟨n, ts, by_, v, r, p, B, eb, k, ⟨hv0, hv1, hW, hl, hpl, hup⟩, q⟩ := h
  match vs, k with
  | [v0, v1, _], .cons k0 (.cons k1 (.cons (.int _) .nil)) =>
  refine ⟨_, (pss_cons (ps_set (i := 3) nd rfl (by first | exact .inl rfl | exact .inr rfl) (pe_lst pa_nil)) (pss_cons (ps_while PassesOwn.never (pt_cmp (pc_notN (pe_ix (ix_listK K) (pv 1) (pv 2) (fun _ _ => rfl)))) (pss_cons (ps_expr (bmK K PySem.F.plainAttrs_list PySem.F.slot_list_append PySem.F.type_list_append mt_append (pv 3) (pa_cons (pe_ix (ix_listK K) (pv 1) (pv 2) (fun _ _ => rfl)) pa_nil))) (pss_one (ps_set (i := 2) nd rfl (by first | exact .inl rfl | exact .inr rfl) (pe_op op_sub (pe_op op_add (pe_ix (ix_tupK K) (pe_ix (ix_listK K) (pv 0) (pe_ix (ix_listK K) (pv 1) (pv 2) (fun _ _ => rfl)) (fun _ _ => rfl)) pe_int (fun _ _ => rfl)) (pe_ix (ix_tupK K) (pe_ix (ix_listK K) (pv 0) (pe_ix (ix_listK K) (pv 1) (pv 2) (fun _ _ => rfl)) (fun _ _ => rfl)) pe_int (fun _ _ => rfl))) (pv 2)))))) (pss_one (ps_ret (pv 3))))), ?_⟩
  refine q_asgN (en_nil eb) fun lf xf B1 H1 g1 n1 nb1 h1 kf => ?_
  cases kf
  have f1 := (Fr.start eb).take g1 n1 nb1 h1
  refine q_wh (fun m σ' H' => ∃ (B2 : Hp) (u : Int) (d e : List Nat), σ' = [some v0, some v1, some (.int u), some (.ref lf)] ∧ Fr B H B2 H' [(lf, .lst (d.map natV))] ∧ p = d ++ e ∧ 0 ≤ u ∧ u < n ∧ Up ts by_ u e r ∧ m = e.length) _ ⟨B1, v, [], p, rfl, f1, rfl, hv0, hv1, hup, rfl⟩ ?_
  rintro m σ' H2 ⟨B2, u, d, e, rfl, f, he, hu0, hu1, hue, rfl⟩
  have hby : ∀ H3, Ex H2 H3 → EvD (tOp (rIxL K) (tVar 1) (tVar 2)) [some v0, some v1, some (.int u), some (.ref lf)] B2 H3 (optD ((by_ u).map fun (i : Nat) => (i : Int))) := fun H3 x => ed_ixL (K := K) (ed_var (n := 1) (f.bh.trans x) rfl (k1.ex f.eb)) (ev_var (i := 2) rfl) (byD_at hu0 hu1)
  have hev : ∀ H3, Ex H2 H3 → Ev (tOp (rIxL K) (tVar 1) (tVar 2)) [some v0, some v1, some (.int u), some (.ref lf)] H3 (optV ((by_ u).map fun (i : Nat) => (i : Int))) := fun H3 x => by
    have h := hby H3 x
    cases z : by_ u with
    | none => rw [z] at h; exact ev_non h
    | some i => rw [z] at h; exact ev_int h
  cases hue with
  | root hn =>
    refine ⟨false, et_test (ev_is (ev_notN (hev H2 (Ex.refl _))) (by rw [hn]; rfl)), fun z => (nomatch z), fun _ H3 e3 => ?_⟩
    rw [List.append_nil] at he
    subst he
    exact s_retOwn (f.ev e3) rfl .nats q
  | @step _ _ i t e' h1 h2 h3 h4 =>
    refine ⟨true, et_test (ev_is (ev_notN (hev H2 (Ex.refl _))) (by rw [h1]; rfl)), fun _ H3 e3 => ?_, fun z => (nomatch z)⟩
    have hix : ∀ H4, Ex H2 H4 → Ev (tOp (rIxL K) (tVar 1) (tVar 2)) [some v0, some v1, some (.int u), some (.ref lf)] H4 (.int (i : Int)) := fun H4 x => by
      have h := hev H4 x
      rw [h1] at h; exact h
    have f3 := f.ev e3
    have hdl : d.length + 1 ≤ 1000 := by
      have := congrArg List.length he
      rw [List.length_append, List.length_cons] at this; omega
    refine q_app (K := K) f3.get0 (ev_var (i := 3) rfl) (hix H3 e3) (by rw [List.length_map]; omega) fun H4 e4 => ?_
    have f4 := (f3.ev e4).set0 (u := .lst (d.map natV ++ [.int (i : Int)]))
    have hby' : EvD (tOp (rIxL K) (tVar 1) (tVar 2)) [some v0, some v1, some (.int u), some (.ref lf)] B2 (upd H4 lf (.lst (d.map natV ++ [.int (i : Int)]))) (optD ((by_ u).map fun (i : Nat) => (i : Int))) := ed_ixL (K := K) (ed_var (n := 1) f4.bh rfl (k1.ex f4.eb)) (ev_var (i := 2) rfl) (byD_at hu0 hu1)
    rw [h1] at hby'
    have hat := ed_tie (K := K) (ed_var (n := 0) f4.bh rfl (k0.ex f4.eb)) (ev_int hby') rfl h2
    refine Evl.s_asg (ev_oth hat hat (ev_var (i := 2) rfl)) fun H5 e5 => ?_
    have hr := hW.lt (List.mem_of_getElem? h2) (has_oth h3)
    refine ⟨e'.length, by rw [List.length_cons]; omega, B2, oth t u, d ++ [i], e', rfl, ?_, by rw [he, List.append_assoc]; rfl, hr.1, hr.2, h4, rfl⟩
    rw [List.map_append]
    exact f4.ev e5
/-! closed -/
theorem q_parN {σ : L2.St} {B H : Hp} {ta tb : TE} {tz : TS} {Dn : Ends} {i j : Nat} {d1 d2 : List PyData} (eb : Ex B H) (ha : EvN ta σ B H d1) (hb : ∀ B' H', Ex B B' → Ex B' H' → Ex H H' → EvN tb σ B' H' d2)
    (k : ∀ p q xs ys B' H', Fr B H B' H' [(q, .lst ys), (p, .lst xs)] → DaAll B' xs d1 → DaAll B' ys d2 → tz Dn ((σ.set i (some (.ref p))).set j (some (.ref q))) H') : tSeq (tPar i j (tCons ta (tCons tb tNil))) tz Dn σ H :=
  ha H (Ex.refl H) _ fun p xs B1 H1 g1 n1 nb1 h1 k1 => hb B1 H1 g1.bb g1.bh g1.hh H1 (Ex.refl H1) _ fun q ys B2 H2 g2 n2 nb2 h2 k2 => by
    have f1 := (Fr.start eb).take g1 n1 nb1 h1
    have f2 := f1.take g2 n2 nb2 h2
    exact ⟨.ref p, .ref q, rfl, k p q xs ys B2 H2 f2 (k1.ex g2.bb) k2⟩
def sp_closed : Sp := fun vs H Q _ => ∃ (n : Int) (ts : List Tie) (by_ : Int → Option Nat) (here there cur : Int) (i : Nat) (t : Tie) (p q : List Nat) (B : Hp), Ex B H ∧ DaAll B vs [tiesD ts, .list (byD by_ n), .int here, .int there, natD i] ∧
  (Web n ts ∧ ts.length ≤ 1000 ∧ p.length ≤ 1000 ∧ q.length ≤ 1000 ∧ ts[i]? = some t ∧ has t here = true ∧ oth t here = there ∧ Up ts by_ here p cur ∧ Up ts by_ there q cur ∧ p.length % 2 = q.length % 2) ∧ RetM B H (fun ds => ∃ ks : List Nat, ds = ks.map natD ∧ ringP ts (ks.map fun (j : Nat) => (j : Int)) = true ∧ ks.length ≤ 3000) Q
theorem len_closed {vs : List V} {H : Hp} {Q : VK} {E : XK} (h : sp_closed vs H Q E) : vs.length = 5 := by
  obtain ⟨_, _, _, _, _, _, _, _, _, _, _, _, k, _⟩ := h
  exact k.len
theorem natV_last {m : List Nat} {x : Nat} : (m ++ [x]).map natV = m.map natV ++ [.int (x : Int)] := by rw [List.map_append]; rfl
theorem ok_closed (T : TX K mg A) : Ok P w K mg base CX0 2 A.closed ["ties", "by", "here", "there", "at"] sp_closed := by
  obtain ⟨fd, F⟩ := T.F_closed
  obtain ⟨fd_way_up, G_way_up, B_way_up, K_way_up⟩ := ok_way_up (P := P) (w := w) (base := base) T
  refine ⟨fd, ?_, F.binds (ps := ["ties", "by", "here", "there", "at"]) fun _ _ _ _ _ _ us hl => match us, hl with | [_, _, _, _, _], _ => rfl, F.kp⟩
  refine F.ok sc_closed (fun vs H Q E h => len_closed h) (fun cdv Ar outer s H vs Q E hr h => ?_)
  have nd := sc_closed.nd
  have hu := hu_of hr
  obtain ⟨n, ts, by_, here, there, cur, i, t, p, q, B, eb, k, ⟨hW, hl, hp, hq, ht, hh, ho, up, uq, hpq⟩, ret⟩ := h
  match vs, k with
  | [v0, v1, _, _, _], .cons k0 (.cons k1 (.cons (.int _) (.cons (.int _) (.cons (.int _) .nil)))) =>
  refine ⟨_, (pss_cons (ps_par (i := 5) (j := 6) (by rfl) nd rfl rfl (by decide) rfl rfl (pa_cons (pe_call G_way_up (hr.mono (by decide)) (by rfl) T.g_way_up K_way_up B_way_up .nil pass0 (pa_cons (pv 0) (pa_cons (pv 1) (pa_cons (pv 2) pa_nil)))) (pa_cons (pe_call G_way_up (hr.mono (by decide)) (by rfl) T.g_way_up K_way_up B_way_up .nil pass0 (pa_cons (pv 0) (pa_cons (pv 1) (pa_cons (pv 3) pa_nil)))) pa_nil)) (by rfl)) (pss_cons (ps_while PassesOwn.never (PW.pt (pw_and (pt_cmpR (neDK K hr.units) (pv 5) (pe_lst pa_nil) (by first | exact nomark _ | rfl)) (pw_and (pt_cmpR (neDK K hr.units) (pv 6) (pe_lst pa_nil) (by first | exact nomark _ | rfl)) (pw_and1 (pt_cmpR op_eq (pe_ix (ix_listK K) (pv 5) (pe_un un_neg pe_int) (fun _ _ => rfl)) (pe_ix (ix_listK K) (pv 6) (pe_un un_neg pe_int) (fun _ _ => rfl)) (by first | exact nomark _ | rfl)))))) (pss_cons (ps_expr (bm0K K PySem.F.plainAttrs_list PySem.F.slot_list_pop PySem.F.type_list_pop mt_pop (pv 5))) (pss_one (ps_expr (bm0K K PySem.F.plainAttrs_list PySem.F.slot_list_pop PySem.F.type_list_pop mt_pop (pv 6)))))) (pss_one (ps_ret (pe_op op_cat (pe_op op_cat (pe_lst (pa_cons (pv 4) pa_nil)) (pv 6)) (revLK K (pv 5))))))), ?_⟩
  have rh := hW.lt (List.mem_of_getElem? ht) hh
  have rt := hW.lt (List.mem_of_getElem? ht) (has_oth hh)
  rw [ho] at rt
  refine q_parN eb (en_call (eds_cons (ed_var (n := 0) eb rfl k0) (eds_cons (ed_var (n := 1) eb rfl k1) (eds_cons (edi eb (ev_var (i := 2) rfl)) (eds_nil eb)))) fun B6 H6 ws Q6 E6 e6 k6 q6 => ⟨n, ts, by_, here, cur, p, B6, e6, k6, ⟨rh.1, rh.2, hW, hl, hp, up⟩, q6⟩)
    (fun B' H' b1 b2 b3 => en_call (eds_cons (ed_var (n := 0) b2 rfl (k0.ex b1)) (eds_cons (ed_var (n := 1) b2 rfl (k1.ex b1)) (eds_cons (edi b2 (ev_var (i := 3) rfl)) (eds_nil b2)))) fun B6 H6 ws Q6 E6 e6 k6 q6 => ⟨n, ts, by_, there, cur, q, B6, e6, k6, ⟨rt.1, rt.2, hW, hl, hq, uq⟩, q6⟩) fun lm lt xs ys B1 H1 f1 kx ky => ?_
  have kx := DaAll.nats_inv kx
  have ky := DaAll.nats_inv ky
  subst kx ky
  refine q_wh (fun m σ' H' => ∃ (B2 : Hp) (a b c : List Nat), σ' = [some v0, some v1, some (.int here), some (.int there), some (.int (i : Int)), some (.ref lm), some (.ref lt)] ∧ Fr B H B2 H' [(lt, .lst (b.map natV)), (lm, .lst (a.map natV))] ∧ p = a ++ c ∧ q = b ++ c ∧ m = a.length) _ ⟨B1, p, q, [], rfl, f1, (List.append_nil p).symm, (List.append_nil q).symm, rfl⟩ ?_
  rintro m σ' H2 ⟨B2, a, b, c, rfl, f, ep, eq, rfl⟩
  have tA := ev_neNil (K := K) (ed_var (σ := [some v0, some v1, some (.int here), some (.int there), some (.int (i : Int)), some (.ref lm), some (.ref lt)]) (n := 5) (Ex.refl H2) rfl (.lst f.get1 .nats)) (Ex.refl H2) (sh_nats a)
  have tB := ev_neNil (K := K) (ed_var (σ := [some v0, some v1, some (.int here), some (.int there), some (.int (i : Int)), some (.ref lm), some (.ref lt)]) (n := 6) (Ex.refl H2) rfl (.lst f.get0 .nats)) (Ex.refl H2) (sh_nats b)
  -- what is told behind the loop
  have hal : a.length ≤ 1000 := by have := congrArg List.length ep; rw [List.length_append] at this; omega
  have hbl : b.length ≤ 1000 := by have := congrArg List.length eq; rw [List.length_append] at this; omega
  have fin : ∀ (Dx : Ends), Dx.rt = Q → (∀ x, a.getLast? = some x → b.getLast? ≠ some x) → ∀ H3, Ex H2 H3 → tRet (tOp rCat (tOp rCat (tLst (tCons (tVar 4) tNil)) (tVar 6)) (tRevL K (tVar 5))) Dx [some v0, some v1, some (.int here), some (.int there), some (.int (i : Int)), some (.ref lm), some (.ref lt)] H3 := fun Dx hD hs H3 e3 => by
    have f3 := (f.ev e3)
    have ea : Ex H3 H3 := Ex.refl H3
    have hring := SInv.ring ht hh ho up uq hpq ep eq hs
    have fx := f3.fix
    have fy := fx.fix
    refine s_retN (B := upd (upd B2 lt (.lst (b.map natV))) lm (.lst (a.map natV))) (en_cat (EvN.toD (en_cat (EvN.toD (en_lst (eds_cons (edi fy.bh (ev_var (i := 4) rfl)) (eds_nil fy.bh)))) (ed_var (n := 6) fy.bh rfl (.lst (fx.fixed _ _ upd_same) .nats)) (by rw [List.length_map]; simp; omega))) (EvN.toD (en_rev (K := K) (ed_var (n := 5) fy.bh rfl (.lst upd_same .nats)))) (by rw [List.length_append, List.length_map, List.length_reverse, List.length_map]; simp; omega)) ?_
    rw [hD]
    have e : [PyData.int (i : Int)] ++ b.map natD ++ (a.map natD).reverse = (i :: (b ++ a.reverse)).map natD := by
      rw [List.map_cons, List.map_append, List.map_reverse]; rfl
    rw [e]
    intro pp zs B' H4 g n0 nb hz kd
    refine ret _ pp zs B' H4 ⟨i :: (b ++ a.reverse), rfl, hring, ?_⟩ (fy.toGr.trans g) (base_none fy.ex0 n0) nb hz kd
    rw [List.length_cons, List.length_append, List.length_reverse]; omega
  rcases List.eq_nil_or_concat a with e | ⟨a', x, e⟩
  · subst e
    refine ⟨false, et_and (a := false) (b := true) (et_is (et_test tA) rfl) fun z => (nomatch z), fun z => (nomatch z), fun _ H3 e3 => fin _ rfl (fun x z => (nomatch z)) H3 e3⟩
  have e : a = a' ++ [x] := by rw [e, List.concat_eq_append]
  subst e
  rcases List.eq_nil_or_concat b with e | ⟨b', y, e⟩
  · subst e
    refine ⟨false, et_and (a := true) (b := false) (et_is (et_test tA) (by simp)) fun _ => et_and (a := false) (b := true) (et_is (et_test tB) rfl) fun z => (nomatch z), fun z => (nomatch z), fun _ H3 e3 => fin _ rfl (fun x _ z => (nomatch z)) H3 e3⟩
  have e : b = b' ++ [y] := by rw [e, List.concat_eq_append]
  subst e
  have hA : ∀ H3, Ex H2 H3 → Ev (tOp (rIxL K) (tVar 5) (tUn (rU fun i => .int (-i)) (tC (.int 1)))) [some v0, some v1, some (.int here), some (.int there), some (.int (i : Int)), some (.ref lm), some (.ref lt)] H3 (.int (x : Int)) := fun H3 e3 => ev_ixO (K := K) (ev_var (i := 5) rfl) (e3 _ _ f.get1) (ev_neg ev_c) (by rw [natV_last]; exact atI_last _ _)
  have hB : ∀ H3, Ex H2 H3 → Ev (tOp (rIxL K) (tVar 6) (tUn (rU fun i => .int (-i)) (tC (.int 1)))) [some v0, some v1, some (.int here), some (.int there), some (.int (i : Int)), some (.ref lm), some (.ref lt)] H3 (.int (y : Int)) := fun H3 e3 => ev_ixO (K := K) (ev_var (i := 6) rfl) (e3 _ _ f.get0) (ev_neg ev_c) (by rw [natV_last]; exact atI_last _ _)
  refine ⟨decide ((x : Int) = (y : Int)), et_is (et_and (a := true) (b := decide ((x : Int) = (y : Int))) (et_is (et_test tA) (by simp)) fun _ => et_is (et_and (a := true) (b := decide ((x : Int) = (y : Int))) (et_is (et_test tB) (by simp)) fun _ => et_test (ev_eqI (hA H2 (Ex.refl _)) (hB H2 (Ex.refl _)))) (Bool.true_and _)) (Bool.true_and _), fun hb H3 e3 => ?_, fun hb H3 e3 => ?_⟩
  · have hxy : x = y := by have := of_decide_eq_true hb; omega
    subst hxy
    have f3 := f.ev e3
    refine q_popDrop (K := K) (v := .int (x : Int)) f3.get1 (ev_var (i := 5) rfl) (by rw [natV_last, List.length_append]; simp) fun H4 e4 => ?_
    have ed : ∀ z : List Nat, ((z ++ [x]).map natV).dropLast = z.map natV := fun z => by rw [natV_last, List.dropLast_concat]
    rw [ed]
    have f4 := (f3.ev e4).set1 (u := .lst (a'.map natV))
    refine s_popDrop (K := K) (v := .int (x : Int)) f4.get0 (ev_var (i := 6) rfl) (by rw [natV_last, List.length_append]; simp) fun H5 e5 => ?_
    rw [ed]
    have f5 := (f4.ev e5).set0 (u := .lst (b'.map natV))
    exact ⟨a'.length, by rw [List.length_append, List.length_singleton]; omega, B2, a', b', [x] ++ c, rfl, f5, by rw [ep, List.append_assoc], by rw [eq, List.append_assoc], rfl⟩
  · have hxy := of_decide_eq_false hb
    refine fin _ rfl (fun z h1 h2 => ?_) H3 e3
    rw [List.getLast?_concat] at h1 h2
    cases h1
    have := Option.some.inj h2
    exact hxy (by rw [this])

end
end TW
set_option Elab.async false
set_option linter.all false
set_option maxRecDepth 100000
set_option maxHeartbeats 4000000
namespace TW
open PySem PySem.Spec PyProof.Rows L2 TM TB
open Evl (Ex Ex.refl Ex.trans Ex.new Ex.mut Ev EvT EvA ev_var ev_c ev_op rv_I0 rv_I rv_eq rv_ne et_test et_B et_and et_or et_not et_is ev_is sz_of sz_lt fresh_back)
section
variable {P : Program} {w : World} {K : PySem.W.Frag} {mg : Str → Option Value} {base : Heap} {A : Ad}
/-! ### odd_ring -/
def colV (f : Int → Option Int) (n : Int) : List V := ((List.range n.toNat).map fun (v : Nat) => f (v : Int)).map optV
theorem colV_len (f : Int → Option Int) (n : Int) : (colV f n).length = n.toNat := by unfold colV; rw [List.length_map, List.length_map, List.length_range]
theorem colV_get (f : Int → Option Int) {n v : Int} (h0 : 0 ≤ v) (h1 : v < n) : (colV f n)[v.toNat]? = some (optV (f v)) := by
  unfold colV
  rw [List.getElem?_map, List.getElem?_map, List.getElem?_range (by omega)]
  show some (optV (f ((v.toNat : Nat) : Int))) = _
  rw [Int.toNat_of_nonneg h0]
theorem colV_at (f : Int → Option Int) {n v : Int} (h0 : 0 ≤ v) (h1 : v < n) : atI (colV f n) v = some (optV (f v)) := by
  have h : atI (colV f n) ((v.toNat : Nat) : Int) = some (optV (f v)) := atI_nat (colV_get f h0 h1)
  rw [Int.toNat_of_nonneg h0] at h; exact h
theorem colV_set (f : Int → Option Int) {n v : Int} (h0 : 0 ≤ v) (x : Int) : (colV f n).set v.toNat (.int x) = colV (putS f v x) n := by
  unfold colV
  apply List.ext_getElem?
  intro i
  rw [List.getElem?_set, List.getElem?_map, List.getElem?_map, List.getElem?_map, List.getElem?_map, List.length_map, List.length_map, List.length_range]
  by_cases hi : i < n.toNat
  · rw [List.getElem?_range hi]
    by_cases e : v.toNat = i
    · subst e
      have : putS f v x ((v.toNat : Nat) : Int) = some x := by rw [Int.toNat_of_nonneg h0]; exact putS_same
      rw [if_pos rfl, if_pos hi]
      show some (V.int x) = some (optV (putS f v x ((v.toNat : Nat) : Int)))
      rw [this]; rfl
    · have : putS f v x (i : Int) = f (i : Int) := putS_ne (by omega)
      simp [e, this]
  · have : (List.range n.toNat)[i]? = none := by rw [List.getElem?_eq_none_iff, List.length_range]; omega
    rw [this]
    by_cases e : v.toNat = i
    · subst e; simp [hi]
    · simp [e]
def byI (by_ : Int → Option Nat) : Int → Option Int := fun v => (by_ v).map fun (i : Nat) => (i : Int)
theorem byI_put (by_ : Int → Option Nat) (v : Int) (i : Nat) : putS (byI by_) v (i : Int) = byI (putS by_ v i) := by
  funext u
  unfold putS byI
  by_cases e : u = v <;> simp [e]
theorem colV_none (n : Int) (xs : List V) {B : Hp} (k : DaAll B xs (List.replicate n.toNat [PyData.none]).flatten) : xs = colV (fun _ => none) n := by
  have e : (List.replicate n.toNat [PyData.none]).flatten = ((List.range n.toNat).map fun _ => (none : Option Int)).map optD := by
    rw [List.map_const', List.length_range, List.map_replicate]
    induction n.toNat with
    | zero => rfl
    | succ m ih => rw [List.replicate_succ, List.flatten_cons, ih]; rfl
  rw [e] at k
  exact k.opts_inv
theorem q_pop0 {σ : L2.St} {H : Hp} {ta : TE} {tz : TS} {Dn : Ends} {n : Nat} {l : Addr} {v : V} {xs : List V} (hl : H l = some (.lst (v :: xs))) (ha : Ev ta σ H (.ref l)) (hz : xs.length < 100000) (k : ∀ H1, Ex H H1 → tz Dn (σ.set n (some v)) (upd H1 l (.lst xs))) :
    tSeq (tAsg (tBM K "list" rPopAt ta (tCons (tC (.int 0)) tNil)) (gName n)) tz Dn σ H := ha H (Ex.refl H) _ fun H1 e1 =>
  ⟨Or.inl ⟨rfl, _, Evl.sq_of (e1 l _ hl)⟩, l, v :: xs, 0, 0, v, rfl, rfl, e1 l _ hl, by decide, by decide, by
    unfold seqIndex?; simp, rfl, k H1 e1⟩
def sp_odd_ring : Sp := fun vs H Q _ => ∃ (n : Int) (ts : List Tie) (B : Hp), Ex B H ∧ DaAll B vs [.int n, tiesD ts] ∧ (0 ≤ n ∧ n ≤ 60 ∧ Web n ts ∧ ts.length ≤ 1000) ∧ (Bip ts → RetV H .non Q) ∧ (¬ Bip ts → RetM B H (fun ds => ∃ ks : List Nat, ds = ks.map natD ∧ ringP ts (ks.map fun (j : Nat) => (j : Int)) = true ∧ ks.length ≤ 3000) Q)
theorem len_odd_ring {vs : List V} {H : Hp} {Q : VK} {E : XK} (h : sp_odd_ring vs H Q E) : vs.length = 2 := by
  obtain ⟨_, _, _, _, k, _⟩ := h
  exact k.len
theorem ok_odd_ring (T : TX K mg A) : Ok P w K mg base CX0 3 A.odd_ring ["places", "ties"] sp_odd_ring := by
  obtain ⟨fd, F⟩ := T.F_odd_ring
  obtain ⟨fd_closed, G_closed, B_closed, K_closed⟩ := ok_closed (P := P) (w := w) (base := base) T
  refine ⟨fd, ?_, F.binds (ps := ["places", "ties"]) fun _ _ _ _ _ _ us hl => match us, hl with | [_, _], _ => rfl, F.kp⟩
  refine F.ok sc_odd_ring (fun vs H Q E h => len_odd_ring h) (fun cdv Ar outer s H vs Q E hr h => ?_)
  have nd := sc_odd_ring.nd
  have hu := hu_of hr
  obtain ⟨n, ts, B, eb, k, ⟨hn0, hn1, hW, hl⟩, q1, q2⟩ := h
  match vs, k with
  | [_, v1], .cons (.int _) (.cons k1 .nil) =>
  refine ⟨_, (pss_cons (ps_set (i := 2) nd rfl (by first | exact .inl rfl | exact .inr rfl) (pe_op op_rep (pe_lst (pa_cons pe_non pa_nil)) (pv 0))) (pss_cons (ps_set (i := 3) nd rfl (by first | exact .inl rfl | exact .inr rfl) (pe_op op_rep (pe_lst (pa_cons pe_non pa_nil)) (pv 0))) (pss_cons (ps_for PassesOwn.never rfl (pi_range1 rfl T.n_range (pa_cons (pv 0) pa_nil)) (pg_name (i := 4) nd rfl (by first | exact .inl rfl | exact .inr rfl)) (pss_one (ps_if (pt_cmp (pc_isN (pe_ix (ix_listK K) (pv 2) (pv 4) (fun _ _ => rfl)))) (pss_cons (ps_asg pe_int (pg_sub (pv 2) (pv 4) set_list)) (pss_cons (ps_set (i := 5) nd rfl (by first | exact .inl rfl | exact .inr rfl) (pe_lst (pa_cons (pv 4) pa_nil))) (pss_one (ps_while PassesOwn.never (pt_cmpR (neDK K hr.units) (pv 5) (pe_lst pa_nil) (by first | exact nomark _ | rfl)) (pss_cons (ps_set (i := 6) nd rfl (by first | exact .inl rfl | exact .inr rfl) (bmK K PySem.F.plainAttrs_list PySem.F.slot_list_pop PySem.F.type_list_pop mt_popAt (pv 5) (pa_cons pe_int pa_nil))) (pss_one (ps_for PassesOwn.never rfl (enumK K (by rfl) T.n_enumerate (pa_cons (pv 1) pa_nil)) (gtupK K rfl (pgs_cons (pg_name (i := 7) nd rfl (by first | exact .inl rfl | exact .inr rfl)) (pgs_cons (pg_name (i := 8) nd rfl (by first | exact .inl rfl | exact .inr rfl)) pgs_nil))) (pss_one (ps_if (pt_cmpR (in_seqK K) (pv 6) (pv 8) (by first | exact nomark _ | rfl)) (pss_cons (ps_set (i := 9) nd rfl (by first | exact .inl rfl | exact .inr rfl) (pe_op op_sub (pe_op op_add (pe_ix (ix_tupK K) (pv 8) pe_int (fun _ _ => rfl)) (pe_ix (ix_tupK K) (pv 8) pe_int (fun _ _ => rfl))) (pv 6))) (pss_one (ps_if (pt_cmp (pc_isN (pe_ix (ix_listK K) (pv 2) (pv 9) (fun _ _ => rfl)))) (pss_cons (ps_asg (pe_op op_sub pe_int (pe_ix (ix_listK K) (pv 2) (pv 6) (fun _ _ => rfl))) (pg_sub (pv 2) (pv 9) set_list)) (pss_cons (ps_asg (pv 7) (pg_sub (pv 3) (pv 9) set_list)) (pss_one (ps_expr (bmK K PySem.F.plainAttrs_list PySem.F.slot_list_append PySem.F.type_list_append mt_append (pv 5) (pa_cons (pv 9) pa_nil)))))) (pss_one (ps_if (pt_cmpR op_eq (pe_ix (ix_listK K) (pv 2) (pv 9) (fun _ _ => rfl)) (pe_ix (ix_listK K) (pv 2) (pv 6) (fun _ _ => rfl)) (by first | exact nomark _ | rfl)) (pss_one (ps_ret (pe_call G_closed (hr.mono (by decide)) (by rfl) T.g_closed K_closed B_closed .nil pass0 (pa_cons (pv 1) (pa_cons (pv 3) (pa_cons (pv 6) (pa_cons (pv 9) (pa_cons (pv 7) pa_nil)))))))) pss_nil))))) pss_nil))))))))) pss_nil))) (pss_one (ps_ret pe_non))))), ?_⟩
  refine q_asgN (en_rep (EvN.toD (en_lst (eds_cons (ed_ev eb ev_c .non) (eds_nil eb)))) (ev_var (i := 0) rfl) ⟨hn0, by omega⟩ (by simp; omega)) fun ls xs B1 H1 g1 n1 nb1 h1 k1' => ?_
  have k1' := colV_none n xs k1'
  subst k1'
  have f1 := (Fr.start eb).take g1 n1 nb1 h1
  refine q_asgN (en_rep (EvN.toD (en_lst (eds_cons (ed_ev f1.bh ev_c .non) (eds_nil f1.bh)))) (ev_var (i := 0) rfl) ⟨hn0, by omega⟩ (by simp; omega)) fun lb xb B2 H2 g2 n2 nb2 h2 k2' => ?_
  have k2' := colV_none n xb k2'
  subst k2'
  have f2 := f1.take g2 n2 nb2 h2
  refine q_for (B := B2) (dt := fun (k : Nat) => PyData.int (k : Int)) (P := (· = List.range n.toNat)) (ei_rg1 f2.bh (ev_var (i := 0) rfl) ⟨hn0, by omega⟩)
    (fun l B3 i σ' H' => ∃ (B4 : Hp) (side : Int → Option Int) (by_ : Int → Option Nat) (cur : Int) (L : List Int) (y4 y5 y6 y7 y8 y9 : Option V), Ex B3 B4 ∧ σ' = [some (.int n), some v1, some (.ref ls), some (.ref lb), y4, y5, y6, y7, y8, y9] ∧
      Fr B H B4 H' [(lb, .lst (colV (byI by_) n)), (ls, .lst (colV side n))] ∧ SInv ts n side by_ cur (fun _ => False) L ∧ ∀ v, 0 ≤ v → v < (i : Int) → side v ≠ none) ?_ ?_ ?_ ?_
  · rintro l B3 H3 - g3
    exact ⟨B3, fun _ => none, fun _ => none, 0, [], none, none, none, none, none, none, Ex.refl _, rfl, f2.gr g3, SInv.start ts n 0, fun v h0 h1 => by omega⟩
  · rintro l B3 i σ' H' ⟨B4, _, _, _, _, _, _, _, _, _, _, e, _, f, _⟩
    exact e.trans f.bh
  · rintro l B3 i v x B5 σ' H' H5 rfl hi ⟨B4, side, by_, cur, L, y4, y5, y6, y7, y8, y9, e34, rfl, f, I, hsd⟩ g5 kx
    obtain rfl := kx.int_inv
    have hil := (List.getElem?_eq_some_iff.mp hi).1
    rw [List.length_range] at hil
    have hiv := (List.getElem?_eq_some_iff.mp hi).2
    rw [List.getElem_range] at hiv
    subst hiv
    have hv : 0 ≤ (i : Int) ∧ (i : Int) < n := by omega
    have f := f.ev g5.hh
    refine s_when (b := decide (side (i : Int) = none)) (et_test (ev_is (ev_isN (ev_ixO (K := K) (ev_var (i := 2) rfl) f.get1 (ev_var (i := 4) rfl) (colV_at side hv.1 hv.2))) (by rw [optV_non]))) (fun hb H6 e6 => ?_) (fun hb H6 e6 => ?_)
    rotate_left
    · have hb : side (i : Int) ≠ none := by simpa using hb
      refine ⟨B4, side, by_, cur, L, _, _, _, _, _, _, e34, rfl, f.ev e6, I, fun v h0 h1 => ?_⟩
      by_cases e : v = (i : Int)
      · rw [e]; exact hb
      · exact hsd v h0 (by omega)
    have hb : side (i : Int) = none := of_decide_eq_true hb
    have f := f.ev e6
    -- side[begin] = 0; waiting = [begin]
    refine q_setL (m := i) f.get1 (ev_c (v := .int 0)) (ev_var (i := 2) rfl) (ev_var (i := 4) rfl) (by rw [colV_len]; omega) fun H7 e7 => ?_
    have es : (colV side n).set i (.int 0) = colV (putS side (i : Int) 0) n := by
      have := colV_set side hv.1 0 (n := n)
      rw [Int.toNat_natCast] at this; exact this
    have f := (f.ev e7).set1 (u := .lst ((colV side n).set i (.int 0)))
    rw [es] at f ⊢
    have I := I.root hv hb
    have hsb : putS side (i : Int) 0 (i : Int) ≠ none := by rw [putS_same]; exact fun z => nomatch z
    have hsd : ∀ v, 0 ≤ v → v < (i : Int) + 1 → putS side (i : Int) 0 v ≠ none := fun v h0 h1 => by
      by_cases e : v = (i : Int)
      · rw [e]; exact hsb
      · rw [putS_ne e]; exact hsd v h0 (by omega)
    revert I hsd f
    generalize putS side (i : Int) 0 = side
    intro f I hsd
    generalize L ++ [(i : Int)] = L at I
    have hLl := I.len
    refine q_asgN (B := B4) (en_lst (eds_cons (edi f.bh (ev_var (i := 4) rfl)) (eds_nil f.bh))) fun lw xw B8 H8 g8 n8 nb8 h8 kw => ?_
    have kw : xw = [(i : Int)].map V.int := DaAll.ints_inv (ns := [(i : Int)]) kw
    subst kw
    have f8 := f.take g8 n8 nb8 h8
    -- while waiting != []
    refine s_wh (fun m σ' H' => ∃ (B9 : Hp) (side : Int → Option Int) (by_ : Int → Option Nat) (L N : List Int) (y6 y7 y8 y9 : Option V), Ex B4 B9 ∧ σ' = [some (.int n), some v1, some (.ref ls), some (.ref lb), some (.int (i : Int)), some (.ref lw), y6, y7, y8, y9] ∧
      Fr B H B9 H' [(lw, .lst (N.map V.int)), (lb, .lst (colV (byI by_) n)), (ls, .lst (colV side n))] ∧ SInv ts n side by_ (i : Int) (· ∈ N) L ∧ N.Nodup ∧ (∀ v, 0 ≤ v → v < (i : Int) + 1 → side v ≠ none) ∧ m = 2 * (n.toNat - L.length) + N.length) _
      ⟨B8, side, by_, L, [(i : Int)], _, _, _, _, g8.bb, rfl, f8, I.ops fun v => by simp, by simp, hsd, rfl⟩ ?_
    clear f8 I hsd hLl
    rintro m σ' H9 ⟨B9, side, by_, L, N, y6, y7, y8, y9, e49, rfl, f, I, ndN, hsd, rfl⟩
    have tN := ev_neNil (K := K) (ed_var (σ := [some (.int n), some v1, some (.ref ls), some (.ref lb), some (.int (i : Int)), some (.ref lw), y6, y7, y8, y9]) (n := 5) (Ex.refl H9) rfl (.lst f.get0 .ints)) (Ex.refl H9) (sh_ints N)
    cases N with
    | nil =>
      refine ⟨false, et_test (ev_is tN rfl), fun z => (nomatch z), fun _ H10 e10 => ?_⟩
      refine ⟨B9, side, by_, (i : Int), L, _, _, _, _, _, _, e34.trans e49, rfl, (f.ev e10).tail, I.ops fun v => by simp, fun v h0 h1 => hsd v h0 (by omega)⟩
    | cons here N' =>
      refine ⟨true, et_test (ev_is tN (by simp)), fun _ H10 e10 => ?_, fun z => (nomatch z)⟩
      have f := f.ev e10
      have hLl := I.len
      have hN' : N'.length ≤ 60 := by
        have := nodup_upto (n := n) (List.nodup_cons.mp ndN).2 fun v hv => I.rng v ((I.mem v).mpr (I.opn v (List.mem_cons_of_mem _ hv)).1)
        omega
      refine q_pop0 (v := .int here) (xs := N'.map V.int) f.get0 (ev_var (i := 5) rfl) (by rw [List.length_map]; omega) fun H11 e11 => ?_
      have f := (f.ev e11).set0 (u := .lst (N'.map V.int))
      have hho : here ∈ here :: N' := List.mem_cons_self
      obtain ⟨L0, hL0⟩ : ∃ L0, L0 = L := ⟨_, rfl⟩
      obtain ⟨s, hs⟩ : ∃ s, side here = some s := Option.ne_none_iff_exists'.mp (I.opn here hho).1
      -- for at, tie in enumerate(ties)
      refine s_for2 (K := K) (B := B9) (d1 := fun p : Tie × Nat => .int (p.2 : Int)) (d2 := fun p : Tie × Nat => tieD p.1) (P := (· = ts.zipIdx)) (ei_enumD (K := K) (ed_var (n := 1) f.bh rfl (k1.ex f.eb)))
        (fun l B10 j σ' H' => ∃ (B11 : Hp) (side : Int → Option Int) (by_ : Int → Option Nat) (L N : List Int) (y7 y8 y9 : Option V), Ex B9 B10 ∧ Ex B10 B11 ∧ σ' = [some (.int n), some v1, some (.ref ls), some (.ref lb), some (.int (i : Int)), some (.ref lw), some (.int here), y7, y8, y9] ∧
          Fr B H B11 H' [(lw, .lst (N.map V.int)), (lb, .lst (colV (byI by_) n)), (ls, .lst (colV side n))] ∧ SInv ts n side by_ (i : Int) (fun v => v = here ∨ v ∈ N) L ∧ (here :: N).Nodup ∧ (∀ v, 0 ≤ v → v < (i : Int) + 1 → side v ≠ none) ∧ side here = some s ∧
          (∀ (m : Nat) (t : Tie), m < j → ts[m]? = some t → has t here = true → side (oth t here) = some (1 - s)) ∧ 2 * (n.toNat - L.length) + N.length ≤ 2 * (n.toNat - L0.length) + N'.length) ?_ ?_ ?_ ?_
      · rintro l B10 H12 - g10
        exact ⟨B10, side, by_, L, N', _, _, _, g10.bb, Ex.refl _, rfl, f.gr g10, I.ops fun v => by rw [List.mem_cons], ndN, hsd, hs, fun m t hm => absurd hm (by omega), by rw [hL0]; exact Nat.le_refl _⟩
      · rintro l B10 j σ' H' ⟨B11, _, _, _, _, _, _, _, _, e, _, f, _⟩
        exact e.trans f.bh
      · clear f I ndN hsd hs hLl hN'
        rintro l B10 j ⟨t, j'⟩ x y B12 σ' H' H12 rfl hj ⟨B11, side, by_, L, N, y7, y8, y9, e910, e1011, rfl, f, I, ndN, hsd, hs, hdone, hm⟩ g12 kx ky
        obtain ⟨ht, hj'⟩ := zipIdx_at hj
        have hj'' : j' = j := hj'
        subst hj''
        have ht : ts[j']? = some t := ht
        obtain rfl := kx.int_inv
        have f := f.ev g12.hh
        have hop : ∃ x, x = here ∨ x ∈ N := ⟨here, .inl rfl⟩
        have step : ∀ (t' : Tie), ts[j']? = some t' → t' = t := fun t' h => by rw [ht] at h; cases h; rfl
        refine s_when (et_test (ev_has (K := K) (ev_var (i := 6) rfl) (ed_var (n := 8) g12.bh rfl ky))) (fun hh H13 e13 => ?_) (fun hh H13 e13 => ?_)
        rotate_left
        · refine ⟨B11, side, by_, L, N, _, _, _, e910, e1011, rfl, f.ev e13, I, ndN, hsd, hs, fun m t' hm' htm hth => ?_, hm⟩
          by_cases e : m = j'
          · subst e; rw [step t' htm, hh] at hth; cases hth
          · exact hdone m t' (by omega) htm hth
        have f := f.ev e13
        have hat : EvD (tVar 8) [some (.int n), some v1, some (.ref ls), some (.ref lb), some (.int (i : Int)), some (.ref lw), some (.int here), some (.int (j' : Int)), some y, y9] B12 H13 (tieD t) := ed_var (n := 8) (g12.bh.trans e13) rfl ky
        refine q_asgV (ev_oth hat hat (ev_var (i := 6) rfl)) fun H14 e14 => ?_
        have f := f.ev e14
        obtain ⟨there, hth⟩ : ∃ u, u = oth t here := ⟨_, rfl⟩
        rw [← hth]
        have rth := hW.lt (List.mem_of_getElem? ht) (has_oth hh)
        rw [← hth] at rth
        have rh := hW.lt (List.mem_of_getElem? ht) hh
        have hsT : ∀ H15, Ex H14 H15 → Ev (tOp (rIxL K) (tVar 2) (tVar 9)) [some (.int n), some v1, some (.ref ls), some (.ref lb), some (.int (i : Int)), some (.ref lw), some (.int here), some (.int (j' : Int)), some y, some (.int there)] H15 (optV (side there)) := fun H15 e15 => ev_ixO (K := K) (ev_var (i := 2) rfl) (e15 _ _ f.get2) (ev_var (i := 9) rfl) (colV_at side rth.1 rth.2)
        have hsH : ∀ H15, Ex H14 H15 → Ev (tOp (rIxL K) (tVar 2) (tVar 6)) [some (.int n), some v1, some (.ref ls), some (.ref lb), some (.int (i : Int)), some (.ref lw), some (.int here), some (.int (j' : Int)), some y, some (.int there)] H15 (.int s) := fun H15 e15 => by
          have h := ev_ixO (K := K) (σ := [some (.int n), some v1, some (.ref ls), some (.ref lb), some (.int (i : Int)), some (.ref lw), some (.int here), some (.int (j' : Int)), some y, some (.int there)]) (ev_var (i := 2) rfl) (e15 _ _ f.get2) (ev_var (i := 6) rfl) (colV_at side rh.1 rh.2)
          rw [hs] at h; exact h
        refine Evl.s_if (b := decide (side there = none)) (et_test (ev_is (ev_isN (hsT H14 (Ex.refl _))) (by rw [optV_non]))) (fun hb H15 e15 => ?_) (fun hb H15 e15 => ?_)
        · -- new
          have hb : side there = none := of_decide_eq_true hb
          have f := f.ev e15
          have hLl := I.len
          refine q_setL (m := there.toNat) f.get2 (ev_I0 (g := fun i j => .int (i - j)) ev_c (hsH H15 e15)) (ev_var (i := 2) rfl) (by rw [Int.toNat_of_nonneg rth.1]; exact ev_var (i := 9) rfl) (by rw [colV_len]; omega) fun H16 e16 => ?_
          rw [colV_set side rth.1]
          have f := (f.ev e16).set2 (u := .lst (colV (putS side there (1 - s)) n))
          refine q_setL (m := there.toNat) f.get1 (ev_var (i := 7) rfl) (ev_var (i := 3) rfl) (by rw [Int.toNat_of_nonneg rth.1]; exact ev_var (i := 9) rfl) (by rw [colV_len]; omega) fun H17 e17 => ?_
          rw [colV_set (byI by_) rth.1, byI_put]
          have f := (f.ev e17).set1 (u := .lst (colV (byI (putS by_ there j')) n))
          have I' := I.reach hW (.inl rfl) hs ht hh (by rw [← hth]; exact hb)
          rw [← hth] at I'
          have hnew : there ∉ here :: N := fun z => by
            have := (I.opn there (List.mem_cons.mp z)).1
            exact this hb
          have hNl := nodup_upto (n := n) (List.nodup_cons.mp ndN).2 fun v hv => I.rng v ((I.mem v).mpr (I.opn v (.inr hv)).1)
          refine Evl.s_app (K := K) f.get0 (ev_var (i := 5) rfl) (ev_var (i := 9) rfl) (by rw [List.length_map]; omega) fun H18 e18 => ?_
          have f := (f.ev e18).set0 (u := .lst (N.map V.int ++ [.int there]))
          have hLl' := I'.len
          rw [List.length_append, List.length_singleton] at hLl'
          have stay : ∀ v, side v ≠ none → putS side there (1 - s) v = side v := fun v hv => putS_ne fun z => hv (by rw [z]; exact hb)
          refine ⟨B11, putS side there (1 - s), putS by_ there j', L ++ [there], N ++ [there], _, _, _, e910, e1011, rfl, by rw [List.map_append]; exact f, I'.ops fun v => by rw [List.mem_append, List.mem_singleton, or_assoc], ?_, fun v h0 h1 => ?_, ?_, fun m t' hm' htm hth' => ?_, by rw [List.length_append, List.length_append, List.length_singleton]; omega⟩
          · refine (List.perm_append_comm (l₁ := here :: N) (l₂ := [there])).nodup_iff.mpr (List.nodup_cons.mpr ⟨hnew, ndN⟩)
          · rw [stay v (hsd v h0 h1)]; exact hsd v h0 h1
          · rw [stay here (by rw [hs]; exact fun z => nomatch z)]; exact hs
          · by_cases e : m = j'
            · subst e; rw [step t' htm, ← hth]; exact putS_same
            · have := hdone m t' (by omega) htm hth'
              rw [stay _ (by rw [this]; exact fun z => nomatch z)]; exact this
        · have hb : side there ≠ none := of_decide_eq_false hb
          obtain ⟨u, hu⟩ : ∃ u, side there = some u := Option.ne_none_iff_exists'.mp hb
          have f := f.ev e15
          have hT : Ev (tOp (rIxL K) (tVar 2) (tVar 9)) [some (.int n), some v1, some (.ref ls), some (.ref lb), some (.int (i : Int)), some (.ref lw), some (.int here), some (.int (j' : Int)), some y, some (.int there)] H15 (.int u) := by
            have h := hsT H15 e15
            rw [hu] at h; exact h
          refine s_when (et_test (ev_eqI hT (hsH H15 e15))) (fun hb2 H16 e16 => ?_) (fun hb2 H16 e16 => ?_)
          · -- a clash
            have hb2 := of_decide_eq_true hb2
            subst hb2
            have f := f.ev e16
            have ec : side (oth t here) = side here := by rw [← hth, hu, hs]
            obtain ⟨p, q, up, uq, hpq, lp, lq⟩ := I.clash (.inl rfl) ht hh ec
            rw [← hth] at uq
            have nb := I.not_bip (.inl rfl) ht hh ec
            have hLl := I.len
            have fa := f.all eb
            have kb : Da (newB B H H16) (.ref lb) (.list (byD by_ n)) := .lst (f.allO (q := (lb, .lst (colV (byI by_) n))) (by simp)) .opts
            refine s_retM (em_call (eds_cons (ed_var (n := 1) fa.bh rfl (k1.ex fa.eb)) (eds_cons (ed_var (n := 3) fa.bh rfl kb) (eds_cons (edi fa.bh (ev_var (i := 6) rfl)) (eds_cons (edi fa.bh (ev_var (i := 9) rfl)) (eds_cons (edi fa.bh (ev_var (i := 7) rfl)) (eds_nil fa.bh)))))) fun B6 H6 ws Q6 E6 e6 k6 q6 => ⟨n, ts, by_, here, there, (i : Int), j', t, p, q, B6, e6, k6, ⟨hW, hl, by omega, by omega, ht, hh, hth.symm, up, uq, hpq⟩, q6⟩) ?_
            intro ds pp xs B' H2 pd g n0 nb' hp kd
            exact q2 nb ds pp xs B' H2 pd (fa.toGr.trans g) (base_none fa.ex0 n0) nb' hp kd
          · have hb2 := of_decide_eq_false hb2
            refine ⟨B11, side, by_, L, N, _, _, _, e910, e1011, rfl, f.ev e16, I, ndN, hsd, hs, fun m t' hm' htm hth' => ?_, hm⟩
            by_cases e : m = j'
            · subst e
              rw [step t' htm, ← hth, hu]
              have v1 := I.val hb
              have v2 := I.val (v := here) (by rw [hs]; exact fun z => nomatch z)
              rw [hu] at v1
              rw [hs] at v2
              have v1 : u = 0 ∨ u = 1 := v1.imp Option.some.inj Option.some.inj
              have v2 : s = 0 ∨ s = 1 := v2.imp Option.some.inj Option.some.inj
              congr 1; omega
            · exact hdone m t' (by omega) htm hth'
      · rintro l B10 σ' H' rfl ⟨B11, side, by_, L, N, y7, y8, y9, e910, e1011, rfl, f, I, ndN, hsd, hs, hdone, hm⟩
        rw [List.length_zipIdx] at hdone
        obtain ⟨nh, ndN'⟩ := List.nodup_cons.mp ndN
        refine ⟨2 * (n.toNat - L.length) + N.length, ?_, B11, side, by_, L, N, _, _, _, _, (e49.trans e910).trans e1011, rfl, f, I.close hs (fun m t ht hh => hdone m t (List.getElem?_eq_some_iff.mp ht).1 ht hh) (fun v hv => .inr hv) (fun v hv => hv.elim .inr .inl), ndN', hsd, rfl⟩
        rw [List.length_cons, ← hL0]; omega
  · rintro l B3 σ' H' rfl ⟨B4, side, by_, cur, L, y4, y5, y6, y7, y8, y9, e34, rfl, f, I, hsd⟩
    rw [List.length_range] at hsd
    exact Evl.s_ret (ev_c (v := .non)) fun H5 e5 => q1 (I.bip hW fun v h0 h1 => hsd v h0 (by omega)) H5 (f.ex0.trans e5)

end
end TW
set_option Elab.async false
set_option linter.all false
set_option maxRecDepth 100000
set_option maxHeartbeats 4000000
namespace TW
open PySem PySem.Spec PyProof.Rows L2 TM TB
open Evl (Ex Ex.refl Ex.trans Ex.new Ex.mut Ev EvT EvA ev_var ev_c ev_op rv_I0 rv_I rv_eq rv_ne et_test et_B et_and et_or et_not et_is ev_is sz_of sz_lt fresh_back)
section
variable {P : Program} {w : World} {K : PySem.W.Frag} {mg : Str → Option Value} {base : Heap} {A : Ad}
/-! ### is_uneven -/
def wtC (a b c : Int) : Int := if c = a then 1 else if c = b then -1 else 0
def apL (a b : Int) : List (Tie × Int) → Int → Int
  | [], _ => 0
  | p :: l, v => apL a b l v + (if has p.1 v = true then wtC a b p.2 else 0)
theorem apL_append (a b v : Int) (m : List (Tie × Int)) : ∀ l, apL a b (l ++ m) v = apL a b l v + apL a b m v
  | [] => by show _ = 0 + _; rw [Int.zero_add]; rfl
  | p :: l => by
    show apL a b (l ++ m) v + _ = (apL a b l v + _) + apL a b m v
    rw [apL_append a b v m l]; omega
theorem apL_cnt {a b : Int} (ne : a ≠ b) (v : Int) : ∀ (ts : List Tie) (cs : List Int), apL a b (ts.zip cs) v = (cntAt ts cs v a : Int) - (cntAt ts cs v b : Int)
  | [], _ => rfl
  | _ :: _, [] => rfl
  | t :: ts, c :: cs => by
    rw [List.zip_cons_cons, cntAt_cons, cntAt_cons]
    show apL a b (ts.zip cs) v + (if has t v = true then wtC a b c else 0) = _
    rw [apL_cnt ne v ts cs]
    unfold wtC
    by_cases h1 : c = a
    · have h2 : ¬ c = b := fun z => ne (h1.symm.trans z)
      cases has t v <;> simp [h1, h2, ne] <;> omega
    · by_cases h2 : c = b
      · have h3 : ¬ b = a := fun z => ne z.symm
        cases has t v <;> simp [h1, h2, h3] <;> omega
      · cases has t v <;> simp [h1, h2]
def apsOf (n a b : Int) (l : List (Tie × Int)) : List Int := (List.range n.toNat).map fun (v : Nat) => apL a b l (v : Int)
def unevenB (n a b : Int) (ts : List Tie) (cs : List Int) : Bool := decide (maxL 0 (apsOf n a b (ts.zip cs)) > 1) || decide (minL 0 (apsOf n a b (ts.zip cs)) < -1)
theorem unevenB_true {n a b : Int} (ne : a ≠ b) {ts : List Tie} {cs : List Int} : unevenB n a b ts cs = true ↔ ∃ v, 0 ≤ v ∧ v < n ∧ (cntAt ts cs v a + 1 < cntAt ts cs v b ∨ cntAt ts cs v b + 1 < cntAt ts cs v a) := by
  unfold unevenB
  rw [Bool.or_eq_true, decide_eq_true_iff, decide_eq_true_iff]
  have mem : ∀ x, x ∈ apsOf n a b (ts.zip cs) → ∃ v, 0 ≤ v ∧ v < n ∧ x = (cntAt ts cs v a : Int) - (cntAt ts cs v b : Int) := fun x hx => by
    obtain ⟨v, hv, rfl⟩ := List.mem_map.mp hx
    have := List.mem_range.mp hv
    exact ⟨(v : Int), by omega, by omega, apL_cnt ne _ ts cs⟩
  constructor
  · rintro (h | h)
    · rcases maxL_mem (d := 0) (apsOf n a b (ts.zip cs)) with hm | ⟨_, hm⟩
      · obtain ⟨v, h0, h1, e⟩ := mem _ hm
        exact ⟨v, h0, h1, by omega⟩
      · omega
    · rcases minL_mem (d := 0) (apsOf n a b (ts.zip cs)) with hm | ⟨_, hm⟩
      · obtain ⟨v, h0, h1, e⟩ := mem _ hm
        exact ⟨v, h0, h1, by omega⟩
      · omega
  · rintro ⟨v, h0, h1, h⟩
    have hx : (cntAt ts cs v a : Int) - (cntAt ts cs v b : Int) ∈ apsOf n a b (ts.zip cs) := List.mem_map.mpr ⟨v.toNat, List.mem_range.mpr (by omega), by rw [Int.toNat_of_nonneg h0, apL_cnt ne]⟩
    have m1 := le_maxL (d := 0) hx
    have m2 := minL_le (d := 0) hx
    rcases h with h | h
    · right; omega
    · left; omega
def sp_is_uneven : Sp := fun vs H Q _ => ∃ (n : Int) (ts : List Tie) (cs : List Int) (a b : Int) (B : Hp), Ex B H ∧ DaAll B vs [.int n, tiesD ts, .list (cs.map PyData.int), .int a, .int b] ∧ (1 ≤ n ∧ n ≤ 1000 ∧ Web n ts ∧ ts.length ≤ 1000) ∧ RetV H (.bl (unevenB n a b ts cs)) Q
theorem len_is_uneven {vs : List V} {H : Hp} {Q : VK} {E : XK} (h : sp_is_uneven vs H Q E) : vs.length = 5 := by
  obtain ⟨_, _, _, _, _, _, _, k, _⟩ := h
  exact k.len
theorem intsV_set {m c : Nat} {F G : Nat → Int} {x : Int} (hx : G c = x) (ho : ∀ k, k ≠ c → G k = F k) : (((List.range m).map F).map V.int).set c (.int x) = ((List.range m).map G).map V.int := by
  apply List.ext_getElem?
  intro i
  rw [List.getElem?_set, List.getElem?_map, List.getElem?_map, List.getElem?_map, List.getElem?_map, List.length_map, List.length_map, List.length_range]
  by_cases hi : i < m
  · rw [List.getElem?_range hi]
    by_cases e : c = i
    · subst e
      rw [if_pos rfl, if_pos hi, ← hx]; rfl
    · rw [if_neg e]
      show some (V.int (F i)) = some (V.int (G i))
      rw [ho i fun z => e z.symm]
  · have : (List.range m)[i]? = none := by rw [List.getElem?_eq_none_iff, List.length_range]; omega
    rw [this]
    by_cases e : c = i
    · subst e; rw [if_pos rfl, if_neg hi]; rfl
    · rw [if_neg e]; rfl
theorem intsV_at {m : Nat} {F : Nat → Int} {v : Int} (h0 : 0 ≤ v) (h1 : v.toNat < m) : atI (((List.range m).map F).map V.int) v = some (.int (F v.toNat)) := by
  have h : atI (((List.range m).map F).map V.int) ((v.toNat : Nat) : Int) = some (.int (F v.toNat)) := atI_nat (by rw [List.getElem?_map, List.getElem?_map, List.getElem?_range h1]; rfl)
  rw [Int.toNat_of_nonneg h0] at h; exact h
theorem ok_is_uneven (T : TX K mg A) : Ok P w K mg base CX0 1 A.is_uneven ["places", "ties", "colours", "one", "other"] sp_is_uneven := by
  obtain ⟨fd, F⟩ := T.F_is_uneven
  refine ⟨fd, ?_, F.binds (ps := ["places", "ties", "colours", "one", "other"]) fun _ _ _ _ _ _ us hl => match us, hl with | [_, _, _, _, _], _ => rfl, F.kp⟩
  refine F.ok sc_is_uneven (fun vs H Q E h => len_is_uneven h) (fun cdv Ar outer s H vs Q E hr h => ?_)
  have nd := sc_is_uneven.nd
  have hu := hu_of hr
  obtain ⟨n, ts, cs, a, b, B, eb, k, ⟨hn0, hn1, hW, hl⟩, q⟩ := h
  match vs, k with
  | [_, v1, v2, _, _], .cons (.int _) (.cons k1 (.cons k2 (.cons (.int _) (.cons (.int _) .nil)))) =>
  refine ⟨_, (pss_cons (ps_set (i := 5) nd rfl (by first | exact .inl rfl | exact .inr rfl) (pe_op op_rep (pe_lst (pa_cons pe_int pa_nil)) (pv 0))) (pss_cons (ps_for PassesOwn.never rfl (zipK K (by rfl) T.n_zip (pa_cons (pv 1) (pa_cons (pv 2) pa_nil))) (gtupK K rfl (pgs_cons (pg_name (i := 6) nd rfl (by first | exact .inl rfl | exact .inr rfl)) (pgs_cons (pg_name (i := 7) nd rfl (by first | exact .inl rfl | exact .inr rfl)) pgs_nil))) (pss_one (ps_for PassesOwn.never rfl (tupK K (pv 6)) (pg_name (i := 8) nd rfl (by first | exact .inl rfl | exact .inr rfl)) (pss_one (ps_asg (pe_op op_add (pe_ix (ix_listK K) (pv 5) (pv 8) (fun _ _ => rfl)) (pe_ifExp (pt_cmpR op_eq (pv 7) (pv 3) (by first | exact nomark _ | rfl)) pe_int (pe_ifExp (pt_cmpR op_eq (pv 7) (pv 4) (by first | exact nomark _ | rfl)) (pe_un un_neg pe_int) pe_int))) (pg_sub (pv 5) (pv 8) set_list)))))) (pss_one (ps_ret (pe_or (pe_cmpR op_gt (pe_callB (maxK K rfl) (by rfl) T.n_max (by decide +kernel) (pa_cons (pv 5) pa_nil)) pe_int (by first | exact nomark _ | rfl)) (pe_one (pe_cmpR op_lt (pe_callB (minK K rfl) (by rfl) T.n_min (by decide +kernel) (pa_cons (pv 5) pa_nil)) (pe_un un_neg pe_int) (by first | exact nomark _ | rfl)))))))), ?_⟩
  -- apart
  refine q_asgN (en_rep (EvN.toD (en_lst (eds_cons (edi eb (ev_c (v := .int 0))) (eds_nil eb)))) (ev_var (i := 0) rfl) ⟨by omega, by omega⟩ (by simp; omega)) fun la xa B1 H1 g1 n1 nb1 h1 ka => ?_
  have e0 : (List.replicate n.toNat [PyData.int 0]).flatten = ((List.range n.toNat).map fun _ => (0 : Int)).map PyData.int := by
    rw [List.map_const', List.length_range, List.map_replicate]
    induction n.toNat with
    | zero => rfl
    | succ m ih => rw [List.replicate_succ, List.flatten_cons, ih]; rfl
  rw [e0] at ka
  have ka := ka.ints_inv
  subst ka
  have f1 := (Fr.start eb).take g1 n1 nb1 h1
  refine q_for2 (K := K) (B := B1) (d1 := fun p : Tie × Int => tieD p.1) (d2 := fun p : Tie × Int => .int p.2) (P := (· = ts.zip cs)) (ei_zip (K := K) (ed_var (n := 1) f1.bh rfl (k1.ex f1.eb)) (ed_var (n := 2) f1.bh rfl (k2.ex f1.eb)))
    (fun l B2 i σ' H' => Ex B1 B2 ∧ ∃ (y6 y7 y8 : Option V), σ' = [some (.int n), some v1, some v2, some (.int a), some (.int b), some (.ref la), y6, y7, y8] ∧ Fr B H B2 H' [(la, .lst (((List.range n.toNat).map fun (k : Nat) => apL a b (l.take i) (k : Int)).map V.int))]) ?_ ?_ ?_ ?_
  · rintro l B2 H2 - g2
    exact ⟨g2.bb, none, none, none, rfl, f1.gr g2⟩
  · rintro l B2 i σ' H' ⟨_, _, _, _, _, f⟩
    exact f.bh
  · rintro l B2 i ⟨t, col⟩ x y B3 σ' H' H3 rfl hi ⟨e12, y6, y7, y8, rfl, f⟩ g3 kx ky
    obtain rfl := ky.int_inv
    have eb2 := f.eb
    have f3 := f.gr g3
    have hmem := List.of_mem_zip (List.mem_of_getElem? hi)
    have ht := hW t hmem.1
    have htk : (ts.zip cs).take (i + 1) = (ts.zip cs).take i ++ [(t, col)] := by rw [List.take_add_one, hi]; rfl
    refine s_for (B := B3) (dt := PyData.int) (P := (· = [t.1, t.2])) (ei_tup (K := K) (ed_var (n := 6) f3.bh rfl kx))
      (fun l2 B4 j σ' H' => Ex B3 B4 ∧ ∃ (y8 : Option V), σ' = [some (.int n), some v1, some v2, some (.int a), some (.int b), some (.ref la), some x, some (.int col), y8] ∧ Fr B H B4 H' [(la, .lst (((List.range n.toNat).map fun (k : Nat) => apL a b ((ts.zip cs).take i) (k : Int) + wtC a b col * ((l2.take j).count (k : Int) : Int)).map V.int))]) ?_ ?_ ?_ ?_
    · rintro l2 B4 H4 - g4
      refine ⟨g4.bb, _, rfl, ?_⟩
      have : (fun (k : Nat) => apL a b ((ts.zip cs).take i) (k : Int) + wtC a b col * ((l2.take 0).count (k : Int) : Int)) = fun (k : Nat) => apL a b ((ts.zip cs).take i) (k : Int) := by
        funext k
        rw [List.take_zero, List.count_nil]; simp
      rw [this]; exact f3.gr g4
    · rintro l2 B4 j σ' H' ⟨_, _, _, f⟩
      exact f.bh
    · rintro l2 B4 j pl z B5 σ' H' H5 rfl hj ⟨e34, y8, rfl, f⟩ g5 kz
      obtain rfl := kz.int_inv
      have eb4 := f.eb
      have f5 := f.gr g5
      have hpl : 0 ≤ pl ∧ pl < n := by
        have : pl = t.1 ∨ pl = t.2 := by simpa using List.mem_of_getElem? hj
        rcases this with e | e <;> rw [e] <;> omega
      have hv := ev_ixO (K := K) (σ := [some (.int n), some v1, some v2, some (.int a), some (.int b), some (.ref la), some x, some (.int col), some (.int pl)]) (ev_var (i := 5) rfl) f5.get0 (ev_var (i := 8) rfl) (intsV_at hpl.1 (by omega))
      refine Evl.s_setL (j := pl.toNat) f5.get0 (ev_I0 (g := fun i j => .int (i + j)) (j := wtC a b col) hv ?_) (ev_var (i := 5) rfl) (by rw [Int.toNat_of_nonneg hpl.1]; exact ev_var (i := 8) rfl) (by rw [List.length_map, List.length_map, List.length_range]; omega) fun H6 e6 => ?_
      · unfold wtC
        refine ev_ifV (b := decide (col = a)) (et_test (ev_eqI (ev_var (i := 7) rfl) (ev_var (i := 3) rfl))) (fun hb => ?_) (fun hb => ?_)
        · rw [if_pos (of_decide_eq_true hb)]; exact ev_c
        · rw [if_neg (of_decide_eq_false hb)]
          refine ev_ifV (b := decide (col = b)) (et_test (ev_eqI (ev_var (i := 7) rfl) (ev_var (i := 4) rfl))) (fun hb => ?_) (fun hb => ?_)
          · rw [if_pos (of_decide_eq_true hb)]; exact ev_neg ev_c
          · rw [if_neg (of_decide_eq_false hb)]; exact ev_c
      have tk2 : [t.1, t.2].take (j + 1) = [t.1, t.2].take j ++ [pl] := by rw [List.take_add_one, hj]; rfl
      refine ⟨e34, _, rfl, ?_⟩
      have hz : ((pl.toNat : Nat) : Int) = pl := Int.toNat_of_nonneg hpl.1
      rw [intsV_set (G := fun (k : Nat) => apL a b ((ts.zip cs).take i) (k : Int) + wtC a b col * (([t.1, t.2].take (j + 1)).count (k : Int) : Int))]
      · exact ((f5.ev e6).set0 (u := .lst (((List.range n.toNat).map fun (k : Nat) => apL a b ((ts.zip cs).take i) (k : Int) + wtC a b col * (([t.1, t.2].take (j + 1)).count (k : Int) : Int)).map V.int))).back eb4 g5.bb
      · rw [tk2, List.count_append, hz]
        have : [pl].count pl = 1 := by simp
        rw [this]
        have e : ∀ c : Nat, ((c + 1 : Nat) : Int) = (c : Int) + 1 := fun c => by omega
        rw [e, Int.mul_add]; omega
      · intro k hk
        have h0 : [pl].count (k : Int) = 0 := by
          rw [List.count_eq_zero]
          intro z
          have := List.mem_singleton.mp z
          exact hk (by omega)
        rw [tk2, List.count_append, h0, Nat.add_zero]
    · rintro l2 B4 σ' H' rfl ⟨e34, y8, rfl, f⟩
      refine ⟨e12, _, _, _, rfl, ?_⟩
      have : (fun (k : Nat) => apL a b ((ts.zip cs).take i) (k : Int) + wtC a b col * (([t.1, t.2].take [t.1, t.2].length).count (k : Int) : Int)) = fun (k : Nat) => apL a b ((ts.zip cs).take (i + 1)) (k : Int) := by
        funext k
        rw [htk, apL_append, List.take_length]
        congr 1
        show _ = 0 + (if has t (k : Int) = true then wtC a b col else 0)
        rw [List.count_cons, List.count_cons, List.count_nil]
        have ne : ¬ t.1 = t.2 := by omega
        by_cases h1 : t.1 = (k : Int)
        · have h2 : ¬ t.2 = (k : Int) := fun z => ne (h1.trans z.symm)
          have : has t (k : Int) = true := has_iff.mpr (.inl h1.symm)
          simp [h1, h2, this]
        · by_cases h2 : t.2 = (k : Int)
          · have : has t (k : Int) = true := has_iff.mpr (.inr h2.symm)
            simp [h1, h2, this]
          · have : has t (k : Int) = false := by
              cases q : has t (k : Int) with
              | false => rfl
              | true => exact ((has_iff.mp q).elim (fun z => absurd z.symm h1) fun z => absurd z.symm h2)
            simp [h1, h2, this]
      rw [this] at f
      exact f.back eb2 (g3.bb.trans e34)
  rintro l B2 σ' H' rfl ⟨e12, y6, y7, y8, rfl, f⟩
  rw [List.take_length] at f
  have fx := f.fix
  have hne : apsOf n a b (ts.zip cs) ≠ [] := fun z => by
    have := congrArg List.length z
    unfold apsOf at this
    rw [List.length_map, List.length_range] at this
    simp at this; omega
  have kA := ed_var (σ := [some (.int n), some v1, some v2, some (.int a), some (.int b), some (.ref la), y6, y7, y8]) (d := .list ((apsOf n a b (ts.zip cs)).map PyData.int)) (n := 5) fx.bh rfl (.lst upd_same .ints)
  refine Evl.s_ret (Evl.ev_orV (ev_I0 (g := fun i j => .bl (decide (i > j))) (ev_max (K := K) kA hne) (ev_c (v := .int 1))) fun _ => ev_I0 (g := fun i j => .bl (decide (i < j))) (ev_min (K := K) kA hne) (ev_neg (ev_c (v := .int 1)))) fun H5 e5 => ?_
  exact q H5 (fx.ex0.trans e5)

end
end TW
set_option Elab.async false
set_option linter.all false
set_option maxRecDepth 100000
set_option maxHeartbeats 4000000
namespace TW
open PySem PySem.Spec PyProof.Rows L2 TM TB
open Evl (Ex Ex.refl Ex.trans Ex.new Ex.mut Ev EvT EvA ev_var ev_c ev_op rv_I0 rv_I rv_eq rv_ne et_test et_B et_and et_or et_not et_is ev_is sz_of sz_lt fresh_back)
section
variable {P : Program} {w : World} {K : PySem.W.Frag} {mg : Str → Option Value} {base : Heap} {A : Ad}
/-! ### spread -/
theorem even_pairs {n K : Int} {ts : List Tie} {cs : List Int} (hl : cs.length = ts.length) (hr : ∀ c ∈ cs, 0 ≤ c ∧ c < K) (h : ∀ a b : Int, 0 ≤ b → b < a → a < K → unevenB n a b ts cs = false) : EvenCols n ts cs K := by
  refine ⟨hl, hr, fun v v0 v1 c d c0 c1 d0 d1 => ?_⟩
  have key : ∀ a b : Int, 0 ≤ b → b < a → a < K → cntAt ts cs v b ≤ cntAt ts cs v a + 1 ∧ cntAt ts cs v a ≤ cntAt ts cs v b + 1 := fun a b b0 ba a1 => by
    have hu : ¬ ∃ v, 0 ≤ v ∧ v < n ∧ (cntAt ts cs v a + 1 < cntAt ts cs v b ∨ cntAt ts cs v b + 1 < cntAt ts cs v a) := fun z => by
      have := (unevenB_true (n := n) (a := a) (b := b) (by omega) (ts := ts) (cs := cs)).mpr z
      rw [h a b b0 ba a1] at this; cases this
    have h1 : ¬ (cntAt ts cs v a + 1 < cntAt ts cs v b ∨ cntAt ts cs v b + 1 < cntAt ts cs v a) := fun z => hu ⟨v, v0, v1, z⟩
    omega
  by_cases e : c = d
  · subst e; omega
  · by_cases e2 : c < d
    · exact (key d c c0 e2 d1).1
    · exact (key c d d0 (by omega) c1).2
def sp_spread : Sp := fun vs H Q _ => ∃ (n : Int) (ts : List Tie) (many : Int) (B : Hp), Ex B H ∧ DaAll B vs [.int n, tiesD ts, .int many] ∧ (1 ≤ n ∧ n ≤ 60 ∧ Web n ts ∧ Bip ts ∧ ts.length ≤ 400 ∧ 1 ≤ many) ∧ RetM B H (fun ds => ∃ cs : List Int, ds = cs.map PyData.int ∧ EvenCols n ts cs many) Q
theorem len_spread {vs : List V} {H : Hp} {Q : VK} {E : XK} (h : sp_spread vs H Q E) : vs.length = 3 := by
  obtain ⟨_, _, _, _, _, k, _⟩ := h
  exact k.len
theorem ok_spread (T : TX K mg A) : Ok P w K mg base CX0 3 A.spread ["places", "ties", "many"] sp_spread := by
  obtain ⟨fd, F⟩ := T.F_spread
  obtain ⟨fd_is_uneven, G_is_uneven, B_is_uneven, K_is_uneven⟩ := ok_is_uneven (P := P) (w := w) (base := base) T
  obtain ⟨fd_nearly_of, G_nearly_of, B_nearly_of, K_nearly_of⟩ := ok_nearly_of (P := P) (w := w) (base := base) T
  refine ⟨fd, ?_, F.binds (ps := ["places", "ties", "many"]) fun _ _ _ _ _ _ us hl => match us, hl with | [_, _, _], _ => rfl, F.kp⟩
  refine F.ok sc_spread (fun vs H Q E h => len_spread h) (fun cdv Ar outer s H vs Q E hr h => ?_)
  have nd := sc_spread.nd
  have hu := hu_of hr
  obtain ⟨n, ts, many, B, eb, k, ⟨hn0, hn1, hW, hbip, hl, hm⟩, q⟩ := h
  match vs, k with
  | [_, v1, _], .cons (.int _) (.cons k1 (.cons (.int _) .nil)) =>
  refine ⟨_, (pss_cons (ps_set (i := 2) nd rfl (by first | exact .inl rfl | exact .inr rfl) (pe_callB (call_min2 rfl) (by rfl) T.n_min (by decide +kernel) (pa_cons (pv 2) (pa_cons (pe_op op_add (pe_callB (lenK K) (by rfl) T.n_len PySem.boot_len (pa_cons (pv 1) pa_nil)) pe_int) pa_nil)))) (pss_cons (ps_set (i := 3) nd rfl (by first | exact .inl rfl | exact .inr rfl) (pe_lc (own := [("at", 9)]) (g := gName 9) (tt := tYes)  rfl nd  (pi_range1 rfl T.n_range (pa_cons (pe_callB (lenK K) (by rfl) T.n_len PySem.boot_len (pa_cons (pv 1) pa_nil)) pa_nil)) (blkOk_by (by kernel_rfl)) (fun _ _ _ _ _ => (pg_name (i := 9) nd rfl (by first | exact .inl rfl | exact .inr rfl))) (fun _ _ _ _ _ => pts_nil) (fun _ _ _ _ _ => (pe_op op_mod (pv 9) (pv 2))))) (pss_cons (ps_set (i := 4) nd rfl (by first | exact .inl rfl | exact .inr rfl) pe_bl) (pss_cons (ps_while PassesOwn.never (pt_val (pv 4)) (pss_cons (ps_set (i := 4) nd rfl (by first | exact .inl rfl | exact .inr rfl) pe_bl) (pss_one (ps_for PassesOwn.never rfl (pi_range1 rfl T.n_range (pa_cons (pv 2) pa_nil)) (pg_name (i := 5) nd rfl (by first | exact .inl rfl | exact .inr rfl)) (pss_one (ps_for PassesOwn.never rfl (pi_range1 rfl T.n_range (pa_cons (pv 5) pa_nil)) (pg_name (i := 6) nd rfl (by first | exact .inl rfl | exact .inr rfl)) (pss_cons (ps_setLc (i := 7) (own := [("at", 9)]) (g := gName 9)  rfl nd rfl rfl (sw_true rfl rfl rfl (by decide +kernel))  (pi_range1 rfl T.n_range (pa_cons (pe_callB (lenK K) (by rfl) T.n_len PySem.boot_len (pa_cons (pv 1) pa_nil)) pa_nil)) (blkOk_by (by kernel_rfl)) (fun _ _ _ _ _ => (pg_name (i := 9) nd rfl (by first | exact .inl rfl | exact .inr rfl))) (fun _ _ _ _ _ => (pts_one (pt_cmpR (in_seqK K) (pe_ix (ix_listK K) (pv 3) (pv 9) (fun _ _ => rfl)) (pe_tup (pa_cons (pv 5) (pa_cons (pv 6) pa_nil))) (by first | exact nomark _ | rfl)))) (fun _ _ _ _ _ => (pv 9))) (pss_one (ps_if (pt_val (pe_call G_is_uneven (hr.mono (by decide)) (by rfl) T.g_is_uneven K_is_uneven B_is_uneven .nil pass0 (pa_cons (pv 0) (pa_cons (pv 1) (pa_cons (pv 3) (pa_cons (pv 5) (pa_cons (pv 6) pa_nil))))))) (pss_cons (ps_set (i := 4) nd rfl (by first | exact .inl rfl | exact .inr rfl) pe_bl) (pss_cons (ps_set (i := 8) nd rfl (by first | exact .inl rfl | exact .inr rfl) (pe_call G_nearly_of (hr.mono (by decide)) (by rfl) T.g_nearly_of K_nearly_of B_nearly_of .nil pass0 (pa_cons (pv 0) (pa_cons (pe_lc (own := [("at", 9)]) (g := gName 9) (tt := tYes)  rfl nd  (listK K (pv 7)) (blkOk_by (by kernel_rfl)) (fun _ _ _ _ _ => (pg_name (i := 9) nd rfl (by first | exact .inl rfl | exact .inr rfl))) (fun _ _ _ _ _ => pts_nil) (fun _ _ _ _ _ => (pe_ix (ix_listK K) (pv 1) (pv 9) (fun _ _ => rfl)))) pa_nil)))) (pss_one (ps_for PassesOwn.never rfl (zipK K (by rfl) T.n_zip (pa_cons (pv 7) (pa_cons (pv 8) pa_nil))) (gtupK K rfl (pgs_cons (pg_name (i := 9) nd rfl (by first | exact .inl rfl | exact .inr rfl)) (pgs_cons (pg_name (i := 10) nd rfl (by first | exact .inl rfl | exact .inr rfl)) pgs_nil))) (pss_one (ps_asg (pe_ifExp (pt_cmpR op_eq (pv 10) pe_int (by first | exact nomark _ | rfl)) (pv 5) (pv 6)) (pg_sub (pv 3) (pv 9) set_list))))))) pss_nil))))))))) (pss_one (ps_ret (pv 3))))))), ?_⟩
  -- many
  have hmin := ev_min2 (σ := start ["places", "ties", "many", "colours", "again", "one", "other", "some", "halves", "at", "half"] [.int n, v1, .int many]) (ev_var (i := 2) rfl) (ev_I0 (g := fun i j => .int (i + j)) (ev_lenD (K := K) (ed_var (n := 1) eb rfl k1)) (ev_c (v := .int 1)))
  rw [List.length_map] at hmin
  obtain ⟨M, hM⟩ : ∃ M, M = min many ((ts.length : Int) + 1) := ⟨_, rfl⟩
  rw [← hM] at hmin
  have hM1 : 1 ≤ M ∧ M ≤ 401 := by rw [hM]; omega
  have hMm : M = many ∨ (M = (ts.length : Int) + 1 ∧ M ≤ many) := by rw [hM]; omega
  refine q_asgV hmin fun H1 e1 => ?_
  have f1 := (Fr.start eb).ev e1
  -- colours
  refine q_asgN (B := B) (en_lcA (dt := fun (k : Nat) => PyData.int (k : Int)) (l := List.range ts.length) (fun (k : Nat) => .int ((k : Int) % M)) ?_ (by rw [List.length_range]; omega) fun a x B3 H3 _ e1 e2 e3 kx => ?_) fun lc xc B2 H2 g2 n2 nb2 h2 kc => ?_
  · have h := ei_rg1 (σ := [some (.int n), some v1, some (.int M), none, none, none, none, none, none, none, none]) f1.bh (ev_lenD (K := K) (ed_var (n := 1) f1.bh rfl k1)) (by rw [List.length_map]; omega)
    rw [List.length_map, Int.toNat_natCast] at h
    exact h
  · obtain rfl := kx.int_inv
    exact edi e3 (ev_I (ev_var (i := 9) rfl) (ev_var (i := 2) rfl) (C := fun _ j => 0 < j) (g := fun i j => .int (i % j)) (by omega))
  have ek : (List.range ts.length).map (fun (k : Nat) => PyData.int ((k : Int) % M)) = ((List.range ts.length).map fun (k : Nat) => (k : Int) % M).map PyData.int := by rw [List.map_map]; rfl
  rw [ek] at kc
  have kc := kc.ints_inv
  subst kc
  have f2 := f1.take g2 n2 nb2 h2
  refine q_asgV (ev_c (v := .bl true)) fun H3 e3 => ?_
  have f3 := f2.ev e3
  -- while again
  refine q_wh (fun m σ' H' => ∃ (B4 : Hp) (cs : List Int) (ag : Bool) (y5 y6 y7 y8 y9 y10 : Option V), σ' = [some (.int n), some v1, some (.int M), some (.ref lc), some (.bl ag), y5, y6, y7, y8, y9, y10] ∧ Fr B H B4 H' [(lc, .lst (cs.map V.int))] ∧ cs.length = ts.length ∧ (∀ c ∈ cs, 0 ≤ c ∧ c < M) ∧
      (ag = false → EvenCols n ts cs M) ∧ m = 2 * phi n M ts cs + (if ag then 1 else 0)) _ ⟨B2, _, true, _, _, _, _, _, _, rfl, f3, by rw [List.length_map, List.length_range], fun c hc => ?_, fun z => (nomatch z), rfl⟩ ?_
  · obtain ⟨k, _, rfl⟩ := List.mem_map.mp hc
    exact ⟨Int.emod_nonneg _ (by omega), Int.emod_lt_of_pos _ (by omega)⟩
  clear f3 f2
  rintro m σ' H4 ⟨B4, cs, ag, y5, y6, y7, y8, y9, y10, rfl, f, hcl, hcr, hev, rfl⟩
  refine ⟨ag, et_B (ev_var (i := 4) rfl), fun hag H5 e5 => ?_, fun hag H5 e5 => ?_⟩
  rotate_left
  · -- the end
    have E := even_few hMm (hev hag)
    have f := f.ev e5
    obtain ⟨o1, o2, o3⟩ := f.own _ List.mem_cons_self
    exact ⟨.ref lc, rfl, q _ lc _ B4 H5 ⟨cs, rfl, E⟩ f.toGr o1 o2 o3 .ints⟩
  subst hag
  have f := f.ev e5
  refine q_asgV (ev_c (v := .bl false)) fun H6 e6 => ?_
  have f := f.ev e6
  -- for one in range(many)
  refine s_for (B := B4) (dt := fun (k : Nat) => PyData.int (k : Int)) (P := (· = List.range M.toNat)) (ei_rg1 f.bh (ev_var (i := 2) rfl) ⟨by omega, by omega⟩)
    (fun l B5 i σ' H' => ∃ (B6 : Hp) (ds : List Int) (ag : Bool) (y5 y6 y7 y8 y9 y10 : Option V), Ex B4 B5 ∧ Ex B5 B6 ∧ σ' = [some (.int n), some v1, some (.int M), some (.ref lc), some (.bl ag), y5, y6, y7, y8, y9, y10] ∧ Fr B H B6 H' [(lc, .lst (ds.map V.int))] ∧ ds.length = ts.length ∧ (∀ c ∈ ds, 0 ≤ c ∧ c < M) ∧
      (ag = true → phi n M ts ds < phi n M ts cs) ∧ (ag = false → ds = cs ∧ ∀ a b : Int, 0 ≤ b → b < a → a < (i : Int) → unevenB n a b ts cs = false)) ?_ ?_ ?_ ?_
  · rintro l B5 H7 - g5
    exact ⟨B5, cs, false, _, _, _, _, _, _, g5.bb, Ex.refl _, rfl, f.gr g5, hcl, hcr, fun z => (nomatch z), fun _ => ⟨rfl, fun a b h0 h1 h2 => by omega⟩⟩
  · rintro l B5 i σ' H' ⟨B6, _, _, _, _, _, _, _, _, _, e, _, f, _⟩
    exact e.trans f.bh
  · clear f
    rintro l B5 i v x B7 σ' H' H7 rfl hi ⟨B6, ds, ag, y5, y6, y7, y8, y9, y10, e45, e56, rfl, f, hdl, hdr, hag1, hag2⟩ g7 kx
    obtain rfl := kx.int_inv
    have hil := (List.getElem?_eq_some_iff.mp hi).1
    rw [List.length_range] at hil
    have hiv := (List.getElem?_eq_some_iff.mp hi).2
    rw [List.getElem_range] at hiv
    subst hiv
    have f := f.ev g7.hh
    -- for other in range(one)
    refine s_for (B := B6) (dt := fun (k : Nat) => PyData.int (k : Int)) (P := (· = List.range (i : Int).toNat)) (ei_rg1 (n := (i : Int)) f.bh (ev_var (i := 5) rfl) ⟨by omega, by omega⟩)
      (fun l2 B8 j σ' H' => ∃ (B9 : Hp) (ds : List Int) (ag : Bool) (y6 y7 y8 y9 y10 : Option V), Ex B6 B8 ∧ Ex B8 B9 ∧ σ' = [some (.int n), some v1, some (.int M), some (.ref lc), some (.bl ag), some (.int (i : Int)), y6, y7, y8, y9, y10] ∧ Fr B H B9 H' [(lc, .lst (ds.map V.int))] ∧ ds.length = ts.length ∧ (∀ c ∈ ds, 0 ≤ c ∧ c < M) ∧
        (ag = true → phi n M ts ds < phi n M ts cs) ∧ (ag = false → ds = cs ∧ (∀ a b : Int, 0 ≤ b → b < a → a < (i : Int) → unevenB n a b ts cs = false) ∧ ∀ b : Int, 0 ≤ b → b < (j : Int) → unevenB n (i : Int) b ts cs = false)) ?_ ?_ ?_ ?_
    · rintro l2 B8 H8 - g8
      exact ⟨B8, ds, ag, _, _, _, _, _, g8.bb, Ex.refl _, rfl, f.gr g8, hdl, hdr, hag1, fun z => ⟨(hag2 z).1, (hag2 z).2, fun b h0 h1 => by omega⟩⟩
    · rintro l2 B8 j σ' H' ⟨B9, _, _, _, _, _, _, _, _, e, _, f, _⟩
      exact e.trans f.bh
    · clear hag1 hag2
      rintro l2 B8 j o x8 B10 σ' H' H8 rfl hj ⟨B9, ds, ag, y6, y7, y8, y9, y10, e68, e89, rfl, f, hdl, hdr, hag1, hag2⟩ g10 kx8
      obtain rfl := kx8.int_inv
      have hjl := (List.getElem?_eq_some_iff.mp hj).1
      rw [List.length_range, Int.toNat_natCast] at hjl
      have hjv := (List.getElem?_eq_some_iff.mp hj).2
      rw [List.getElem_range] at hjv
      subst hjv
      have ne : (i : Int) ≠ (j : Int) := by omega
      have eb9 := f.eb
      have f := f.ev g10.hh
      -- some
      refine q_asgN (B := B9) (en_lc (dt := fun (k : Nat) => PyData.int (k : Int)) (l := List.range ts.length) (fun (k : Nat) => decide (ds.getD k 0 = (i : Int) ∨ ds.getD k 0 = (j : Int))) (fun (k : Nat) => .int (k : Int)) ?_ (by rw [List.length_range]; omega) ?_ ?_) fun lo xo B11 H9 g11 n11 nb11 h11 ko => ?_
      · have h := ei_rg1 (σ := [some (.int n), some v1, some (.int M), some (.ref lc), some (.bl ag), some (.int (i : Int)), some (.int (j : Int)), y7, y8, y9, y10]) f.bh (ev_lenD (K := K) (ed_var (n := 1) f.bh rfl (k1.ex f.eb))) (by rw [List.length_map]; omega)
        rw [List.length_map, Int.toNat_natCast] at h
        exact h
      · intro a x B3 H3 ha e1 e2 e3 kx
        obtain rfl := kx.int_inv
        have hal := List.mem_range.mp ha
        have hv := ev_ixO (K := K) (σ := [some (.int n), some v1, some (.int M), some (.ref lc), some (.bl ag), some (.int (i : Int)), some (.int (j : Int)), y7, y8, some (.int (a : Int)), y10]) (ev_var (i := 3) rfl) (e1 _ _ f.get0) (ev_var (i := 9) rfl) (v := .int (ds.getD a 0)) (atI_nat (by rw [List.getElem?_map, List.getElem?_eq_getElem (by omega), List.getD_eq_getElem?_getD, List.getElem?_eq_getElem (by omega)]; rfl))
        refine et_is (et_test (ev_inTi (K := K) (ns := [(i : Int), (j : Int)]) hv (ed_tup (eds_cons (edi e3 (ev_var (i := 5) rfl)) (eds_cons (edi e3 (ev_var (i := 6) rfl)) (eds_nil e3)))))) ?_
        congr 1
        simp
      · intro a x B3 H3 _ e1 e2 e3 kx _
        exact ed_var (n := 9) e3 rfl kx
      have eo : ((List.range ts.length).filter fun (k : Nat) => decide (ds.getD k 0 = (i : Int) ∨ ds.getD k 0 = (j : Int))).map (fun (k : Nat) => PyData.int (k : Int)) = (idx2 (i : Int) (j : Int) ds).map natD := by unfold idx2; rw [hdl]; rfl
      rw [eo] at ko
      have f11 := f.gr (fixD g11 n11 nb11 h11)
      have e911 : Ex B9 (upd B11 lo (.lst xo)) := g11.bb.trans (Ex.new nb11)
      have kO : ∀ B2, Ex (upd B11 lo (.lst xo)) B2 → Da B2 (.ref lo) (.list ((idx2 (i : Int) (j : Int) ds).map natD)) := fun B2 e => .lst (e _ _ upd_same) (ko.ex ((Ex.new nb11).trans e))
      -- is_uneven
      have hun : Ev (tCall sp_is_uneven [] E0 (tCons (tVar 0) (tCons (tVar 1) (tCons (tVar 3) (tCons (tVar 5) (tCons (tVar 6) tNil)))))) [some (.int n), some v1, some (.int M), some (.ref lc), some (.bl ag), some (.int (i : Int)), some (.int (j : Int)), some (.ref lo), y8, y9, y10] H9 (.bl (unevenB n (i : Int) (j : Int) ts ds)) := by
        have fx := f11.fix
        exact ev_call (eds_cons (edi fx.bh (ev_var (i := 0) rfl)) (eds_cons (ed_var (n := 1) fx.bh rfl (k1.ex fx.eb)) (eds_cons (ed_var (n := 3) fx.bh rfl (.lst upd_same .ints)) (eds_cons (edi fx.bh (ev_var (i := 5) rfl)) (eds_cons (edi fx.bh (ev_var (i := 6) rfl)) (eds_nil fx.bh)))))) fun B6 H6 ws Q6 E6 e6 k6 q6 => ⟨n, ts, ds, _, _, B6, e6, k6, ⟨by omega, by omega, hW, by omega⟩, q6⟩
      refine s_when (b := unevenB n (i : Int) (j : Int) ts ds) (et_B hun) (fun hb H10 e10 => ?_) (fun hb H10 e10 => ?_)
      · have f := f11.ev e10
        have hu := (unevenB_true ne).mp hb
        refine q_asgV (ev_c (v := .bl true)) fun H11 e11 => ?_
        have f := f.ev e11
        -- halves
        have hsub := idx2_sub (a := (i : Int)) (b := (j : Int)) ts ds hdl
        have hidl : (idx2 (i : Int) (j : Int) ds).length = (sub2 (i : Int) (j : Int) ts ds).length := by rw [← hsub, List.length_map]
        have hsl := sub2_le (i : Int) (j : Int) ts ds
        refine q_asgM (em_call (ds := [.int n, tiesD (sub2 (i : Int) (j : Int) ts ds)]) (eds_cons (edi f.bh (ev_var (i := 0) rfl)) (eds_cons ?_ (eds_nil f.bh))) fun B6 H6 ws Q6 E6 e6 k6 q6 => ⟨n, sub2 (i : Int) (j : Int) ts ds, B6, e6, k6, ⟨by omega, by omega, hW.sub fun t ht => sub2_mem ht, by omega⟩, q6⟩) fun es lh xh B12 H12 pd g12 n12 nb12 h12 kh => ?_
        · have h := EvN.toD (en_lcA (dt := natD) (l := idx2 (i : Int) (j : Int) ds) (te := tOp (rIxL K) (tVar 1) (tVar 9)) (vs := [9]) (j := 9) (fun k => tieD (ts.getD k (0, 0))) (ei_list (K := K) (ed_var (σ := [some (.int n), some v1, some (.int M), some (.ref lc), some (.bl true), some (.int (i : Int)), some (.int (j : Int)), some (.ref lo), y8, y9, y10]) (n := 7) f.bh rfl (kO _ (Ex.refl _)))) (by omega) fun a x B3 H3 ha e1 e2 e3 kx => by
            have kx : x = .int (a : Int) := kx.int_inv
            subst kx
            have hal := idx2_lt ha
            exact ed_tie (K := K) (i := a) (ed_var (n := 1) e3 rfl (k1.ex (f.eb.trans e2))) (ev_var (i := 9) rfl) rfl (by rw [List.getD_eq_getElem?_getD, List.getElem?_eq_getElem (by omega)]; rfl))
          have e : (idx2 (i : Int) (j : Int) ds).map (fun k => tieD (ts.getD k (0, 0))) = (sub2 (i : Int) (j : Int) ts ds).map tieD := by rw [← hsub, List.map_map]; rfl
          rw [e] at h
          exact h
        obtain ⟨N, rfl⟩ := pd
        obtain ⟨hs, hhs⟩ : ∃ hs, hs = nearF n (sub2 (i : Int) (j : Int) ts ds) := ⟨_, rfl⟩
        rw [← hhs] at N kh
        have f12 := f.gr (fixD g12 n12 nb12 h12)
        have e1112 : Ex (upd B11 lo (.lst xo)) (upd B12 lh (.lst xh)) := g12.bb.trans (Ex.new nb12)
        have hfall := phi_fall (K := M) hW hbip hdl (a := (i : Int)) (b := (j : Int)) ⟨by omega, by omega⟩ ⟨by omega, by omega⟩ ne N hu
        have hNl := N.len
        -- for at, half in zip(some, halves)
        refine s_for2 (K := K) (B := upd B12 lh (.lst xh)) (d1 := fun p : Nat × Int => natD p.1) (d2 := fun p : Nat × Int => .int p.2) (P := (· = (idx2 (i : Int) (j : Int) ds).zip hs)) (ei_zip (K := K) (ed_var (n := 7) f12.bh rfl (kO _ e1112)) (ed_var (n := 8) f12.bh rfl (.lst upd_same (kh.ex (Ex.new nb12)))))
          (fun l3 B13 m σ' H' => ∃ (y9 y10 : Option V), Ex (upd B12 lh (.lst xh)) B13 ∧ σ' = [some (.int n), some v1, some (.int M), some (.ref lc), some (.bl true), some (.int (i : Int)), some (.int (j : Int)), some (.ref lo), some (.ref lh), y9, y10] ∧ Fr B H B13 H' [(lc, .lst ((setP (i : Int) (j : Int) ds (l3.take m)).map V.int))]) ?_ ?_ ?_ ?_
        · rintro l3 B13 H13 - g13
          exact ⟨_, _, g13.bb, rfl, f12.gr g13⟩
        · rintro l3 B13 m σ' H' ⟨_, _, _, _, f⟩
          exact f.bh
        · rintro l3 B13 m ⟨a, hf⟩ x y B14 σ' H' H14 rfl hm ⟨y9, y10, e1213, rfl, f⟩ g14 kx ky
          have kx : x = .int (a : Int) := kx.int_inv
          subst kx
          have ky : y = .int hf := ky.int_inv
          subst ky
          have eb13 := f.eb
          have f := f.ev g14.hh
          have hal := idx2_lt (List.of_mem_zip (List.mem_of_getElem? hm)).1
          have htk : ((idx2 (i : Int) (j : Int) ds).zip hs).take (m + 1) = ((idx2 (i : Int) (j : Int) ds).zip hs).take m ++ [(a, hf)] := by rw [List.take_add_one, hm]; rfl
          refine Evl.s_setL (j := a) f.get0 (v := .int (if hf = 0 then (i : Int) else (j : Int))) ?_ (ev_var (i := 3) rfl) (ev_var (i := 9) rfl) (by rw [List.length_map, setP_len]; omega) fun H15 e15 => ?_
          · refine ev_ifV (b := decide (hf = 0)) (et_test (ev_eqI (ev_var (i := 10) rfl) ev_c)) (fun hb => ?_) (fun hb => ?_)
            · rw [if_pos (of_decide_eq_true hb)]; exact ev_var (i := 5) rfl
            · rw [if_neg (of_decide_eq_false hb)]; exact ev_var (i := 6) rfl
          refine ⟨_, _, e1213, rfl, ?_⟩
          rw [htk, setP_snoc, List.map_set]
          exact (f.ev e15).set0
        · rintro l3 B13 σ' H' rfl ⟨y9, y10, e1213, rfl, f⟩
          rw [List.take_length, setP_recol ds hs (by omega)] at f
          refine ⟨B13, _, true, _, _, _, _, _, e68, (e89.trans e911).trans (e1112.trans e1213), rfl, f, by rw [recol_len]; exact hdl, recol_mem (P := fun c => 0 ≤ c ∧ c < M) ⟨by omega, by omega⟩ ⟨by omega, by omega⟩ ds hs hdr, fun _ => ?_, fun z => (nomatch z)⟩
          cases ag with
          | true => have := hag1 rfl; omega
          | false => rw [(hag2 rfl).1] at hfall ⊢; exact hfall
      · refine ⟨upd B11 lo (.lst xo), ds, ag, _, _, _, _, _, e68, e89.trans e911, rfl, f11.ev e10, hdl, hdr, hag1, fun z => ⟨(hag2 z).1, (hag2 z).2.1, fun b h0 h1 => ?_⟩⟩
        by_cases e : b = (j : Int)
        · rw [e, ← (hag2 z).1]; exact hb
        · exact (hag2 z).2.2 b h0 (by omega)
    · rintro l2 B8 σ' H' rfl ⟨B9, ds, ag, y6, y7, y8, y9, y10, e68, e89, rfl, f, hdl, hdr, hag1, hag2⟩
      rw [List.length_range, Int.toNat_natCast] at hag2
      refine ⟨B9, ds, ag, _, _, _, _, _, _, e45, (e56.trans e68).trans e89, rfl, f, hdl, hdr, hag1, fun z => ⟨(hag2 z).1, fun a b h0 h1 h2 => ?_⟩⟩
      by_cases e : a = (i : Int)
      · rw [e]; exact (hag2 z).2.2 b h0 (by omega)
      · exact (hag2 z).2.1 a b h0 h1 (by omega)
  · rintro l B5 σ' H' rfl ⟨B6, ds, ag, y5, y6, y7, y8, y9, y10, e45, e56, rfl, f, hdl, hdr, hag1, hag2⟩
    rw [List.length_range] at hag2
    refine ⟨2 * phi n M ts ds + (if ag then 1 else 0), ?_, B6, ds, ag, _, _, _, _, _, _, rfl, f, hdl, hdr, fun z => ?_, rfl⟩
    · cases ag with
      | true => have := hag1 rfl; simp; omega
      | false => rw [(hag2 rfl).1]; simp
    · obtain ⟨rfl, h⟩ := hag2 z
      exact even_pairs hdl hdr fun a b h0 h1 h2 => h a b h0 h1 (by omega)

end
end TW
set_option Elab.async false
set_option linter.all false
set_option maxRecDepth 100000
set_option maxHeartbeats 4000000
namespace TW
open PySem PySem.Spec PyProof.Rows L2 TM TB
open Evl (Ex Ex.refl Ex.trans Ex.new Ex.mut Ev EvT EvA ev_var ev_c ev_op rv_I0 rv_I rv_eq rv_ne et_test et_B et_and et_or et_not et_is ev_is sz_of sz_lt fresh_back)
section
variable {P : Program} {w : World} {K : PySem.W.Frag} {mg : Str → Option Value} {base : Heap} {A : Ad}
/-! ### made, told, called: what many doors share -/
theorem _root_.TB.Gr.fr {B0 H0 B H B' H' : Hp} {L : List (Addr × HO)} (g : Gr B0 H0 B H) (f : Fr B H B' H' L) : Fr B0 H0 B' H' L where
  ex0 := g.hh.trans f.ex0
  eb := g.bb.trans f.eb
  bh := f.bh
  old := fun a h1 h2 => f.old a (ex_ne g.hh h1) (g.old a h1 h2)
  own := fun q hq => by
    obtain ⟨h1, h2, h3⟩ := f.own q hq
    exact ⟨base_none g.hh h1, h2, h3⟩
  nd := f.nd
theorem _root_.TB.RetO.gr {B0 H0 B H : Hp} {C : Addr} {f : Str} {ns : List Int} {Q : VK} (q : RetO B0 H0 C f ns Q) (g : Gr B0 H0 B H) : RetO B H C f ns Q := fun x dx l B' H2 fr => q x dx l B' H2 (g.fr fr)
theorem s_retCall {σ : L2.St} {B H : Hp} {sp : Sp} {E : XK} {ta : TA} {ds : List PyData} {Dn : Ends} (h : EvDs ta σ B H ds) (hs : ∀ vs B1 H1, Gr B H B1 H1 → DaAll B1 vs ds → sp vs H1 Dn.rt E) : tRet (tCall sp [] E ta) Dn σ H :=
  h H (Ex.refl H) _ fun vs B1 H1 g k => by
    rw [List.append_nil]
    exact hs vs B1 H1 g k
theorem tif_k {σ : L2.St} {H : Hp} {tt : TT} {ta tb : TE} {b : Bool} {Q : VK} (h : EvT tt σ H b) (h1 : b = true → ∀ H1, Ex H H1 → ta σ H1 Q) (h2 : b = false → ∀ H1, Ex H H1 → tb σ H1 Q) : tIf tt ta tb σ H Q := h H (Ex.refl H) _ fun H2 e2 => by
  cases b with
  | true => exact h1 rfl H2 e2
  | false => exact h2 rfl H2 e2
theorem call_k {σ : L2.St} {B H H1 : Hp} {sp : Sp} {E : XK} {ar : TA} {ds : List PyData} {Q : VK} (h : EvDs ar σ B H ds) (e : Ex H H1) (hs : ∀ vs B1 H2, Gr B H1 B1 H2 → DaAll B1 vs ds → sp vs H2 Q E) : tCall sp [] E ar σ H1 Q :=
  h H1 e _ fun vs B1 H2 g k => by
    rw [List.append_nil]
    exact hs vs B1 H2 g k

end
end TW
set_option Elab.async false
set_option linter.all false
set_option maxRecDepth 100000
set_option maxHeartbeats 4000000
namespace TW
open PySem PySem.Spec PyProof.Rows L2 TM TB
open Evl (Ex Ex.refl Ex.trans Ex.new Ex.mut Ev EvT EvA ev_var ev_c ev_op rv_I0 rv_I rv_eq rv_ne et_test et_B et_and et_or et_not et_is ev_is sz_of sz_lt fresh_back)
section
variable {P : Program} {w : World} {K : PySem.W.Frag} {mg : Str → Option Value} {base : Heap} {A : Ad}
/-! ### are_even, the answers -/
noncomputable def evenP (n : Int) (ts : List Tie) (cs : List Int) (many : Int) : Bool := @decide (EvenCols n ts cs many) (Classical.propDecidable _)
theorem evenP_true {n : Int} {ts : List Tie} {cs : List Int} {many : Int} : evenP n ts cs many = true ↔ EvenCols n ts cs many := by unfold evenP; exact @decide_eq_true_iff _ (Classical.propDecidable _)
theorem evenP_false {n : Int} {ts : List Tie} {cs : List Int} {many : Int} (h : ¬ EvenCols n ts cs many) : evenP n ts cs many = false := by
  cases q : evenP n ts cs many with
  | false => rfl
  | true => exact absurd (evenP_true.mp q) h
def sp_are_even : Sp := fun vs H Q _ => ∃ (n : Int) (ts : List Tie) (cs : List Int) (B : Hp), Ex B H ∧ DaAll B vs [.int n, tiesD ts, .list (cs.map PyData.int), .int 2] ∧ (0 ≤ n ∧ n ≤ 1000 ∧ Web n ts ∧ ts.length ≤ 1000 ∧ cs.length ≤ 1000) ∧ RetV H (.bl (evenP n ts cs 2)) Q
theorem len_are_even {vs : List V} {H : Hp} {Q : VK} {E : XK} (h : sp_are_even vs H Q E) : vs.length = 4 := by
  obtain ⟨_, _, _, _, _, k, _⟩ := h
  exact k.len
theorem two_look (a b : Nat) : decide (maxL 0 [(a : Int), (b : Int)] - minL 0 [(a : Int), (b : Int)] < 2) = decide (a ≤ b + 1 ∧ b ≤ a + 1) := by
  show decide (max (a : Int) (b : Int) - min (a : Int) (b : Int) < 2) = _
  congr 1
  apply propext; omega
theorem even_rows {n : Int} {ts : List Tie} {cs : List Int} (hl : cs.length = ts.length) (hr : ∀ c ∈ cs, 0 ≤ c ∧ c < 2) : ((List.range n.toNat).all fun (v : Nat) => decide (cntAt ts cs (v : Int) 0 ≤ cntAt ts cs (v : Int) 1 + 1 ∧ cntAt ts cs (v : Int) 1 ≤ cntAt ts cs (v : Int) 0 + 1)) = evenP n ts cs 2 := by
  rw [Bool.eq_iff_iff, evenP_true, List.all_eq_true]
  constructor
  · intro h
    refine ⟨hl, hr, fun v h0 h1 c d c0 c1 d0 d1 => ?_⟩
    have := h v.toNat (List.mem_range.mpr (by omega))
    rw [decide_eq_true_iff, Int.toNat_of_nonneg h0] at this
    have hc : c = 0 ∨ c = 1 := by omega
    have hd : d = 0 ∨ d = 1 := by omega
    rcases hc with rfl | rfl <;> rcases hd with rfl | rfl <;> omega
  · rintro ⟨_, _, h⟩ v hv
    have hv := List.mem_range.mp hv
    rw [decide_eq_true_iff]
    exact ⟨h v (by omega) (by omega) 0 1 (by decide) (by decide) (by decide) (by decide), h v (by omega) (by omega) 1 0 (by decide) (by decide) (by decide) (by decide)⟩
theorem ok_are_even (T : TX K mg A) : Ok P w K mg base CX0 2 A.are_even ["places", "ties", "colours", "many"] sp_are_even := by
  obtain ⟨fd, F⟩ := T.F_are_even
  obtain ⟨fd_counts, G_counts, B_counts, K_counts⟩ := ok_counts (P := P) (w := w) (base := base) T
  refine ⟨fd, ?_, F.binds (ps := ["places", "ties", "colours", "many"]) fun _ _ _ _ _ _ us hl => match us, hl with | [_, _, _, _], _ => rfl, F.kp⟩
  refine F.ok sc_are_even (fun vs H Q E h => len_are_even h) (fun cdv Ar outer s H vs Q E hr h => ?_)
  have nd := sc_are_even.nd
  have hu := hu_of hr
  obtain ⟨n, ts, cs, B, eb, k, ⟨hn0, hn1, hW, hl, hcl⟩, q⟩ := h
  match vs, k with
  | [_, v1, v2, _], .cons (.int _) (.cons k1 (.cons k2 (.cons (.int _) .nil))) =>
  refine ⟨_, (pss_cons (ps_if (PW.pt (pw_or (pt_cmpR op_ne (pe_callB (lenK K) (by rfl) T.n_len PySem.boot_len (pa_cons (pv 2) pa_nil)) (pe_callB (lenK K) (by rfl) T.n_len PySem.boot_len (pa_cons (pv 1) pa_nil)) (by first | exact nomark _ | rfl)) (pw_or1 (pt_not (pt_val (pe_callB (allK K rfl) (by rfl) T.n_all (by decide +kernel) (pa_cons (pe_lc (own := [("colour", 4)]) (g := gName 4) (tt := tYes)  rfl nd  (listK K (pv 2)) (blkOk_by (by kernel_rfl)) (fun _ _ _ _ _ => (pg_name (i := 4) nd rfl (by first | exact .inl rfl | exact .inr rfl))) (fun _ _ _ _ _ => pts_nil) (fun _ _ _ _ _ => (pe_chain op_le op_lt pe_int (pv 4) (pv 3)))) pa_nil))))))) (pss_one (ps_ret pe_bl)) pss_nil) (pss_one (ps_ret (pe_callB (allK K rfl) (by rfl) T.n_all (by decide +kernel) (pa_cons (pe_lc (own := [("some", 5)]) (g := gName 5) (tt := tYes)  rfl nd  (listK K (pe_call G_counts (hr.mono (by decide)) (by rfl) T.g_counts K_counts B_counts .nil pass0 (pa_cons (pv 0) (pa_cons (pv 1) (pa_cons (pv 2) (pa_cons (pv 3) pa_nil)))))) (blkOk_by (by kernel_rfl)) (fun _ _ _ _ _ => (pg_name (i := 5) nd rfl (by first | exact .inl rfl | exact .inr rfl))) (fun _ _ _ _ _ => pts_nil) (fun _ _ _ _ _ => (pe_cmpR op_lt (pe_op op_sub (pe_callB (maxK K rfl) (by rfl) T.n_max (by decide +kernel) (pa_cons (pv 5) pa_nil)) (pe_callB (minK K rfl) (by rfl) T.n_min (by decide +kernel) (pa_cons (pv 5) pa_nil))) pe_int (by first | exact nomark _ | rfl)))) pa_nil))))), ?_⟩
  have h2 : ∀ H', Ex H H' → EvD (tVar 2) (start ["places", "ties", "colours", "many", "colour", "some"] [.int n, v1, v2, .int 2]) B H' (.list (cs.map PyData.int)) := fun H' e => ed_var (n := 2) (eb.trans e) rfl k2
  refine q_when (b := !decide (cs.length = ts.length) || !(cs.all fun p => decide (0 ≤ p) && decide (p < 2))) (et_or (et_is (et_test (ev_neI (ev_lenD (K := K) (h2 H (Ex.refl H))) (ev_lenD (K := K) (ed_var (n := 1) eb rfl k1)))) ?_) fun _ => et_not (a := (cs.all fun p => decide (0 ≤ p) && decide (p < 2))) (et_B (ev_is (ev_all (K := K) (B := B) (bs := cs.map fun p => decide (0 ≤ p) && decide (p < 2)) ?_) ?_))) (fun hb H1 e1 => ?_) (fun hb H1 e1 => ?_)
  · rw [List.length_map, List.length_map]
    congr 2
    apply propext; omega
  · rw [List.map_map]
    refine EvN.toD (en_lcA (dt := PyData.int) (l := cs) (fun p => .bool (decide (0 ≤ p) && decide (p < 2))) (ei_list (K := K) (h2 H (Ex.refl H))) (by omega) fun a x B3 H3 _ e1 e2 e3 kx => ?_)
    obtain rfl := kx.int_inv
    exact edb e3 (ev_chain2 (f := fun i j => decide (i ≤ j)) (f' := fun i j => decide (i < j)) ev_c (ev_var (i := 4) rfl) (ev_var (i := 3) rfl))
  · rw [List.all_map]; rfl
  · refine Evl.s_ret (ev_c (v := .bl false)) fun H2 e2 => ?_
    have : evenP n ts cs 2 = false := evenP_false fun z => by
      rcases Bool.or_eq_true_iff.mp hb with h | h
      · rw [decide_eq_true z.1] at h; cases h
      · have : (cs.all fun p => decide (0 ≤ p) && decide (p < 2)) = true := List.all_eq_true.mpr fun p hp => by simp [z.2.1 p hp]
        rw [this] at h; cases h
    rw [← this]; exact q H2 (e1.trans e2)
  have hb := Bool.or_eq_false_iff.mp hb
  have hlen : cs.length = ts.length := by simpa using hb.1
  have hr : ∀ c ∈ cs, 0 ≤ c ∧ c < 2 := fun p hp => by
    have h : (cs.all fun p => decide (0 ≤ p) && decide (p < 2)) = true := by simpa using hb.2
    simpa using List.all_eq_true.mp h p hp
  have eb1 := eb.trans e1
  refine Evl.s_ret (ev_is (ev_all (K := K) (B := B) (bs := (List.range n.toNat).map fun (v : Nat) => decide (cntAt ts cs (v : Int) 0 ≤ cntAt ts cs (v : Int) 1 + 1 ∧ cntAt ts cs (v : Int) 1 ≤ cntAt ts cs (v : Int) 0 + 1)) ?_) ?_) fun H2 e2 => q H2 (e1.trans e2)
  · rw [List.map_map]
    refine EvN.toD (en_lcA (dt := fun (v : Nat) => .list (((List.range (2 : Int).toNat).map fun (c : Nat) => (cntAt ts cs (v : Int) (c : Int) : Int)).map PyData.int)) (l := List.range n.toNat) (fun (v : Nat) => .bool (decide (cntAt ts cs (v : Int) 0 ≤ cntAt ts cs (v : Int) 1 + 1 ∧ cntAt ts cs (v : Int) 1 ≤ cntAt ts cs (v : Int) 0 + 1)))
      (ei_list (K := K) (ed_call (d := .list (rowsD n 2 ts cs)) (eds_cons (edi eb1 (ev_var (i := 0) rfl)) (eds_cons (ed_var (n := 1) eb1 rfl k1) (eds_cons (h2 H1 e1) (eds_cons (edi eb1 (ev_var (i := 3) rfl)) (eds_nil eb1))))) fun B6 H6 ws Q6 E6 e6 k6 q6 => ⟨n, ts, cs, 2, B6, e6, k6, ⟨hn0, hn1, hW, hl, by decide, by decide, hr⟩, q6⟩)) (by rw [List.length_range]; omega) fun a x B3 H3 _ e1 e2 e3 kx => ?_)
    have hx := ed_var (σ := [some (.int n), some v1, some v2, some (.int 2), none, some x]) (n := 5) e3 rfl kx
    refine edb e3 (ev_is (ev_I0 (g := fun i j => .bl (decide (i < j))) (ev_I0 (ev_max (K := K) (ns := [(cntAt ts cs (a : Int) 0 : Int), (cntAt ts cs (a : Int) 1 : Int)]) hx (by simp)) (ev_min (K := K) (ns := [(cntAt ts cs (a : Int) 0 : Int), (cntAt ts cs (a : Int) 1 : Int)]) hx (by simp))) (ev_c (v := .int 2))) ?_)
    show V.bl _ = V.bl _
    rw [two_look]
  · rw [List.all_map]
    congr 1
    exact even_rows hlen hr
/-! objects -/
theorem len_Even___init__ {A : Ad} {vs : List V} {H : Hp} {Q : VK} {E : XK} (h : SpInit A.Even "colours" vs H Q E) : vs.length = 2 := len_init h
theorem ok_Even___init__ (T : TX K mg A) : Ok P w K mg base CX0 1 A.Even___init__ ["self", "colours"] (SpInit A.Even "colours") := by
  obtain ⟨fd, F⟩ := T.F_Even___init__
  refine ⟨fd, ?_, F.binds (ps := ["self", "colours"]) fun _ _ _ _ _ _ us hl => match us, hl with | [_, _], _ => rfl, F.kp⟩
  refine F.ok sc_Even___init__ (fun vs H Q E h => len_Even___init__ h) (fun cdv Ar outer s H vs Q E hr h => ?_)
  have nd := sc_Even___init__.nd
  have hu := hu_of hr
  obtain ⟨x, dx, v, ns, B, rfl, hx, eb, k, q⟩ := h
  refine ⟨_, (pss_one (ps_fld (pv 0) (pe_callTy (lstK K) (by rfl) T.n_list (by decide +kernel) (pa_cons (pv 1) pa_nil)) rfl)), ?_⟩
  refine (en_list (K := K) (σ := [some (.ref x), some v]) (ed_var (n := 1) eb rfl k)) H (Ex.refl H) _ fun p xs B' H2 g n0 nb hp kd => ⟨.ref x, rfl, x, A.Even, dx, [], rfl, g.hh _ _ hx, T.c_Even, T.a_Even, by decide, ?_⟩
  have := kd.ints_inv
  subst this
  exact q p H2 g.hh n0 hp
theorem len_Odd___init__ {A : Ad} {vs : List V} {H : Hp} {Q : VK} {E : XK} (h : SpInit A.Odd "some" vs H Q E) : vs.length = 2 := len_init h
theorem ok_Odd___init__ (T : TX K mg A) : Ok P w K mg base CX0 1 A.Odd___init__ ["self", "some"] (SpInit A.Odd "some") := by
  obtain ⟨fd, F⟩ := T.F_Odd___init__
  refine ⟨fd, ?_, F.binds (ps := ["self", "some"]) fun _ _ _ _ _ _ us hl => match us, hl with | [_, _], _ => rfl, F.kp⟩
  refine F.ok sc_Odd___init__ (fun vs H Q E h => len_Odd___init__ h) (fun cdv Ar outer s H vs Q E hr h => ?_)
  have nd := sc_Odd___init__.nd
  have hu := hu_of hr
  obtain ⟨x, dx, v, ns, B, rfl, hx, eb, k, q⟩ := h
  refine ⟨_, (pss_one (ps_fld (pv 0) (pe_callTy (lstK K) (by rfl) T.n_list (by decide +kernel) (pa_cons (pv 1) pa_nil)) rfl)), ?_⟩
  refine (en_list (K := K) (σ := [some (.ref x), some v]) (ed_var (n := 1) eb rfl k)) H (Ex.refl H) _ fun p xs B' H2 g n0 nb hp kd => ⟨.ref x, rfl, x, A.Odd, dx, [], rfl, g.hh _ _ hx, T.c_Odd, T.a_Odd, by decide, ?_⟩
  have := kd.ints_inv
  subst this
  exact q p H2 g.hh n0 hp
def sp_Even_shows (A : Ad) : Sp := fun vs H Q _ => ∃ (x l : Addr) (cs : List Int) (v1 v2 : V) (n : Int) (ts : List Tie) (B : Hp), vs = [.ref x, v1, v2] ∧ Ob A.Even "colours" H x l cs ∧ Ex B H ∧ DaAll B [v1, v2] [.int n, tiesD ts] ∧ (0 ≤ n ∧ n ≤ 1000 ∧ Web n ts ∧ ts.length ≤ 1000 ∧ cs.length ≤ 1000) ∧ RetV H (.bl (evenP n ts cs 2)) Q
theorem len_Even_shows {A : Ad} {vs : List V} {H : Hp} {Q : VK} {E : XK} (h : sp_Even_shows A vs H Q E) : vs.length = 3 := by
  obtain ⟨_, _, _, _, _, _, _, _, rfl, _⟩ := h
  rfl
theorem ok_Even_shows (T : TX K mg A) : Ok P w K mg base CX0 3 A.Even_shows ["self", "places", "ties"] (sp_Even_shows A) := by
  obtain ⟨fd, F⟩ := T.F_Even_shows
  obtain ⟨fd_are_even, G_are_even, B_are_even, K_are_even⟩ := ok_are_even (P := P) (w := w) (base := base) T
  refine ⟨fd, ?_, F.binds (ps := ["self", "places", "ties"]) fun _ _ _ _ _ _ us hl => match us, hl with | [_, _, _], _ => rfl, F.kp⟩
  refine F.ok sc_Even_shows (fun vs H Q E h => len_Even_shows h) (fun cdv Ar outer s H vs Q E hr h => ?_)
  have nd := sc_Even_shows.nd
  have hu := hu_of hr
  obtain ⟨x, l, cs, v1, v2, n, ts, B, rfl, o, eb, k, hc, q⟩ := h
  match k with
  | .cons k0 (.cons k1 .nil) =>
  refine ⟨_, (pss_one (ps_ret (pe_call G_are_even (hr.mono (by decide)) (by rfl) T.g_are_even K_are_even B_are_even .nil pass0 (pa_cons (pv 1) (pa_cons (pv 2) (pa_cons (fldK K (pv 0) rfl) (pa_cons pe_int pa_nil))))))), ?_⟩
  have eH := Ex.refl H
  refine Evl.s_ret (ev_call (eds_cons (ed_var (n := 1) eH rfl (k0.ex eb)) (eds_cons (ed_var (n := 2) eH rfl (k1.ex eb)) (eds_cons (ed_ev eH (ev_fld (K := K) (ev_var (i := 0) rfl) o T.c_Even T.a_Even) (.lst o.lst .ints)) (eds_cons (edi eH ev_c) (eds_nil eH))))) fun B6 H6 ws Q6 E6 e6 k6 q6 => ⟨n, ts, cs, B6, e6, k6, hc, q6⟩) q
def sp_Odd_shows (A : Ad) : Sp := fun vs H Q _ => ∃ (x l : Addr) (cs : List Int) (v1 v2 : V) (n : Int) (ts : List Tie) (B : Hp), vs = [.ref x, v1, v2] ∧ Ob A.Odd "some" H x l cs ∧ Ex B H ∧ DaAll B [v1, v2] [.int n, tiesD ts] ∧ (n ≤ 60 ∧ Web n ts ∧ ts.length ≤ 1000 ∧ cs.length ≤ 1000) ∧ RetV H (.bl (oddP n ts cs)) Q
theorem len_Odd_shows {A : Ad} {vs : List V} {H : Hp} {Q : VK} {E : XK} (h : sp_Odd_shows A vs H Q E) : vs.length = 3 := by
  obtain ⟨_, _, _, _, _, _, _, _, rfl, _⟩ := h
  rfl
theorem ok_Odd_shows (T : TX K mg A) : Ok P w K mg base CX0 3 A.Odd_shows ["self", "places", "ties"] (sp_Odd_shows A) := by
  obtain ⟨fd, F⟩ := T.F_Odd_shows
  obtain ⟨fd_is_odd_part, G_is_odd_part, B_is_odd_part, K_is_odd_part⟩ := ok_is_odd_part (P := P) (w := w) (base := base) T
  refine ⟨fd, ?_, F.binds (ps := ["self", "places", "ties"]) fun _ _ _ _ _ _ us hl => match us, hl with | [_, _, _], _ => rfl, F.kp⟩
  refine F.ok sc_Odd_shows (fun vs H Q E h => len_Odd_shows h) (fun cdv Ar outer s H vs Q E hr h => ?_)
  have nd := sc_Odd_shows.nd
  have hu := hu_of hr
  obtain ⟨x, l, cs, v1, v2, n, ts, B, rfl, o, eb, k, hc, q⟩ := h
  match k with
  | .cons k0 (.cons k1 .nil) =>
  refine ⟨_, (pss_one (ps_ret (pe_call G_is_odd_part (hr.mono (by decide)) (by rfl) T.g_is_odd_part K_is_odd_part B_is_odd_part .nil pass0 (pa_cons (pv 1) (pa_cons (pv 2) (pa_cons (fldK K (pv 0) rfl) pa_nil)))))), ?_⟩
  have eH := Ex.refl H
  refine Evl.s_ret (ev_call (eds_cons (ed_var (n := 1) eH rfl (k0.ex eb)) (eds_cons (ed_var (n := 2) eH rfl (k1.ex eb)) (eds_cons (ed_ev eH (ev_fld (K := K) (ev_var (i := 0) rfl) o T.c_Odd T.a_Odd) (.lst o.lst .ints)) (eds_nil eH)))) fun B6 H6 ws Q6 E6 e6 k6 q6 => ⟨n, ts, cs, B6, e6, k6, hc, q6⟩) q

end
end TW
set_option Elab.async false
set_option linter.all false
set_option maxRecDepth 100000
set_option maxHeartbeats 4000000
namespace TW
open PySem PySem.Spec PyProof.Rows L2 TM TB
open Evl (Ex Ex.refl Ex.trans Ex.new Ex.mut Ev EvT EvA ev_var ev_c ev_op rv_I0 rv_I rv_eq rv_ne et_test et_B et_and et_or et_not et_is ev_is sz_of sz_lt fresh_back)
section
variable {P : Program} {w : World} {K : PySem.W.Frag} {mg : Str → Option Value} {base : Heap} {A : Ad}
/-! ### halved -/
theorem pim_zip (v : Int) : ∀ (ts : List Tie) (cs : List Int), cs.length = ts.length → (∀ c ∈ cs, c = 0 ∨ c = 1) → 2 * (((ts.zip cs).filter fun p => has p.1 v).map (·.2)).sum - ((((ts.zip cs).filter fun p => has p.1 v).map (·.2)).length : Int) = pim ts (cs.map some) v
  | [], [], _, _ => rfl
  | t :: ts, c :: cs, hl, hv => by
    have ih := pim_zip v ts cs (by simpa using hl) fun x hx => hv x (List.mem_cons_of_mem _ hx)
    rw [List.zip_cons_cons, List.filter_cons]
    show _ = (if has t v then wt (some c) else 0) + pim ts (cs.map some) v
    rw [← ih]
    have e4 : wt (some c) = 2 * c - 1 := by
      rcases hv c List.mem_cons_self with h | h <;> rw [h] <;> rfl
    cases has t v with
    | false => simp
    | true =>
      simp only [if_true, List.map_cons, List.sum_cons, List.length_cons, e4]
      omega
  | [], _ :: _, h, _ => by simp at h
  | _ :: _, [], h, _ => by simp at h
theorem farF_some {n : Int} {ts : List Tie} {v : Int} (h0 : 0 ≤ v) (h1 : v < n) (h : offF ts (nearF n ts) v > 1) (hl : ∀ u, 0 ≤ u → u < v → ¬ offF ts (nearF n ts) u > 1) : farF n ts = some v := by
  unfold farF upto
  rw [List.find?_map]
  have : (List.range n.toNat).find? ((fun v => decide (offF ts (nearF n ts) v > 1)) ∘ fun (i : Nat) => (i : Int)) = some v.toNat := by
    rw [List.find?_range_eq_some]
    refine ⟨?_, List.mem_range.mpr (by omega), fun j hj => ?_⟩
    · show decide (offF ts (nearF n ts) ((v.toNat : Nat) : Int) > 1) = true
      rw [Int.toNat_of_nonneg h0]; exact decide_eq_true h
    · show (!decide (offF ts (nearF n ts) ((j : Nat) : Int) > 1)) = true
      rw [decide_eq_false (hl j (by omega) (by omega))]; rfl
  rw [this]
  show some ((v.toNat : Nat) : Int) = some v
  rw [Int.toNat_of_nonneg h0]
theorem farF_none {n : Int} {ts : List Tie} (hl : ∀ u, 0 ≤ u → u < n → ¬ offF ts (nearF n ts) u > 1) : farF n ts = none := by
  unfold farF
  rw [List.find?_eq_none]
  intro x hx
  have := mem_upto.mp hx
  simpa using hl x this.1 this.2
theorem farF_inv {n : Int} {ts : List Tie} {v : Int} (h : farF n ts = some v) : (0 ≤ v ∧ v < n) ∧ offF ts (nearF n ts) v > 1 := by
  unfold farF at h
  have h1 := List.find?_some h
  have h2 := List.mem_of_find?_eq_some h
  exact ⟨mem_upto.mp h2, by simpa using h1⟩
theorem farF_inv0 {n : Int} {ts : List Tie} (h : farF n ts = none) : ∀ u, 0 ≤ u → u < n → ¬ offF ts (nearF n ts) u > 1 := fun u h0 h1 => by
  unfold farF at h
  rw [List.find?_eq_none] at h
  simpa using h u (mem_upto.mpr ⟨h0, h1⟩)
/-- two apart: an odd part -/
theorem far_odd {n : Int} {ts : List Tie} {cs : List Int} (N : Nearly n ts cs) {v : Int} (h0 : 0 ≤ v) (h1 : v < n) (h : offF ts cs v > 1) : OddAt ts v := by
  unfold offF at h
  by_cases O : OddAt ts v
  · exact O
  · have hd : deg ts v % 2 = 1 ∨ deg ts v % 2 = 0 := by omega
    rcases hd with q | q
    · have := N.odd v h0 h1 q; omega
    · have := N.nul v h0 h1 q fun z => O z.1
      rw [this] at h; exact absurd h (by decide)
theorem odd_far {n : Int} {ts : List Tie} {cs : List Int} (w : Web n ts) (N : Nearly n ts cs) {v : Int} (h0 : 0 ≤ v) (h1 : v < n) (O : OddAt ts v) : ∃ c, 0 ≤ c ∧ c < n ∧ offF ts cs c > 1 := by
  obtain ⟨c, r, e, rc, lc⟩ := part_head w ⟨h0, h1⟩
  have hc := rc.in w ⟨h0, h1⟩
  have := N.two c hc.1 hc.2 (O.move rc) lc
  refine ⟨c, hc.1, hc.2, ?_⟩
  unfold offF; rw [this]; decide
theorem none_even {n : Int} {ts : List Tie} (N : Nearly n ts (nearF n ts)) (h : farF n ts = none) : EvenCols n ts (nearF n ts) 2 :=
  (even_two N.len N.val).mpr fun v h0 h1 => by
    have := farF_inv0 h v h0 h1
    unfold offF at this; omega
def RetH (A : Ad) (B H : Hp) (n : Int) (ts : List Tie) (Q : VK) : Prop := match farF n ts with
  | some v => RetO B H A.Odd "some" (part n ts v) Q
  | none => RetO B H A.Even "colours" (nearF n ts) Q
theorem RetH.gr {A : Ad} {B0 H0 B H : Hp} {n : Int} {ts : List Tie} {Q : VK} (q : RetH A B0 H0 n ts Q) (g : Gr B0 H0 B H) : RetH A B H n ts Q := by
  unfold RetH at q ⊢
  split
  · rename_i e; rw [e] at q; exact q.gr g
  · rename_i e; rw [e] at q; exact q.gr g
def sp_halved_of (A : Ad) : Sp := fun vs H Q _ => ∃ (n : Int) (ts : List Tie) (B : Hp), Ex B H ∧ DaAll B vs [.int n, tiesD ts] ∧ (0 ≤ n ∧ n ≤ 60 ∧ Web n ts ∧ ts.length ≤ 400) ∧ (Nearly n ts (nearF n ts) → RetH A B H n ts Q)
theorem len_halved_of {A : Ad} {vs : List V} {H : Hp} {Q : VK} {E : XK} (h : sp_halved_of A vs H Q E) : vs.length = 2 := by
  obtain ⟨_, _, _, _, k, _⟩ := h
  exact k.len
theorem ok_halved_of (T : TX K mg A) : Ok P w K mg base CX0 3 A.halved_of ["places", "ties"] (sp_halved_of A) := by
  obtain ⟨fd, F⟩ := T.F_halved_of
  obtain ⟨fd_nearly_of, G_nearly_of, B_nearly_of, K_nearly_of⟩ := ok_nearly_of (P := P) (w := w) (base := base) T
  obtain ⟨fd_part_of, G_part_of, B_part_of, K_part_of⟩ := ok_part_of (P := P) (w := w) (base := base) T
  obtain ⟨fd_Odd___init__, G_Odd___init__, B_Odd___init__, K_Odd___init__⟩ := ok_Odd___init__ (P := P) (w := w) (base := base) T
  obtain ⟨fd_Even___init__, G_Even___init__, B_Even___init__, K_Even___init__⟩ := ok_Even___init__ (P := P) (w := w) (base := base) T
  refine ⟨fd, ?_, F.binds (ps := ["places", "ties"]) fun _ _ _ _ _ _ us hl => match us, hl with | [_, _], _ => rfl, F.kp⟩
  refine F.ok sc_halved_of (fun vs H Q E h => len_halved_of h) (fun cdv Ar outer s H vs Q E hr h => ?_)
  have nd := sc_halved_of.nd
  have hu := hu_of hr
  obtain ⟨n, ts, B, eb, k, ⟨hn0, hn1, hW, hl⟩, q⟩ := h
  match vs, k with
  | [_, v1], .cons (.int _) (.cons k1 .nil) =>
  refine ⟨_, (pss_cons (ps_set (i := 2) nd rfl (by first | exact .inl rfl | exact .inr rfl) (pe_call G_nearly_of (hr.mono (by decide)) (by rfl) T.g_nearly_of K_nearly_of B_nearly_of .nil pass0 (pa_cons (pv 0) (pa_cons (pv 1) pa_nil)))) (pss_cons (ps_for PassesOwn.never rfl (pi_range1 rfl T.n_range (pa_cons (pv 0) pa_nil)) (pg_name (i := 3) nd rfl (by first | exact .inl rfl | exact .inr rfl)) (pss_cons (ps_setLc (i := 4) (own := [("tie", 5), ("colour", 6)]) (g := gTup K 2 (gCons (gName 5) (gCons (gName 6) gNil)))  rfl nd rfl rfl (sw_true rfl rfl rfl (by decide +kernel))  (zipK K (by rfl) T.n_zip (pa_cons (pv 1) (pa_cons (pv 2) pa_nil))) (blkOk_by (by kernel_rfl)) (fun _ _ _ _ _ => (gtupK K rfl (pgs_cons (pg_name (i := 5) nd rfl (by first | exact .inl rfl | exact .inr rfl)) (pgs_cons (pg_name (i := 6) nd rfl (by first | exact .inl rfl | exact .inr rfl)) pgs_nil)))) (fun _ _ _ _ _ => (pts_one (pt_cmpR (in_seqK K) (pv 3) (pv 5) (by first | exact nomark _ | rfl)))) (fun _ _ _ _ _ => (pv 6))) (pss_one (ps_if (pt_cmpR op_gt (pe_callB call_abs (by rfl) T.n_abs (by decide +kernel) (pa_cons (pe_op op_sub (pe_op op_mulO pe_int (pe_callB (sumK K rfl) (by rfl) T.n_sum (by decide +kernel) (pa_cons (pv 4) pa_nil))) (pe_callB (lenK K) (by rfl) T.n_len PySem.boot_len (pa_cons (pv 4) pa_nil))) pa_nil)) pe_int (by first | exact nomark _ | rfl)) (pss_one (ps_ret (pe_make T.m_Odd G_Odd___init__ (hr.mono (by decide)) (by rfl) T.g_Odd B_Odd___init__ .nil pass0 (pa_cons (pe_call G_part_of (hr.mono (by decide)) (by rfl) T.g_part_of K_part_of B_part_of .nil pass0 (pa_cons (pv 1) (pa_cons (pv 3) (pa_cons (pe_listRg rfl (by rfl) T.n_list (prg_1 (by rfl) T.n_range (pe_callB (lenK K) (by rfl) T.n_len PySem.boot_len (pa_cons (pv 1) pa_nil)))) pa_nil)))) pa_nil)))) pss_nil)))) (pss_one (ps_ret (pe_make T.m_Even G_Even___init__ (hr.mono (by decide)) (by rfl) T.g_Even B_Even___init__ .nil pass0 (pa_cons (pv 2) pa_nil)))))), ?_⟩
  refine q_asgM (em_call (eds_cons (edi eb (ev_var (i := 0) rfl)) (eds_cons (ed_var (n := 1) eb rfl k1) (eds_nil eb))) fun B2 H2 vs2 Q2 E2 e2 k2 q2 => ⟨n, ts, B2, e2, k2, ⟨hn0, by omega, hW, by omega⟩, q2⟩) fun ds lc xc B1 H1 pd g1 n1 nb1 h1 kc => ?_
  obtain ⟨N, rfl⟩ := pd
  have q := q N
  obtain ⟨cs, hcs⟩ : ∃ cs, cs = nearF n ts := ⟨_, rfl⟩
  have N' := N
  rw [← hcs] at N' kc
  have kc := kc.ints_inv
  subst kc
  have f1 := (Fr.start eb).gr (fixD g1 n1 nb1 h1)
  have kC : ∀ B2, Ex (upd B1 lc (.lst (cs.map V.int))) B2 → Da B2 (.ref lc) (.list (cs.map PyData.int)) := fun B2 e => .lst (e _ _ upd_same) .ints
  refine q_for (B := upd B1 lc (.lst (cs.map V.int))) (dt := fun (k : Nat) => PyData.int (k : Int)) (P := (· = List.range n.toNat)) (ei_rg1 f1.bh (ev_var (i := 0) rfl) ⟨hn0, by omega⟩)
    (fun l B2 i σ' H' => Ex (upd B1 lc (.lst (cs.map V.int))) B2 ∧ ∃ (y3 y4 : Option V), σ' = [some (.int n), some v1, some (.ref lc), y3, y4, none, none] ∧ Fr B H B2 H' [] ∧ ∀ u, 0 ≤ u → u < (i : Int) → ¬ offF ts cs u > 1) ?_ ?_ ?_ ?_
  · rintro l B2 H2 - g2
    exact ⟨g2.bb, none, none, rfl, f1.gr g2, fun u h0 h1 => by omega⟩
  · rintro l B2 i σ' H' ⟨_, _, _, _, f, _⟩
    exact f.bh
  · rintro l B2 i v x B3 σ' H' H3 rfl hi ⟨e12, y3, y4, rfl, f, hu⟩ g3 kx
    obtain rfl := kx.int_inv
    have hil := (List.getElem?_eq_some_iff.mp hi).1
    rw [List.length_range] at hil
    have hiv := (List.getElem?_eq_some_iff.mp hi).2
    rw [List.getElem_range] at hiv
    subst hiv
    have f3 := f.gr g3
    have hv : 0 ≤ (i : Int) ∧ (i : Int) < n := by omega
    -- mine
    refine q_asgN (en_lc2 (K := K) (d1 := fun p : Tie × Int => tieD p.1) (d2 := fun p : Tie × Int => .int p.2) (l := ts.zip cs) (fun p => has p.1 (i : Int)) (fun p => .int p.2) (ei_zip (K := K) (ed_var (n := 1) f3.bh rfl (k1.ex f3.eb)) (ed_var (n := 2) f3.bh rfl (kC _ (e12.trans g3.bb)))) (by rw [List.length_zip]; omega) ?_ ?_) fun lm xm B4 H4 g4 n4 nb4 h4 km => ?_
    · intro p x y B5 H5 _ e1 e2 e3 kx ky
      exact et_test (ev_has (K := K) (ev_var (i := 3) rfl) (ed_var (n := 5) e3 rfl kx))
    · intro p x y B5 H5 _ e1 e2 e3 kx ky _
      exact ed_var (n := 6) e3 rfl ky
    have ek : ((ts.zip cs).filter fun p => has p.1 (i : Int)).map (fun p => PyData.int p.2) = (((ts.zip cs).filter fun p => has p.1 (i : Int)).map (·.2)).map PyData.int := by rw [List.map_map]; rfl
    rw [ek] at km
    have km := km.ints_inv
    subst km
    have f4 := f3.gr (fixD g4 n4 nb4 h4)
    have kM := ed_var (σ := [some (.int n), some v1, some (.ref lc), some (.int (i : Int)), some (.ref lm), none, none]) (n := 4) f4.bh rfl (.lst upd_same .ints)
    refine s_when (b := decide (offF ts cs (i : Int) > 1)) (et_is (et_test (ev_I0 (g := fun i j => .bl (decide (i > j))) (ev_abs (ev_I0 (ev_I ev_c (ev_sum (K := K) kM) (C := IntMulOk) (g := fun i j => .int (i * j)) (.of_left (by decide))) (ev_lenD (K := K) kM))) (ev_c (v := .int 1)))) ?_) (fun hb H5 e5 => ?_) (fun hb H5 e5 => ?_)
    · rw [List.length_map, pim_zip _ _ _ N'.len N'.val]; rfl
    · have hb := of_decide_eq_true hb
      have f5 := f4.ev e5
      have hf : farF n ts = some (i : Int) := farF_some hv.1 hv.2 (by rw [← hcs]; exact hb) fun u h0 h1 => by rw [← hcs]; exact hu u h0 h1
      unfold RetH at q
      rw [hf] at q
      refine em_make (P := (· = part n ts (i : Int))) f5.bh (fun H6 e6 Q6 q6 => (EvN.toD (en_call (sp := sp_part_of) (eds_cons (ed_var (n := 1) f5.bh rfl (k1.ex f5.eb)) (eds_cons (edi f5.bh (ev_var (i := 3) rfl)) (eds_cons (EvN.toD (en_rg1 f5.bh (ev_lenD (K := K) (ed_var (n := 1) f5.bh rfl (k1.ex f5.eb))) (by rw [List.length_map]; omega))) (eds_nil f5.bh)))) fun B7 H7 ws Q7 E7 e7 k7 q7 => ⟨n, ts, (i : Int), B7, e7, by rw [List.length_map] at k7; exact k7, ⟨hv.1, hv.2, by omega, hW, by omega⟩, q7⟩)) H6 e6 Q6 fun v B' H7 g k => q6 _ v B' H7 ⟨_, rfl, rfl⟩ g k) (Ex.refl _) ?_
      rintro ns rfl
      exact q.gr f5.toGr
    · have hb := of_decide_eq_false hb
      refine ⟨e12, _, _, rfl, (f4.ev e5).back f.eb (g3.bb.trans (g4.bb.trans (Ex.new nb4))), fun u h0 h1 => ?_⟩
      by_cases e : u = (i : Int)
      · rw [e]; exact hb
      · exact hu u h0 (by omega)
  rintro l B2 σ' H' rfl ⟨e12, y3, y4, rfl, f, hu⟩
  rw [List.length_range] at hu
  have hf : farF n ts = none := farF_none fun u h0 h1 => by rw [← hcs]; exact hu u h0 (by omega)
  unfold RetH at q
  rw [hf] at q
  refine em_make (P := (· = nearF n ts)) f.bh (fun H6 e6 Q6 q6 => (ed_var (σ := [some (.int n), some v1, some (.ref lc), y3, y4, none, none]) (n := 2) f.bh rfl (kC _ e12)) H6 e6 Q6 fun v B' H7 g k => q6 _ v B' H7 ⟨_, rfl, by rw [hcs]⟩ g k) (Ex.refl _) ?_
  rintro ns rfl
  exact q.gr f.toGr
def sp_halved (A : Ad) : Sp := fun vs H Q E => ∃ d1 d2 B, Ex B H ∧ DaAll B vs [d1, d2] ∧ (okP d1 = false → RetE H A.BadPlaces E) ∧ (∀ n, d1 = .int n → okP d1 = true → okT n d2 = false → RetE H A.BadTies E) ∧
  (∀ n ts, d1 = .int n → d2 = tiesD ts → 1 ≤ n → n ≤ 40 → Web n ts → ts.length ≤ 120 → Nearly n ts (nearF n ts) → RetH A B H n ts Q)
theorem len_halved {A : Ad} {vs : List V} {H : Hp} {Q : VK} {E : XK} (h : sp_halved A vs H Q E) : vs.length = 2 := by
  obtain ⟨d, n, B, _, k, _⟩ := h
  exact k.len
theorem ok_halved (T : TX K mg A) : Ok P w K mg base (L2N.CX P w) 4 A.halved ["places", "ties"] (sp_halved A) := by
  obtain ⟨fd, F⟩ := T.F_halved
  obtain ⟨fd_asked_web, G_asked_web, B_asked_web, K_asked_web⟩ := ok_asked_web (P := P) (w := w) (base := base) T
  obtain ⟨fd_halved_of, G_halved_of, B_halved_of, K_halved_of⟩ := ok_halved_of (P := P) (w := w) (base := base) T
  refine ⟨fd, ?_, F.binds (ps := ["places", "ties"]) fun _ _ _ _ _ _ us hl => match us, hl with | [_, _], _ => rfl, F.kp⟩
  refine fun_okN F sc_halved (fun vs H Q E h => len_halved h) (fun cdv Ar outer s H vs Q E hr h => ?_)
  have nd := sc_halved.nd
  have hu := hu_of hr
  obtain ⟨d1, d2, B, eb, k, q1, q2, q3⟩ := h
  match vs, k with
  | [v0, v1], .cons k0 (.cons k1 .nil) =>
  refine ⟨_, (pss_cons (ps_expr (pe_call G_asked_web (hr.mono (by decide)) (by rfl) T.g_asked_web K_asked_web B_asked_web .nil (L2N.passes_call (L2N.takes_of rfl rfl rfl rfl) fun _ _ _ _ h => h) (pa_cons (pv 0) (pa_cons (pv 1) pa_nil)))) (pss_one (ps_ret (pe_call G_halved_of (hr.mono (by decide)) (by rfl) T.g_halved_of K_halved_of B_halved_of .nil pass0 (pa_cons (pv 0) (pa_cons (pv 1) pa_nil)))))), ?_⟩
  refine sq ⟨v0, rfl, v1, rfl, asked_row eb (.cons k0 (.cons k1 .nil)) q1 q2 fun n ts H1 e1 e2 h1 h2 w hl x1 => ?_⟩
  subst e1 e2
  have eb1 := eb.trans x1
  refine s_retCall (eds_cons (ed_var (n := 0) eb1 rfl k0) (eds_cons (ed_var (n := 1) eb1 rfl k1) (eds_nil eb1))) fun vs B4 H4 g4 k4 => ?_
  exact ⟨n, ts, B4, g4.bh, k4, ⟨by omega, by omega, w, by omega⟩, fun N => (q3 n ts rfl rfl h1 h2 w hl N).gr ((Gr.same eb x1).trans g4)⟩
theorem half_sp {A : Ad} {n : Int} {ts : List Tie} {B H : Hp} {vs : List V} {Q : VK} {E : XK} (hn : 1 ≤ n ∧ n ≤ 40) (w : Web n ts) (hl : ts.length ≤ 120) (eb : Ex B H) (k : DaAll B vs [.int n, tiesD ts])
    (q : Nearly n ts (nearF n ts) → RetH A B H n ts Q) : sp_halved A vs H Q E := by
  have h1 : okP (.int n) = true := okP_iff.mpr ⟨n, rfl, hn.1, hn.2⟩
  refine ⟨_, _, B, eb, k, fun z => ?_, fun m e _ z => ?_, fun m us e1 e2 _ _ _ _ N => ?_⟩
  · rw [h1] at z; cases z
  · cases e
    rw [okT_of w hl] at z; cases z
  · cases e1
    rw [← tiesD_inj e2] at N ⊢; exact q N

end
end TW
set_option Elab.async false
set_option linter.all false
set_option maxRecDepth 100000
set_option maxHeartbeats 4000000
namespace TW
open PySem PySem.Spec PyProof.Rows L2 TM TB
open Evl (Ex Ex.refl Ex.trans Ex.new Ex.mut Ev EvT EvA ev_var ev_c ev_op rv_I0 rv_I rv_eq rv_ne et_test et_B et_and et_or et_not et_is ev_is sz_of sz_lt fresh_back)
section
variable {P : Program} {w : World} {K : PySem.W.Frag} {mg : Str → Option Value} {base : Heap} {A : Ad}
/-! ### answers: shares, rings -/
theorem ev_index {σ : L2.St} {B H : Hp} {ta tb : TE} {ns : List Int} {m : Int} {j : Nat} (h : EvD ta σ B H (.list (ns.map PyData.int))) (hb : Ev tb σ H (.int m)) (nd : ns.Nodup) (hj : ns[j]? = some m) : Ev (tBM K "list" (rIndex K) ta (tCons tb tNil)) σ H (.int (j : Int)) := fun H1 e Q q => h H1 e _ fun v B1 H2 g k => by
  obtain ⟨a, xs, rfl, q1, q2⟩ := k.lst_inv
  have := q2.ints_inv
  subst this
  refine ⟨.inl ⟨rfl, _, .inl (.inl (g.bh _ _ q1))⟩, hb H2 (e.trans g.hh) _ fun H3 e3 => ⟨a, ns.map V.int, .int m, j, .int m, rfl, rfl, SqL.of (e3 _ _ (g.bh _ _ q1)), rfl, flat_ints ns, by rw [List.getElem?_map, hj]; rfl, ?_, fun i z hi hz => ?_, q H3 (g.hh.trans e3)⟩⟩
  · show (m == m) = true
    simp
  · rw [List.getElem?_map] at hz
    cases hn : ns[i]? with
    | none => rw [hn] at hz; cases hz
    | some y =>
      rw [hn] at hz
      cases hz
      show (y == m) = false
      have : y ≠ m := fun z => by
        subst z
        obtain ⟨l1, b1⟩ := List.getElem?_eq_some_iff.mp hn
        obtain ⟨l2, b2⟩ := List.getElem?_eq_some_iff.mp hj
        have := (List.getElem_inj nd).mp (b1.trans b2.symm)
        omega
      simpa using this
theorem len_Shares___init__ {A : Ad} {vs : List V} {H : Hp} {Q : VK} {E : XK} (h : SpInit A.Shares "colours" vs H Q E) : vs.length = 2 := len_init h
theorem ok_Shares___init__ (T : TX K mg A) : Ok P w K mg base CX0 1 A.Shares___init__ ["self", "colours"] (SpInit A.Shares "colours") := by
  obtain ⟨fd, F⟩ := T.F_Shares___init__
  refine ⟨fd, ?_, F.binds (ps := ["self", "colours"]) fun _ _ _ _ _ _ us hl => match us, hl with | [_, _], _ => rfl, F.kp⟩
  refine F.ok sc_Shares___init__ (fun vs H Q E h => len_Shares___init__ h) (fun cdv Ar outer s H vs Q E hr h => ?_)
  have nd := sc_Shares___init__.nd
  have hu := hu_of hr
  obtain ⟨x, dx, v, ns, B, rfl, hx, eb, k, q⟩ := h
  refine ⟨_, (pss_one (ps_fld (pv 0) (pe_callTy (lstK K) (by rfl) T.n_list (by decide +kernel) (pa_cons (pv 1) pa_nil)) rfl)), ?_⟩
  refine (en_list (K := K) (σ := [some (.ref x), some v]) (ed_var (n := 1) eb rfl k)) H (Ex.refl H) _ fun p xs B' H2 g n0 nb hp kd => ⟨.ref x, rfl, x, A.Shares, dx, [], rfl, g.hh _ _ hx, T.c_Shares, T.a_Shares, by decide, ?_⟩
  have := kd.ints_inv
  subst this
  exact q p H2 g.hh n0 hp
theorem len_Ring___init__ {A : Ad} {vs : List V} {H : Hp} {Q : VK} {E : XK} (h : SpInit A.Ring "ring" vs H Q E) : vs.length = 2 := len_init h
theorem ok_Ring___init__ (T : TX K mg A) : Ok P w K mg base CX0 1 A.Ring___init__ ["self", "ring"] (SpInit A.Ring "ring") := by
  obtain ⟨fd, F⟩ := T.F_Ring___init__
  refine ⟨fd, ?_, F.binds (ps := ["self", "ring"]) fun _ _ _ _ _ _ us hl => match us, hl with | [_, _], _ => rfl, F.kp⟩
  refine F.ok sc_Ring___init__ (fun vs H Q E h => len_Ring___init__ h) (fun cdv Ar outer s H vs Q E hr h => ?_)
  have nd := sc_Ring___init__.nd
  have hu := hu_of hr
  obtain ⟨x, dx, v, ns, B, rfl, hx, eb, k, q⟩ := h
  refine ⟨_, (pss_one (ps_fld (pv 0) (pe_callTy (lstK K) (by rfl) T.n_list (by decide +kernel) (pa_cons (pv 1) pa_nil)) rfl)), ?_⟩
  refine (en_list (K := K) (σ := [some (.ref x), some v]) (ed_var (n := 1) eb rfl k)) H (Ex.refl H) _ fun p xs B' H2 g n0 nb hp kd => ⟨.ref x, rfl, x, A.Ring, dx, [], rfl, g.hh _ _ hx, T.c_Ring, T.a_Ring, by decide, ?_⟩
  have := kd.ints_inv
  subst this
  exact q p H2 g.hh n0 hp
def sp_Shares_shows (A : Ad) : Sp := fun vs H Q _ => ∃ (x l : Addr) (cs : List Int) (v1 v2 v3 : V) (n : Int) (ts : List Tie) (many : Int) (B : Hp), vs = [.ref x, v1, v2, v3] ∧ Ob A.Shares "colours" H x l cs ∧ Ex B H ∧ DaAll B [v1, v2, v3] [.int n, tiesD ts, .int many] ∧ (0 ≤ n ∧ n ≤ 1000 ∧ Web n ts ∧ ts.length ≤ 1000 ∧ cs.length ≤ 1000) ∧ RetV H (.bl (evenP n ts cs many)) Q
theorem len_Shares_shows {A : Ad} {vs : List V} {H : Hp} {Q : VK} {E : XK} (h : sp_Shares_shows A vs H Q E) : vs.length = 4 := by
  obtain ⟨_, _, _, _, _, _, _, _, _, _, rfl, _⟩ := h
  rfl
theorem ok_Shares_shows (T : TX K mg A) : Ok P w K mg base CX0 3 A.Shares_shows ["self", "places", "ties", "many"] (sp_Shares_shows A) := by
  obtain ⟨fd, F⟩ := T.F_Shares_shows
  obtain ⟨fd_counts, G_counts, B_counts, K_counts⟩ := ok_counts (P := P) (w := w) (base := base) T
  refine ⟨fd, ?_, F.binds (ps := ["self", "places", "ties", "many"]) fun _ _ _ _ _ _ us hl => match us, hl with | [_, _, _, _], _ => rfl, F.kp⟩
  refine F.ok sc_Shares_shows (fun vs H Q E h => len_Shares_shows h) (fun cdv Ar outer s H vs Q E hr h => ?_)
  have nd := sc_Shares_shows.nd
  have hu := hu_of hr
  obtain ⟨x, l, cs, v1, v2, v3, n, ts, many, B, rfl, o, eb, k, ⟨hn0, hn1, hW, hl, hcl⟩, q⟩ := h
  match v1, v3, k with
  | _, _, .cons (.int _) (.cons k1 (.cons (.int _) .nil)) =>
  refine ⟨_, (pss_cons (ps_if (PW.pt (pw_or (pt_cmpR op_ne (pe_callB (lenK K) (by rfl) T.n_len PySem.boot_len (pa_cons (fldK K (pv 0) rfl) pa_nil)) (pe_callB (lenK K) (by rfl) T.n_len PySem.boot_len (pa_cons (pv 2) pa_nil)) (by first | exact nomark _ | rfl)) (pw_or1 (pt_not (pt_val (pe_callB (allK K rfl) (by rfl) T.n_all (by decide +kernel) (pa_cons (pe_lc (own := [("colour", 8)]) (g := gName 8) (tt := tYes)  rfl nd  (listK K (fldK K (pv 0) rfl)) (blkOk_by (by kernel_rfl)) (fun _ _ _ _ _ => (pg_name (i := 8) nd rfl (by first | exact .inl rfl | exact .inr rfl))) (fun _ _ _ _ _ => pts_nil) (fun _ _ _ _ _ => (pe_chain op_le op_lt pe_int (pv 8) (pv 3)))) pa_nil))))))) (pss_one (ps_ret pe_bl)) pss_nil) (pss_cons (ps_set (i := 4) nd rfl (by first | exact .inl rfl | exact .inr rfl) (sortSetK K (by rfl) T.n_sorted (by rfl) T.n_set (fldK K (pv 0) rfl))) (pss_cons (ps_setLc (i := 5) (own := [("colour", 8)]) (g := gName 8) (tt := tYes)  rfl nd rfl rfl (sw_true rfl rfl rfl (by decide +kernel))  (listK K (fldK K (pv 0) rfl)) (blkOk_by (by kernel_rfl)) (fun _ _ _ _ _ => (pg_name (i := 8) nd rfl (by first | exact .inl rfl | exact .inr rfl))) (fun _ _ _ _ _ => pts_nil) (fun _ _ _ _ _ => (bmK K PySem.F.plainAttrs_list PySem.F.slot_list_index PySem.F.type_list_index (indexK K) (pv 4) (pa_cons (pv 8) pa_nil)))) (pss_cons (ps_for PassesOwn.never rfl (listK K (pe_call G_counts (hr.mono (by decide)) (by rfl) T.g_counts K_counts B_counts .nil pass0 (pa_cons (pv 1) (pa_cons (pv 2) (pa_cons (pv 5) (pa_cons (pe_callB (lenK K) (by rfl) T.n_len PySem.boot_len (pa_cons (pv 4) pa_nil)) pa_nil)))))) (pg_name (i := 6) nd rfl (by first | exact .inl rfl | exact .inr rfl)) (pss_cons (ps_set (i := 7) nd rfl (by first | exact .inl rfl | exact .inr rfl) (pe_ifExp (pt_cmpR op_eq (pv 3) (pe_callB (lenK K) (by rfl) T.n_len PySem.boot_len (pa_cons (pv 4) pa_nil)) (by first | exact nomark _ | rfl)) (pe_callBK (minDfK K rfl hr.units) (by rfl) T.n_min (by decide +kernel) (pa_cons (pv 6) pa_nil) (pk_cons pe_int pk_nil)) pe_int)) (pss_one (ps_if (pt_cmpR op_gt (pe_op op_sub (pe_callBK (maxDfK K rfl hr.units) (by rfl) T.n_max (by decide +kernel) (pa_cons (pv 6) pa_nil) (pk_cons pe_int pk_nil)) (pv 7)) pe_int (by first | exact nomark _ | rfl)) (pss_one (ps_ret pe_bl)) pss_nil)))) (pss_one (ps_ret pe_bl)))))), ?_⟩
  have k1 := k1.ex eb
  have hC : ∀ (B3 H3 : Hp) (σ : L2.St), Ex H B3 → Ex B3 H3 → σ[0]? = some (some (.ref x)) → EvD (tFld K (tVar 0) "colours") σ B3 H3 (.list (cs.map PyData.int)) := fun B3 H3 σ e1 e2 s0 => ed_ev e2 (ev_fld (K := K) (ev_var (i := 0) s0) (o.ex (e1.trans e2)) T.c_Shares T.a_Shares) (.lst (e1 _ _ o.lst) .ints)
  refine q_when (b := !decide (cs.length = ts.length) || !(cs.all fun p => decide (0 ≤ p) && decide (p < many))) (et_or (et_is (et_test (ev_neI (ev_lenD (K := K) (hC H H _ (Ex.refl H) (Ex.refl H) rfl)) (ev_lenD (K := K) (ed_var (n := 2) (Ex.refl H) rfl k1)))) ?_) fun _ => et_not (a := (cs.all fun p => decide (0 ≤ p) && decide (p < many))) (et_B (ev_is (ev_all (K := K) (B := H) (bs := cs.map fun p => decide (0 ≤ p) && decide (p < many)) ?_) ?_))) (fun hb H1 e1 => ?_) (fun hb H1 e1 => ?_)
  · rw [List.length_map, List.length_map]
    congr 2
    apply propext; omega
  · rw [List.map_map]
    refine EvN.toD (en_lcA (dt := PyData.int) (l := cs) (fun p => .bool (decide (0 ≤ p) && decide (p < many))) (ei_list (K := K) (hC H H _ (Ex.refl H) (Ex.refl H) rfl)) (by omega) fun a x B3 H3 _ e1 e2 e3 kx => ?_)
    obtain rfl := kx.int_inv
    exact edb e3 (ev_chain2 (f := fun i j => decide (i ≤ j)) (f' := fun i j => decide (i < j)) ev_c (ev_var (i := 8) rfl) (ev_var (i := 3) rfl))
  · rw [List.all_map]; rfl
  · refine Evl.s_ret (ev_c (v := .bl false)) fun H2 e2 => ?_
    have : evenP n ts cs many = false := evenP_false fun z => by
      rcases Bool.or_eq_true_iff.mp hb with h | h
      · rw [decide_eq_true z.1] at h; cases h
      · have : (cs.all fun p => decide (0 ≤ p) && decide (p < many)) = true := List.all_eq_true.mpr fun p hp => by simp [z.2.1 p hp]
        rw [this] at h; cases h
    rw [← this]; exact q H2 (e1.trans e2)
  have hb := Bool.or_eq_false_iff.mp hb
  have hlen : cs.length = ts.length := by simpa using hb.1
  have hr : ∀ c ∈ cs, 0 ≤ c ∧ c < many := fun p hp => by
    have h : (cs.all fun p => decide (0 ≤ p) && decide (p < many)) = true := by simpa using hb.2
    simpa using List.all_eq_true.mp h p hp
  have f0 := (Fr.start (Ex.refl H)).ev e1
  have hkl := kinds_le cs
  -- kinds
  refine q_asgN (en_sortSet (K := K) (hC H H1 _ (Ex.refl H) e1 rfl) (by omega)) fun lk xk B2 H2 g2 n2 nb2 h2' kk => ?_
  have kk := kk.ints_inv
  subst kk
  have f2 := f0.gr (fixD g2 n2 nb2 h2')
  have kK : ∀ B3, Ex (upd B2 lk (.lst ((kinds cs).map V.int))) B3 → Da B3 (.ref lk) (.list ((kinds cs).map PyData.int)) := fun B3 e => .lst (e _ _ upd_same) .ints
  -- told
  refine q_asgN (B := upd B2 lk (.lst ((kinds cs).map V.int))) (en_lcA (dt := PyData.int) (l := cs) (fun c => .int (posK cs c)) (ei_list (K := K) (hC _ H2 _ f2.eb f2.bh rfl)) (by omega) fun a y B3 H3 hm e1 e2 e3 kx => ?_) fun lt xt B4 H4 g4 n4 nb4 h4 kt => ?_
  · obtain rfl := kx.int_inv
    exact edi e3 (ev_index (ed_var (n := 4) e3 rfl (kK _ e2)) (ev_var (i := 8) rfl) (kinds_nodup cs) (posK_at hm))
  have et : cs.map (fun c => PyData.int (posK cs c)) = (toldL cs).map PyData.int := by unfold toldL; rw [List.map_map]; rfl
  rw [et] at kt
  have kt := kt.ints_inv
  subst kt
  have f4 := f2.gr (fixD g4 n4 nb4 h4)
  have e24 : Ex (upd B2 lk (.lst ((kinds cs).map V.int))) (upd B4 lt (.lst ((toldL cs).map V.int))) := g4.bb.trans (Ex.new nb4)
  have hlk : EvD (tVar 4) [some (.ref x), some (.int n), some v2, some (.int many), some (.ref lk), some (.ref lt), none, none, none] (upd B4 lt (.lst ((toldL cs).map V.int))) H4 (.list ((kinds cs).map PyData.int)) := ed_var (n := 4) f4.bh rfl (kK _ e24)
  have hlen' := ev_lenD (K := K) hlk
  rw [List.length_map] at hlen'
  -- for some in counts(..)
  refine q_for (B := upd B4 lt (.lst ((toldL cs).map V.int))) (dt := fun (v : Nat) => .list ((often ts cs (v : Int)).map PyData.int)) (P := (· = List.range n.toNat)) (ei_list (K := K) ?_)
    (fun l B3 i σ' H' => Ex (upd B4 lt (.lst ((toldL cs).map V.int))) B3 ∧ ∃ (y6 y7 : Option V), σ' = [some (.ref x), some (.int n), some v2, some (.int many), some (.ref lk), some (.ref lt), y6, y7, none] ∧ Fr H H B3 H' [] ∧ ∀ u, 0 ≤ u → u < (i : Int) → ¬ maxL 0 (often ts cs u) - leastOf cs many (often ts cs u) > 1) ?_ ?_ ?_ ?_
  · have h := ed_call (d := .list (rowsD n ((kinds cs).length : Int) ts (toldL cs))) (E := E0) (sp := sp_counts) (eds_cons (edi f4.bh (ev_var (σ := [some (.ref x), some (.int n), some v2, some (.int many), some (.ref lk), some (.ref lt), none, none, none]) (i := 1) rfl)) (eds_cons (ed_var (n := 2) f4.bh rfl (k1.ex f4.eb)) (eds_cons (ed_var (n := 5) f4.bh rfl (.lst upd_same .ints)) (eds_cons (edi f4.bh hlen') (eds_nil f4.bh))))) fun B6 H6 ws Q6 E6 e6 k6 q6 => ⟨n, ts, toldL cs, ((kinds cs).length : Int), B6, e6, k6, ⟨hn0, hn1, hW, hl, by omega, by omega, told_rng⟩, q6⟩
    have er : rowsD n ((kinds cs).length : Int) ts (toldL cs) = (List.range n.toNat).map fun (v : Nat) => .list ((often ts cs (v : Int)).map PyData.int) := by
      unfold rowsD
      apply List.map_congr_left
      intro v _
      rw [Int.toNat_natCast, row_told]
    rw [er] at h
    exact h
  · rintro l B3 H3 - g3
    exact ⟨g3.bb, none, none, rfl, f4.gr g3, fun u h0 h1 => by omega⟩
  · rintro l B3 i σ' H' ⟨_, _, _, _, f, _⟩
    exact f.bh
  · rintro l B3 i v y B5 σ' H' H5 rfl hi ⟨e43, y6, y7, rfl, f, hu⟩ g5 kx
    have hil := (List.getElem?_eq_some_iff.mp hi).1
    rw [List.length_range] at hil
    have hiv := (List.getElem?_eq_some_iff.mp hi).2
    rw [List.getElem_range] at hiv
    subst hiv
    have f5 := f.gr g5
    have kO : ∀ (σ : L2.St) (H6 : Hp), Ex B5 H6 → σ[6]? = some (some y) → EvD (tVar 6) σ B5 H6 (.list ((often ts cs (i : Int)).map PyData.int)) := fun σ H6 e s => ed_var (n := 6) e s kx
    -- least
    refine q_asgV (v := .int (leastOf cs many (often ts cs (i : Int)))) (ev_ifV (b := decide (((kinds cs).length : Int) = many)) (et_is (et_test (ev_eqI (ev_var (i := 3) rfl) (ev_lenD (K := K) (ed_var (n := 4) f5.bh rfl (kK _ ((e24.trans e43).trans g5.bb)))))) (by rw [List.length_map]; congr 1; apply propext; exact eq_comm)) (fun hb => ?_) (fun hb => ?_)) fun H6 e6 => ?_
    · unfold leastOf
      rw [if_pos (of_decide_eq_true hb)]
      exact ev_minDf (K := K) (kO _ _ f5.bh rfl)
    · unfold leastOf
      rw [if_neg (of_decide_eq_false hb)]
      exact ev_c
    have f6 := f5.ev e6
    refine s_when (et_test (ev_I0 (g := fun i j => .bl (decide (i > j))) (ev_I0 (g := fun i j => .int (i - j)) (ev_maxDf (K := K) (kO _ _ f6.bh rfl)) (ev_var (i := 7) rfl)) (ev_c (v := .int 1)))) (fun hb H7 e7 => ?_) (fun hb H7 e7 => ?_)
    · refine Evl.s_ret (ev_c (v := .bl false)) fun H8 e8 => ?_
      have : evenP n ts cs many = false := evenP_false fun z => (even_look hr).mp (fun c d => z.2.2 (i : Int) (by omega) (by omega) c d) (of_decide_eq_true hb)
      rw [← this]; exact q H8 ((f6.ex0.trans e7).trans e8)
    · have hb := of_decide_eq_false hb
      refine ⟨e43, _, _, rfl, (f6.ev e7).back f.eb g5.bb, fun u h0 h1 => ?_⟩
      by_cases e : u = (i : Int)
      · rw [e]; exact hb
      · exact hu u h0 (by omega)
  rintro l B3 σ' H' rfl ⟨e43, y6, y7, rfl, f, hu⟩
  rw [List.length_range] at hu
  refine Evl.s_ret (ev_c (v := .bl true)) fun H8 e8 => ?_
  have : evenP n ts cs many = true := evenP_true.mpr ⟨hlen, hr, fun v h0 h1 c d c0 c1 d0 d1 => (even_look hr).mpr (hu v h0 (by omega)) c d c0 c1 d0 d1⟩
  rw [← this]; exact q H8 (f.ex0.trans e8)
def sp_Ring_shows (A : Ad) : Sp := fun vs H Q _ => ∃ (x l : Addr) (rs : List Int) (v1 v2 v3 : V) (n : Int) (ts : List Tie) (many : Int) (B : Hp), vs = [.ref x, v1, v2, v3] ∧ Ob A.Ring "ring" H x l rs ∧ Ex B H ∧ DaAll B [v1, v2, v3] [.int n, tiesD ts, .int many] ∧ (ts.length ≤ 1000 ∧ rs.length ≤ 1000) ∧ RetV H (.bl (ringP ts rs)) Q
theorem len_Ring_shows {A : Ad} {vs : List V} {H : Hp} {Q : VK} {E : XK} (h : sp_Ring_shows A vs H Q E) : vs.length = 4 := by
  obtain ⟨_, _, _, _, _, _, _, _, _, _, rfl, _⟩ := h
  rfl
theorem ok_Ring_shows (T : TX K mg A) : Ok P w K mg base CX0 1 A.Ring_shows ["self", "places", "ties", "many"] (sp_Ring_shows A) := by
  obtain ⟨fd, F⟩ := T.F_Ring_shows
  refine ⟨fd, ?_, F.binds (ps := ["self", "places", "ties", "many"]) fun _ _ _ _ _ _ us hl => match us, hl with | [_, _, _, _], _ => rfl, F.kp⟩
  refine F.ok sc_Ring_shows (fun vs H Q E h => len_Ring_shows h) (fun cdv Ar outer s H vs Q E hr h => ?_)
  have nd := sc_Ring_shows.nd
  have hu := hu_of hr
  obtain ⟨x, l, rs, v1, v2, v3, n, ts, many, B, rfl, o, eb, k, ⟨hl, hrl⟩, q⟩ := h
  match v1, v3, k with
  | _, _, .cons (.int _) (.cons k1 (.cons (.int _) .nil)) =>
  refine ⟨_, (pss_cons (ps_if (PW.pt (pw_or (pt_cmpR op_eq (pe_op op_mod (pe_callB (lenK K) (by rfl) T.n_len PySem.boot_len (pa_cons (fldK K (pv 0) rfl) pa_nil)) pe_int) pe_int (by first | exact nomark _ | rfl)) (pw_or1 (pt_not (pt_val (pe_callB (allK K rfl) (by rfl) T.n_all (by decide +kernel) (pa_cons (pe_lc (own := [("at", 6)]) (g := gName 6) (tt := tYes)  rfl nd  (listK K (fldK K (pv 0) rfl)) (blkOk_by (by kernel_rfl)) (fun _ _ _ _ _ => (pg_name (i := 6) nd rfl (by first | exact .inl rfl | exact .inr rfl))) (fun _ _ _ _ _ => pts_nil) (fun _ _ _ _ _ => (pe_chain op_le op_lt pe_int (pv 6) (pe_callB (lenK K) (by rfl) T.n_len PySem.boot_len (pa_cons (pv 2) pa_nil))))) pa_nil))))))) (pss_one (ps_ret pe_bl)) pss_nil) (pss_cons (ps_for PassesOwn.never rfl (tupK K (pe_ix (ix_listK K) (pv 2) (pe_ix (ix_listK K) (fldK K (pv 0) rfl) pe_int (fun _ _ => rfl)) (fun _ _ => rfl))) (pg_name (i := 4) nd rfl (by first | exact .inl rfl | exact .inr rfl)) (pss_cons (ps_set (i := 5) nd rfl (by first | exact .inl rfl | exact .inr rfl) (pe_lst (pa_cons (pv 4) pa_nil))) (pss_cons (ps_for PassesOwn.never rfl (listK K (fldK K (pv 0) rfl)) (pg_name (i := 6) nd rfl (by first | exact .inl rfl | exact .inr rfl)) (pss_one (ps_if (pt_cmpR (in_seqK K) (pe_ix (ix_listK K) (pv 5) (pe_un un_neg pe_int) (fun _ _ => rfl)) (pe_ix (ix_listK K) (pv 2) (pv 6) (fun _ _ => rfl)) (by first | exact nomark _ | rfl)) (pss_one (ps_expr (bmK K PySem.F.plainAttrs_list PySem.F.slot_list_append PySem.F.type_list_append mt_append (pv 5) (pa_cons (pe_op op_sub (pe_op op_add (pe_ix (ix_tupK K) (pe_ix (ix_listK K) (pv 2) (pv 6) (fun _ _ => rfl)) pe_int (fun _ _ => rfl)) (pe_ix (ix_tupK K) (pe_ix (ix_listK K) (pv 2) (pv 6) (fun _ _ => rfl)) pe_int (fun _ _ => rfl))) (pe_ix (ix_listK K) (pv 5) (pe_un un_neg pe_int) (fun _ _ => rfl))) pa_nil)))) pss_nil))) (pss_one (ps_if (PW.pt (pw_and (pt_cmpR op_eq (pe_callB (lenK K) (by rfl) T.n_len PySem.boot_len (pa_cons (pv 5) pa_nil)) (pe_op op_add (pe_callB (lenK K) (by rfl) T.n_len PySem.boot_len (pa_cons (fldK K (pv 0) rfl) pa_nil)) pe_int) (by first | exact nomark _ | rfl)) (pw_and (pt_cmpR op_eq (pe_ix (ix_listK K) (pv 5) (pe_un un_neg pe_int) (fun _ _ => rfl)) (pv 4) (by first | exact nomark _ | rfl)) (pw_and1 (pt_cmpR op_eq (lenSetK K (by rfl) T.n_len (by rfl) T.n_set (pv 5)) (pe_callB (lenK K) (by rfl) T.n_len PySem.boot_len (pa_cons (fldK K (pv 0) rfl) pa_nil)) (by first | exact nomark _ | rfl)))))) (pss_one (ps_ret pe_bl)) pss_nil))))) (pss_one (ps_ret pe_bl)))), ?_⟩
  have k1 := k1.ex eb
  have hC : ∀ (B3 H3 : Hp) (σ : L2.St), Ex H B3 → Ex B3 H3 → σ[0]? = some (some (.ref x)) → EvD (tFld K (tVar 0) "ring") σ B3 H3 (.list (rs.map PyData.int)) := fun B3 H3 σ e1 e2 s0 => ed_ev e2 (ev_fld (K := K) (ev_var (i := 0) s0) (o.ex (e1.trans e2)) T.c_Ring T.a_Ring) (.lst (e1 _ _ o.lst) .ints)
  have hL : ∀ (B3 H3 : Hp) (σ : L2.St), Ex H B3 → Ex B3 H3 → σ[0]? = some (some (.ref x)) → Ev (tCB (TB.rLen K) (tCons (tFld K (tVar 0) "ring") tNil)) σ H3 (.int (rs.length : Int)) := fun B3 H3 σ e1 e2 s0 => by
    have h := ev_lenD (K := K) (hC B3 H3 σ e1 e2 s0)
    rw [List.length_map] at h; exact h
  refine q_when (b := decide (rs.length % 2 = 0) || !(rs.all fun p => decide (0 ≤ p) && decide (p < (ts.length : Int)))) (et_or (et_is (et_test (ev_eqI (ev_I (hL H H _ (Ex.refl H) (Ex.refl H) rfl) (ev_c (v := .int 2)) (C := fun _ j => 0 < j) (g := fun i j => .int (i % j)) (by decide)) (ev_c (v := .int 0)))) ?_) fun _ => et_not (a := (rs.all fun p => decide (0 ≤ p) && decide (p < (ts.length : Int)))) (et_B (ev_is (ev_all (K := K) (B := H) (bs := rs.map fun p => decide (0 ≤ p) && decide (p < (ts.length : Int))) ?_) ?_))) (fun hb H1 e1 => ?_) (fun hb H1 e1 => ?_)
  · congr 1
    apply propext; omega
  · rw [List.map_map]
    refine EvN.toD (en_lcA (dt := PyData.int) (l := rs) (fun p => .bool (decide (0 ≤ p) && decide (p < (ts.length : Int)))) (ei_list (K := K) (hC H H _ (Ex.refl H) (Ex.refl H) rfl)) (by omega) fun a x B3 H3 _ e1 e2 e3 kx => ?_)
    obtain rfl := kx.int_inv
    have h := ev_lenD (K := K) (ed_var (σ := [some (.ref x), some (.int n), some v2, some (.int many), none, none, some (.int a)]) (n := 2) e3 rfl (k1.ex e2))
    rw [List.length_map] at h
    exact edb e3 (ev_chain2 (f := fun i j => decide (i ≤ j)) (f' := fun i j => decide (i < j)) ev_c (ev_var (i := 6) rfl) h)
  · rw [List.all_map]; rfl
  · refine Evl.s_ret (ev_c (v := .bl false)) fun H2 e2 => ?_
    have : ringP ts rs = false := ringP_false fun z => by
      obtain ⟨z1, z2, _⟩ := ringP_true.mp z
      rcases Bool.or_eq_true_iff.mp hb with h | h
      · have := of_decide_eq_true h; omega
      · have : (rs.all fun p => decide (0 ≤ p) && decide (p < (ts.length : Int))) = true := List.all_eq_true.mpr fun p hp => by simp [z2 p hp]
        rw [this] at h; cases h
    rw [← this]; exact q H2 (e1.trans e2)
  have hb := Bool.or_eq_false_iff.mp hb
  have hodd : rs.length % 2 = 1 := by
    have := of_decide_eq_false hb.1; omega
  have hr : ∀ c ∈ rs, 0 ≤ c ∧ c < (ts.length : Int) := fun p hp => by
    have h : (rs.all fun p => decide (0 ≤ p) && decide (p < (ts.length : Int))) = true := by simpa using hb.2
    simpa using List.all_eq_true.mp h p hp
  obtain ⟨c0, r0, hcr⟩ : ∃ c r, rs = c :: r := by
    cases rs with
    | nil => simp at hodd
    | cons c r => exact ⟨c, r, rfl⟩
  have hc0 := hr c0 (by rw [hcr]; exact List.mem_cons_self)
  obtain ⟨t0, ht0⟩ : ∃ t, ts[c0.toNat]? = some t := ⟨_, List.getElem?_eq_getElem (by omega)⟩
  obtain ⟨ring, hring⟩ : ∃ ring, ring = rs.map Int.toNat := ⟨_, rfl⟩
  have hrgl : ring.length = rs.length := by rw [hring, List.length_map]
  have hne : ring ≠ [] := by rw [hring, hcr]; exact List.cons_ne_nil _ _
  have hP : ringP ts rs = (ringFrom ts ring t0.1 || ringFrom ts ring t0.2) := by
    rw [Bool.eq_iff_iff, ringP_true, ← hring]
    have : ringB ts ring = (ringFrom ts ring t0.1 || ringFrom ts ring t0.2) := by
      rw [hring, hcr, List.map_cons]; exact ringB_cons ht0
    rw [this]
    exact ⟨fun z => z.2.2, fun z => ⟨hodd, hr, z⟩⟩
  have hat : ∀ (j : Nat) (a : Int), rs[j]? = some a → ring[j]? = some a.toNat ∧ ∃ t, ts[a.toNat]? = some t := fun j a hj => by
    have ha := hr a (List.mem_of_getElem? hj)
    exact ⟨by rw [hring, List.getElem?_map, hj]; rfl, _, List.getElem?_eq_getElem (by omega)⟩
  have f1 := (Fr.start (Ex.refl H)).ev e1
  -- for begin in ties[self.ring[0]]
  refine q_for (B := H) (dt := PyData.int) (P := (· = [t0.1, t0.2])) (ei_tup (K := K) (l := [t0.1, t0.2]) (ed_tie (K := K) (t := t0) (ed_var (n := 2) f1.bh rfl k1) (ev_int (ed_ixL (K := K) (hC H H1 _ (Ex.refl H) e1 rfl) ev_c (atD_nat (j := 0) (d := .int c0) rfl (by rw [hcr]; rfl)))) (i := c0.toNat) (by omega) ht0))
    (fun l2 B2 i σ' H' => ∃ (B3 : Hp) (y4 y5 y6 : Option V), Ex B2 B3 ∧ σ' = [some (.ref x), some (.int n), some v2, some (.int many), y4, y5, y6] ∧ Fr H H B3 H' [] ∧ ∀ u ∈ l2.take i, ringFrom ts ring u = false) ?_ ?_ ?_ ?_
  · rintro l2 B2 H2 - g2
    exact ⟨B2, _, _, _, Ex.refl _, rfl, f1.gr g2, fun u hu => by simp at hu⟩
  · rintro l2 B2 i σ' H' ⟨B3, _, _, _, e, _, f, _⟩
    exact e.trans f.bh
  · rintro l2 B2 i b z B4 σ' H' H4 rfl hi ⟨B3, y4, y5, y6, e23, rfl, f, hu⟩ g4 kz
    obtain rfl := kz.int_inv
    have f := f.ev g4.hh
    have tk : [t0.1, t0.2].take (i + 1) = [t0.1, t0.2].take i ++ [b] := by rw [List.take_add_one, hi]; rfl
    -- came
    refine q_asgN (B := B3) (en_lst (eds_cons (edi f.bh (ev_var (i := 4) rfl)) (eds_nil f.bh))) fun lw xw B5 H5 g5 n5 nb5 h5 kw => ?_
    have kw : xw = [b].map V.int := DaAll.ints_inv (ns := [b]) kw
    subst kw
    have f5 := f.take g5 n5 nb5 h5
    -- for at in self.ring
    refine q_for (B := B5) (dt := PyData.int) (P := (· = rs)) (ei_list (K := K) (hC B5 H5 _ f5.eb f5.bh rfl))
      (fun l3 B6 j σ' H' => ∃ (B7 : Hp) (y6 : Option V) (pl : List Int) (c : Int), Ex B5 B6 ∧ Ex B6 B7 ∧ σ' = [some (.ref x), some (.int n), some v2, some (.int many), some (.int b), some (.ref lw), y6] ∧ Fr H H B7 H' [(lw, .lst ((pl ++ [c]).map V.int))] ∧ pl.length ≤ j ∧
        (trail ts b (ring.take j) = some (pl ++ [c]) ∨ (pl.length + 1 ≤ j ∧ trail ts b ring = none))) ?_ ?_ ?_ ?_
    · rintro l3 B6 H6 - g6
      exact ⟨B6, _, [], b, g6.bb, Ex.refl _, rfl, f5.gr g6, Nat.le_refl _, .inl rfl⟩
    · rintro l3 B6 j σ' H' ⟨B7, _, _, _, _, e, _, f, _⟩
      exact e.trans f.bh
    · rintro l3 B6 j a z B8 σ' H' H8 rfl hj ⟨B7, y6, pl, c, e56, e67, rfl, f, hpl, htr⟩ g8 kz
      obtain rfl := kz.int_inv
      have f := f.ev g8.hh
      obtain ⟨hrj, t, ht⟩ := hat j a hj
      have ha := hr a (List.mem_of_getElem? hj)
      have hjl := (List.getElem?_eq_some_iff.mp hj).1
      have htk : ring.take (j + 1) = ring.take j ++ [a.toNat] := by rw [List.take_add_one, hrj]; rfl
      have hdr : ring = ring.take j ++ a.toNat :: ring.drop (j + 1) := by
        have hj2 : j < ring.length := by omega
        have e2 : ring[j] = a.toNat := (List.getElem?_eq_some_iff.mp hrj).2
        rw [← e2, ← List.drop_eq_getElem_cons hj2, List.take_append_drop]
      have hlast : ∀ H9, Ex H8 H9 → Ev (tOp (rIxL K) (tVar 5) (tUn (rU fun i => .int (-i)) (tC (.int 1)))) [some (.ref x), some (.int n), some v2, some (.int many), some (.int b), some (.ref lw), some (.int a)] H9 (.int c) := fun H9 e9 => ev_ixO (K := K) (ev_var (i := 5) rfl) (e9 _ _ f.get0) (ev_neg ev_c) (by
        have := atI_last (pl.map V.int) (V.int c)
        rw [List.map_append]; exact this)
      have hT : ∀ H9, Ex H8 H9 → EvD (tOp (rIxL K) (tVar 2) (tVar 6)) [some (.ref x), some (.int n), some v2, some (.int many), some (.int b), some (.ref lw), some (.int a)] B7 H9 (tieD t) := fun H9 e9 => ed_tie (K := K) (i := a.toNat) (ed_var (n := 2) (f.bh.trans e9) rfl (k1.ex f.eb)) (ev_var (i := 6) rfl) (by omega) ht
      refine s_when (et_test (ev_has (K := K) (hlast H8 (Ex.refl _)) (hT H8 (Ex.refl _)))) (fun hh H9 e9 => ?_) (fun hh H9 e9 => ?_)
      · refine Evl.s_app (K := K) (e9 _ _ f.get0) (ev_var (i := 5) rfl) (ev_oth (hT H9 e9) (hT H9 e9) (hlast H9 e9)) (by rw [List.length_map, List.length_append, List.length_singleton]; omega) fun H10 e10 => ?_
        have f := ((f.ev e9).ev e10).set0 (u := .lst ((pl ++ [c]).map V.int ++ [.int (oth t c)]))
        refine ⟨B7, _, pl ++ [c], oth t c, e56, e67, rfl, by rw [List.map_append (l₁ := pl ++ [c])]; exact f, by rw [List.length_append, List.length_singleton]; omega, ?_⟩
        rcases htr with h | ⟨h1, h2⟩
        · left; rw [htk]; exact trail_snoc h ht hh
        · exact .inr ⟨by rw [List.length_append, List.length_singleton]; omega, h2⟩
      · refine ⟨B7, _, pl, c, e56, e67, rfl, f.ev e9, by omega, .inr ?_⟩
        rcases htr with h | ⟨h1, h2⟩
        · have hl2 := trail_len h
          rw [List.length_append, List.length_singleton, List.length_take] at hl2
          exact ⟨by omega, by rw [hdr]; exact trail_stop h ht hh⟩
        · exact ⟨by omega, h2⟩
    rintro l3 B6 σ' H' hl3 ⟨B7, y6, pl, c, e56, e67, rfl, f, hpl, htr⟩
    rw [hl3] at hpl htr
    have fx := f.fix
    have kW := ed_var (σ := [some (.ref x), some (.int n), some v2, some (.int many), some (.int b), some (.ref lw), y6]) (d := .list ((pl ++ [c]).map PyData.int)) (n := 5) fx.bh rfl (.lst upd_same .ints)
    have hlen := ev_lenD (K := K) kW
    rw [List.length_map] at hlen
    have hlast : Ev (tOp (rIxL K) (tVar 5) (tUn (rU fun i => .int (-i)) (tC (.int 1)))) [some (.ref x), some (.int n), some v2, some (.int many), some (.int b), some (.ref lw), y6] H' (.int c) := ev_ixO (K := K) (ev_var (i := 5) rfl) f.get0 (ev_neg ev_c) (by
      have := atI_last (pl.map V.int) (V.int c)
      rw [List.map_append]; exact this)
    have hres : ringFrom ts ring b = (decide (pl.length = rs.length) && (decide (c = b) && decide ((kinds (pl ++ [c])).length = rs.length))) := by
      rcases htr with h | ⟨h1, h2⟩
      · rw [List.take_of_length_le (by omega)] at h
        have hl2 := trail_len h
        rw [List.length_append, List.length_singleton] at hl2
        rw [ring_came h hne, hrgl, decide_eq_true (show pl.length = rs.length by omega), Bool.true_and, List.getLast?_concat]
        congr 2
        exact propext ⟨fun z => Option.some.inj z, fun z => by rw [z]⟩
      · rw [ring_none h2, decide_eq_false (show ¬ pl.length = rs.length by omega)]; rfl
    refine s_when (b := ringFrom ts ring b) (et_is (et_and (a := decide (pl.length = rs.length)) (b := decide (c = b) && decide ((kinds (pl ++ [c])).length = rs.length)) (et_is (et_test (ev_eqI hlen (ev_I0 (g := fun i j => .int (i + j)) (hL _ H' _ f.eb f.bh rfl) (ev_c (v := .int 1))))) ?_) fun _ =>
      et_and (a := decide (c = b)) (b := decide ((kinds (pl ++ [c])).length = rs.length)) (et_test (ev_eqI hlast (ev_var (i := 4) rfl))) fun _ => et_is (et_test (ev_eqI (ev_lenSet (K := K) kW (by rw [List.length_append, List.length_singleton]; omega)) (hL _ H' _ f.eb f.bh rfl))) ?_) hres.symm) (fun hb H9 e9 => ?_) (fun hb H9 e9 => ?_)
    · rw [List.length_append, List.length_singleton]
      congr 1
      apply propext; omega
    · congr 1
      apply propext; omega
    · refine Evl.s_ret (ev_c (v := .bl true)) fun H10 e10 => ?_
      have : ringP ts rs = true := by
        rw [hP]
        have hm : b = t0.1 ∨ b = t0.2 := by simpa using List.mem_of_getElem? hi
        rcases hm with e | e <;> rw [← e, hb] <;> simp
      rw [← this]; exact q H10 ((f.ex0.trans e9).trans e10)
    · refine ⟨B7, _, _, _, (e23.trans g5.bb).trans (e56.trans e67), rfl, (f.ev e9).nil, fun u hu' => ?_⟩
      rw [tk, List.mem_append, List.mem_singleton] at hu'
      rcases hu' with z | z
      · exact hu u z
      · rw [z]; exact hb
  rintro l2 B2 σ' H' rfl ⟨B3, y4, y5, y6, e23, rfl, f, hu⟩
  refine Evl.s_ret (ev_c (v := .bl false)) fun H10 e10 => ?_
  have : ringP ts rs = false := by
    rw [hP, hu t0.1 (by simp), hu t0.2 (by simp)]; rfl
  rw [← this]; exact q H10 (f.ex0.trans e10)
/-! ### shared -/
def okM : PyData → Bool
  | .int m => decide (1 ≤ m)
  | _ => false
def RetSh (A : Ad) (B H : Hp) (n : Int) (ts : List Tie) (many : Int) (Q : VK) : Prop := (Bip ts → ∀ cs, EvenCols n ts cs many → RetO B H A.Shares "colours" cs Q) ∧ (¬ Bip ts → ∀ rs, ringP ts rs = true → RetO B H A.Ring "ring" rs Q)
def sp_shared (A : Ad) : Sp := fun vs H Q E => ∃ d1 d2 d3 B, Ex B H ∧ DaAll B vs [d1, d2, d3] ∧ (okP d1 = false → RetE H A.BadPlaces E) ∧ (∀ n, d1 = .int n → okP d1 = true → okT n d2 = false → RetE H A.BadTies E) ∧
  (∀ n, d1 = .int n → okP d1 = true → okT n d2 = true → okM d3 = false → RetE H A.BadMany E) ∧
  (∀ n ts many, d1 = .int n → d2 = tiesD ts → d3 = .int many → 1 ≤ n → n ≤ 40 → Web n ts → ts.length ≤ 120 → 1 ≤ many → RetSh A B H n ts many Q)
theorem len_shared {A : Ad} {vs : List V} {H : Hp} {Q : VK} {E : XK} (h : sp_shared A vs H Q E) : vs.length = 3 := by
  obtain ⟨_, _, _, B, _, k, _⟩ := h
  exact k.len
theorem ok_shared (T : TX K mg A) : Ok P w K mg base (L2N.CX P w) 4 A.shared ["places", "ties", "many"] (sp_shared A) := by
  obtain ⟨fd, F⟩ := T.F_shared
  obtain ⟨fd_asked_web, G_asked_web, B_asked_web, K_asked_web⟩ := ok_asked_web (P := P) (w := w) (base := base) T
  obtain ⟨fd_is_number, G_is_number, B_is_number, K_is_number⟩ := ok_is_number (P := P) (w := w) (base := base) T
  obtain ⟨fd_odd_ring, G_odd_ring, B_odd_ring, K_odd_ring⟩ := ok_odd_ring (P := P) (w := w) (base := base) T
  obtain ⟨fd_spread, G_spread, B_spread, K_spread⟩ := ok_spread (P := P) (w := w) (base := base) T
  obtain ⟨fd_Ring___init__, G_Ring___init__, B_Ring___init__, K_Ring___init__⟩ := ok_Ring___init__ (P := P) (w := w) (base := base) T
  obtain ⟨fd_Shares___init__, G_Shares___init__, B_Shares___init__, K_Shares___init__⟩ := ok_Shares___init__ (P := P) (w := w) (base := base) T
  refine ⟨fd, ?_, F.binds (ps := ["places", "ties", "many"]) fun _ _ _ _ _ _ us hl => match us, hl with | [_, _, _], _ => rfl, F.kp⟩
  refine fun_okN F sc_shared (fun vs H Q E h => len_shared h) (fun cdv Ar outer s H vs Q E hr h => ?_)
  have nd := sc_shared.nd
  have hu := hu_of hr
  obtain ⟨d1, d2, d3, B, eb, k, q1, q2, q3, q4⟩ := h
  match vs, k with
  | [v0, v1, v2], .cons k0 (.cons k1 (.cons k2 .nil)) =>
  refine ⟨_, (pss_cons (ps_expr (pe_call G_asked_web (hr.mono (by decide)) (by rfl) T.g_asked_web K_asked_web B_asked_web .nil (L2N.passes_call (L2N.takes_of rfl rfl rfl rfl) fun _ _ _ _ h => h) (pa_cons (pv 0) (pa_cons (pv 1) pa_nil)))) (pss_cons (ps_if (PW.pt (pw_or (pt_not (pt_val (pe_call G_is_number (hr.mono (by decide)) (by rfl) T.g_is_number K_is_number B_is_number .nil pass0 (pa_cons (pv 2) pa_nil)))) (pw_or1 (pt_cmpR op_lt (pv 2) pe_int (by first | exact nomark _ | rfl))))) (pss_one (L2N.ps_raise rfl (L2N.takes_of rfl rfl rfl rfl) (L2N.pmk_own PySem.F.excBase_ValueError T.x_BadMany T.g_BadMany T.k_BadMany (raises_own T.b_BadMany T.t_BadMany) rfl))) pss_nil) (pss_cons (ps_set (i := 3) nd rfl (by first | exact .inl rfl | exact .inr rfl) (pe_call G_odd_ring (hr.mono (by decide)) (by rfl) T.g_odd_ring K_odd_ring B_odd_ring .nil pass0 (pa_cons (pv 0) (pa_cons (pv 1) pa_nil)))) (pss_one (ps_ret (pe_ifExp (pt_cmp (pc_notN (pv 3))) (pe_make T.m_Ring G_Ring___init__ (hr.mono (by decide)) (by rfl) T.g_Ring B_Ring___init__ .nil pass0 (pa_cons (pv 3) pa_nil)) (pe_make T.m_Shares G_Shares___init__ (hr.mono (by decide)) (by rfl) T.g_Shares B_Shares___init__ .nil pass0 (pa_cons (pe_call G_spread (hr.mono (by decide)) (by rfl) T.g_spread K_spread B_spread .nil pass0 (pa_cons (pv 0) (pa_cons (pv 1) (pa_cons (pv 2) pa_nil)))) pa_nil)))))))), ?_⟩
  refine sq ⟨v0, rfl, v1, rfl, asked_row eb (.cons k0 (.cons k1 .nil)) q1 q2 fun n ts H1 e1 e2 h1 h2 w hl x1 => ?_⟩
  subst e1 e2
  have eb1 := eb.trans x1
  have tN : EvT (tB (tCall sp_is_number [] E0 (tCons (tVar 2) tNil))) (start ["places", "ties", "many", "ring"] [v0, v1, v2]) H1 (numD d3) := et_B (ev_call (eds_cons (ed_var (n := 2) eb1 rfl k2) (eds_nil eb1)) fun B4 H4 ws Q4 E4 e4 k4 q4 => ⟨d3, B4, e4, k4, q4⟩)
  dsimp only
  refine q_when (b := !(okM d3)) (et_is (et_or (a := !(numD d3)) (b := !(okM d3)) (et_not tN) fun hz => ?_) ?_) (fun hb H2 e2 => ?_) (fun hb H2 e2 => ?_)
  · obtain ⟨m, rfl⟩ : ∃ m, d3 = .int m := num_inv (by cases e : numD d3 <;> simp [e] at hz ⊢)
    refine et_is (et_test (ev_I0 (g := fun i j => .bl (decide (i < j))) (ev_int (ed_var (n := 2) eb1 rfl k2)) (ev_c (v := .int 1)))) ?_
    show decide (m < 1) = !decide (1 ≤ m)
    by_cases e : 1 ≤ m
    · rw [decide_eq_true e, decide_eq_false (by omega)]; rfl
    · rw [decide_eq_false e, decide_eq_true (by omega)]; rfl
  · cases d3 <;> first | rfl | simp [numD, okM]
  · exact q3 n rfl (okP_iff.mpr ⟨n, rfl, h1, h2⟩) (okT_of w hl) (by cases e : okM d3 <;> simp [e] at hb ⊢) H2 (x1.trans e2)
  obtain ⟨many, rfl, hm⟩ : ∃ m, d3 = .int m ∧ 1 ≤ m := by
    have hb : okM d3 = true := by cases e : okM d3 <;> simp [e] at hb ⊢
    cases d3 with
    | int m => exact ⟨m, rfl, of_decide_eq_true hb⟩
    | _ => cases hb
  obtain rfl := k0.int_inv
  obtain rfl := k2.int_inv
  have q := q4 n ts many rfl rfl rfl h1 h2 w hl hm
  have f2 := ((Fr.start eb).ev x1).ev e2
  refine q_callAsg (eds_cons (edi f2.bh (ev_var (i := 0) rfl)) (eds_cons (ed_var (n := 1) f2.bh rfl k1) (eds_nil f2.bh))) fun B4 H4 vs4 E4 g4 k4 => ⟨n, ts, B4, g4.bh, k4, ⟨by omega, by omega, w, by omega⟩, fun hbip => ?_, fun hnb => ?_⟩
  · intro H5 e5
    have f5 := (f2.gr g4).ev e5
    refine tif_k (b := false) (et_is (et_test (ev_notN (ev_var (i := 3) rfl))) rfl) (fun z => nomatch z) (fun _ H6 e6 => ?_)
    have f6 := f5.ev e6
    refine em_make (P := fun cs => EvenCols n ts cs many) f6.bh (fun H7 e7 Q7 q7 => (EvM.toS (em_call (sp := sp_spread) (eds_cons (edi f6.bh (ev_var (i := 0) rfl)) (eds_cons (ed_var (n := 1) f6.bh rfl (k1.ex f6.eb)) (eds_cons (edi f6.bh (ev_var (i := 2) rfl)) (eds_nil f6.bh)))) fun B8 H8 ws Q8 E8 e8 k8 q8 => ⟨n, ts, many, B8, e8, k8, ⟨h1, by omega, w, hbip, by omega, hm⟩, q8⟩)) H7 e7 Q7 fun d v B' H8 pd g k => ?_) (Ex.refl _) ?_
    · obtain ⟨ds, rfl, cs, rfl, hE⟩ := pd
      exact q7 _ v B' H8 ⟨cs, hE, rfl⟩ g k
    · intro cs hE
      exact (q.1 hbip cs hE).gr f6.toGr
  · intro ds p xs B' H5 pd g5 n5 nb5 h5 kd
    obtain ⟨ks, rfl, hr, hkl⟩ := pd
    have f5 := (f2.gr g4).gr (fixD g5 n5 nb5 h5)
    have kd := DaAll.nats_inv kd
    subst kd
    refine tif_k (b := true) (et_is (et_test (ev_notN (ev_var (i := 3) rfl))) rfl) (fun _ H6 e6 => ?_) (fun z => nomatch z)
    have f6 := f5.ev e6
    refine em_make (P := fun rs => rs = ks.map fun (j : Nat) => (j : Int)) f6.bh (fun H7 e7 Q7 q7 => (ed_var (n := 3) (d := .list ((ks.map fun (j : Nat) => (j : Int)).map PyData.int)) f6.bh rfl (.lst upd_same ?_)) H7 e7 Q7 fun v B'' H8 g k => q7 _ v B'' H8 ⟨_, rfl, rfl⟩ g k) (Ex.refl _) ?_
    · have e : ks.map natV = (ks.map fun (j : Nat) => (j : Int)).map V.int := by rw [List.map_map]; rfl
      rw [e]; exact .ints
    · rintro rs rfl
      exact (q.2 hnb _ hr).gr f6.toGr
theorem shared_sp {A : Ad} {n : Int} {ts : List Tie} {many : Int} {B H : Hp} {vs : List V} {Q : VK} {E : XK} (hn : 1 ≤ n ∧ n ≤ 40) (w : Web n ts) (hl : ts.length ≤ 120) (hm : 1 ≤ many) (eb : Ex B H) (k : DaAll B vs [.int n, tiesD ts, .int many])
    (q : RetSh A B H n ts many Q) : sp_shared A vs H Q E := by
  have h1 : okP (.int n) = true := okP_iff.mpr ⟨n, rfl, hn.1, hn.2⟩
  refine ⟨_, _, _, B, eb, k, fun z => ?_, fun m e _ z => ?_, fun m e _ _ z => ?_, fun m us mm e1 e2 e3 _ _ _ _ _ => ?_⟩
  · rw [h1] at z; cases z
  · cases e
    rw [okT_of w hl] at z; cases z
  · have : okM (.int many) = true := decide_eq_true hm
    rw [this] at z; cases z
  · cases e1
    cases e3
    rw [← tiesD_inj e2]; exact q

end
end TW
set_option Elab.async false
set_option linter.all false
set_option maxRecDepth 100000
set_option maxHeartbeats 4000000
namespace TW
open PySem PySem.Spec PyProof.Rows L2 TM TB
open Evl (Ex Ex.refl Ex.trans Ex.new Ex.mut Ev EvT EvA ev_var ev_c ev_op rv_I0 rv_I rv_eq rv_ne et_test et_B et_and et_or et_not et_is ev_is sz_of sz_lt fresh_back)
section
variable {P : Program} {w : World} {K : PySem.W.Frag} {mg : Str → Option Value} {base : Heap} {A : Ad}
/-! ### what shared tells -/
inductive Sn where
  | shares (cs : List Int)
  | ring (rs : List Int)
def Sn.ns : Sn → List Int
  | .shares cs => cs
  | .ring rs => rs
def Sn.isShares : Sn → Bool
  | .shares _ => true
  | .ring _ => false
def ObS (A : Ad) (H : Hp) (x l : Addr) : Sn → Prop
  | .shares cs => Ob A.Shares "colours" H x l cs
  | .ring rs => Ob A.Ring "ring" H x l rs
theorem ObS.ex {A : Ad} {H H' : Hp} {x l : Addr} {a : Sn} (o : ObS A H x l a) (e : Ex H H') : ObS A H' x l a := by
  cases a with
  | shares cs => exact Ob.ex o e
  | ring rs => exact Ob.ex o e
noncomputable def showsS (n : Int) (ts : List Tie) (many : Int) : Sn → Bool
  | .shares cs => evenP n ts cs many
  | .ring rs => ringP ts rs
def insS (A : Ad) (dx l : Addr) : Sn → HO
  | .shares _ => .ins A.Shares dx [("colours", .ref l)]
  | .ring _ => .ins A.Ring dx [("ring", .ref l)]
def SnOk (n : Int) (ts : List Tie) (many : Int) : Sn → Prop
  | .shares cs => Bip ts ∧ EvenCols n ts cs many
  | .ring rs => ¬ Bip ts ∧ ringP ts rs = true
theorem obS_of {A : Ad} {B0 H0 B H : Hp} {x dx l : Addr} {a : Sn} {R : List (Addr × HO)} (f : Fr B0 H0 B H ((x, insS A dx l a) :: (l, .lst (a.ns.map V.int)) :: R)) : ObS A H x l a := by
  cases a with
  | shares cs => exact ⟨⟨dx, f.get0⟩, f.get1⟩
  | ring rs => exact ⟨⟨dx, f.get0⟩, f.get1⟩
theorem retSh_of {A : Ad} {B H : Hp} {n : Int} {ts : List Tie} {many : Int} {Q : VK} (q : ∀ a, SnOk n ts many a → ∀ x dx l B' H2, Fr B H B' H2 [(x, insS A dx l a), (l, .lst (a.ns.map V.int))] → Q (.ref x) H2) : RetSh A B H n ts many Q :=
  ⟨fun hb cs hE => q (.shares cs) ⟨hb, hE⟩, fun hb rs hr => q (.ring rs) ⟨hb, hr⟩⟩
theorem q_shared {A : Ad} {σ : L2.St} {B H : Hp} {E : XK} {ar : TA} {tz : TS} {Dn : Ends} {i : Nat} {n : Int} {ts : List Tie} {many : Int} (hn : 1 ≤ n ∧ n ≤ 40) (w : Web n ts) (hl : ts.length ≤ 120) (hm : 1 ≤ many) (h : EvDs ar σ B H [.int n, tiesD ts, .int many])
    (k : ∀ a, SnOk n ts many a → ∀ x dx l B' H', Fr B H B' H' [(x, insS A dx l a), (l, .lst (a.ns.map V.int))] → tz Dn (σ.set i (some (.ref x))) H') : tSeq (tAsg (tCall (sp_shared A) [] E ar) (gName i)) tz Dn σ H :=
  q_callAsg (tz := tz) h fun B1 H1 vs E g kd => shared_sp hn w hl hm g.bh kd (retSh_of fun a ha x dx l B' H2 fr => k a ha x dx l B' H2 (g.fr fr))
theorem shows_ok {n : Int} {ts : List Tie} {many : Int} {a : Sn} (h : SnOk n ts many a) : showsS n ts many a = true := by
  cases a with
  | shares cs => exact evenP_true.mpr h.2
  | ring rs => exact h.2
theorem bip_ok {n : Int} {ts : List Tie} {many : Int} {a : Sn} (h : SnOk n ts many a) : bipP ts = a.isShares := by
  cases a with
  | shares cs => exact bipP_true.mpr h.1
  | ring rs => exact bipP_false h.1
theorem sn_len {n : Int} {ts : List Tie} {many : Int} {a : Sn} (h : SnOk n ts many a) : a.ns.length ≤ ts.length := by
  cases a with
  | shares cs => exact Nat.le_of_eq h.2.1
  | ring rs => exact ringP_le h.2
def Sn.more : Sn → Sn
  | .shares cs => .shares (cs ++ [0])
  | .ring rs => .ring (rs ++ [0])
theorem showsS_more {n : Int} {ts : List Tie} {many : Int} {a : Sn} (h : showsS n ts many a = true) : showsS n ts many a.more = false := by
  cases a with
  | shares cs =>
    have h1 := (evenP_true.mp h).1
    exact evenP_false fun z => by
      have := z.1
      rw [List.length_append, List.length_singleton] at this
      omega
  | ring rs => exact ringP_more h 0
section
variable {σ : L2.St} {H B : Hp} {tx : TE} {x l : Addr} {a : Sn}
theorem ev_isShares (T : TX K mg A) (h : Ev tx σ H (.ref x)) (o : ObS A H x l a) : Ev (tCB (rIsi K) (tCons tx (tCons (tC (.ref A.Shares)) tNil))) σ H (.bl a.isShares) := by
  cases a with
  | shares cs => exact ev_isiO h o T.y_Shares T.i_Shares_Shares
  | ring rs => exact ev_isiO h o T.y_Ring T.i_Ring_Shares
theorem ev_isRing (T : TX K mg A) (h : Ev tx σ H (.ref x)) (o : ObS A H x l a) : Ev (tCB (rIsi K) (tCons tx (tCons (tC (.ref A.Ring)) tNil))) σ H (.bl (!a.isShares)) := by
  cases a with
  | shares cs => exact ev_isiO h o T.y_Shares T.i_Shares_Ring
  | ring rs => exact ev_isiO h o T.y_Ring T.i_Ring_Ring
theorem ev_isOddS (T : TX K mg A) (h : Ev tx σ H (.ref x)) (o : ObS A H x l a) : Ev (tCB (rIsi K) (tCons tx (tCons (tC (.ref A.Odd)) tNil))) σ H (.bl false) := by
  cases a with
  | shares cs => exact ev_isiO h o T.y_Shares T.i_Shares_Odd
  | ring rs => exact ev_isiO h o T.y_Ring T.i_Ring_Odd
theorem ev_isEvenS (T : TX K mg A) (h : Ev tx σ H (.ref x)) (o : ObS A H x l a) : Ev (tCB (rIsi K) (tCons tx (tCons (tC (.ref A.Even)) tNil))) σ H (.bl false) := by
  cases a with
  | shares cs => exact ev_isiO h o T.y_Shares T.i_Shares_Even
  | ring rs => exact ev_isiO h o T.y_Ring T.i_Ring_Even
theorem shows_shares {n : Int} {ts : List Tie} {many : Int} {E : XK} {t : TA} {cs : List Int} (h : Ev tx σ H (.ref x)) (o : Ob A.Shares "colours" H x l cs) (ht : EvDs t σ B H [.int n, tiesD ts, .int many]) (hc : 0 ≤ n ∧ n ≤ 60 ∧ Web n ts ∧ ts.length ≤ 1000 ∧ cs.length ≤ 1000) :
    Ev (tMeth A.Shares "shows" (sp_Shares_shows A) [] E tx t) σ H (.bl (evenP n ts cs many)) := fun H1 e Q q => h H1 e _ fun H2 e2 => by
  have o2 := (o.ex e).ex e2
  obtain ⟨dx, hi⟩ := o2.ins
  refine ⟨x, dx, _, rfl, hi, rfl, ht H2 (e.trans e2) _ fun vs B1 H3 g k => ?_⟩
  match vs, k with
  | [w1, w2, w3], k =>
    exact ⟨x, l, cs, w1, w2, w3, n, ts, many, B1, rfl, o2.ex g.hh, g.bh, k, ⟨hc.1, by omega, hc.2.2.1, hc.2.2.2.1, hc.2.2.2.2⟩, fun H4 e4 => q H4 ((e2.trans g.hh).trans e4)⟩
theorem shows_ring {n : Int} {ts : List Tie} {many : Int} {E : XK} {t : TA} {rs : List Int} (h : Ev tx σ H (.ref x)) (o : Ob A.Ring "ring" H x l rs) (ht : EvDs t σ B H [.int n, tiesD ts, .int many]) (hc : ts.length ≤ 1000 ∧ rs.length ≤ 1000) :
    Ev (tMeth A.Ring "shows" (sp_Ring_shows A) [] E tx t) σ H (.bl (ringP ts rs)) := fun H1 e Q q => h H1 e _ fun H2 e2 => by
  have o2 := (o.ex e).ex e2
  obtain ⟨dx, hi⟩ := o2.ins
  refine ⟨x, dx, _, rfl, hi, rfl, ht H2 (e.trans e2) _ fun vs B1 H3 g k => ?_⟩
  match vs, k with
  | [w1, w2, w3], k =>
    exact ⟨x, l, rs, w1, w2, w3, n, ts, many, B1, rfl, o2.ex g.hh, g.bh, k, ⟨hc.1, hc.2⟩, fun H4 e4 => q H4 ((e2.trans g.hh).trans e4)⟩
theorem ev_showsS {n : Int} {ts : List Tie} {many : Int} {E1 E2 : XK} {t : TA} (h : Ev tx σ H (.ref x)) (o : ObS A H x l a) (ht : EvDs t σ B H [.int n, tiesD ts, .int many]) (hc : 0 ≤ n ∧ n ≤ 60 ∧ Web n ts ∧ ts.length ≤ 1000 ∧ a.ns.length ≤ 1000) :
    Ev (fun σ H Q => tMeth A.Shares "shows" (sp_Shares_shows A) [] E1 tx t σ H Q ∨ tMeth A.Ring "shows" (sp_Ring_shows A) [] E2 tx t σ H Q) σ H (.bl (showsS n ts many a)) := fun H1 e Q q => by
  cases a with
  | shares cs => exact .inl (shows_shares h o ht hc H1 e Q q)
  | ring rs => exact .inr (shows_ring h o ht ⟨hc.2.2.2.1, hc.2.2.2.2⟩ H1 e Q q)
end

end
end TW
set_option Elab.async false
set_option linter.all false
set_option maxRecDepth 100000
set_option maxHeartbeats 4000000
namespace TW
open PySem PySem.Spec PyProof.Rows L2 TM TB
open Evl (Ex Ex.refl Ex.trans Ex.new Ex.mut Ev EvT EvA ev_var ev_c ev_op rv_I0 rv_I rv_eq rv_ne et_test et_B et_and et_or et_not et_is ev_is sz_of sz_lt fresh_back)
section
variable {P : Program} {w : World} {K : PySem.W.Frag} {mg : Str → Option Value} {base : Heap} {A : Ad}
/-! ### what halved tells -/
inductive An where
  | even (cs : List Int)
  | odd (sm : List Int)
def An.ns : An → List Int
  | .even cs => cs
  | .odd sm => sm
def An.isEven : An → Bool
  | .even _ => true
  | .odd _ => false
def ObA (A : Ad) (H : Hp) (x l : Addr) : An → Prop
  | .even cs => Ob A.Even "colours" H x l cs
  | .odd sm => Ob A.Odd "some" H x l sm
theorem ObA.ex {A : Ad} {H H' : Hp} {x l : Addr} {a : An} (o : ObA A H x l a) (e : Ex H H') : ObA A H' x l a := by
  cases a with
  | even cs => exact Ob.ex o e
  | odd sm => exact Ob.ex o e
noncomputable def showsP (n : Int) (ts : List Tie) : An → Bool
  | .even cs => evenP n ts cs 2
  | .odd sm => oddP n ts sm
def insA (A : Ad) (dx l : Addr) : An → HO
  | .even _ => .ins A.Even dx [("colours", .ref l)]
  | .odd _ => .ins A.Odd dx [("some", .ref l)]
noncomputable def halfA (n : Int) (ts : List Tie) : An := match farF n ts with
  | some v => .odd (part n ts v)
  | none => .even (nearF n ts)
theorem RetH.of {A : Ad} {B H : Hp} {n : Int} {ts : List Tie} {Q : VK} (q : ∀ x dx l B' H2, Fr B H B' H2 [(x, insA A dx l (halfA n ts)), (l, .lst ((halfA n ts).ns.map V.int))] → Q (.ref x) H2) : RetH A B H n ts Q := by
  unfold RetH
  unfold halfA at q
  split
  · rename_i e; rw [e] at q; exact q
  · rename_i e; rw [e] at q; exact q
theorem obA_of {A : Ad} {B0 H0 B H : Hp} {x dx l : Addr} {a : An} {R : List (Addr × HO)} (f : Fr B0 H0 B H ((x, insA A dx l a) :: (l, .lst (a.ns.map V.int)) :: R)) : ObA A H x l a := by
  cases a with
  | even cs => exact ⟨⟨dx, f.get0⟩, f.get1⟩
  | odd sm => exact ⟨⟨dx, f.get0⟩, f.get1⟩
section
variable {σ : L2.St} {H B : Hp} {tx : TE} {x l : Addr} {a : An}
theorem ev_isEven (T : TX K mg A) (h : Ev tx σ H (.ref x)) (o : ObA A H x l a) : Ev (tCB (rIsi K) (tCons tx (tCons (tC (.ref A.Even)) tNil))) σ H (.bl a.isEven) := by
  cases a with
  | even cs => exact ev_isiO h o T.y_Even T.i_Even_Even
  | odd cs => exact ev_isiO h o T.y_Odd T.i_Odd_Even
theorem ev_isOdd (T : TX K mg A) (h : Ev tx σ H (.ref x)) (o : ObA A H x l a) : Ev (tCB (rIsi K) (tCons tx (tCons (tC (.ref A.Odd)) tNil))) σ H (.bl (!a.isEven)) := by
  cases a with
  | even cs => exact ev_isiO h o T.y_Even T.i_Even_Odd
  | odd cs => exact ev_isiO h o T.y_Odd T.i_Odd_Odd
theorem ev_isSh (T : TX K mg A) (h : Ev tx σ H (.ref x)) (o : ObA A H x l a) : Ev (tCB (rIsi K) (tCons tx (tCons (tC (.ref A.Shares)) tNil))) σ H (.bl false) := by
  cases a with
  | even cs => exact ev_isiO h o T.y_Even T.i_Even_Shares
  | odd cs => exact ev_isiO h o T.y_Odd T.i_Odd_Shares
theorem ev_isRi (T : TX K mg A) (h : Ev tx σ H (.ref x)) (o : ObA A H x l a) : Ev (tCB (rIsi K) (tCons tx (tCons (tC (.ref A.Ring)) tNil))) σ H (.bl false) := by
  cases a with
  | even cs => exact ev_isiO h o T.y_Even T.i_Even_Ring
  | odd cs => exact ev_isiO h o T.y_Odd T.i_Odd_Ring
theorem shows_even {n : Int} {ts : List Tie} {E : XK} {t : TA} {cs : List Int} (h : Ev tx σ H (.ref x)) (o : Ob A.Even "colours" H x l cs) (ht : EvDs t σ B H [.int n, tiesD ts]) (hc : 0 ≤ n ∧ n ≤ 60 ∧ Web n ts ∧ ts.length ≤ 1000 ∧ cs.length ≤ 1000) :
    Ev (tMeth A.Even "shows" (sp_Even_shows A) [] E tx t) σ H (.bl (evenP n ts cs 2)) := fun H1 e Q q => h H1 e _ fun H2 e2 => by
  have o2 := (o.ex e).ex e2
  obtain ⟨dx, hi⟩ := o2.ins
  refine ⟨x, dx, _, rfl, hi, rfl, ht H2 (e.trans e2) _ fun vs B1 H3 g k => ?_⟩
  match vs, k with
  | [w1, w2], k =>
    exact ⟨x, l, cs, w1, w2, n, ts, B1, rfl, o2.ex g.hh, g.bh, k, ⟨hc.1, by omega, hc.2.2.1, hc.2.2.2.1, hc.2.2.2.2⟩, fun H4 e4 => q H4 ((e2.trans g.hh).trans e4)⟩
theorem shows_odd {n : Int} {ts : List Tie} {E : XK} {t : TA} {cs : List Int} (h : Ev tx σ H (.ref x)) (o : Ob A.Odd "some" H x l cs) (ht : EvDs t σ B H [.int n, tiesD ts]) (hc : 0 ≤ n ∧ n ≤ 60 ∧ Web n ts ∧ ts.length ≤ 1000 ∧ cs.length ≤ 1000) :
    Ev (tMeth A.Odd "shows" (sp_Odd_shows A) [] E tx t) σ H (.bl (oddP n ts cs)) := fun H1 e Q q => h H1 e _ fun H2 e2 => by
  have o2 := (o.ex e).ex e2
  obtain ⟨dx, hi⟩ := o2.ins
  refine ⟨x, dx, _, rfl, hi, rfl, ht H2 (e.trans e2) _ fun vs B1 H3 g k => ?_⟩
  match vs, k with
  | [w1, w2], k =>
    exact ⟨x, l, cs, w1, w2, n, ts, B1, rfl, o2.ex g.hh, g.bh, k, ⟨by omega, hc.2.2.1, hc.2.2.2.1, hc.2.2.2.2⟩, fun H4 e4 => q H4 ((e2.trans g.hh).trans e4)⟩
theorem ev_shows {n : Int} {ts : List Tie} {E1 E2 : XK} {t : TA} (h : Ev tx σ H (.ref x)) (o : ObA A H x l a) (ht : EvDs t σ B H [.int n, tiesD ts]) (hc : 0 ≤ n ∧ n ≤ 60 ∧ Web n ts ∧ ts.length ≤ 1000 ∧ a.ns.length ≤ 1000) :
    Ev (fun σ H Q => tMeth A.Even "shows" (sp_Even_shows A) [] E1 tx t σ H Q ∨ tMeth A.Odd "shows" (sp_Odd_shows A) [] E2 tx t σ H Q) σ H (.bl (showsP n ts a)) := fun H1 e Q q => by
  cases a with
  | even cs => exact .inl (shows_even h o ht hc H1 e Q q)
  | odd cs => exact .inr (shows_odd h o ht hc H1 e Q q)
end
theorem shows_half {n : Int} {ts : List Tie} (hW : Web n ts) (N : Nearly n ts (nearF n ts)) : showsP n ts (halfA n ts) = true := by
  unfold halfA
  cases e : farF n ts with
  | some v =>
    obtain ⟨h1, h2⟩ := farF_inv e
    exact (oddP_part hW h1).mpr (far_odd N h1.1 h1.2 h2)
  | none => exact evenP_true.mpr (none_even N e)
def An.more : An → An
  | .even cs => .even (cs ++ [0])
  | .odd cs => .odd (cs ++ [0])
theorem shows_more {n : Int} {ts : List Tie} {a : An} (h : showsP n ts a = true) : showsP n ts a.more = false := by
  cases a with
  | even cs =>
    have h1 := (evenP_true.mp h).1
    exact evenP_false fun z => by
      have := z.1
      rw [List.length_append, List.length_singleton] at this
      omega
  | odd sm => exact oddP_more h ts
theorem half_len {n : Int} {ts : List Tie} (hn : n ≤ 60) (hl : ts.length ≤ 200) (N : Nearly n ts (nearF n ts)) : (halfA n ts).ns.length ≤ 200 := by
  unfold halfA
  cases e : farF n ts with
  | some v =>
    have : (part n ts v).length ≤ n.toNat := part_len
    show (part n ts v).length ≤ 200
    omega
  | none =>
    have := N.len
    show (nearF n ts).length ≤ 200
    omega
theorem q_half {A : Ad} {σ : L2.St} {B H : Hp} {E : XK} {ar : TA} {tz : TS} {Dn : Ends} {i : Nat} {n : Int} {ts : List Tie} (hn : 1 ≤ n ∧ n ≤ 40) (w : Web n ts) (hl : ts.length ≤ 120) (h : EvDs ar σ B H [.int n, tiesD ts])
    (k : Nearly n ts (nearF n ts) → ∀ x dx l B' H', Fr B H B' H' [(x, insA A dx l (halfA n ts)), (l, .lst ((halfA n ts).ns.map V.int))] → tz Dn (σ.set i (some (.ref x))) H') : tSeq (tAsg (tCall (sp_halved A) [] E ar) (gName i)) tz Dn σ H :=
  q_callAsg (tz := tz) h fun B1 H1 vs E g kd => half_sp hn w hl g.bh kd fun N => RetH.of fun x dx l B' H2 fr => k N x dx l B' H2 (g.fr fr)

end
end TW
set_option Elab.async false
set_option linter.all false
set_option maxRecDepth 100000
set_option maxHeartbeats 4000000
namespace TW
open PySem PySem.Spec PyProof.Rows L2 TM TB
open Evl (Ex Ex.refl Ex.trans Ex.new Ex.mut Ev EvT EvA ev_var ev_c ev_op rv_I0 rv_I rv_eq rv_ne et_test et_B et_and et_or et_not et_is ev_is sz_of sz_lt fresh_back)
section
variable {P : Program} {w : World} {K : PySem.W.Frag} {mg : Str → Option Value} {base : Heap} {A : Ad}
/-! ### plain, truths -/
/-- a word that is not come to -/
theorem pe_never {X : Cx} {e : Expr} : PE X e (fun _ _ _ => False) := ⟨fun _ _ _ _ _ _ h => h.elim⟩
def sp__law_plain1 : Sp := fun vs H Q _ => ∃ a : Int, vs = [.int a] ∧ RetV H (.bl true) Q
theorem len__law_plain1 {vs : List V} {H : Hp} {Q : VK} {E : XK} (h : sp__law_plain1 vs H Q E) : vs.length = 1 := by
  obtain ⟨_, rfl, _⟩ := h
  rfl
theorem ok__law_plain1 (T : TX K mg A) : Ok P w K mg base CX0 1 A._law_plain ["_law_thing"] sp__law_plain1 := by
  obtain ⟨fd, F⟩ := T.F__law_plain
  refine ⟨fd, ?_, F.binds (ps := ["_law_thing"]) fun _ _ _ _ _ _ us hl => match us, hl with | [_], _ => rfl, F.kp⟩
  refine F.ok sc__law_plain (fun vs H Q E h => len__law_plain1 h) (fun cdv Ar outer s H vs Q E hr h => ?_)
  have nd := sc__law_plain.nd
  have hu := hu_of hr
  obtain ⟨a, rfl, q⟩ := h
  refine ⟨_, (pss_cons (ps_if (PW.pt (pw_or (pt_val (pe_callB (isiK K) (by rfl) T.n_isinstance (by decide +kernel) (pa_cons (pv 0) (pa_cons (pe_bltn (v := .ty "list") (by rfl) T.n_list (by decide +kernel) rfl) pa_nil)))) (pw_or1 (pt_val (pe_callB (isiK K) (by rfl) T.n_isinstance (by decide +kernel) (pa_cons (pv 0) (pa_cons (pe_bltn (v := .ty "tuple") (by rfl) T.n_tuple (by decide +kernel) rfl) pa_nil))))))) (pss_one (ps_ret (pe_callB (allK K rfl) (by rfl) T.n_all (by decide +kernel) (pa_cons (pe_lc (own := [("_law_one", 1)]) (g := gName 1) (tt := tYes)  rfl nd  (listK K (pv 0)) (blkOk_by (by kernel_rfl)) (fun _ _ _ _ _ => (pg_name (i := 1) nd rfl (by first | exact .inl rfl | exact .inr rfl))) (fun _ _ _ _ _ => pts_nil) (fun _ _ _ _ _ => pe_never)) pa_nil)))) pss_nil) (pss_one (ps_ret (pe_or (pe_cmp (pc_isN (pv 0)) rfl) (pe_or (pe_callB (isiK K) (by rfl) T.n_isinstance (by decide +kernel) (pa_cons (pv 0) (pa_cons (pe_bltn (v := .ty "str") (by rfl) T.n_str (by decide +kernel) rfl) pa_nil))) (pe_one (pe_and (pe_callB (isiK K) (by rfl) T.n_isinstance (by decide +kernel) (pa_cons (pv 0) (pa_cons (pe_bltn (v := .ty "int") (by rfl) T.n_int (by decide +kernel) rfl) pa_nil))) (pe_one (pe_not (pe_callB (isiK K) (by rfl) T.n_isinstance (by decide +kernel) (pa_cons (pv 0) (pa_cons (pe_bltn (v := .ty "bool") (by rfl) T.n_bool (by decide +kernel) rfl) pa_nil)))))))))))), ?_⟩
  have h0 : ∀ H1, EvD (tVar 0) (start ["_law_thing", "_law_one"] [.int a]) H1 H1 (.int a) := fun H1 => edi (Ex.refl H1) (ev_var (i := 0) rfl)
  refine q_when (b := false) (et_is (et_or (a := false) (b := false) (et_B (ev_isi (K := K) (h0 H) (kit_list _))) fun _ => et_B (ev_isi (K := K) (h0 H) (kit_tuple _))) rfl) (fun hb => (nomatch hb)) (fun _ H1 e1 => ?_)
  refine Evl.s_ret (v := .bl true) (ev_is (Evl.ev_orV (ev_isN (ev_var (i := 0) rfl)) fun _ => Evl.ev_orV (ev_isi (K := K) (b := false) (h0 H1) (show kitB "int" "str" = some false by decide +kernel)) fun _ => Evl.ev_andV (ev_isi (K := K) (h0 H1) (kit_int _)) fun _ => Evl.ev_notV (ev_isi (K := K) (h0 H1) (kit_bool _))) ?_) fun H2 e2 => q H2 (e1.trans e2)
  simp
def sp__law_plain : Sp := fun vs H Q _ => ∃ (ns : List Int) (B : Hp), Ex B H ∧ DaAll B vs [.list (ns.map PyData.int)] ∧ ns.length ≤ 1000 ∧ RetV H (.bl true) Q
theorem len__law_plain {vs : List V} {H : Hp} {Q : VK} {E : XK} (h : sp__law_plain vs H Q E) : vs.length = 1 := by
  obtain ⟨_, _, _, k, _⟩ := h
  exact k.len
theorem ok__law_plain (T : TX K mg A) : Ok P w K mg base CX0 2 A._law_plain ["_law_thing"] sp__law_plain := by
  obtain ⟨fd__law_plain, G__law_plain, B__law_plain, K__law_plain⟩ := ok__law_plain1 (P := P) (w := w) (base := base) T
  obtain ⟨fd, F⟩ := T.F__law_plain
  refine ⟨fd, ?_, F.binds (ps := ["_law_thing"]) fun _ _ _ _ _ _ us hl => match us, hl with | [_], _ => rfl, F.kp⟩
  refine F.ok sc__law_plain (fun vs H Q E h => len__law_plain h) (fun cdv Ar outer s H vs Q E hr h => ?_)
  have nd := sc__law_plain.nd
  have hu := hu_of hr
  obtain ⟨ns, B, eb, k, hl, q⟩ := h
  match vs, k with
  | [v], .cons k0 .nil =>
  refine ⟨_, (pss_cons (ps_if (PW.pt (pw_or (pt_val (pe_callB (isiK K) (by rfl) T.n_isinstance (by decide +kernel) (pa_cons (pv 0) (pa_cons (pe_bltn (v := .ty "list") (by rfl) T.n_list (by decide +kernel) rfl) pa_nil)))) (pw_or1 (pt_val (pe_callB (isiK K) (by rfl) T.n_isinstance (by decide +kernel) (pa_cons (pv 0) (pa_cons (pe_bltn (v := .ty "tuple") (by rfl) T.n_tuple (by decide +kernel) rfl) pa_nil))))))) (pss_one (ps_ret (pe_callB (allK K rfl) (by rfl) T.n_all (by decide +kernel) (pa_cons (pe_lc (own := [("_law_one", 1)]) (g := gName 1) (tt := tYes)  rfl nd  (listK K (pv 0)) (blkOk_by (by kernel_rfl)) (fun _ _ _ _ _ => (pg_name (i := 1) nd rfl (by first | exact .inl rfl | exact .inr rfl))) (fun _ _ _ _ _ => pts_nil) (fun _ _ _ _ _ => (pe_call G__law_plain (hr.mono (by decide)) (by rfl) T.g__law_plain K__law_plain B__law_plain .nil pass0 (pa_cons (pv 1) pa_nil)))) pa_nil)))) pss_nil) (pss_one (ps_ret (pe_or (pe_cmp (pc_isN (pv 0)) rfl) (pe_or (pe_callB (isiK K) (by rfl) T.n_isinstance (by decide +kernel) (pa_cons (pv 0) (pa_cons (pe_bltn (v := .ty "str") (by rfl) T.n_str (by decide +kernel) rfl) pa_nil))) (pe_one (pe_and (pe_callB (isiK K) (by rfl) T.n_isinstance (by decide +kernel) (pa_cons (pv 0) (pa_cons (pe_bltn (v := .ty "int") (by rfl) T.n_int (by decide +kernel) rfl) pa_nil))) (pe_one (pe_not (pe_callB (isiK K) (by rfl) T.n_isinstance (by decide +kernel) (pa_cons (pv 0) (pa_cons (pe_bltn (v := .ty "bool") (by rfl) T.n_bool (by decide +kernel) rfl) pa_nil)))))))))))), ?_⟩
  have h0 : ∀ H1, Ex H H1 → EvD (tVar 0) (start ["_law_thing", "_law_one"] [v]) B H1 (.list (ns.map PyData.int)) := fun H1 e => ed_var (n := 0) (eb.trans e) rfl k0
  refine q_when (b := true) (et_is (et_or (a := true) (b := false) (et_B (ev_isi (K := K) (h0 H (Ex.refl H)) (kit_list _))) fun z => (nomatch z)) rfl) (fun _ H1 e1 => ?_) (fun hb => (nomatch hb))
  have h := EvN.toD (en_lcA (dt := PyData.int) (l := ns) (te := tCall sp__law_plain1 [] E0 (tCons (tVar 1) tNil)) (vs := [1]) (j := 1) (fun _ => .bool true) (ei_list (K := K) (h0 H1 e1)) (by omega) fun a x B3 H3 _ e1 e2 e3 kx => by
    obtain rfl := kx.int_inv
    exact edb e3 (ev_call (eds_cons (edi e3 (ev_var (i := 1) rfl)) (eds_nil e3)) fun B4 H4 ws Q4 E4 e4 k4 q4 => by
      match ws, k4 with
      | [_], .cons (.int _) .nil => exact ⟨a, rfl, q4⟩))
  have e : ns.map (fun _ => PyData.bool true) = (ns.map fun _ => true).map PyData.bool := by rw [List.map_map]; rfl
  rw [e] at h
  refine Evl.s_ret (v := .bl true) (ev_is (ev_all (K := K) h) ?_) fun H2 e2 => q H2 (e1.trans e2)
  congr 1
  simp
def sp__law_truths : Sp := fun vs H Q _ => ∃ (b : Bool) (B : Hp), Ex B H ∧ DaAll B vs [.list [.bool b]] ∧ RetV H (.bl true) Q
theorem len__law_truths {vs : List V} {H : Hp} {Q : VK} {E : XK} (h : sp__law_truths vs H Q E) : vs.length = 1 := by
  obtain ⟨_, _, _, k, _⟩ := h
  exact k.len
theorem ok__law_truths (T : TX K mg A) : Ok P w K mg base CX0 1 A._law_truths ["_law_things"] sp__law_truths := by
  obtain ⟨fd, F⟩ := T.F__law_truths
  refine ⟨fd, ?_, F.binds (ps := ["_law_things"]) fun _ _ _ _ _ _ us hl => match us, hl with | [_], _ => rfl, F.kp⟩
  refine F.ok sc__law_truths (fun vs H Q E h => len__law_truths h) (fun cdv Ar outer s H vs Q E hr h => ?_)
  have nd := sc__law_truths.nd
  have hu := hu_of hr
  obtain ⟨b, B, eb, k, q⟩ := h
  match vs, k with
  | [v], .cons k0 .nil =>
  refine ⟨_, (pss_one (ps_ret (pe_callB (allK K rfl) (by rfl) T.n_all (by decide +kernel) (pa_cons (pe_lc (own := [("_law_one", 1)]) (g := gName 1) (tt := tYes)  rfl nd  (listK K (pv 0)) (blkOk_by (by kernel_rfl)) (fun _ _ _ _ _ => (pg_name (i := 1) nd rfl (by first | exact .inl rfl | exact .inr rfl))) (fun _ _ _ _ _ => pts_nil) (fun _ _ _ _ _ => (pe_callB (isiK K) (by rfl) T.n_isinstance (by decide +kernel) (pa_cons (pv 1) (pa_cons (pe_bltn (v := .ty "bool") (by rfl) T.n_bool (by decide +kernel) rfl) pa_nil))))) pa_nil)))), ?_⟩
  have h := EvN.toD (en_lcA (dt := id) (l := [PyData.bool b]) (te := tCB (rIsi K) (tCons (tVar 1) (tCons (tC (.ty "bool")) tNil))) (vs := [1]) (j := 1) (fun _ => .bool true) (ei_list (K := K) (σ := start ["_law_things", "_law_one"] [v]) (ed_var (n := 0) eb rfl k0)) (by simp) fun a x B3 H3 ha e1 e2 e3 kx => by
    obtain rfl := List.mem_singleton.mp ha
    exact edb e3 (ev_isi (K := K) (ed_var (n := 1) e3 rfl kx) (kit_bool _)))
  exact Evl.s_ret (v := .bl true) (ev_is (ev_all (K := K) (bs := [true]) h) rfl) q

end
end TW
set_option Elab.async false
set_option linter.all false
set_option maxRecDepth 100000
set_option maxHeartbeats 4000000
namespace TW
open PySem PySem.Spec PyProof.Rows L2 TM TB
open Evl (Ex Ex.refl Ex.trans Ex.new Ex.mut Ev EvT EvA ev_var ev_c ev_op rv_I0 rv_I rv_eq rv_ne et_test et_B et_and et_or et_not et_is ev_is sz_of sz_lt fresh_back)
section
variable {P : Program} {w : World} {K : PySem.W.Frag} {mg : Str → Option Value} {base : Heap} {A : Ad}
/-! ### the law's own counts -/
def sp__law_counts : Sp := fun vs H Q _ => ∃ (n : Int) (ts : List Tie) (cs : List Int) (many : Int) (B : Hp), Ex B H ∧ DaAll B vs [.int n, tiesD ts, .list (cs.map PyData.int), .int many] ∧
  (0 ≤ n ∧ n ≤ 1000 ∧ Web n ts ∧ ts.length ≤ 1000 ∧ 0 ≤ many ∧ many ≤ 1000 ∧ ∀ c ∈ cs, 0 ≤ c ∧ c < many) ∧ RetD B H (.list (rowsD n many ts cs)) Q
theorem len__law_counts {vs : List V} {H : Hp} {Q : VK} {E : XK} (h : sp__law_counts vs H Q E) : vs.length = 4 := by
  obtain ⟨_, _, _, _, _, _, k, _⟩ := h
  exact k.len
theorem ok__law_counts (T : TX K mg A) : Ok P w K mg base CX0 1 A._law_counts ["_law_places", "_law_ties", "_law_colours", "_law_many"] sp__law_counts := by
  obtain ⟨fd, F⟩ := T.F__law_counts
  refine ⟨fd, ?_, F.binds (ps := ["_law_places", "_law_ties", "_law_colours", "_law_many"]) fun _ _ _ _ _ _ us hl => match us, hl with | [_, _, _, _], _ => rfl, F.kp⟩
  refine F.ok sc__law_counts (fun vs H Q E h => len__law_counts h) (fun cdv Ar outer s H vs Q E hr h => ?_)
  have nd := sc__law_counts.nd
  have hu := hu_of hr
  obtain ⟨n, ts, cs, many, B, eb, k, ⟨hn0, hn1, hW, hl, hm0, hm1, hr⟩, q⟩ := h
  match vs, k with
  | [_, v1, v2, _], .cons (.int _) (.cons k1 (.cons k2 (.cons (.int _) .nil))) =>
  refine ⟨_, (pss_cons (ps_setLc (i := 4) (own := [("_law_place", 7)]) (g := gName 7) (tt := tYes)  rfl nd rfl rfl (sw_true rfl rfl rfl (by decide +kernel))  (pi_range1 rfl T.n_range (pa_cons (pv 0) pa_nil)) (blkOk_by (by kernel_rfl)) (fun _ _ _ _ _ => (pg_name (i := 7) nd rfl (by first | exact .inl rfl | exact .inr rfl))) (fun _ _ _ _ _ => pts_nil) (fun _ _ _ _ _ => (pe_op op_rep (pe_lst (pa_cons pe_int pa_nil)) (pv 3)))) (pss_cons (ps_for PassesOwn.never rfl (zipK K (by rfl) T.n_zip (pa_cons (pv 1) (pa_cons (pv 2) pa_nil))) (gtupK K rfl (pgs_cons (pg_name (i := 5) nd rfl (by first | exact .inl rfl | exact .inr rfl)) (pgs_cons (pg_name (i := 6) nd rfl (by first | exact .inl rfl | exact .inr rfl)) pgs_nil))) (pss_one (ps_for PassesOwn.never rfl (tupK K (pv 5)) (pg_name (i := 7) nd rfl (by first | exact .inl rfl | exact .inr rfl)) (pss_one (ps_asg (pe_op op_add (pe_ix (ix_listK K) (pe_ix (ix_listK K) (pv 4) (pv 7) (fun _ _ => rfl)) (pv 6) (fun _ _ => rfl)) pe_int) (pg_sub (pe_ix (ix_listK K) (pv 4) (pv 7) (fun _ _ => rfl)) (pv 6) set_list)))))) (pss_one (ps_ret (pv 4))))), ?_⟩
  -- found
  refine q_asgF (B := B) (n := (List.range n.toNat).length) (row := fun _ => (List.replicate many.toNat (0 : Int)).map V.int) (en_lcF (dt := fun (k : Nat) => PyData.int (k : Int)) (l := List.range n.toNat) (zs := List.replicate many.toNat (0 : Int)) eb (ei_rg1 eb (ev_var (i := 0) rfl) ⟨hn0, by omega⟩) (by rw [List.length_range]; omega) fun a x B3 H3 _ e1 e2 e3 kx => ?_) fun lf as B1 H1 hal f1 => ?_
  · have h := en_rep (EvN.toD (en_lst (eds_cons (edi (σ := (wipe (start ["_law_places", "_law_ties", "_law_colours", "_law_many", "_law_found", "_law_tie", "_law_colour", "_law_place"] [.int n, v1, v2, .int many]) [7]).set 7 (some x)) e3 (ev_c (v := .int 0))) (eds_nil e3)))) (ev_var (i := 3) rfl) ⟨hm0, by omega⟩ (by simp; omega)
    have e : (List.replicate many.toNat [PyData.int 0]).flatten = (List.replicate many.toNat (0 : Int)).map PyData.int := by
      rw [List.map_replicate]
      induction many.toNat with
      | zero => rfl
      | succ m ih => rw [List.replicate_succ, List.flatten_cons, ih]; rfl
    rw [e] at h
    exact h
  rw [List.length_range] at hal
  have e0 : (fun _ : Nat => (List.replicate many.toNat (0 : Int)).map V.int) = rowM many.toNat (fun _ _ => 0) := by
    funext k
    unfold rowM
    rw [List.map_replicate]
    apply List.ext_getElem?
    intro i
    rw [List.getElem?_replicate, List.getElem?_map]
    by_cases hi : i < many.toNat
    · rw [if_pos hi, List.getElem?_range hi]; rfl
    · rw [if_neg hi, List.getElem?_eq_none (by rw [List.length_range]; omega)]; rfl
  rw [e0] at f1
  have f1 : Fr B H B1 H1 (matL lf as (rowM many.toNat fun _ _ => 0) ++ []) := by rw [List.append_nil]; exact f1
  -- for tie, colour in zip(ties, colours)
  refine q_for2 (K := K) (B := B1) (d1 := fun p : Tie × Int => tieD p.1) (d2 := fun p : Tie × Int => .int p.2) (P := (· = ts.zip cs)) (ei_zip (K := K) (ed_var (n := 1) f1.bh rfl (k1.ex f1.eb)) (ed_var (n := 2) f1.bh rfl (k2.ex f1.eb)))
    (fun l B2 i σ' H' => Ex B1 B2 ∧ ∃ (y5 y6 y7 : Option V), σ' = [some (.int n), some v1, some v2, some (.int many), some (.ref lf), y5, y6, y7] ∧ Fr B H B2 H' (matL lf as (rowM many.toNat fun k c => cntL (l.take i) (k : Int) (c : Int)) ++ [])) ?_ ?_ ?_ ?_
  · rintro l B2 H2 - g2
    exact ⟨g2.bb, none, none, none, rfl, f1.gr g2⟩
  · rintro l B2 i σ' H' ⟨_, _, _, _, _, f⟩
    exact f.bh
  · rintro l B2 i ⟨t, col⟩ x y B3 σ' H' H3 rfl hi ⟨e12, y5, y6, y7, rfl, f⟩ g3 kx ky
    obtain rfl := ky.int_inv
    have eb2 := f.eb
    have f3 := f.gr g3
    have hmem := List.of_mem_zip (List.mem_of_getElem? hi)
    have ht := hW t hmem.1
    have hcol := hr col hmem.2
    have htk : (ts.zip cs).take (i + 1) = (ts.zip cs).take i ++ [(t, col)] := by rw [List.take_add_one, hi]; rfl
    -- for place in tie
    refine s_for (B := B3) (dt := PyData.int) (P := (· = [t.1, t.2])) (ei_tup (K := K) (ed_var (n := 5) f3.bh rfl kx))
      (fun l2 B4 j σ' H' => Ex B3 B4 ∧ ∃ (y7 : Option V), σ' = [some (.int n), some v1, some v2, some (.int many), some (.ref lf), some x, some (.int col), y7] ∧ Fr B H B4 H' (matL lf as (rowM many.toNat fun k c => cntL ((ts.zip cs).take i) (k : Int) (c : Int) + (if (c : Int) = col then (l2.take j).count (k : Int) else 0)) ++ [])) ?_ ?_ ?_ ?_
    · rintro l2 B4 H4 - g4
      refine ⟨g4.bb, _, rfl, ?_⟩
      have : (fun (k c : Nat) => cntL ((ts.zip cs).take i) (k : Int) (c : Int) + (if (c : Int) = col then (l2.take 0).count (k : Int) else 0)) = fun (k c : Nat) => cntL ((ts.zip cs).take i) (k : Int) (c : Int) := by
        funext k c
        rw [List.take_zero, List.count_nil]; split <;> rfl
      rw [this]; exact f3.gr g4
    · rintro l2 B4 j σ' H' ⟨_, _, _, f⟩
      exact f.bh
    · rintro l2 B4 j pl z B5 σ' H' H5 rfl hj ⟨e34, y7, rfl, f⟩ g5 kz
      obtain rfl := kz.int_inv
      have eb4 := f.eb
      have f5 := f.gr g5
      have hpl : 0 ≤ pl ∧ pl < n := by
        have : pl = t.1 ∨ pl = t.2 := by simpa using List.mem_of_getElem? hj
        rcases this with e | e <;> rw [e] <;> omega
      obtain ⟨a, ha⟩ : ∃ a, as[pl.toNat]? = some a := ⟨as[pl.toNat]'(by omega), List.getElem?_eq_getElem (by omega)⟩
      have hA := f5.matGet ha
      have hT := f5.matTop
      have hrow : Ev (tOp (rIxL K) (tVar 4) (tVar 7)) [some (.int n), some v1, some v2, some (.int many), some (.ref lf), some x, some (.int col), some (.int pl)] H5 (.ref a) := ev_ixO (K := K) (ev_var (i := 4) rfl) hT (ev_var (i := 7) rfl) (by
        have h : atI (as.map V.ref) ((pl.toNat : Nat) : Int) = some (.ref a) := atI_nat (by rw [List.getElem?_map, ha]; rfl)
        rw [Int.toNat_of_nonneg hpl.1] at h; exact h)
      have hcm : col.toNat < many.toNat := by omega
      have hv := ev_ixO (K := K) hrow hA (ev_var (i := 6) rfl) (v := .int ((cntL ((ts.zip cs).take i) (pl.toNat : Int) (col.toNat : Int) + (if (col.toNat : Int) = col then ([t.1, t.2].take j).count (pl.toNat : Int) else 0) : Nat) : Int)) (by
        have h : atI (rowM many.toNat (fun k c => cntL ((ts.zip cs).take i) (k : Int) (c : Int) + (if (c : Int) = col then ([t.1, t.2].take j).count (k : Int) else 0)) pl.toNat) ((col.toNat : Nat) : Int) = _ := atI_nat (rowM_at hcm _ _)
        rw [Int.toNat_of_nonneg hcol.1] at h ⊢; exact h)
      refine Evl.s_setL (j := col.toNat) hA (ev_I0 (g := fun i j => .int (i + j)) hv (ev_c (v := .int 1))) hrow (by rw [Int.toNat_of_nonneg hcol.1]; exact ev_var (i := 6) rfl) (by rw [rowM_len]; exact hcm) fun H6 e6 => ?_
      have f6 := (f5.ev e6).matSet ha ((rowM many.toNat (fun k c => cntL ((ts.zip cs).take i) (k : Int) (c : Int) + (if (c : Int) = col then ([t.1, t.2].take j).count (k : Int) else 0)) pl.toNat).set col.toNat (.int (((cntL ((ts.zip cs).take i) (pl.toNat : Int) (col.toNat : Int) + (if (col.toNat : Int) = col then ([t.1, t.2].take j).count (pl.toNat : Int) else 0) : Nat) : Int) + 1)))
      refine ⟨e34, _, rfl, ?_⟩
      have tk2 : [t.1, t.2].take (j + 1) = [t.1, t.2].take j ++ [pl] := by rw [List.take_add_one, hj]; rfl
      rw [row_upd (M' := fun k c => cntL ((ts.zip cs).take i) (k : Int) (c : Int) + (if (c : Int) = col then ([t.1, t.2].take (j + 1)).count (k : Int) else 0))] at f6
      · exact f6.back eb4 g5.bb
      · have e1 : ∀ m : Nat, ((m : Int) + 1) = ((m + 1 : Nat) : Int) := fun m => by omega
        rw [e1, rowM_set]
        unfold rowM
        apply List.map_congr_left
        intro c _
        show V.int _ = V.int _
        congr 1
        simp only []
        have hz : ((pl.toNat : Nat) : Int) = pl := Int.toNat_of_nonneg hpl.1
        have hzc : ((col.toNat : Nat) : Int) = col := Int.toNat_of_nonneg hcol.1
        by_cases e : c = col.toNat
        · subst e
          rw [if_pos ⟨trivial, rfl⟩, if_pos hzc, if_pos hzc, tk2, List.count_append, hz]
          simp; omega
        · have : ¬ (c : Int) = col := fun z => e (by omega)
          rw [if_neg (fun z => e z.2), if_neg this, if_neg this]
      · intro k hk
        funext c
        congr 1
        rw [tk2, List.count_append]
        have : ¬ pl = (k : Int) := fun z => hk (by omega)
        have h0 : [pl].count (k : Int) = 0 := by rw [List.count_eq_zero]; simpa using fun z => this z.symm
        rw [h0, Nat.add_zero]
    · rintro l2 B4 σ' H' rfl ⟨e34, y7, rfl, f⟩
      refine ⟨e12, _, _, _, rfl, ?_⟩
      have : (fun (k c : Nat) => cntL ((ts.zip cs).take i) (k : Int) (c : Int) + (if (c : Int) = col then ([t.1, t.2].take [t.1, t.2].length).count (k : Int) else 0)) = fun (k c : Nat) => cntL ((ts.zip cs).take (i + 1)) (k : Int) (c : Int) := by
        funext k c
        rw [htk, List.take_length]
        unfold cntL
        rw [List.countP_append]
        congr 1
        have hc2 : [t.1, t.2].count (k : Int) = if has t (k : Int) = true then 1 else 0 := by
          rw [List.count_cons, List.count_cons, List.count_nil]
          have ne : ¬ t.1 = t.2 := by omega
          by_cases h1 : t.1 = (k : Int)
          · have h2 : ¬ t.2 = (k : Int) := fun z => ne (h1.trans z.symm)
            have : has t (k : Int) = true := has_iff.mpr (.inl h1.symm)
            simp [h1, h2, this]
          · by_cases h2 : t.2 = (k : Int)
            · have : has t (k : Int) = true := has_iff.mpr (.inr h2.symm)
              simp [h1, h2, this]
            · have : has t (k : Int) = false := by
                cases q : has t (k : Int) with
                | false => rfl
                | true => rcases has_iff.mp q with z | z
                          · exact absurd z.symm h1
                          · exact absurd z.symm h2
              simp [h1, h2, this]
        rw [hc2, List.countP_cons, List.countP_nil]
        by_cases e : (c : Int) = col
        · rw [if_pos e, e]; cases has t (k : Int) <;> simp
        · have e' : ¬ col = (c : Int) := fun z => e z.symm
          rw [if_neg e, decide_eq_false e']; simp
      rw [this] at f
      exact f.back eb2 (g3.bb.trans e34)
  rintro l B2 σ' H' rfl ⟨e12, y5, y6, y7, rfl, f⟩
  rw [List.take_length, List.append_nil] at f
  have fa := f.all eb
  refine s_retD (ed_var (n := 4) (d := .list (rowsD n many ts cs)) fa.bh rfl (.lst (f.allO (q := (lf, .lst (as.map V.ref))) List.mem_cons_self) ?_)) fun v B3 H3 g k => q v B3 H3 (fa.toGr.trans g) k
  unfold rowsD
  rw [← hal]
  refine da_rows fun i a ha => ?_
  have hm := f.allO (List.mem_of_getElem? (mat_at (p := lf) (row := rowM many.toNat fun k c => cntL (ts.zip cs) (k : Int) (c : Int)) ha))
  refine .lst hm ?_
  unfold rowM
  have : ((List.range many.toNat).map fun (c : Nat) => V.int ((cntL (ts.zip cs) (i : Int) (c : Int) : Nat) : Int)) = ((List.range many.toNat).map fun (c : Nat) => (cntAt ts cs (i : Int) (c : Int) : Int)).map V.int := by rw [List.map_map]; rfl
  show DaAll _ ((List.range many.toNat).map fun (c : Nat) => V.int ((cntL (ts.zip cs) (i : Int) (c : Int) : Nat) : Int)) _
  rw [this]
  exact .ints

end
end TW
set_option Elab.async false
set_option linter.all false
set_option maxRecDepth 100000
set_option maxHeartbeats 4000000
namespace TW
open PySem PySem.Spec PyProof.Rows L2 TM TB
open Evl (Ex Ex.refl Ex.trans Ex.new Ex.mut Ev EvT EvA ev_var ev_c ev_op rv_I0 rv_I rv_eq rv_ne et_test et_B et_and et_or et_not et_is ev_is sz_of sz_lt fresh_back)
section
variable {P : Program} {w : World} {K : PySem.W.Frag} {mg : Str → Option Value} {base : Heap} {A : Ad}
/-! ### shared, halved and nearly, looked at -/
theorem half_bip {n : Int} {ts : List Tie} (w : Web n ts) (hb : Bip ts) (N : Nearly n ts (nearF n ts)) : (halfA n ts).isEven = true := by
  unfold halfA
  cases e : farF n ts with
  | some v =>
    obtain ⟨h1, h2⟩ := farF_inv e
    exact absurd (far_odd N h1.1 h1.2 h2) (bip_no_odd w hb h1)
  | none => rfl
theorem half_odd {n : Int} {ts : List Tie} (w : Web n ts) {v : Int} (hv : 0 ≤ v ∧ v < n) (O : OddAt ts v) (N : Nearly n ts (nearF n ts)) : (halfA n ts).isEven = false := by
  unfold halfA
  cases e : farF n ts with
  | some v => rfl
  | none =>
    obtain ⟨c, c0, c1, hc⟩ := odd_far w N hv.1 hv.2 O
    exact absurd hc (farF_inv0 e c c0 c1)
theorem Nearly.two_ {n : Int} {ts : List Tie} {cs : List Int} (N : Nearly n ts cs) {v : Int} (h0 : 0 ≤ v) (h1 : v < n) : (pim ts (cs.map some) v).natAbs ≤ 2 := by
  have hd : deg ts v % 2 = 1 ∨ deg ts v % 2 = 0 := by omega
  rcases hd with h | h
  · rw [N.odd v h0 h1 h]; decide
  · by_cases z : OddAt ts v ∧ Least ts v
    · rw [N.two v h0 h1 z.1 z.2]; decide
    · rw [N.nul v h0 h1 h z]; decide
theorem near_range {n : Int} {ts : List Tie} {cs : List Int} (N : Nearly n ts cs) : ∀ c ∈ cs, 0 ≤ c ∧ c < 2 := fun c hc => by
  rcases N.val c hc with e | e <;> rw [e] <;> decide
/-- all that a row of counts tells, together -/
theorem rows_all {n m : Int} {ts : List Tie} {cs : List Int} (hm : 1 ≤ m) (E : EvenCols n ts cs m) : ((List.range n.toNat).all fun (v : Nat) => decide (maxL 0 ((List.range m.toNat).map fun (c : Nat) => (cntAt ts cs (v : Int) (c : Int) : Int)) - minL 0 ((List.range m.toNat).map fun (c : Nat) => (cntAt ts cs (v : Int) (c : Int) : Int)) < 2)) = true := by
  rw [List.all_eq_true]
  intro v hv
  have hv := List.mem_range.mp hv
  rw [decide_eq_true_iff]
  have ne : ((List.range m.toNat).map fun (c : Nat) => (cntAt ts cs (v : Int) (c : Int) : Int)) ≠ [] := by
    intro z
    have := congrArg List.length z
    rw [List.length_map, List.length_range] at this
    simp at this; omega
  rcases maxL_mem (d := 0) ((List.range m.toNat).map fun (c : Nat) => (cntAt ts cs (v : Int) (c : Int) : Int)) with h | h
  · rcases minL_mem (d := 0) ((List.range m.toNat).map fun (c : Nat) => (cntAt ts cs (v : Int) (c : Int) : Int)) with k | k
    · obtain ⟨c, hc, e1⟩ := List.mem_map.mp h
      obtain ⟨d, hd, e2⟩ := List.mem_map.mp k
      have hc := List.mem_range.mp hc
      have hd := List.mem_range.mp hd
      have := E.2.2 (v : Int) (by omega) (by omega) (c : Int) (d : Int) (by omega) (by omega) (by omega) (by omega)
      omega
    · exact absurd k.1 ne
  · exact absurd h.1 ne
def sp__law_even_right : Sp := fun vs H Q _ => ∃ (n : Int) (ts : List Tie) (m : Int) (B : Hp), Ex B H ∧ DaAll B vs [.int n, tiesD ts, .int m] ∧ ((1 ≤ n ∧ n ≤ 40) ∧ Web n ts ∧ ts.length ≤ 120 ∧ 1 ≤ m ∧ m ≤ 1000 ∧ Bip ts) ∧ RetV H (.bl true) Q
theorem len__law_even_right {vs : List V} {H : Hp} {Q : VK} {E : XK} (h : sp__law_even_right vs H Q E) : vs.length = 3 := by
  obtain ⟨_, _, _, _, _, k, _⟩ := h
  exact k.len
theorem ok__law_even_right (T : TX K mg A) : Ok P w K mg base CX0 5 A._law_even_right ["_law_places", "_law_ties", "_law_many"] sp__law_even_right := by
  obtain ⟨fd, F⟩ := T.F__law_even_right
  obtain ⟨fd_shared, G_shared, B_shared, K_shared⟩ := ok_shared (P := P) (w := w) (base := base) T
  obtain ⟨fd__law_plain, G__law_plain, B__law_plain, K__law_plain⟩ := ok__law_plain (P := P) (w := w) (base := base) T
  obtain ⟨fd__law_truths, G__law_truths, B__law_truths, K__law_truths⟩ := ok__law_truths (P := P) (w := w) (base := base) T
  obtain ⟨fd__law_counts, G__law_counts, B__law_counts, K__law_counts⟩ := ok__law_counts (P := P) (w := w) (base := base) T
  obtain ⟨fd_Shares_shows, G_Shares_shows, B_Shares_shows, K_Shares_shows⟩ := ok_Shares_shows (P := P) (w := w) (base := base) T
  obtain ⟨fd_Ring_shows, G_Ring_shows, B_Ring_shows, K_Ring_shows⟩ := ok_Ring_shows (P := P) (w := w) (base := base) T
  refine ⟨fd, ?_, F.binds (ps := ["_law_places", "_law_ties", "_law_many"]) fun _ _ _ _ _ _ us hl => match us, hl with | [_, _, _], _ => rfl, F.kp⟩
  refine F.ok sc__law_even_right (fun vs H Q E h => len__law_even_right h) (fun cdv Ar outer s H vs Q E hr h => ?_)
  have nd := sc__law_even_right.nd
  have hu := hu_of hr
  obtain ⟨n, ts, m, B, eb, k, ⟨hn, hW, hl, hm1, hm2, hB⟩, q⟩ := h
  match vs, k with
  | [_, v1, _], .cons (.int _) (.cons k1 (.cons (.int _) .nil)) =>
  refine ⟨_, (pss_cons (ps_set (i := 3) nd rfl (by first | exact .inl rfl | exact .inr rfl) (pe_call G_shared (hr.mono (by decide)) (by rfl) T.g_shared K_shared B_shared .nil passN (pa_cons (pv 0) (pa_cons (pv 1) (pa_cons (pv 2) pa_nil))))) (pss_cons (ps_if (PW.pt (pw_or (pt_not (pt_val (pe_callB (isiK K) (by rfl) T.n_isinstance (by decide +kernel) (pa_cons (pv 3) (pa_cons (pe_glob (v := .ref A.Shares) rfl T.g_Shares rfl) pa_nil))))) (pw_or (pt_cmpR op_ne (pe_callB (lenK K) (by rfl) T.n_len PySem.boot_len (pa_cons (fldK K (pv 3) rfl) pa_nil)) (pe_callB (lenK K) (by rfl) T.n_len PySem.boot_len (pa_cons (pv 1) pa_nil)) (by first | exact nomark _ | rfl)) (pw_or1 (pt_not (pt_val (pe_call G__law_plain (hr.mono (by decide)) (by rfl) T.g__law_plain K__law_plain B__law_plain .nil pass0 (pa_cons (fldK K (pv 3) rfl) pa_nil)))))))) (pss_one (ps_ret pe_bl)) pss_nil) (pss_cons (ps_if (pt_not (pt_val (pe_callB (allK K rfl) (by rfl) T.n_all (by decide +kernel) (pa_cons (pe_lc (own := [("_law_row", 4)]) (g := gName 4) (tt := tYes)  rfl nd  (listK K (pe_call G__law_counts (hr.mono (by decide)) (by rfl) T.g__law_counts K__law_counts B__law_counts .nil pass0 (pa_cons (pv 0) (pa_cons (pv 1) (pa_cons (fldK K (pv 3) rfl) (pa_cons (pv 2) pa_nil)))))) (blkOk_by (by kernel_rfl)) (fun _ _ _ _ _ => (pg_name (i := 4) nd rfl (by first | exact .inl rfl | exact .inr rfl))) (fun _ _ _ _ _ => pts_nil) (fun _ _ _ _ _ => (pe_cmpR op_lt (pe_op op_sub (pe_callB (maxK K rfl) (by rfl) T.n_max (by decide +kernel) (pa_cons (pv 4) pa_nil)) (pe_callB (minK K rfl) (by rfl) T.n_min (by decide +kernel) (pa_cons (pv 4) pa_nil))) pe_int (by first | exact nomark _ | rfl)))) pa_nil)))) (pss_one (ps_ret pe_bl)) pss_nil) (pss_one (ps_ret (pe_and (pe_call G__law_truths (hr.mono (by decide)) (by rfl) T.g__law_truths K__law_truths B__law_truths .nil pass0 (pa_cons (pe_lst (pa_cons (pe_either (pe_meth (pv 3) T.c_Shares T.m_Shares_shows G_Shares_shows (hr.mono (by decide)) B_Shares_shows .nil pass0 (pa_cons (pv 0) (pa_cons (pv 1) (pa_cons (pv 2) pa_nil)))) (pe_meth (pv 3) T.c_Ring T.m_Ring_shows G_Ring_shows (hr.mono (by decide)) B_Ring_shows .nil pass0 (pa_cons (pv 0) (pa_cons (pv 1) (pa_cons (pv 2) pa_nil))))) pa_nil)) pa_nil)) (pe_one (pe_either (pe_meth (pv 3) T.c_Shares T.m_Shares_shows G_Shares_shows (hr.mono (by decide)) B_Shares_shows .nil pass0 (pa_cons (pv 0) (pa_cons (pv 1) (pa_cons (pv 2) pa_nil)))) (pe_meth (pv 3) T.c_Ring T.m_Ring_shows G_Ring_shows (hr.mono (by decide)) B_Ring_shows .nil pass0 (pa_cons (pv 0) (pa_cons (pv 1) (pa_cons (pv 2) pa_nil)))))))))))), ?_⟩
  refine q_shared hn hW hl hm1 (eds_cons (edi eb (ev_var (i := 0) rfl)) (eds_cons (ed_var (n := 1) eb rfl k1) (eds_cons (edi eb (ev_var (i := 2) rfl)) (eds_nil eb)))) fun a ha x dx l B1 H1 fr => ?_
  cases a with
  | ring rs => exact absurd hB ha.1
  | shares cs =>
  have o := obS_of fr
  have e01 := fr.ex0
  have fa := fr.all eb
  have kS : Da (newB B H H1) (.ref l) (numsD cs) := .lst (fr.allO (q := (l, .lst (cs.map V.int))) (by simp [Sn.ns])) .ints
  have k1 := k1.ex fa.eb
  have eb1 := fa.bh
  generalize newB B H H1 = B2 at kS k1 eb1
  clear fa fr
  have E := ha.2
  have hcl : cs.length = ts.length := E.1
  have f : ∀ {H2 : Hp}, Ex H1 H2 → EvD (tFld K (tVar 3) "colours") [some (.int n), some v1, some (.int m), some (.ref x), none] B2 H2 (numsD cs) := fun e => ed_ev (eb1.trans e) (ev_fld (ev_var (i := 3) rfl) (Ob.ex o e) T.c_Shares T.a_Shares) kS
  refine q_when (b := false) (et_is (et_or (a := false) (b := false) (et_is (et_not (et_B (ev_isShares T (ev_var (i := 3) rfl) o))) rfl) fun _ => et_is (et_or (a := false) (b := false) (et_is (et_test (ev_neI (ev_lenD (K := K) (f (Ex.refl _))) (ev_lenD (K := K) (ed_var (n := 1) eb1 rfl k1)))) ?_)
    fun _ => et_is (et_not (et_B (ev_call (v := .bl true) (eds_cons (f (Ex.refl _)) (eds_nil eb1)) fun B3 H3 ws Q3 E3 e3 k3 q3 => ⟨cs, B3, e3, k3, by omega, q3⟩))) rfl) rfl) rfl) (fun hb => (nomatch hb)) (fun _ H2 e2 => ?_)
  · rw [List.length_map, List.length_map, hcl]; simp
  have eb2 := eb1.trans e2
  refine q_when (b := false) (et_is (et_not (et_B (ev_is (ev_all (K := K) (B := B2) (bs := (List.range n.toNat).map fun (v : Nat) => decide (maxL 0 ((List.range m.toNat).map fun (c : Nat) => (cntAt ts cs (v : Int) (c : Int) : Int)) - minL 0 ((List.range m.toNat).map fun (c : Nat) => (cntAt ts cs (v : Int) (c : Int) : Int)) < 2)) ?_) (w := .bl true) ?_))) rfl) (fun hb => (nomatch hb)) (fun _ H3 e3 => ?_)
  · rw [List.map_map]
    refine EvN.toD (en_lcA (dt := fun (v : Nat) => .list (((List.range m.toNat).map fun (c : Nat) => (cntAt ts cs (v : Int) (c : Int) : Int)).map PyData.int)) (l := List.range n.toNat) (fun (v : Nat) => .bool (decide (maxL 0 ((List.range m.toNat).map fun (c : Nat) => (cntAt ts cs (v : Int) (c : Int) : Int)) - minL 0 ((List.range m.toNat).map fun (c : Nat) => (cntAt ts cs (v : Int) (c : Int) : Int)) < 2)))
      (ei_list (K := K) (ed_call (d := .list (rowsD n m ts cs)) (eds_cons (edi eb2 (ev_var (i := 0) rfl)) (eds_cons (ed_var (n := 1) eb2 rfl k1) (eds_cons (f e2) (eds_cons (edi eb2 (ev_var (i := 2) rfl)) (eds_nil eb2))))) fun B6 H6 ws Q6 E6 e6 k6 q6 => ⟨n, ts, cs, m, B6, e6, k6, ⟨by omega, by omega, hW, by omega, by omega, hm2, E.2.1⟩, q6⟩)) (by rw [List.length_range]; omega) fun a y B3 H3 _ e1 e3 e4 kx => ?_)
    have hx := ed_var (σ := [some (.int n), some v1, some (.int m), some (.ref x), some y]) (n := 4) e4 rfl kx
    have ne : ((List.range m.toNat).map fun (c : Nat) => (cntAt ts cs (a : Int) (c : Int) : Int)) ≠ [] := by
      intro z
      have := congrArg List.length z
      rw [List.length_map, List.length_range] at this
      simp at this; omega
    exact edb e4 (ev_I0 (g := fun i j => .bl (decide (i < j))) (ev_I0 (g := fun i j => .int (i - j)) (ev_max (K := K) hx ne) (ev_min (K := K) hx ne)) (ev_c (v := .int 2)))
  · rw [List.all_map]
    congr 1
    exact rows_all hm1 E
  have o3 := Ob.ex o (e2.trans e3)
  have eb3 := eb2.trans e3
  have sh : ∀ {H4 : Hp}, Ex H3 H4 → Ev (fun σ H Q => tMeth A.Shares "shows" (sp_Shares_shows A) [] E0 (tVar 3) (tCons (tVar 0) (tCons (tVar 1) (tCons (tVar 2) tNil))) σ H Q ∨ tMeth A.Ring "shows" (sp_Ring_shows A) [] E0 (tVar 3) (tCons (tVar 0) (tCons (tVar 1) (tCons (tVar 2) tNil))) σ H Q) [some (.int n), some v1, some (.int m), some (.ref x), none] H4 (.bl true) := fun e => by
    have h := ev_showsS (E1 := E0) (E2 := E0) (B := B2) (tx := tVar 3) (σ := [some (.int n), some v1, some (.int m), some (.ref x), none]) (a := .shares cs) (ev_var (i := 3) rfl) (Ob.ex o3 e) (eds_cons (edi (eb3.trans e) (ev_var (i := 0) rfl)) (eds_cons (ed_var (n := 1) (eb3.trans e) rfl k1) (eds_cons (edi (eb3.trans e) (ev_var (i := 2) rfl)) (eds_nil (eb3.trans e))))) ⟨by omega, by omega, hW, by omega, by show cs.length ≤ 1000; omega⟩
    rw [shows_ok ha] at h
    exact h
  refine Evl.s_ret (v := .bl true) (ev_is (Evl.ev_andV (a := true) (b := true) (ev_call (eds_cons (EvN.toD (en_lst (eds_cons (edb (b := true) eb3 (sh (Ex.refl _))) (eds_nil eb3)))) (eds_nil eb3)) fun B5 H5 ws Q5 E5 e5 k5 q5 => ⟨true, B5, e5, k5, q5⟩) fun _ => sh (Ex.refl _)) rfl) fun H4 e4 => q H4 (e01.trans (e2.trans (e3.trans e4)))

end
end TW
set_option Elab.async false
set_option linter.all false
set_option maxRecDepth 100000
set_option maxHeartbeats 4000000
namespace TW
open PySem PySem.Spec PyProof.Rows L2 TM TB
open Evl (Ex Ex.refl Ex.trans Ex.new Ex.mut Ev EvT EvA ev_var ev_c ev_op rv_I0 rv_I rv_eq rv_ne et_test et_B et_and et_or et_not et_is ev_is sz_of sz_lt fresh_back)
section
variable {P : Program} {w : World} {K : PySem.W.Frag} {mg : Str → Option Value} {base : Heap} {A : Ad}
def sp__law_two_right : Sp := fun vs H Q _ => ∃ (n : Int) (ts : List Tie) (b : Bool) (B : Hp), Ex B H ∧ DaAll B vs [.int n, tiesD ts, .bool b] ∧ ((1 ≤ n ∧ n ≤ 40) ∧ Web n ts ∧ ts.length ≤ 120 ∧ ((b = true ∧ Bip ts) ∨ (b = false ∧ ∃ v, (0 ≤ v ∧ v < n) ∧ OddAt ts v))) ∧ RetV H (.bl true) Q
theorem len__law_two_right {vs : List V} {H : Hp} {Q : VK} {E : XK} (h : sp__law_two_right vs H Q E) : vs.length = 3 := by
  obtain ⟨_, _, _, _, _, k, _⟩ := h
  exact k.len
theorem near_rows {n : Int} {ts : List Tie} {cs : List Int} {b : Bool} (w : Web n ts) (N : Nearly n ts cs) (hb : b = true → Bip ts) : ((List.range n.toNat).all fun (v : Nat) => decide ((((cntAt ts cs (v : Int) 0 : Int) - (cntAt ts cs (v : Int) 1 : Int)).natAbs : Int) < if b = true then 2 else 3)) = true := by
  rw [List.all_eq_true]
  intro v hv
  have hv := List.mem_range.mp hv
  rw [decide_eq_true_iff]
  have e := pim_cnt (v : Int) ts cs N.len N.val
  cases b with
  | true =>
    have := N.bip w (hb rfl) (v := (v : Int)) (by omega) (by omega)
    rw [if_pos rfl]; omega
  | false =>
    have := Nearly.two_ N (v := (v : Int)) (by omega) (by omega)
    rw [if_neg (by decide)]; omega
theorem ok__law_two_right (T : TX K mg A) : Ok P w K mg base CX0 5 A._law_two_right ["_law_places", "_law_ties", "_law_even"] sp__law_two_right := by
  obtain ⟨fd, F⟩ := T.F__law_two_right
  obtain ⟨fd_halved, G_halved, B_halved, K_halved⟩ := ok_halved (P := P) (w := w) (base := base) T
  obtain ⟨fd_nearly, G_nearly, B_nearly, K_nearly⟩ := ok_nearly (P := P) (w := w) (base := base) T
  obtain ⟨fd__law_plain, G__law_plain, B__law_plain, K__law_plain⟩ := ok__law_plain (P := P) (w := w) (base := base) T
  obtain ⟨fd__law_truths, G__law_truths, B__law_truths, K__law_truths⟩ := ok__law_truths (P := P) (w := w) (base := base) T
  obtain ⟨fd__law_counts, G__law_counts, B__law_counts, K__law_counts⟩ := ok__law_counts (P := P) (w := w) (base := base) T
  obtain ⟨fd_Even_shows, G_Even_shows, B_Even_shows, K_Even_shows⟩ := ok_Even_shows (P := P) (w := w) (base := base) T
  obtain ⟨fd_Odd_shows, G_Odd_shows, B_Odd_shows, K_Odd_shows⟩ := ok_Odd_shows (P := P) (w := w) (base := base) T
  refine ⟨fd, ?_, F.binds (ps := ["_law_places", "_law_ties", "_law_even"]) fun _ _ _ _ _ _ us hl => match us, hl with | [_, _, _], _ => rfl, F.kp⟩
  refine F.ok sc__law_two_right (fun vs H Q E h => len__law_two_right h) (fun cdv Ar outer s H vs Q E hr h => ?_)
  have nd := sc__law_two_right.nd
  have hu := hu_of hr
  obtain ⟨n, ts, b, B, eb, k, ⟨hn, hW, hl, hc⟩, q⟩ := h
  match vs, k with
  | [_, v1, _], .cons (.int _) (.cons k1 (.cons (.bl _) .nil)) =>
  refine ⟨_, (pss_cons (ps_par (i := 3) (j := 4) (by rfl) nd rfl rfl (by decide) rfl rfl (pa_cons (pe_call G_halved (hr.mono (by decide)) (by rfl) T.g_halved K_halved B_halved .nil passN (pa_cons (pv 0) (pa_cons (pv 1) pa_nil))) (pa_cons (pe_call G_nearly (hr.mono (by decide)) (by rfl) T.g_nearly K_nearly B_nearly .nil passN (pa_cons (pv 0) (pa_cons (pv 1) pa_nil))) pa_nil)) (by rfl)) (pss_cons (ps_if (PW.pt (pw_or (pt_cmpR op_ne (pe_callB (isiK K) (by rfl) T.n_isinstance (by decide +kernel) (pa_cons (pv 3) (pa_cons (pe_glob (v := .ref A.Even) rfl T.g_Even rfl) pa_nil))) (pv 2) (by first | exact nomark _ | rfl)) (pw_or1 (pt_not (pt_val (pe_call G__law_truths (hr.mono (by decide)) (by rfl) T.g__law_truths K__law_truths B__law_truths .nil pass0 (pa_cons (pe_lst (pa_cons (pe_either (pe_meth (pv 3) T.c_Even T.m_Even_shows G_Even_shows (hr.mono (by decide)) B_Even_shows .nil pass0 (pa_cons (pv 0) (pa_cons (pv 1) pa_nil))) (pe_meth (pv 3) T.c_Odd T.m_Odd_shows G_Odd_shows (hr.mono (by decide)) B_Odd_shows .nil pass0 (pa_cons (pv 0) (pa_cons (pv 1) pa_nil)))) pa_nil)) pa_nil))))))) (pss_one (ps_ret pe_bl)) pss_nil) (pss_cons (ps_if (pt_not (pt_val (pe_either (pe_meth (pv 3) T.c_Even T.m_Even_shows G_Even_shows (hr.mono (by decide)) B_Even_shows .nil pass0 (pa_cons (pv 0) (pa_cons (pv 1) pa_nil))) (pe_meth (pv 3) T.c_Odd T.m_Odd_shows G_Odd_shows (hr.mono (by decide)) B_Odd_shows .nil pass0 (pa_cons (pv 0) (pa_cons (pv 1) pa_nil)))))) (pss_one (ps_ret pe_bl)) pss_nil) (pss_cons (ps_if (PW.pt (pw_or (pt_not (pt_val (pe_call G__law_plain (hr.mono (by decide)) (by rfl) T.g__law_plain K__law_plain B__law_plain .nil pass0 (pa_cons (pv 4) pa_nil)))) (pw_or1 (pt_cmpR op_ne (pe_callB (lenK K) (by rfl) T.n_len PySem.boot_len (pa_cons (pv 4) pa_nil)) (pe_callB (lenK K) (by rfl) T.n_len PySem.boot_len (pa_cons (pv 1) pa_nil)) (by first | exact nomark _ | rfl))))) (pss_one (ps_ret pe_bl)) pss_nil) (pss_cons (ps_if (pt_not (pt_val (pe_call G__law_plain (hr.mono (by decide)) (by rfl) T.g__law_plain K__law_plain B__law_plain .nil pass0 (pa_cons (pe_ifExp (pt_val (pv 2)) (fldK K (pv 3) rfl) (fldK K (pv 3) rfl)) pa_nil)))) (pss_one (ps_ret pe_bl)) pss_nil) (pss_cons (ps_set (i := 5) nd rfl (by first | exact .inl rfl | exact .inr rfl) (pe_call G__law_counts (hr.mono (by decide)) (by rfl) T.g__law_counts K__law_counts B__law_counts .nil pass0 (pa_cons (pv 0) (pa_cons (pv 1) (pa_cons (pv 4) (pa_cons pe_int pa_nil)))))) (pss_one (ps_ret (pe_callB (allK K rfl) (by rfl) T.n_all (by decide +kernel) (pa_cons (pe_lc (own := [("_law_row", 6)]) (g := gName 6) (tt := tYes)  rfl nd  (listK K (pv 5)) (blkOk_by (by kernel_rfl)) (fun _ _ _ _ _ => (pg_name (i := 6) nd rfl (by first | exact .inl rfl | exact .inr rfl))) (fun _ _ _ _ _ => pts_nil) (fun _ _ _ _ _ => (pe_cmpR op_lt (pe_callB call_abs (by rfl) T.n_abs (by decide +kernel) (pa_cons (pe_op op_sub (pe_ix (ix_listK K) (pv 6) pe_int (fun _ _ => rfl)) (pe_ix (ix_listK K) (pv 6) pe_int (fun _ _ => rfl))) pa_nil)) (pe_ifExp (pt_val (pv 2)) pe_int pe_int) (by first | exact nomark _ | rfl)))) pa_nil)))))))))), ?_⟩
  show tCall (sp_halved A) [] E0 (tCons (tVar 0) (tCons (tVar 1) tNil)) _ H _
  refine (eds_cons (edi eb (ev_var (i := 0) rfl)) (eds_cons (ed_var (n := 1) eb rfl k1) (eds_nil eb)) : EvDs _ [some (.int n), some v1, some (.bl b), none, none, none, none] B H _) H (Ex.refl H) _ fun ws B1 H1 g kd => ?_
  rw [List.append_nil]
  refine half_sp hn hW hl g.bh kd fun N => RetH.of fun x dx l B2 H2 fr0 => ?_
  have fr := g.fr fr0
  have hal := half_len (by omega) (by omega) N
  have hcl := N.len
  have hev : (halfA n ts).isEven = b := by
    rcases hc with ⟨e, h⟩ | ⟨e, v, hv, h⟩
    · rw [e]; exact half_bip hW h N
    · rw [e]; exact half_odd hW hv h N
  have hsh := shows_half hW N
  obtain ⟨a, ha⟩ : ∃ a, a = halfA n ts := ⟨_, rfl⟩
  rw [← ha] at fr hal hev hsh
  have o := obA_of fr
  have e02 := fr.ex0
  have fa := fr.all eb
  have kS : Da (newB B H H2) (.ref l) (numsD a.ns) := .lst (fr.allO (q := (l, .lst (a.ns.map V.int))) (by simp)) .ints
  have k2 := k1.ex fa.eb
  have eb2 := fa.bh
  generalize newB B H H2 = B3 at kS k2 eb2
  clear fa fr fr0 kd g
  -- nearly
  show tCall (sp_nearly A) [] E0 (tCons (tVar 0) (tCons (tVar 1) tNil)) _ H2 _
  refine (eds_cons (edi eb2 (ev_var (i := 0) rfl)) (eds_cons (ed_var (n := 1) eb2 rfl k2) (eds_nil eb2)) : EvDs _ [some (.int n), some v1, some (.bl b), none, none, none, none] B3 H2 _) H2 (Ex.refl H2) _ fun ws2 B4 H4 g4 kd4 => ?_
  rw [List.append_nil]
  refine near_sp hn hW hl g4.bh kd4 ?_
  rintro ds p xs B5 H5 ⟨_, rfl⟩ g5 n5 nb5 h5 k5
  refine ⟨_, _, rfl, ?_⟩
  have gx := g4.trans (fixD g5 n5 nb5 h5)
  have kC : Da (upd B5 p (.lst xs)) (.ref p) (numsD (nearF n ts)) := .lst upd_same (k5.ex (Ex.new nb5))
  have kS := kS.ex gx.bb
  have k3 := k2.ex gx.bb
  have o := o.ex gx.hh
  have e05 := e02.trans gx.hh
  have eb5 := gx.bh
  generalize upd B5 p (.lst xs) = B6 at kC kS k3 eb5
  clear gx g4 g5 k5 kd4
  -- the answer
  have sh : ∀ {H6 : Hp}, Ex H5 H6 → Ev (fun σ H Q => tMeth A.Even "shows" (sp_Even_shows A) [] E0 (tVar 3) (tCons (tVar 0) (tCons (tVar 1) tNil)) σ H Q ∨ tMeth A.Odd "shows" (sp_Odd_shows A) [] E0 (tVar 3) (tCons (tVar 0) (tCons (tVar 1) tNil)) σ H Q) [some (.int n), some v1, some (.bl b), some (.ref x), some (.ref p), none, none] H6 (.bl true) := fun e => by
    have h := ev_shows (E1 := E0) (E2 := E0) (B := B6) (tx := tVar 3) (σ := [some (.int n), some v1, some (.bl b), some (.ref x), some (.ref p), none, none]) (ev_var (i := 3) rfl) (o.ex e) (eds_cons (edi (eb5.trans e) (ev_var (i := 0) rfl)) (eds_cons (ed_var (n := 1) (eb5.trans e) rfl k3) (eds_nil (eb5.trans e)))) ⟨by omega, by omega, hW, by omega, by omega⟩
    rw [hsh] at h
    exact h
  refine q_when (b := false) (et_is (et_or (a := false) (b := false) (et_is (et_test (ev_ne (ev_isEven T (ev_var (i := 3) rfl) o) (ev_var (i := 2) rfl) rfl)) ?_) fun _ => et_is (et_not (et_B (ev_call (v := .bl true) (eds_cons (EvN.toD (en_lst (eds_cons (edb (b := true) eb5 (sh (Ex.refl _))) (eds_nil eb5)))) (eds_nil eb5)) fun B7 H7 ws Q7 E7 e7 k7 q7 => ⟨true, B7, e7, k7, q7⟩))) rfl) rfl) (fun hb => (nomatch hb)) (fun _ H6 e6 => ?_)
  · rw [hev]; simp
  refine q_when (b := false) (et_is (et_not (et_B (sh e6))) rfl) (fun hb => (nomatch hb)) (fun _ H7 e7 => ?_)
  have e67 := e6.trans e7
  have eb7 := eb5.trans e67
  refine q_when (b := false) (et_is (et_or (a := false) (b := false) (et_is (et_not (et_B (ev_call (v := .bl true) (eds_cons (ed_var (n := 4) eb7 rfl kC) (eds_nil eb7)) fun B8 H8 ws Q8 E8 e8 k8 q8 => ⟨_, B8, e8, k8, by omega, q8⟩))) rfl) fun _ => et_is (et_test (ev_neI (ev_lenD (K := K) (ed_var (n := 4) eb7 rfl kC)) (ev_lenD (K := K) (ed_var (n := 1) eb7 rfl k3)))) ?_) rfl) (fun hb => (nomatch hb)) (fun _ H8 e8 => ?_)
  · rw [List.length_map, List.length_map, hcl]; simp
  have e58 := e67.trans e8
  have eb8 := eb5.trans e58
  refine q_when (b := false) (et_is (et_not (et_B (ev_call (v := .bl true) (eds_cons (ed_ev eb8 (ev_ifV (b := b) (et_B (ev_var (i := 2) rfl)) (fun hb => ?_) (fun hb => ?_)) kS) (eds_nil eb8)) fun B9 H9 ws Q9 E9 e9 k9 q9 => ⟨_, B9, e9, k9, by omega, q9⟩))) rfl) (fun hb => (nomatch hb)) (fun _ H9 e9 => ?_)
  · cases a with
    | even cs => exact ev_fld (ev_var (i := 3) rfl) (o.ex e58) T.c_Even T.a_Even
    | odd cs => rw [← hev] at hb; cases hb
  · cases a with
    | even cs => rw [← hev] at hb; cases hb
    | odd cs => exact ev_fld (ev_var (i := 3) rfl) (o.ex e58) T.c_Odd T.a_Odd
  have eb9 := eb8.trans e9
  refine q_asgD (ed_call (d := .list (rowsD n 2 ts (nearF n ts))) (eds_cons (edi eb9 (ev_var (i := 0) rfl)) (eds_cons (ed_var (n := 1) eb9 rfl k3) (eds_cons (ed_var (n := 4) eb9 rfl kC) (eds_cons (edi eb9 ev_c) (eds_nil eb9))))) fun B6 H6 ws Q6 E6 e6 k6 q6 => ⟨n, ts, nearF n ts, 2, B6, e6, k6, ⟨by omega, by omega, hW, by omega, by decide, by decide, near_range N⟩, q6⟩) fun vr BR HR gR kR => ?_
  refine Evl.s_ret (v := .bl true) (ev_is (ev_all (K := K) (B := BR) (bs := (List.range n.toNat).map fun (v : Nat) => decide ((((cntAt ts (nearF n ts) (v : Int) 0 : Int) - (cntAt ts (nearF n ts) (v : Int) 1 : Int)).natAbs : Int) < if b = true then 2 else 3)) ?_) ?_) fun HZ eZ => q HZ (e05.trans (e58.trans (e9.trans (gR.hh.trans eZ))))
  · rw [List.map_map]
    refine EvN.toD (en_lcA (dt := fun (v : Nat) => .list (((List.range (2 : Int).toNat).map fun (c : Nat) => (cntAt ts (nearF n ts) (v : Int) (c : Int) : Int)).map PyData.int)) (l := List.range n.toNat) (fun (v : Nat) => .bool (decide ((((cntAt ts (nearF n ts) (v : Int) 0 : Int) - (cntAt ts (nearF n ts) (v : Int) 1 : Int)).natAbs : Int) < if b = true then 2 else 3)))
      (ei_list (K := K) (ed_var (n := 5) gR.bh rfl kR)) (by rw [List.length_range]; omega) fun a y B3 H3 _ e1 e3 e4 kx => ?_)
    have hx := ed_var (σ := [some (.int n), some v1, some (.bl b), some (.ref x), some (.ref p), some vr, some y]) (n := 6) e4 rfl kx
    exact edb e4 (ev_I0 (g := fun i j => .bl (decide (i < j))) (ev_abs (ev_I0 (g := fun i j => .int (i - j)) (ev_int (ed_ixL (K := K) hx ev_c (atD_nat (j := 0) rfl rfl))) (ev_int (ed_ixL (K := K) hx ev_c (atD_nat (j := 1) rfl rfl))))) (ev_ifV (b := b) (v := .int (if b = true then 2 else 3)) (et_B (ev_var (i := 2) rfl)) (fun hb => by rw [if_pos hb]; exact ev_c) (fun hb => by rw [hb]; exact ev_c)))
  · rw [List.all_map]
    congr 1
    refine near_rows hW N fun hb => ?_
    rcases hc with ⟨e, h⟩ | ⟨e, _⟩
    · exact h
    · rw [hb] at e; cases e

end
end TW
set_option Elab.async false
set_option linter.all false
set_option maxRecDepth 100000
set_option maxHeartbeats 4000000
namespace TW
open PySem PySem.Spec PyProof.Rows L2 TM TB
open Evl (Ex Ex.refl Ex.trans Ex.new Ex.mut Ev EvT EvA ev_var ev_c ev_op rv_I0 rv_I rv_eq rv_ne et_test et_B et_and et_or et_not et_is ev_is sz_of sz_lt fresh_back)
section
variable {P : Program} {w : World} {K : PySem.W.Frag} {mg : Str → Option Value} {base : Heap} {A : Ad}
/-! ### what is refused -/
theorem pe_callLamK (P : Program) (w : World) (K : PySem.W.Frag) (mg : Str → Option Value) (base : Heap) {X : Cx} {CX : CXT} {k i : Nat} {E : L2.St → XK} {ta : TA} {a : Str} {e : Expr} {p1 p2 : Pos} (hr : Room (k + 1) X.A) (hN : X.N[i]? = some a) (hv : Vis X.env.scope a) (hx : ∀ σ, PassesAt CX X σ (E σ)) (pa : PA X [e] ta)
    (hP : X.prog = P := by rfl) (hw : X.w = w := by rfl) (hK : X.K = K := by rfl) (hm : X.mg = mg := by rfl) (hb : X.base = base := by rfl) (hd : (a == ("__debug__" : Str)) = false := by decide) (hcd : (a == ("__classdict__" : Str)) = false := by decide)
    (h1 : starEach [e] X.env = (false, eval e X.env) :: starEach [] X.env := by rfl) (h2 : (backTo p2 (starEach [] X.env)).any (·.1) = false := by rfl) : PE X (.Call (.Name a p1) [e] [] p2) (tCallLam P w K mg base CX k i E ta) := by
  subst hP hw hK hm hb
  exact pe_callLam hr hN hv hx pa hd hcd h1 h2
theorem eqv_bools (l m : List Bool) : PyData.eqv (.list (l.map PyData.bool)) (.list (m.map PyData.bool)) = decide (l = m) := eqv_map (fun a b => by unfold PyData.eqv; cases a <;> cases b <;> rfl) l m
theorem sh_bools (l : List Bool) : Sh 2 (.list (l.map PyData.bool)) := sh_map fun _ => sh_bool
def cls3 (A : Ad) (k : Int) : Addr := if k = 0 then A.BadPlaces else if k = 1 then A.BadTies else A.BadMany
def toldK (k : Int) : List Bool := (List.range 3).map fun (i : Nat) => decide ((i : Int) = k)
def sp__law_refused (P : Program) (w : World) (K : PySem.W.Frag) (mg : Str → Option Value) (base : Heap) (A : Ad) : Sp := fun vs H Q _ => ∃ (f : Addr) (sp : Sp) (v : V) (k : Int), vs = [.ref f, v, .int k] ∧ (0 ≤ k ∧ k < 3) ∧
  LamRun P w K mg base (L2N.CX P w) 4 H f sp ∧ (∀ H1 (Q1 : VK) (E1 : XK), Ex H H1 → RetE H1 (cls3 A k) E1 → sp [v] H1 Q1 E1) ∧ RetV H (.bl true) Q
theorem len__law_refused {vs : List V} {H : Hp} {Q : VK} {E : XK} (h : sp__law_refused P w K mg base A vs H Q E) : vs.length = 3 := by
  obtain ⟨_, _, _, _, rfl, _⟩ := h
  rfl
theorem ok__law_refused (T : TX K mg A) : Ok P w K mg base CX0 6 A._law_refused ["_law_ask", "_law_thing", "_law_due"] (sp__law_refused P w K mg base A) := by
  obtain ⟨fd, F⟩ := T.F__law_refused
  refine ⟨fd, ?_, F.binds (ps := ["_law_ask", "_law_thing", "_law_due"]) fun _ _ _ _ _ _ us hl => match us, hl with | [_, _, _], _ => rfl, F.kp⟩
  refine F.ok sc__law_refused (fun vs H Q E h => len__law_refused h) (fun cdv Ar outer s H vs Q E hr h => ?_)
  have nd := sc__law_refused.nd
  have hu := hu_of hr
  obtain ⟨f, sp, v, k, rfl, ⟨hk0, hk1⟩, lr, hsp, q⟩ := h
  refine ⟨_, (pss_cons (L2N.ps_try_as (i := 3) rfl rfl nd rfl rfl ⟨rfl, by decide, .inl T.g_TieError⟩ takesN (fun W pn xe tk _ => (pss_one (ps_expr (pe_callLamK P w K mg base (CX := L2N.CX P w) (k := 4) (i := 0) (hr.mono (by decide)) (by rfl) (by first | exact .inl rfl | exact .inr (.inl rfl)) (fun σ => L2N.passAt tk σ) (pa_cons (pv 1) pa_nil))))) (fun a oe cls d pn hz hf => (pss_cons (ps_set (i := 4) nd rfl (by first | exact .inl rfl | exact .inr rfl) (pe_lst (pa_cons (pe_callB (isEK K hz.zc hf) (by rfl) T.n_isinstance (by decide +kernel) (pa_cons (pv 3) (pa_cons (pe_glob (v := .ref A.BadPlaces) rfl T.g_BadPlaces rfl) pa_nil))) (pa_cons (pe_callB (isEK K hz.zc hf) (by rfl) T.n_isinstance (by decide +kernel) (pa_cons (pv 3) (pa_cons (pe_glob (v := .ref A.BadTies) rfl T.g_BadTies rfl) pa_nil))) (pa_cons (pe_callB (isEK K hz.zc hf) (by rfl) T.n_isinstance (by decide +kernel) (pa_cons (pv 3) (pa_cons (pe_glob (v := .ref A.BadMany) rfl T.g_BadMany rfl) pa_nil))) pa_nil))))) (pss_one (ps_ret (pe_and (pe_cmpR (eqDK K hr.units) (pv 4) (pe_lcH (n := 3) (j := 5) (own := [("_law_kind", 5)]) (hot_of hz hf) nd (L2H.pi_range1H rfl T.n_range (pa_cons pe_int pa_nil)) (blkOk_by (by kernel_rfl)) rfl (fun _ _ _ _ _ => (pg_name (i := 5) nd rfl (by first | exact .inl rfl | exact .inr rfl))) (fun _ _ _ _ _ => (pe_cmpR op_eq (pv 5) (pv 2) (by first | exact nomark _ | rfl)))) (by first | exact nomark _ | rfl)) (pe_one (pe_callB (isEK K hz.zc hf) (by rfl) T.n_isinstance (by decide +kernel) (pa_cons (pv 3) (pa_cons (pe_bltn (v := .ty "ValueError") (by rfl) T.n_ValueError (by decide +kernel) rfl) pa_nil)))))))))) (pss_one (ps_ret pe_bl))), ?_⟩
  have suite : ∀ (C : Addr) (b1 b2 b3 : Bool), ExcC K C → PySem.W.kitOne K (.ref C) (.ref A.BadPlaces) = some b1 → PySem.W.kitOne K (.ref C) (.ref A.BadTies) = some b2 → PySem.W.kitOne K (.ref C) (.ref A.BadMany) = some b3 → PySem.W.kitOne K (.ref C) (.type "ValueError") = some true →
      [b1, b2, b3] = toldK k → ∀ (a : Addr) (H' : Hp) (Dn : Ends), Ex H H' → Dn.rt = Q → tSeq (tAsg (tLst (tCons (tCB (rIsE2 K (.ref C) none a) (tCons (tVar 3) (tCons (tC (.ref A.BadPlaces)) tNil))) (tCons (tCB (rIsE2 K (.ref C) none a) (tCons (tVar 3) (tCons (tC (.ref A.BadTies)) tNil))) (tCons (tCB (rIsE2 K (.ref C) none a) (tCons (tVar 3) (tCons (tC (.ref A.BadMany)) tNil))) tNil)))) (gName 4))
        (tRet (tAndV (tOp (rEqD K) (tVar 4) (tLcH (iRng1 (tCons (tC (.int 3)) tNil)) 3 5 (tOp rEq (tVar 5) (tVar 2)) [5])) (tCB (rIsE2 K (.ref C) none a) (tCons (tVar 3) (tCons (tC (.ty "ValueError")) tNil))))) Dn [some (.ref f), some v, some (.int k), some (.ref a), none, none] H' := fun C b1 b2 b3 hC c1 c2 c3 cv hbs a H' Dn e hrt => by
    have eb : Ex (fun _ => none) H' := fun a o h => (nomatch h)
    refine q_asgN (B := fun _ => none) (ds := [b1, b2, b3].map PyData.bool) (en_lst (eds_cons (edb eb (ev_isE rfl hC c1)) (eds_cons (edb eb (ev_isE rfl hC c2)) (eds_cons (edb eb (ev_isE rfl hC c3)) (eds_nil eb))))) fun lf xf B1 H1 g1 n1 nb1 h1 kf => ?_
    have gx := fixD g1 n1 nb1 h1
    have kF : Da (upd B1 lf (.lst xf)) (.ref lf) (.list ([b1, b2, b3].map PyData.bool)) := .lst upd_same (kf.ex (Ex.new nb1))
    have eb1 := gx.bh
    have hl := EvN.toD (en_lcH (σ := [some (.ref f), some v, some (.int k), some (.ref a), some (.ref lf), none]) (B := upd B1 lf (.lst xf)) (H := H1) (wi := iRng1 (tCons (tC (.int 3)) tNil)) (n := 3) (j := 5) (te := tOp rEq (tVar 5) (tVar 2)) (own := [5]) (fun i => .bl (decide ((i : Int) = k))) (fun i => .bool (decide ((i : Int) = k))) eb1
      (fun H1 R q => ⟨3, rfl, by decide, by decide, q⟩) (by simp) (Nat.le_of_ble_eq_true rfl) (fun i B1 _ => .bl _) fun i H1 _ _ => ev_eqI (ev_var (i := 5) rfl) (ev_var (i := 2) rfl))
    have e3 : (List.range 3).map (fun (i : Nat) => PyData.bool (decide ((i : Int) = k))) = (toldK k).map PyData.bool := by unfold toldK; rw [List.map_map]; rfl
    rw [e3] at hl
    refine Evl.s_ret (v := .bl true) (ev_is (Evl.ev_andV (a := true) (b := true) (ev_is (ev_eqD (K := K) (ed_var (n := 4) eb1 rfl kF) hl (sh_bools _).ok (sh_bools _).ok) ?_) fun _ => ev_isEV rfl hC cv) rfl) fun H2 e2 => ?_
    · rw [eqv_bools, hbs, decide_eq_true rfl]
    · rw [hrt]; exact q H2 (e.trans (gx.hh.trans e2))
  refine sq ⟨f, sp, rfl, lr, v, rfl, rfl, lr, hsp H _ _ (Ex.refl H) fun H4 e4 => ?_⟩
  have hk : k = 0 ∨ k = 1 ∨ k = 2 := by omega
  rcases hk with rfl | rfl | rfl
  · exact ⟨true, T.h_BadPlaces, fun _ a _ => suite A.BadPlaces true false false T.e_BadPlaces T.j_BadPlaces_BadPlaces T.j_BadPlaces_BadTies T.j_BadPlaces_BadMany T.v_BadPlaces (by decide) a H4 _ e4 rfl, fun z => nomatch z⟩
  · exact ⟨true, T.h_BadTies, fun _ a _ => suite A.BadTies false true false T.e_BadTies T.j_BadTies_BadPlaces T.j_BadTies_BadTies T.j_BadTies_BadMany T.v_BadTies (by decide) a H4 _ e4 rfl, fun z => nomatch z⟩
  · exact ⟨true, T.h_BadMany, fun _ a _ => suite A.BadMany false false true T.e_BadMany T.j_BadMany_BadPlaces T.j_BadMany_BadTies T.j_BadMany_BadMany T.v_BadMany (by decide) a H4 _ e4 rfl, fun z => nomatch z⟩

end
end TW
set_option Elab.async false
set_option linter.all false
set_option maxRecDepth 100000
set_option maxHeartbeats 4000000
namespace TW
open PySem PySem.Spec PyProof.Rows L2 TM TB
open Evl (Ex Ex.refl Ex.trans Ex.new Ex.mut Ev EvT EvA ev_var ev_c ev_op rv_I0 rv_I rv_eq rv_ne et_test et_B et_and et_or et_not et_is ev_is sz_of sz_lt fresh_back)
section
variable {P : Program} {w : World} {K : PySem.W.Frag} {mg : Str → Option Value} {base : Heap} {A : Ad}
/-! ### full lists with one bad amid -/
def q_bad : Str := (envOfC "_law_bad_right" (defScope s__law_bad_right) 0 0 .none).qual ++ "<lambda>"
theorem no_web {n m : Int} {d : PyData} {ts : List Tie} (hT : okT n d = false) (e1 : PyData.int n = .int m) (e2 : d = tiesD ts) (w : Web m ts) (hl : ts.length ≤ 120) : False := by
  cases e1
  subst e2
  rw [okT_of w hl] at hT
  cases hT
theorem bad_halved {A : Ad} {B H : Hp} {n : Int} {d : PyData} {v : V} {Q : VK} {E : XK} (hP : okP (.int n) = true) (hT : okT n d = false) (eb : Ex B H) (kd : Da B v d) (r : RetE H A.BadTies E) : sp_halved A [.int n, v] H Q E := by
  refine ⟨.int n, d, B, eb, .cons (.int _) (.cons kd .nil), fun z => ?_, fun _ _ _ _ => r, fun m ts e1 e2 _ _ w hl _ => (no_web hT e1 e2 w hl).elim⟩
  rw [hP] at z
  cases z
theorem bad_nearly {A : Ad} {B H : Hp} {n : Int} {d : PyData} {v : V} {Q : VK} {E : XK} (hP : okP (.int n) = true) (hT : okT n d = false) (eb : Ex B H) (kd : Da B v d) (r : RetE H A.BadTies E) : sp_nearly A [.int n, v] H Q E := by
  refine ⟨.int n, d, B, eb, .cons (.int _) (.cons kd .nil), fun z => ?_, fun _ _ _ _ => r, fun m ts e1 e2 _ _ w hl => (no_web hT e1 e2 w hl).elim⟩
  rw [hP] at z
  cases z
theorem bad_shared {A : Ad} {B H : Hp} {n : Int} {d : PyData} {v : V} {Q : VK} {E : XK} (hP : okP (.int n) = true) (hT : okT n d = false) (eb : Ex B H) (kd : Da B v d) (r : RetE H A.BadTies E) : sp_shared A [.int n, v, .non] H Q E := by
  refine ⟨.int n, d, .none, B, eb, .cons (.int _) (.cons kd (.cons .non .nil)), fun z => ?_, fun _ _ _ _ => r, fun m e _ z => ?_, fun m ts many e1 e2 e3 => nomatch e3⟩
  · rw [hP] at z
    cases z
  · cases e
    rw [hT] at z
    cases z
theorem bad_places {A : Ad} {B H : Hp} {d : PyData} {v : V} {Q : VK} {E : XK} (hP : okP d = false) (eb : Ex B H) (kd : Da B v d) (r : RetE H A.BadPlaces E) : sp_halved A [v, .non] H Q E := by
  refine ⟨d, .none, B, eb, .cons kd (.cons .non .nil), fun _ => r, fun m e z => ?_, fun m ts e1 e2 => nomatch e2⟩
  rw [hP] at z
  cases z
theorem bad_many {A : Ad} {B H : Hp} {d : PyData} {v l : V} {Q : VK} {E : XK} (hM : okM d = false) (eb : Ex B H) (kl : Da B l (tiesD [(0, 1)])) (kd : Da B v d) (r : RetE H A.BadMany E) : sp_shared A [.int 2, l, v] H Q E := by
  refine ⟨.int 2, tiesD [(0, 1)], d, B, eb, .cons (.int _) (.cons kl (.cons kd .nil)), fun z => ?_, fun m e _ z => ?_, fun _ _ _ _ _ => r, fun m ts many e1 e2 e3 _ _ _ _ h => ?_⟩
  · exact absurd z (by decide)
  · cases e
    rw [okT_of one_web (by decide)] at z
    cases z
  · subst e3
    have : okM (.int many) = true := decide_eq_true h
    rw [this] at hM
    cases hM
section
variable {σ : L2.St} {B H : Hp} {te : TE} {params : Arguments} {body : Expr} {scope : Scope} {d : PyData} {k : Int} {Dn : Ends} {tz tu : TS}
theorem refused_ok {Q : VK} (spL : Sp) (tabs : LamX.TabS H A.P_bad q_bad) (eb : Ex B H) (nP : B A.P_bad = none) (he : ∀ H1, Ex B H1 → EvD te σ B H1 d) (hk : 0 ≤ k ∧ k < 3)
    (hlam : ∀ (f c' : Addr) (pm ctv : Value) (H1 : Hp), H1 f = some (LamO f q_bad params body scope pm c' ctv) → H1 c' = some (LamX.CodeO c' q_bad) → LamRun P w K mg base (L2N.CX P w) 4 H1 f spL)
    (hsp : ∀ B1 v H1 (Q1 : VK) (E1 : XK), Ex B1 H1 → Da B1 v d → RetE H1 (cls3 A k) E1 → spL [v] H1 Q1 E1)
    (q : ∀ H1, Ex B H1 → LamX.TabS H1 A.P_bad q_bad → Q (.bl true) H1) :
    tCall (sp__law_refused P w K mg base A) [] E0 (tCons (tLamN A.P_bad q_bad params body scope) (tCons te (tCons (tC (.int k)) tNil))) σ H Q := by
  refine ⟨tabs, fun f c' pm ctv H1 ex t1 _ hf hc => ?_⟩
  have eb1 : Ex B H1 := fun a o h => ex a o (fun z => by rw [z, nP] at h; cases h) (eb a o h)
  show te σ H1 _
  refine he H1 eb1 H1 (Ex.refl _) _ fun v B2 H2 g kd => ?_
  exact ⟨f, spL, v, k, rfl, hk, (hlam f c' pm ctv H1 hf hc).ex g.hh, fun H3 Q1 E1 e3 r => hsp B2 v H3 Q1 E1 (g.bh.trans e3) kd r, fun H3 e3 => q H3 (eb1.trans (g.hh.trans e3)) ((t1.ext g.hh).ext e3)⟩
theorem q_refused (spL : Sp) (tabs : LamX.TabS H A.P_bad q_bad) (eb : Ex B H) (nP : B A.P_bad = none) (he : ∀ H1, Ex B H1 → EvD te σ B H1 d) (hk : 0 ≤ k ∧ k < 3)
    (hlam : ∀ (f c' : Addr) (pm ctv : Value) (H1 : Hp), H1 f = some (LamO f q_bad params body scope pm c' ctv) → H1 c' = some (LamX.CodeO c' q_bad) → LamRun P w K mg base (L2N.CX P w) 4 H1 f spL)
    (hsp : ∀ B1 v H1 (Q1 : VK) (E1 : XK), Ex B1 H1 → Da B1 v d → RetE H1 (cls3 A k) E1 → spL [v] H1 Q1 E1)
    (q : ∀ H1, Ex B H1 → LamX.TabS H1 A.P_bad q_bad → tz Dn σ H1) :
    tSeq (tIfS (tNot (tB (tCall (sp__law_refused P w K mg base A) [] E0 (tCons (tLamN A.P_bad q_bad params body scope) (tCons te (tCons (tC (.int k)) tNil)))))) tu tNext) tz Dn σ H :=
  refused_ok (A := A) (B := B) (d := d) spL tabs eb nP he hk hlam hsp fun H1 e1 t1 => ⟨true, rfl, by
    show if (!true) = true then _ else _
    rw [if_neg (by decide)]
    exact q H1 e1 t1⟩
theorem s_refused (spL : Sp) (tabs : LamX.TabS H A.P_bad q_bad) (eb : Ex B H) (nP : B A.P_bad = none) (he : ∀ H1, Ex B H1 → EvD te σ B H1 d) (hk : 0 ≤ k ∧ k < 3)
    (hlam : ∀ (f c' : Addr) (pm ctv : Value) (H1 : Hp), H1 f = some (LamO f q_bad params body scope pm c' ctv) → H1 c' = some (LamX.CodeO c' q_bad) → LamRun P w K mg base (L2N.CX P w) 4 H1 f spL)
    (hsp : ∀ B1 v H1 (Q1 : VK) (E1 : XK), Ex B1 H1 → Da B1 v d → RetE H1 (cls3 A k) E1 → spL [v] H1 Q1 E1)
    (q : ∀ H1, Ex B H1 → LamX.TabS H1 A.P_bad q_bad → Dn.nx σ H1) :
    tIfS (tNot (tB (tCall (sp__law_refused P w K mg base A) [] E0 (tCons (tLamN A.P_bad q_bad params body scope) (tCons te (tCons (tC (.int k)) tNil)))))) tu tNext Dn σ H :=
  refused_ok (A := A) (B := B) (d := d) spL tabs eb nP he hk hlam hsp fun H1 e1 t1 => ⟨true, rfl, by
    show if (!true) = true then _ else _
    rw [if_neg (by decide)]
    exact q H1 e1 t1⟩
end
def badL : List PyData := [.tuple [.int 1, .int 0], .tuple [.int 0, .int 0], .tuple [.int 0, .int 40], .tuple [.int (-1), .int 2], .tuple [.bool true, .int 2], .list [.int 0, .int 1], .tuple [.int 0, .int 1, .int 2], .none]
theorem badL_no : ∀ d ∈ badL, tieB 40 d = false := fun d hd => by
  have h : d = .tuple [.int 1, .int 0] ∨ d = .tuple [.int 0, .int 0] ∨ d = .tuple [.int 0, .int 40] ∨ d = .tuple [.int (-1), .int 2] ∨ d = .tuple [.bool true, .int 2] ∨ d = .list [.int 0, .int 1] ∨ d = .tuple [.int 0, .int 1, .int 2] ∨ d = .none := by simpa [badL] using hd
  rcases h with rfl | rfl | rfl | rfl | rfl | rfl | rfl | rfl <;> rfl
def wheel : List Tie := (List.range 120).map fun (i : Nat) => (0, 1 + (i : Int) % 39)
theorem amid_no {d : PyData} (h : tieB 40 d = false) (xs ys : List PyData) : okT 40 (.list (xs ++ [d] ++ ys)) = false := by
  show (decide _ && (xs ++ [d] ++ ys).all (tieB 40)) = false
  have : (xs ++ [d] ++ ys).all (tieB 40) = false := by rw [List.all_append, List.all_append, List.all_cons, h]; simp
  rw [this, Bool.and_false]
theorem gr_no {B H B' H' : Hp} {p : Addr} {q : Str} (g : Gr B H B' H') (t : LamX.TabS H p q) (n : B p = none) : B' p = none := g.old p (by obtain ⟨ps, h, _⟩ := t; rw [h]; exact fun z => by cases z) n

end
end TW
set_option Elab.async false
set_option linter.all false
set_option maxRecDepth 100000
set_option maxHeartbeats 4000000
namespace TW
open PySem PySem.Spec PyProof.Rows L2 TM TB
open Evl (Ex Ex.refl Ex.trans Ex.new Ex.mut Ev EvT EvA ev_var ev_c ev_op rv_I0 rv_I rv_eq rv_ne et_test et_B et_and et_or et_not et_is ev_is sz_of sz_lt fresh_back)
section
variable {P : Program} {w : World} {K : PySem.W.Frag} {mg : Str → Option Value} {base : Heap} {A : Ad}
def sp__law_bad_right (A : Ad) : Sp := fun vs H Q _ => ∃ (W : Int), vs = [.int W] ∧ LamX.TabS H A.P_bad q_bad ∧ ∀ H', Q (.bl true) H'
theorem len__law_bad_right {vs : List V} {H : Hp} {Q : VK} {E : XK} (h : sp__law_bad_right A vs H Q E) : vs.length = 1 := by
  obtain ⟨_, rfl, _⟩ := h
  rfl
def badP5 : List PyData := [.int 0, .int 41, .bool true, .none, .str "2"]
theorem badP5_no : ∀ d ∈ badP5, okP d = false := fun d hd => by
  have h : d = .int 0 ∨ d = .int 41 ∨ d = .bool true ∨ d = .none ∨ d = .str "2" := by simpa [badP5] using hd
  rcases h with rfl | rfl | rfl | rfl | rfl <;> rfl
def badM4 : List PyData := [.int 0, .int (-1), .bool true, .none]
theorem badM4_no : ∀ d ∈ badM4, okM d = false := fun d hd => by
  have h : d = .int 0 ∨ d = .int (-1) ∨ d = .bool true ∨ d = .none := by simpa [badM4] using hd
  rcases h with rfl | rfl | rfl | rfl <;> rfl
theorem tabS_upd {H : Hp} {P D : Addr} {q : Str} {l l' : List V} (t : LamX.TabS H P q) (h : H D = some (.lst l)) : LamX.TabS (upd H D (.lst l')) P q := by
  obtain ⟨ps, h1, h2, h3⟩ := t
  have n : P ≠ D := fun z => by rw [z, h] at h1; cases h1
  refine ⟨ps, by rw [upd_ne n]; exact h1, h2, fun pos cv hc => ?_⟩
  obtain ⟨c, e1, e2⟩ := h3 pos cv hc
  have n2 : c ≠ D := fun z => by
    rw [z, h] at e2
    unfold LamX.CodeO at e2
    cases e2
  exact ⟨c, e1, by rw [upd_ne n2]; exact e2⟩
theorem yes_if {σ : L2.St} {H : Hp} {a b : Hp → Prop} (h : a H) : tYes σ H (fun c H3 => if c = true then a H3 else b H3) := by
  show if true = true then a H else b H
  rw [if_pos rfl]
  exact h
theorem ret_allL {σ : L2.St} {H : Hp} {Dn : Ends} {tl te : TE} {g : TG} {vs : List Nat} (h : tl σ H fun x H1 => ∃ a, x = .ref a ∧ (∃ xs, SqL K H1 a xs) ∧ tLc (fun _ H R => R (Itl K a) H) g tYes te vs σ H1 fun v H2 => rAll K [v] H2 Dn.rt) : tRet (tCB (rAll K) (tCons (tLc (iList K tl) g tYes te vs) tNil)) Dn σ H := h
theorem ok__law_bad_right (T : TX K mg A) (tb : LamX.TabB base mg A.c_bad A.P_bad) : Ok P w K mg base CX0 7 A._law_bad_right ["_law_whole"] (sp__law_bad_right A) := by
  obtain ⟨fd, C, F⟩ := T.C__law_bad_right
  obtain ⟨fd_halved, G_halved, B_halved, K_halved⟩ := ok_halved (P := P) (w := w) (base := base) T
  obtain ⟨fd_shared, G_shared, B_shared, K_shared⟩ := ok_shared (P := P) (w := w) (base := base) T
  obtain ⟨fd_nearly, G_nearly, B_nearly, K_nearly⟩ := ok_nearly (P := P) (w := w) (base := base) T
  obtain ⟨fd__law_refused, G__law_refused, B__law_refused, K__law_refused⟩ := ok__law_refused (P := P) (w := w) (base := base) T
  refine ⟨fd, ?_, F.binds (ps := ["_law_whole"]) fun _ _ _ _ _ _ us hl => match us, hl with | [_], _ => rfl, F.kp⟩
  refine C.ok sc__law_bad_right (fun vs H Q E h => len__law_bad_right h) (fun Ar outer s H vs Q E hr h => ?_)
  have nd := sc__law_bad_right.nd
  have hu := hu_of hr
  obtain ⟨W, rfl, tabs, q⟩ := h
  refine ⟨_, (pss_cons (ps_setLc (i := 1) (own := [("_law_at", 5)]) (g := gName 5) (tt := tYes)  rfl nd rfl rfl (sw_true rfl rfl rfl (by decide +kernel))  (pi_range1 rfl T.n_range (pa_cons pe_int pa_nil)) (blkOk_by (by kernel_rfl)) (fun _ _ _ _ _ => (pg_name (i := 5) nd rfl (by first | exact .inl rfl | exact .inr rfl))) (fun _ _ _ _ _ => pts_nil) (fun _ _ _ _ _ => (pe_tup (pa_cons pe_int (pa_cons (pe_op op_add pe_int (pe_op op_mod (pv 5) pe_int)) pa_nil))))) (pss_cons (ps_for PassesOwn.never rfl (listK K (pe_lst (pa_cons (pe_op op_mod (pv 0) pe_int) (pa_cons pe_int (pa_cons pe_int pa_nil))))) (pg_name (i := 2) nd rfl (by first | exact .inl rfl | exact .inr rfl)) (pss_one (ps_for PassesOwn.never rfl (listK K (pe_lst (pa_cons (pe_tup (pa_cons pe_int (pa_cons pe_int pa_nil))) (pa_cons (pe_tup (pa_cons pe_int (pa_cons pe_int pa_nil))) (pa_cons (pe_tup (pa_cons pe_int (pa_cons pe_int pa_nil))) (pa_cons (pe_tup (pa_cons (pe_un un_neg pe_int) (pa_cons pe_int pa_nil))) (pa_cons (pe_tup (pa_cons pe_bl (pa_cons pe_int pa_nil))) (pa_cons (pe_lst (pa_cons pe_int (pa_cons pe_int pa_nil))) (pa_cons (pe_tup (pa_cons pe_int (pa_cons pe_int (pa_cons pe_int pa_nil)))) (pa_cons pe_non pa_nil)))))))))) (pg_name (i := 3) nd rfl (by first | exact .inl rfl | exact .inr rfl)) (pss_cons (ps_set (i := 4) nd rfl (by first | exact .inl rfl | exact .inr rfl) (pe_op op_cat (pe_op op_cat (pe_slice (sl_listK K) (pv 1) po_none (po_some (pv 2))) (pe_lst (pa_cons (pv 3) pa_nil))) (pe_slice (sl_listK K) (pv 1) (po_some (pe_op op_add (pv 2) pe_int)) po_none))) (pss_cons (ps_if (pt_not (pt_val (pe_call G__law_refused (hr.mono (by decide)) (by rfl) T.g__law_refused K__law_refused B__law_refused .nil pass0 (pa_cons (pe_lam (c := A.c_bad) (P := A.P_bad) (q := q_bad) tb rfl rfl (by rfl) (by decide)) (pa_cons (pv 4) (pa_cons pe_int pa_nil)))))) (pss_one (ps_ret pe_bl)) pss_nil) (pss_one (ps_if (pt_not (pt_val (pe_call G__law_refused (hr.mono (by decide)) (by rfl) T.g__law_refused K__law_refused B__law_refused .nil pass0 (pa_cons (pe_lam (c := A.c_bad) (P := A.P_bad) (q := q_bad) tb rfl rfl (by rfl) (by decide)) (pa_cons (pv 4) (pa_cons pe_int pa_nil)))))) (pss_one (ps_ret pe_bl)) pss_nil))))))) (pss_cons (ps_if (pt_not (pt_val (pe_call G__law_refused (hr.mono (by decide)) (by rfl) T.g__law_refused K__law_refused B__law_refused .nil pass0 (pa_cons (pe_lam (c := A.c_bad) (P := A.P_bad) (q := q_bad) tb rfl rfl (by rfl) (by decide)) (pa_cons (pe_op op_cat (pv 1) (pe_lst (pa_cons (pe_tup (pa_cons pe_int (pa_cons pe_int pa_nil))) pa_nil))) (pa_cons pe_int pa_nil)))))) (pss_one (ps_ret pe_bl)) pss_nil) (pss_cons (ps_if (pt_not (pt_val (pe_call G__law_refused (hr.mono (by decide)) (by rfl) T.g__law_refused K__law_refused B__law_refused .nil pass0 (pa_cons (pe_lam (c := A.c_bad) (P := A.P_bad) (q := q_bad) tb rfl rfl (by rfl) (by decide)) (pa_cons (pe_tup (pa_cons (pe_tup (pa_cons pe_int (pa_cons pe_int pa_nil))) pa_nil)) (pa_cons pe_int pa_nil)))))) (pss_one (ps_ret pe_bl)) pss_nil) (pss_cons (ps_for PassesOwn.never rfl (listK K (pe_lst (pa_cons pe_int (pa_cons pe_int (pa_cons pe_bl (pa_cons pe_non (pa_cons pe_str pa_nil))))))) (pg_name (i := 3) nd rfl (by first | exact .inl rfl | exact .inr rfl)) (pss_one (ps_if (pt_not (pt_val (pe_call G__law_refused (hr.mono (by decide)) (by rfl) T.g__law_refused K__law_refused B__law_refused .nil pass0 (pa_cons (pe_lam (c := A.c_bad) (P := A.P_bad) (q := q_bad) tb rfl rfl (by rfl) (by decide)) (pa_cons (pv 3) (pa_cons pe_int pa_nil)))))) (pss_one (ps_ret pe_bl)) pss_nil))) (pss_one (ps_ret (pe_callB (allK K rfl) (by rfl) T.n_all (by decide +kernel) (pa_cons (pe_lc (own := [("_law_bad", 3)]) (g := gName 3) (tt := tYes)  rfl nd  (listK K (pe_lst (pa_cons pe_int (pa_cons (pe_un un_neg pe_int) (pa_cons pe_bl (pa_cons pe_non pa_nil)))))) (blkOk_by (by kernel_rfl)) (fun _ _ _ _ _ => (pg_name (i := 3) nd rfl (by first | exact .inl rfl | exact .inr rfl))) (fun _ _ _ _ _ => pts_nil) (fun _ _ _ _ _ => (pe_call G__law_refused (hr.mono (by decide)) (by rfl) T.g__law_refused K__law_refused B__law_refused .nil pass0 (pa_cons (pe_lam (c := A.c_bad) (P := A.P_bad) (q := q_bad) tb rfl rfl (by rfl) (by decide)) (pa_cons (pv 3) (pa_cons pe_int pa_nil)))))) pa_nil))))))))), ?_⟩
  have eb : Ex (fun _ => none) H := fun a o h => (nomatch h)
  -- the wheel
  refine q_asgN (B := fun _ => none) (ds := wheel.map tieD) ?_ fun lt xt B1 H1 g1 n1 nb1 h1 kt => ?_
  · have h := en_lcA (dt := fun (k : Nat) => PyData.int (k : Int)) (l := List.range (120 : Int).toNat) (te := tTup (tCons (tC (.int 0)) (tCons (tOp (rI0 fun i j => .int (i + j)) (tC (.int 1)) (tOp (rI (fun _ j => 0 < j) fun i j => .int (i % j)) (tVar 5) (tC (.int 39)))) tNil))) (vs := [5]) (j := 5) (σ := start ["_law_whole", "_law_ties", "_law_spot", "_law_bad", "_law_row", "_law_at"] [.int W]) (fun (i : Nat) => .tuple [.int 0, .int (1 + (i : Int) % 39)]) (ei_rg1 eb ev_c (by decide)) (by decide) fun a x B3 H3 _ e1 e2 e3 kx => by
      obtain rfl := kx.int_inv
      exact eT2 e3 (eI e3) (edi e3 (ev_I0 (g := fun i j => .int (i + j)) ev_c (ev_I (ev_var (i := 5) rfl) ev_c (C := fun _ j => 0 < j) (g := fun i j => .int (i % j)) (by decide))))
    have e : wheel.map tieD = (List.range (120 : Int).toNat).map fun (i : Nat) => PyData.tuple [.int 0, .int (1 + (i : Int) % 39)] := by
      unfold wheel
      rw [List.map_map]; rfl
    rw [e]; exact h
  have gx := fixD g1 n1 nb1 h1
  have kT : Da (upd B1 lt (.lst xt)) (.ref lt) (.list (wheel.map tieD)) := .lst upd_same (kt.ex (Ex.new nb1))
  have nP := gr_no gx tabs rfl
  have tabs := tabs.ext gx.hh
  have eb1 := gx.bh
  have hlw : (wheel.map tieD).length = 120 := by unfold wheel; simp
  generalize upd B1 lt (.lst xt) = B2 at kT nP eb1
  clear gx g1 n1 nb1 h1 kt
  have spot : 0 ≤ W % 120 ∧ W % 120 < 120 := ⟨Int.emod_nonneg _ (by decide), Int.emod_lt_of_pos _ (by decide)⟩
  refine q_for (B := B2) (dt := PyData.int) (P := (· = [W % 120, 119, 0])) (ei_list (K := K) (EvN.toD (en_lst (eds_cons (edi eb1 (ev_I (ev_var (i := 0) rfl) ev_c (C := fun _ j => 0 < j) (g := fun i j => .int (i % j)) (by decide))) (eds_cons (eI eb1) (eds_cons (eI eb1) (eds_nil eb1)))))))
    (fun l B3 i σ' H' => (Ex B2 B3 ∧ B3 A.P_bad = none ∧ LamX.TabS H' A.P_bad q_bad ∧ Ex B3 H') ∧ ∃ (y2 y3 y4 : Option V), σ' = [some (.int W), some (.ref lt), y2, y3, y4, none]) ?_ ?_ ?_ ?_
  · rintro l B3 H3 - g3
    exact ⟨⟨g3.bb, gr_no g3 tabs nP, tabs.ext g3.hh, g3.bh⟩, none, none, none, rfl⟩
  · rintro l B3 i σ' H' ⟨⟨_, _, _, e⟩, _⟩
    exact e
  · rintro l B3 i c x B4 σ' H' H4 rfl hi ⟨⟨e23, nP3, t3, e3⟩, y2, y3, y4, rfl⟩ g4 kx
    obtain rfl := kx.int_inv
    have hc : 0 ≤ c ∧ c < 120 := by
      have : c = W % 120 ∨ c = 119 ∨ c = 0 := by simpa using List.mem_of_getElem? hi
      rcases this with e | e | e <;> rw [e]
      · exact spot
      · decide
      · decide
    have nP4 := gr_no g4 t3 nP3
    have t4 := t3.ext g4.hh
    have e4 := g4.bh
    refine s_for (B := B4) (dt := id) (P := (· = badL)) (ei_list (K := K) (l := badL) (dt := id) (EvN.toD (en_lst (hl := Nat.le_of_ble_eq_true rfl) (eds_cons (eT2 e4 (eI e4) (eI e4)) (eds_cons (eT2 e4 (eI e4) (eI e4)) (eds_cons (eT2 e4 (eI e4) (eI e4)) (eds_cons (eT2 e4 (edi e4 (ev_neg ev_c)) (eI e4)) (eds_cons (eT2 e4 (eB e4) (eI e4)) (eds_cons (eL2 e4 (eI e4) (eI e4)) (eds_cons (ed_tup (eds_cons (eI e4) (eds_cons (eI e4) (eds_cons (eI e4) (eds_nil e4))))) (eds_cons (eN e4) (eds_nil e4))))))))))))
      (fun l2 B5 j σ2 H5 => (Ex B4 B5 ∧ B5 A.P_bad = none ∧ LamX.TabS H5 A.P_bad q_bad ∧ Ex B5 H5) ∧ ∃ (y3 y4 : Option V), σ2 = [some (.int W), some (.ref lt), some (.int c), y3, y4, none]) ?_ ?_ ?_ ?_
    · rintro l2 B5 H5 - g5
      exact ⟨⟨g5.bb, gr_no g5 t4 nP4, t4.ext g5.hh, g5.bh⟩, _, _, rfl⟩
    · rintro l2 B5 j σ2 H5 ⟨⟨_, _, _, e⟩, _⟩
      exact e
    · rintro l2 B5 j d x B6 σ2 H5 H6 rfl hj ⟨⟨e45, nP5, t5, e5⟩, y3, y4, rfl⟩ g6 kd
      have hd := badL_no d (List.mem_of_getElem? hj)
      have nP6 := gr_no g6 t5 nP5
      have t6 := t5.ext g6.hh
      have e6 := g6.bh
      have kT6 := kT.ex (((e23.trans g4.bb).trans e45).trans g6.bb)
      have hrow : EvN (tOp rCat (tOp rCat (tSl (rSlL K) (tVar 1) tNoPart (tPart (tVar 2))) (tLst (tCons (tVar 3) tNil))) (tSl (rSlL K) (tVar 1) (tPart (tOp (rI0 fun i j => .int (i + j)) (tVar 2) (tC (.int 1)))) tNoPart)) [some (.int W), some (.ref lt), some (.int c), some x, y4, none] B6 H6 ((wheel.map tieD).take c.toNat ++ [d] ++ (wheel.map tieD).drop (c.toNat + 1)) := by
        have h1 := en_sl (K := K) (te := tVar 1) (σ := [some (.int W), some (.ref lt), some (.int c), some x, y4, none]) (ed_var (n := 1) e6 rfl kT6) Evl.eo_none (Evl.eo_some (i := ((c.toNat : Nat) : Int)) (by rw [Int.toNat_of_nonneg hc.1]; exact ev_var (i := 2) rfl))
        have h2 := en_sl (K := K) (te := tVar 1) (σ := [some (.int W), some (.ref lt), some (.int c), some x, y4, none]) (ed_var (n := 1) e6 rfl kT6) (Evl.eo_some (te := tOp (rI0 fun i j => .int (i + j)) (tVar 2) (tC (.int 1))) (i := ((c.toNat + 1 : Nat) : Int)) (by
          have e : ((c.toNat + 1 : Nat) : Int) = c + 1 := by omega
          rw [e]; exact ev_I0 (g := fun i j => .int (i + j)) (ev_var (i := 2) rfl) ev_c)) Evl.eo_none
        rw [cutD_to] at h1
        rw [cutD_from] at h2
        exact en_cat (EvN.toD (en_cat h1.toD (EvN.toD (en_lst (eds_cons (ed_var (n := 3) e6 rfl kd) (eds_nil e6)))) (by rw [List.length_take, hlw]; simp; omega))) h2.toD (by rw [List.length_append, List.length_take, List.length_drop, hlw]; simp; omega)
      refine q_asgN hrow fun lr xr B7 H7 g7 n7 nb7 h7 kr => ?_
      have gx := fixD g7 n7 nb7 h7
      have kR : Da (upd B7 lr (.lst xr)) (.ref lr) (.list ((wheel.map tieD).take c.toNat ++ [d] ++ (wheel.map tieD).drop (c.toNat + 1))) := .lst upd_same (kr.ex (Ex.new nb7))
      have nP7 := gr_no gx t6 nP6
      have t7 := t6.ext gx.hh
      have e7 := gx.bh
      have e67 := gx.bb
      have hno := amid_no hd ((wheel.map tieD).take c.toNat) ((wheel.map tieD).drop (c.toNat + 1))
      generalize upd B7 lr (.lst xr) = B8 at kR nP7 e7 e67
      refine q_refused (A := A) (B := B8) (fun vs H Q E => ∃ v, vs = [v] ∧ sp_halved A [.int 40, v] H Q E) t7 e7 nP7 (fun H e => ed_var (n := 4) e rfl kR) (by decide) (fun f c' pm ctv H1 hf hc => ⟨_, _, _, _, pm, c', ctv, "_law_one", hf, hc, ⟨rfl, rfl, rfl, by decide +kernel, rfl, by decide +kernel, by decide +kernel⟩, fun u => rfl, fun Al outl sl Hl v Ql El hr2 hl => ?_⟩)
        (fun B1 v H1 Q1 E1 e1 k1 r => ⟨v, rfl, bad_halved (by decide) hno e1 k1 r⟩) fun H9 e9 t9 => ?_
      · obtain ⟨v', e, hl⟩ := hl
        cases e
        exact ⟨_, (pe_call G_halved (hr2.mono (by decide)) (by rfl) T.g_halved K_halved B_halved .nil (L2N.passes_call (L2N.takes_of rfl rfl rfl rfl) fun _ _ _ _ h => h) (pa_cons pe_int (pa_cons (pv 0) pa_nil))), v, rfl, hl⟩
      refine s_refused (A := A) (B := B8) (fun vs H Q E => ∃ v, vs = [v] ∧ sp_shared A [.int 40, v, .non] H Q E) t9 e9 nP7 (fun H e => ed_var (n := 4) e rfl kR) (by decide) (fun f c' pm ctv H1 hf hc => ⟨_, _, _, _, pm, c', ctv, "_law_two", hf, hc, ⟨rfl, rfl, rfl, by decide +kernel, rfl, by decide +kernel, by decide +kernel⟩, fun u => rfl, fun Al outl sl Hl v Ql El hr2 hl => ?_⟩)
        (fun B1 v H1 Q1 E1 e1 k1 r => ⟨v, rfl, bad_shared (by decide) hno e1 k1 r⟩) fun H10 e10 t10 => ?_
      · obtain ⟨v', e, hl⟩ := hl
        cases e
        exact ⟨_, (pe_call G_shared (hr2.mono (by decide)) (by rfl) T.g_shared K_shared B_shared .nil (L2N.passes_call (L2N.takes_of rfl rfl rfl rfl) fun _ _ _ _ h => h) (pa_cons pe_int (pa_cons (pv 0) (pa_cons pe_non pa_nil)))), v, rfl, hl⟩
      exact ⟨⟨e45, nP5, t10, (g6.bb.trans e67).trans e10⟩, _, _, rfl⟩
    · rintro l2 B5 σ2 H5 - ⟨⟨e45, nP5, t5, e5⟩, y3, y4, rfl⟩
      exact ⟨⟨e23, nP3, t5, (g4.bb.trans e45).trans e5⟩, _, _, _, rfl⟩
  rintro l B3 σ' H3 - ⟨⟨e23, nP3, t3, e3⟩, y2, y3, y4, rfl⟩
  have kT := kT.ex e23
  refine q_refused (A := A) (B := B3) (d := .list (wheel.map tieD ++ [tieD (0, 1)])) (fun vs H Q E => ∃ v, vs = [v] ∧ sp_nearly A [.int 40, v] H Q E) t3 e3 nP3 (fun H e => EvN.toD (en_cat (ed_var (n := 1) e rfl kT) (EvN.toD (en_lst (eds_cons (eT2 e (eI e) (eI e)) (eds_nil e)))) (by rw [hlw]; simp))) (by decide) (fun f c' pm ctv H1 hf hc => ⟨_, _, _, _, pm, c', ctv, "_law_one", hf, hc, ⟨rfl, rfl, rfl, by decide +kernel, rfl, by decide +kernel, by decide +kernel⟩, fun u => rfl, fun Al outl sl Hl v Ql El hr2 hl => ?_⟩)
    (fun B1 v H1 Q1 E1 e1 k1 r => ⟨v, rfl, bad_nearly (by decide) ?_ e1 k1 r⟩) fun H4 e4 t4 => ?_
  · obtain ⟨v', e, hl⟩ := hl
    cases e
    exact ⟨_, (pe_call G_nearly (hr2.mono (by decide)) (by rfl) T.g_nearly K_nearly B_nearly .nil (L2N.passes_call (L2N.takes_of rfl rfl rfl rfl) fun _ _ _ _ h => h) (pa_cons pe_int (pa_cons (pv 0) pa_nil))), v, rfl, hl⟩
  · show (decide ((wheel.map tieD ++ [tieD (0, 1)]).length ≤ 120) && (wheel.map tieD ++ [tieD (0, 1)]).all (tieB 40)) = false
    rw [List.length_append, hlw]; rfl
  refine q_refused (A := A) (B := B3) (d := .tuple [.tuple [.int 0, .int 1]]) (fun vs H Q E => ∃ v, vs = [v] ∧ sp_halved A [.int 2, v] H Q E) t4 e4 nP3 (fun H e => eT1 e (eT2 e (eI e) (eI e))) (by decide) (fun f c' pm ctv H1 hf hc => ⟨_, _, _, _, pm, c', ctv, "_law_one", hf, hc, ⟨rfl, rfl, rfl, by decide +kernel, rfl, by decide +kernel, by decide +kernel⟩, fun u => rfl, fun Al outl sl Hl v Ql El hr2 hl => ?_⟩)
    (fun B1 v H1 Q1 E1 e1 k1 r => ⟨v, rfl, bad_halved (by decide) rfl e1 k1 r⟩) fun H5 e5 t5 => ?_
  · obtain ⟨v', e, hl⟩ := hl
    cases e
    exact ⟨_, (pe_call G_halved (hr2.mono (by decide)) (by rfl) T.g_halved K_halved B_halved .nil (L2N.passes_call (L2N.takes_of rfl rfl rfl rfl) fun _ _ _ _ h => h) (pa_cons pe_int (pa_cons (pv 0) pa_nil))), v, rfl, hl⟩
  refine q_for (B := B3) (dt := id) (P := (· = badP5)) (ei_list (K := K) (l := badP5) (dt := id) (EvN.toD (en_lst (hl := Nat.le_of_ble_eq_true rfl) (eds_cons (eI e5) (eds_cons (eI e5) (eds_cons (eB e5) (eds_cons (eN e5) (eds_cons (eS e5) (eds_nil e5)))))))))
    (fun l2 B5 j σ2 H5 => (Ex B3 B5 ∧ B5 A.P_bad = none ∧ LamX.TabS H5 A.P_bad q_bad ∧ Ex B5 H5) ∧ ∃ (y2 y3 y4 : Option V), σ2 = [some (.int W), some (.ref lt), y2, y3, y4, none]) ?_ ?_ ?_ ?_
  · rintro l2 B5 H6 - g5
    exact ⟨⟨g5.bb, gr_no g5 t5 nP3, t5.ext g5.hh, g5.bh⟩, _, _, _, rfl⟩
  · rintro l2 B5 j σ2 H5 ⟨⟨_, _, _, e⟩, _⟩
    exact e
  · rintro l2 B5 j d x B6 σ2 H5 H6 rfl hj ⟨⟨e45, nP5, t5, e5⟩, y2, y3, y4, rfl⟩ g6 kd
    have hd := badP5_no d (List.mem_of_getElem? hj)
    have nP6 := gr_no g6 t5 nP5
    have t6 := t5.ext g6.hh
    have e6 := g6.bh
    refine s_refused (A := A) (B := B6) (fun vs H Q E => ∃ v, vs = [v] ∧ sp_halved A [v, .non] H Q E) t6 e6 nP6 (fun H e => ed_var (n := 3) e rfl kd) (by decide) (fun f c' pm ctv H1 hf hc => ⟨_, _, _, _, pm, c', ctv, "_law_places", hf, hc, ⟨rfl, rfl, rfl, by decide +kernel, rfl, by decide +kernel, by decide +kernel⟩, fun u => rfl, fun Al outl sl Hl v Ql El hr2 hl => ?_⟩)
      (fun B1 v H1 Q1 E1 e1 k1 r => ⟨v, rfl, bad_places hd e1 k1 r⟩) fun H10 e10 t10 => ?_
    · obtain ⟨v', e, hl⟩ := hl
      cases e
      exact ⟨_, (pe_call G_halved (hr2.mono (by decide)) (by rfl) T.g_halved K_halved B_halved .nil (L2N.passes_call (L2N.takes_of rfl rfl rfl rfl) fun _ _ _ _ h => h) (pa_cons (pv 0) (pa_cons pe_non pa_nil))), v, rfl, hl⟩
    exact ⟨⟨e45, nP5, t10, g6.bb.trans e10⟩, _, _, _, rfl⟩
  rintro l2 B5 σ2 H5 - ⟨⟨e45, nP5, t5, e5⟩, y2, y3, y4, rfl⟩
  -- all of the last
  have hM4 : EvN (tLst (tCons (tC (.int 0)) (tCons (tUn (rU fun i => .int (-i)) (tC (.int 1))) (tCons (tC (.bl true)) (tCons (tC .non) tNil))))) [some (.int W), some (.ref lt), y2, y3, y4, none] B5 H5 badM4 := en_lst (hl := Nat.le_of_ble_eq_true rfl) (eds_cons (eI e5) (eds_cons (edi e5 (ev_neg ev_c)) (eds_cons (eB e5) (eds_cons (eN e5) (eds_nil e5)))))
  refine ret_allL ?_
  refine hM4 H5 (Ex.refl _) _ fun lp xs B6 H6 g6 n6 nb6 h6 k6 => ?_
  have gx := fixD g6 n6 nb6 h6
  have nP6 := gr_no gx t5 nP5
  have t6 := t5.ext gx.hh
  have e6 := gx.bh
  have k7 := k6.ex (Ex.new (o := .lst xs) nb6)
  have hlp : upd B6 lp (.lst xs) lp = some (.lst xs) := upd_same
  have hlen : xs.length = 4 := k6.len
  generalize upd B6 lp (.lst xs) = B7 at nP6 e6 k7 hlp
  clear gx g6 n6 nb6 k6
  refine ⟨lp, rfl, ⟨_, SqL.of h6⟩, ?_⟩
  intro D hD
  have nD : B7 D = none := base_none e6 hD
  refine L2.lc_list (K := K) (xs := xs) (fun i H' => H' D = some (.lst (List.replicate i (.bl true))) ∧ LamX.TabS H' A.P_bad q_bad ∧ Ex B7 H') ⟨upd_same, t6.ext (Ex.new hD), e6.trans (Ex.new hD)⟩ (fun i H' _ hV => SqL.of (hV.2.2 _ _ hlp)) (fun i x H' hx hV => ?_) (fun H' hV => ?_)
  · obtain ⟨hD', t', e'⟩ := hV
    obtain ⟨d, hd, kd⟩ := k7.at hx
    have hno := badM4_no d (List.mem_of_getElem? hd)
    have hi : i < 4 := by rw [← hlen]; exact (List.getElem?_eq_some_iff.mp hx).1
    have e8 : Ex (upd B7 D (.lst (List.replicate i (.bl true)))) H' := fun a o h => by
      by_cases z : a = D
      · rw [z, upd_same] at h; cases h; rw [z]; exact hD'
      · rw [upd_ne z] at h; exact e' a o h
    have nP8 : upd B7 D (.lst (List.replicate i (.bl true))) A.P_bad = none := by
      have : A.P_bad ≠ D := fun z => by
        obtain ⟨ps, h, _⟩ := t'
        rw [z, hD'] at h; cases h
      rw [upd_ne this]; exact nP6
    refine ⟨rfl, ?_⟩
    refine yes_if ?_
    refine refused_ok (A := A) (B := upd B7 D (.lst (List.replicate i (.bl true)))) (d := d) (fun vs H Q E => ∃ v d B, vs = [v] ∧ Ex B H ∧ Da B v d ∧ okM d = false ∧ RetE H A.BadMany E) t' e8 nP8 (fun H e => ed_var (n := 3) e rfl (kd.ex (Ex.new nD))) (by decide) (fun f c' pm ctv H1 hf hc => ⟨_, _, _, _, pm, c', ctv, "_law_many", hf, hc, ⟨rfl, rfl, rfl, by decide +kernel, rfl, by decide +kernel, by decide +kernel⟩, fun u => rfl, fun Al outl sl Hl v Ql El hr2 hl => ?_⟩)
      (fun B1 v H1 Q1 E1 e1 k1 r => ⟨v, d, B1, rfl, e1, k1, hno, r⟩) fun H9 e9 t9 => ?_
    · obtain ⟨v', d', B', e, eb', kv, hM, r⟩ := hl
      cases e
      refine ⟨_, (pe_call G_shared (hr2.mono (by decide)) (by rfl) T.g_shared K_shared B_shared .nil (L2N.passes_call (L2N.takes_of rfl rfl rfl rfl) fun _ _ _ _ h => h) (pa_cons pe_int (pa_cons (pe_lst (pa_cons (pe_tup (pa_cons pe_int (pa_cons pe_int pa_nil))) pa_nil)) (pa_cons (pv 0) pa_nil)))), ?_⟩
      refine call_k (B := B') (ds := [.int 2, tiesD [(0, 1)], d']) (σ := start ["_law_many"] [v]) (eds_cons (eI eb') (eds_cons (eL1 eb' (eT2 eb' (eI eb') (eI eb'))) (eds_cons (ed_var (n := 0) eb' rfl kv) (eds_nil eb')))) (Ex.refl _) fun vs B1 H2 g k => ?_
      match vs, k with
      | [x1, x2, x3], .cons k1 (.cons kl (.cons kd .nil)) =>
        obtain rfl := k1.int_inv
        exact bad_many hM g.bh kl kd fun H3 e3 => r H3 (g.hh.trans e3)
      | _ :: _ :: _ :: _ :: _, .cons _ (.cons _ (.cons _ z)) => nomatch z
    · refine ⟨_, e9 D _ upd_same, Nat.lt_of_lt_of_le (by rw [List.length_replicate]; exact hi) (Nat.le_of_ble_eq_true rfl : 4 ≤ PySem.sizeLine), ?_, tabS_upd t9 (e9 D _ upd_same), fun a o h => ?_⟩
      · rw [upd_same, List.replicate_succ']
      · have z : a ≠ D := fun z => by rw [z, nD] at h; cases h
        rw [upd_ne z]
        exact e9 a o (by rw [upd_ne z]; exact h)
  · refine ⟨D, List.replicate xs.length true, rfl, ?_, ?_⟩
    · rw [List.map_replicate]
      exact SqL.of hV.1
    · have e : (List.replicate xs.length true).all id = true := by simp
      rw [e]
      exact q _

end
end TW
set_option Elab.async false
set_option linter.all false
set_option maxRecDepth 100000
set_option maxHeartbeats 4000000
namespace TW
open PySem PySem.Spec PyProof.Rows L2 TM TB
open Evl (Ex Ex.refl Ex.trans Ex.new Ex.mut Ev EvT EvA ev_var ev_c ev_op rv_I0 rv_I rv_eq rv_ne et_test et_B et_and et_or et_not et_is ev_is sz_of sz_lt fresh_back)
section
variable {P : Program} {w : World} {K : PySem.W.Frag} {mg : Str → Option Value} {base : Heap} {A : Ad}
/-! ### asked at once; a web changed in place -/
section
variable {σ : L2.St} {B H : Hp} {ar : TA} {E : XK} {n m : Int} {ts : List Tie} {b : Bool}
theorem half_call (hn : 1 ≤ n ∧ n ≤ 40) (w : Web n ts) (hl : ts.length ≤ 120) (h : EvDs ar σ B H [.int n, tiesD ts]) {H1 : Hp} (e : Ex H H1) {Q : VK}
    (k : Nearly n ts (nearF n ts) → ∀ x dx l B' H3, Fr B H1 B' H3 [(x, insA A dx l (halfA n ts)), (l, .lst ((halfA n ts).ns.map V.int))] → Q (.ref x) H3) : tCall (sp_halved A) [] E ar σ H1 Q := h H1 e _ fun vs B1 H2 g kd => by
  rw [List.append_nil]
  exact half_sp hn w hl g.bh kd fun N => RetH.of fun x dx l B' H3 fr => k N x dx l B' H3 (g.fr fr)
theorem shared_call (hn : 1 ≤ n ∧ n ≤ 40) (w : Web n ts) (hl : ts.length ≤ 120) (hm : 1 ≤ m) (h : EvDs ar σ B H [.int n, tiesD ts, .int m]) {H1 : Hp} (e : Ex H H1) {Q : VK}
    (k : ∀ a, SnOk n ts m a → ∀ x dx l B' H3, Fr B H1 B' H3 [(x, insS A dx l a), (l, .lst (a.ns.map V.int))] → Q (.ref x) H3) : tCall (sp_shared A) [] E ar σ H1 Q := h H1 e _ fun vs B1 H2 g kd => by
  rw [List.append_nil]
  exact shared_sp hn w hl hm g.bh kd (retSh_of fun a ha x dx l B' H3 fr => k a ha x dx l B' H3 (g.fr fr))
theorem near_em (hn : 1 ≤ n ∧ n ≤ 40) (w : Web n ts) (hl : ts.length ≤ 120) (h : EvDs ar σ B H [.int n, tiesD ts]) : EvM (tCall (sp_nearly A) [] E ar) σ B H (fun ds => Nearly n ts (nearF n ts) ∧ ds = (nearF n ts).map PyData.int) := fun H1 e Q q => h H1 e _ fun vs B1 H2 g kd => by
  rw [List.append_nil]
  exact near_sp hn w hl g.bh kd fun ds p xs B' H3 pd g3 n0 nb hp kd2 => q ds p xs B' H3 pd (g.trans g3) (base_none g.hh n0) nb hp kd2
theorem ev_isHalf (T : TX K mg A) (hn : 1 ≤ n ∧ n ≤ 40) (w : Web n ts) (hl : ts.length ≤ 120) (h : EvDs ar σ B H [.int n, tiesD ts]) (hb : Nearly n ts (nearF n ts) → (halfA n ts).isEven = b) : Ev (tCB (rIsi K) (tCons (tCall (sp_halved A) [] E ar) (tCons (tC (.ref A.Even)) tNil))) σ H (.bl b) := fun H1 e Q q =>
  half_call hn w hl h e fun N x dx l B' H3 fr => by
    have z := ev_isEven T (tx := tC (.ref x)) (σ := σ) ev_c (obA_of fr) H3 (Ex.refl _) Q fun H4 e4 => by rw [hb N]; exact q H4 (fr.ex0.trans e4)
    exact z
theorem ev_isOddH (T : TX K mg A) (hn : 1 ≤ n ∧ n ≤ 40) (w : Web n ts) (hl : ts.length ≤ 120) (h : EvDs ar σ B H [.int n, tiesD ts]) (hb : Nearly n ts (nearF n ts) → (halfA n ts).isEven = b) : Ev (tCB (rIsi K) (tCons (tCall (sp_halved A) [] E ar) (tCons (tC (.ref A.Odd)) tNil))) σ H (.bl (!b)) := fun H1 e Q q =>
  half_call hn w hl h e fun N x dx l B' H3 fr => by
    have z := ev_isOdd T (tx := tC (.ref x)) (σ := σ) ev_c (obA_of fr) H3 (Ex.refl _) Q fun H4 e4 => by rw [hb N]; exact q H4 (fr.ex0.trans e4)
    exact z
theorem ev_isShr (T : TX K mg A) (hn : 1 ≤ n ∧ n ≤ 40) (w : Web n ts) (hl : ts.length ≤ 120) (hm : 1 ≤ m) (h : EvDs ar σ B H [.int n, tiesD ts, .int m]) (hb : ∀ a, SnOk n ts m a → a.isShares = b) : Ev (tCB (rIsi K) (tCons (tCall (sp_shared A) [] E ar) (tCons (tC (.ref A.Shares)) tNil))) σ H (.bl b) := fun H1 e Q q =>
  shared_call hn w hl hm h e fun a ha x dx l B' H3 fr => by
    have z := ev_isShares T (tx := tC (.ref x)) (σ := σ) ev_c (obS_of fr) H3 (Ex.refl _) Q fun H4 e4 => by rw [hb a ha]; exact q H4 (fr.ex0.trans e4)
    exact z
theorem ev_isRgS (T : TX K mg A) (hn : 1 ≤ n ∧ n ≤ 40) (w : Web n ts) (hl : ts.length ≤ 120) (hm : 1 ≤ m) (h : EvDs ar σ B H [.int n, tiesD ts, .int m]) (hb : ∀ a, SnOk n ts m a → a.isShares = b) : Ev (tCB (rIsi K) (tCons (tCall (sp_shared A) [] E ar) (tCons (tC (.ref A.Ring)) tNil))) σ H (.bl (!b)) := fun H1 e Q q =>
  shared_call hn w hl hm h e fun a ha x dx l B' H3 fr => by
    have z := ev_isRing T (tx := tC (.ref x)) (σ := σ) ev_c (obS_of fr) H3 (Ex.refl _) Q fun H4 e4 => by rw [hb a ha]; exact q H4 (fr.ex0.trans e4)
    exact z
/-- a field of an answer just told -/
theorem es_halfCols (T : TX K mg A) (hn : 1 ≤ n ∧ n ≤ 40) (w : Web n ts) (hl : ts.length ≤ 120) (eb : Ex B H) (h : EvDs ar σ B H [.int n, tiesD ts]) (hb : Nearly n ts (nearF n ts) → (halfA n ts).isEven = true) : EvS (tFld K (tCall (sp_halved A) [] E ar) "colours") σ B H (fun d => ∃ cs, halfA n ts = .even cs ∧ d = numsD cs ∧ Nearly n ts (nearF n ts)) := fun H1 e Q q =>
  half_call hn w hl h e fun N x dx l B' H3 fr => by
    have fa := fr.all (eb.trans e)
    have hb := hb N
    obtain ⟨a, ha⟩ : ∃ a, a = halfA n ts := ⟨_, rfl⟩
    rw [← ha] at fr hb
    cases a with
    | odd cs => cases hb
    | even cs =>
      have z := ev_fld (ta := tC (.ref x)) (σ := σ) ev_c (obA_of fr) T.c_Even T.a_Even H3 (Ex.refl _) Q fun H4 e4 =>
        q (numsD cs) (.ref l) (newB B H1 H3) H4 ⟨cs, ha.symm, rfl, N⟩ (fa.toGr.trans (Gr.same fa.bh e4)) (.lst (fr.allO (q := (l, .lst (cs.map V.int))) (by simp [An.ns])) .ints)
      exact z
theorem es_halfSome (T : TX K mg A) (hn : 1 ≤ n ∧ n ≤ 40) (w : Web n ts) (hl : ts.length ≤ 120) (eb : Ex B H) (h : EvDs ar σ B H [.int n, tiesD ts]) (hb : Nearly n ts (nearF n ts) → (halfA n ts).isEven = false) : EvS (tFld K (tCall (sp_halved A) [] E ar) "some") σ B H (fun d => ∃ cs, halfA n ts = .odd cs ∧ d = numsD cs ∧ Nearly n ts (nearF n ts)) := fun H1 e Q q =>
  half_call hn w hl h e fun N x dx l B' H3 fr => by
    have fa := fr.all (eb.trans e)
    have hb := hb N
    obtain ⟨a, ha⟩ : ∃ a, a = halfA n ts := ⟨_, rfl⟩
    rw [← ha] at fr hb
    cases a with
    | even cs => cases hb
    | odd cs =>
      have z := ev_fld (ta := tC (.ref x)) (σ := σ) ev_c (obA_of fr) T.c_Odd T.a_Odd H3 (Ex.refl _) Q fun H4 e4 =>
        q (numsD cs) (.ref l) (newB B H1 H3) H4 ⟨cs, ha.symm, rfl, N⟩ (fa.toGr.trans (Gr.same fa.bh e4)) (.lst (fr.allO (q := (l, .lst (cs.map V.int))) (by simp [An.ns])) .ints)
      exact z
theorem es_shrCols (T : TX K mg A) (hn : 1 ≤ n ∧ n ≤ 40) (w : Web n ts) (hl : ts.length ≤ 120) (hm : 1 ≤ m) (eb : Ex B H) (hB : Bip ts) (h : EvDs ar σ B H [.int n, tiesD ts, .int m]) : EvS (tFld K (tCall (sp_shared A) [] E ar) "colours") σ B H (fun d => ∃ cs, EvenCols n ts cs m ∧ d = numsD cs) := fun H1 e Q q =>
  shared_call hn w hl hm h e fun a ha x dx l B' H3 fr => by
    have fa := fr.all (eb.trans e)
    cases a with
    | ring rs => exact absurd hB ha.1
    | shares cs =>
      have z := ev_fld (ta := tC (.ref x)) (σ := σ) ev_c (obS_of fr) T.c_Shares T.a_Shares H3 (Ex.refl _) Q fun H4 e4 =>
        q (numsD cs) (.ref l) (newB B H1 H3) H4 ⟨cs, ha.2, rfl⟩ (fa.toGr.trans (Gr.same fa.bh e4)) (.lst (fr.allO (q := (l, .lst (cs.map V.int))) (by simp [Sn.ns])) .ints)
      exact z
end
section
variable {σ : L2.St} {B H : Hp} {te ta tb : TE} {P : PyData → Prop} {d2 : PyData} {b : Bool} {Dn : Ends} {tz : TS}
theorem ev_lenS {k : Nat} (h : EvS te σ B H P) (hp : ∀ d, P d → ∃ ds, d = .list ds ∧ ds.length = k) : Ev (tCB (fun xs H Q => ∃ p ys, xs = [.ref p] ∧ (SqL K H p ys ∨ SqT K H p ys) ∧ Q (.int ys.length) H) (tCons te tNil)) σ H (.int (k : Int)) := fun H1 e Q q => h H1 e _ fun d v B1 H2 pd g kd => by
  obtain ⟨ds, rfl, hk⟩ := hp d pd
  obtain ⟨a, xs, rfl, q1, q2⟩ := kd.lst_inv
  refine ⟨a, xs, rfl, .inl (SqL.of (g.bh _ _ q1)), ?_⟩
  rw [q2.len, hk]
  exact q H2 g.hh
theorem ev_eqS (h : EvS ta σ B H P) (hb : EvD tb σ B H d2) (h1 : ∀ d, P d → SeqAt.shaped d = true ∧ PyData.eqv d d2 = b) (h2 : SeqAt.shaped d2 = true) : Ev (tOp (rEqD K) ta tb) σ H (.bl b) := fun H1 e Q q =>
  h H1 e _ fun d v B1 H2 pd g k => hb H2 (e.trans g.hh) _ fun w B2 H3 g2 k2 => by
    obtain ⟨g3, u1, u2⟩ := g.un g2
    obtain ⟨s1, s2⟩ := h1 d pd
    exact ⟨d, d2, ((k.ex u1).ex g3.bh).dp (SeqAt.canLay_of_shaped s1), ((k2.ex u2).ex g3.bh).dp (SeqAt.canLay_of_shaped h2), s1, h2, by rw [s2]; exact q H3 g3.hh⟩
theorem ev_neS (h : EvS ta σ B H P) (hb : EvD tb σ B H d2) (h1 : ∀ d, P d → SeqAt.shaped d = true ∧ PyData.eqv d d2 = b) (h2 : SeqAt.shaped d2 = true) : Ev (tOp (rNeD K) ta tb) σ H (.bl (!b)) := fun H1 e Q q =>
  h H1 e _ fun d v B1 H2 pd g k => hb H2 (e.trans g.hh) _ fun w B2 H3 g2 k2 => by
    obtain ⟨g3, u1, u2⟩ := g.un g2
    obtain ⟨s1, s2⟩ := h1 d pd
    exact ⟨d, d2, ((k.ex u1).ex g3.bh).dp (SeqAt.canLay_of_shaped s1), ((k2.ex u2).ex g3.bh).dp (SeqAt.canLay_of_shaped h2), s1, h2, by rw [s2]; exact q H3 g3.hh⟩
/-- sorted(xs) of one of several lists -/
theorem es_sorted {R : List Int → Prop} (h : EvS ta σ B H fun d => ∃ ns : List Int, R ns ∧ d = numsD ns) : EvS (tCB (rSortedI K) (tCons ta tNil)) σ B H (fun d => ∃ ms ns : List Int, R ns ∧ ms.Perm ns ∧ ms.Pairwise (· ≤ ·) ∧ d = numsD ms) := fun H1 e Q q =>
  h H1 e _ fun d v B1 H2 pd g k => by
    obtain ⟨ns, hR, rfl⟩ := pd
    obtain ⟨a, xs, rfl, q1, q2⟩ := k.lst_inv
    have := q2.ints_inv
    subst this
    refine ⟨a, ns, rfl, SqL.of (g.bh _ _ q1), fun ms p pm sm hp' => q (numsD ms) (.ref p) (upd B1 p (.lst (ms.map V.int))) _ ⟨ms, ns, hR, pm, sm, rfl⟩ (g.trans (Gr.new g.bh hp')) (.lst upd_same .ints)⟩
theorem q_setD {l : Addr} {xs : List V} {m : Nat} {d : PyData} (hl : H l = some (.lst xs)) (h : EvD te σ B H d) (ho : ∀ H1, Ev ta σ H1 (.ref l)) (hi : ∀ H1, Ev tb σ H1 (.int (m : Int))) (hj : m < xs.length) (k : ∀ v B' H1, Gr B H B' H1 → Da B' v d → tz Dn σ (upd H1 l (.lst (xs.set m v)))) : tSeq (tAsg te (gSub ta tb rSetL)) tz Dn σ H :=
  h H (Ex.refl H) _ fun v B' H1 g kd => ho H1 H1 (Ex.refl _) _ fun H2 e2 => hi H2 H2 (Ex.refl _) _ fun H3 e3 => ⟨l, xs, (m : Int), m, rfl, rfl, ((g.hh.trans e2).trans e3) l _ hl, Evl.ixN_nat hj, k v B' H3 (g.trans (Gr.same g.bh (e2.trans e3))) kd⟩
end

end
end TW
set_option Elab.async false
set_option linter.all false
set_option maxRecDepth 100000
set_option maxHeartbeats 4000000
namespace TW
open PySem PySem.Spec PyProof.Rows L2 TM TB
open Evl (Ex Ex.refl Ex.trans Ex.new Ex.mut Ev EvT EvA ev_var ev_c ev_op rv_I0 rv_I rv_eq rv_ne et_test et_B et_and et_or et_not et_is ev_is sz_of sz_lt fresh_back)
section
variable {P : Program} {w : World} {K : PySem.W.Frag} {mg : Str → Option Value} {base : Heap} {A : Ad}
/-! ### a web changed in place -/
def sq : List Tie := [(0, 1), (0, 3), (1, 2), (2, 3)]
def sqt : List Tie := [(0, 1), (0, 2), (1, 2), (2, 3)]
theorem sq_web : Web 4 sq := fun t ht => by
  have : t = (0, 1) ∨ t = (0, 3) ∨ t = (1, 2) ∨ t = (2, 3) := by simpa [sq] using ht
  rcases this with e | e | e | e <;> rw [e] <;> decide
theorem sqt_web : Web 4 sqt := fun t ht => by
  have : t = (0, 1) ∨ t = (0, 2) ∨ t = (1, 2) ∨ t = (2, 3) := by simpa [sqt] using ht
  rcases this with e | e | e | e <;> rw [e] <;> decide
theorem sq_bip : Bip sq := ⟨fun v => decide (v % 2 = 0), fun t ht => by
  have : t = (0, 1) ∨ t = (0, 3) ∨ t = (1, 2) ∨ t = (2, 3) := by simpa [sq] using ht
  rcases this with e | e | e | e <;> rw [e] <;> decide⟩
theorem tri_in {ts : List Tie} (h1 : (0, 1) ∈ ts) (h2 : (0, 2) ∈ ts) (h3 : (1, 2) ∈ ts) : ¬ Bip ts := fun ⟨f, hf⟩ => by
  have a := hf _ h1
  have b := hf _ h2
  have c := hf _ h3
  simp only [] at a b c
  cases e0 : f 0 <;> cases e1 : f 1 <;> cases e2 : f 2 <;> simp_all
theorem sn_ring {n m : Int} {ts : List Tie} (h : ¬ Bip ts) : ∀ a, SnOk n ts m a → a.isShares = false := fun a ha => by
  cases a with
  | shares cs => exact absurd ha.1 h
  | ring rs => rfl
theorem sn_shares {n m : Int} {ts : List Tie} (h : Bip ts) : ∀ a, SnOk n ts m a → a.isShares = true := fun a ha => by
  cases a with
  | shares cs => rfl
  | ring rs => exact absurd h ha.1
theorem even_near {n : Int} {ts : List Tie} {cs : List Int} (h : halfA n ts = .even cs) (N : Nearly n ts (nearF n ts)) : cs = nearF n ts ∧ cs.length = ts.length := by
  unfold halfA at h
  split at h
  · cases h
  · cases h; exact ⟨rfl, N.len⟩
def TiesAt (B H : Hp) (lt : Addr) (ts : List Tie) : Prop := Ex B H ∧ B lt = none ∧ ∃ xs, H lt = some (.lst xs) ∧ DaAll B xs (ts.map tieD)
theorem TiesAt.up {B H H1 : Hp} {lt : Addr} {ts : List Tie} (t : TiesAt B H lt ts) (e : Ex H H1) : TiesAt B H1 lt ts := ⟨t.1.trans e, t.2.1, t.2.2.elim fun xs h => ⟨xs, e _ _ h.1, h.2⟩⟩
theorem TiesAt.asB {B H : Hp} {lt : Addr} {ts : List Tie} (t : TiesAt B H lt ts) : ∃ B2, Ex B B2 ∧ Ex B2 H ∧ Da B2 (.ref lt) (tiesD ts) := by
  obtain ⟨e, n, xs, h, k⟩ := t
  refine ⟨upd B lt (.lst xs), Ex.new n, fun a o q => ?_, .lst upd_same (k.ex (Ex.new n))⟩
  by_cases z : a = lt
  · rw [z, upd_same] at q; cases q; rw [z]; exact h
  · rw [upd_ne z] at q; exact e a o q
theorem da_set {B : Hp} {v : V} {d : PyData} (kv : Da B v d) : ∀ {xs : List V} {ds : List PyData} {m : Nat}, DaAll B xs ds → DaAll B (xs.set m v) (ds.set m d)
  | _, _, _, .nil => .nil
  | _, _, 0, .cons _ r => .cons kv r
  | _, _, m + 1, .cons k r => .cons k (da_set kv r)
theorem TiesAt.set {B H B' H1 : Hp} {lt : Addr} {ts : List Tie} {xs : List V} {m : Nat} {v : V} {t : Tie} (hx : H lt = some (.lst xs)) (k : DaAll B xs (ts.map tieD)) (nb : B lt = none) (g : Gr B H B' H1) (kv : Da B' v (tieD t)) : TiesAt B' (upd H1 lt (.lst (xs.set m v))) lt (ts.set m t) := by
  have nb' : B' lt = none := g.old lt (by rw [hx]; exact fun z => by cases z) nb
  refine ⟨fun a o h => ?_, nb', _, upd_same, ?_⟩
  · have z : a ≠ lt := fun z => by rw [z, nb'] at h; cases h
    rw [upd_ne z]; exact g.bh a o h
  · rw [List.map_set]; exact da_set kv (k.ex g.bb)
def sp__law_changed_right : Sp := fun vs H Q _ => vs = [] ∧ RetV H (.bl true) Q
theorem len__law_changed_right {vs : List V} {H : Hp} {Q : VK} {E : XK} (h : sp__law_changed_right vs H Q E) : vs.length = 0 := by rw [h.1]; rfl
theorem ok__law_changed_right (T : TX K mg A) : Ok P w K mg base CX0 5 A._law_changed_right [] sp__law_changed_right := by
  obtain ⟨fd, F⟩ := T.F__law_changed_right
  obtain ⟨fd_halved, G_halved, B_halved, K_halved⟩ := ok_halved (P := P) (w := w) (base := base) T
  obtain ⟨fd_nearly, G_nearly, B_nearly, K_nearly⟩ := ok_nearly (P := P) (w := w) (base := base) T
  obtain ⟨fd_shared, G_shared, B_shared, K_shared⟩ := ok_shared (P := P) (w := w) (base := base) T
  obtain ⟨fd_Even_shows, G_Even_shows, B_Even_shows, K_Even_shows⟩ := ok_Even_shows (P := P) (w := w) (base := base) T
  obtain ⟨fd_Odd_shows, G_Odd_shows, B_Odd_shows, K_Odd_shows⟩ := ok_Odd_shows (P := P) (w := w) (base := base) T
  refine ⟨fd, ?_, F.binds (ps := []) fun _ _ _ _ _ _ us hl => match us, hl with | [], _ => rfl, F.kp⟩
  refine F.ok sc__law_changed_right (fun vs H Q E h => len__law_changed_right h) (fun cdv Ar outer s H vs Q E hr h => ?_)
  have nd := sc__law_changed_right.nd
  have hu := hu_of hr
  obtain ⟨rfl, q⟩ := h
  refine ⟨_, (pss_cons (ps_set (i := 0) nd rfl (by first | exact .inl rfl | exact .inr rfl) (pe_lst (pa_cons (pe_tup (pa_cons pe_int (pa_cons pe_int pa_nil))) (pa_cons (pe_tup (pa_cons pe_int (pa_cons pe_int pa_nil))) (pa_cons (pe_tup (pa_cons pe_int (pa_cons pe_int pa_nil))) (pa_cons (pe_tup (pa_cons pe_int (pa_cons pe_int pa_nil))) pa_nil)))))) (pss_cons (ps_for PassesOwn.never rfl (pi_range1 rfl T.n_range (pa_cons pe_int pa_nil)) (pg_name (i := 1) nd rfl (by first | exact .inl rfl | exact .inr rfl)) (pss_cons (ps_if (PW.pt (pw_or (pt_not (pt_val (pe_callB (isiK K) (by rfl) T.n_isinstance (by decide +kernel) (pa_cons (pe_call G_halved (hr.mono (by decide)) (by rfl) T.g_halved K_halved B_halved .nil passN (pa_cons pe_int (pa_cons (pv 0) pa_nil))) (pa_cons (pe_glob (v := .ref A.Even) rfl T.g_Even rfl) pa_nil))))) (pw_or1 (pt_not (pt_val (pe_callB (isiK K) (by rfl) T.n_isinstance (by decide +kernel) (pa_cons (pe_call G_shared (hr.mono (by decide)) (by rfl) T.g_shared K_shared B_shared .nil passN (pa_cons pe_int (pa_cons (pv 0) (pa_cons pe_int pa_nil)))) (pa_cons (pe_glob (v := .ref A.Shares) rfl T.g_Shares rfl) pa_nil)))))))) (pss_one (ps_ret pe_bl)) pss_nil) (pss_cons (ps_set (i := 2) nd rfl (by first | exact .inl rfl | exact .inr rfl) (pe_call G_halved (hr.mono (by decide)) (by rfl) T.g_halved K_halved B_halved .nil passN (pa_cons pe_int (pa_cons (pv 0) pa_nil)))) (pss_cons (ps_asg (pe_tup (pa_cons pe_int (pa_cons pe_int pa_nil))) (pg_sub (pv 0) pe_int set_list)) (pss_cons (ps_if (PW.pt (pw_or (pt_not (pt_val (pe_callB (isiK K) (by rfl) T.n_isinstance (by decide +kernel) (pa_cons (pe_call G_shared (hr.mono (by decide)) (by rfl) T.g_shared K_shared B_shared .nil passN (pa_cons pe_int (pa_cons (pv 0) (pa_cons pe_int pa_nil)))) (pa_cons (pe_glob (v := .ref A.Ring) rfl T.g_Ring rfl) pa_nil))))) (pw_or1 (pt_cmpR op_ne (pe_callB (lenK K) (by rfl) T.n_len PySem.boot_len (pa_cons (pe_call G_nearly (hr.mono (by decide)) (by rfl) T.g_nearly K_nearly B_nearly .nil passN (pa_cons pe_int (pa_cons (pv 0) pa_nil))) pa_nil)) pe_int (by first | exact nomark _ | rfl))))) (pss_one (ps_ret pe_bl)) pss_nil) (pss_cons (ps_asg (pe_tup (pa_cons pe_int (pa_cons pe_int pa_nil))) (pg_sub (pv 0) pe_int set_list)) (pss_cons (ps_expr (bmK K PySem.F.plainAttrs_list PySem.F.slot_list_append PySem.F.type_list_append mt_append (fldK K (pv 2) rfl) (pa_cons pe_int pa_nil))) (pss_one (ps_if (PW.pt (pw_or (pt_cmpR op_notBl (pe_either (pe_meth (pv 2) T.c_Even T.m_Even_shows G_Even_shows (hr.mono (by decide)) B_Even_shows .nil pass0 (pa_cons pe_int (pa_cons (pv 0) pa_nil))) (pe_meth (pv 2) T.c_Odd T.m_Odd_shows G_Odd_shows (hr.mono (by decide)) B_Odd_shows .nil pass0 (pa_cons pe_int (pa_cons (pv 0) pa_nil)))) pe_bl (by first | exact nomark _ | rfl)) (pw_or1 (pt_cmpR op_ne (pe_callB (lenK K) (by rfl) T.n_len PySem.boot_len (pa_cons (fldK K (pe_call G_halved (hr.mono (by decide)) (by rfl) T.g_halved K_halved B_halved .nil passN (pa_cons pe_int (pa_cons (pv 0) pa_nil))) rfl) pa_nil)) pe_int (by first | exact nomark _ | rfl))))) (pss_one (ps_ret pe_bl)) pss_nil))))))))) (pss_one (ps_ret pe_bl)))), ?_⟩
  have eb : Ex (fun _ => none) H := fun a o h => (nomatch h)
  have tie : ∀ {B H : Hp} {σ : L2.St} (e : Ex B H) (a b : Int), EvD (tTup (tCons (tC (.int a)) (tCons (tC (.int b)) tNil))) σ B H (tieD (a, b)) := fun e a b => eT2 e (eI e) (eI e)
  refine q_asgN (B := fun _ => none) (ds := sq.map tieD) (en_lst (hl := Nat.le_of_ble_eq_true rfl) (eds_cons (tie eb 0 1) (eds_cons (tie eb 0 3) (eds_cons (tie eb 1 2) (eds_cons (tie eb 2 3) (eds_nil eb)))))) fun lt xt B1 H1 g1 n1 nb1 h1 kt => ?_
  have e01 := g1.hh
  have T1 : TiesAt B1 H1 lt sq := ⟨g1.bh, nb1, xt, h1, kt⟩
  have n0 : H lt = none := n1
  clear kt h1 nb1 n1
  refine q_for (B := B1) (dt := fun (k : Nat) => PyData.int (k : Int)) (P := (· = List.range (2 : Int).toNat)) (ei_rg1 T1.1 ev_c (by decide))
    (fun l B2 i σ' H' => ∃ (B3 : Hp) (y1 y2 : Option V), Ex H H' ∧ σ' = [some (.ref lt), y1, y2] ∧ Ex B2 B3 ∧ TiesAt B3 H' lt sq) ?_ ?_ ?_ ?_
  · rintro l B2 H2 - g2
    refine ⟨B2, _, _, e01.trans g2.hh, rfl, Ex.refl _, g2.bh, g2.old lt ?_ T1.2.1, ?_⟩
    · obtain ⟨xs, h, _⟩ := T1.2.2
      rw [h]; exact fun z => by cases z
    · obtain ⟨xs, h, k⟩ := T1.2.2
      exact ⟨xs, g2.hh _ _ h, k.ex g2.bb⟩
  · rintro l B2 i σ' H' ⟨B3, _, _, _, _, e, t⟩
    exact e.trans t.1
  · rintro l B2 i c x B4 σ' H' H2 - hi ⟨B3, y1, y2, e0, rfl, e23, t⟩ g2 kx
    have t2 := t.up g2.hh
    have e02 := e0.trans g2.hh
    obtain ⟨C1, c1, c2, kT⟩ := t2.asB
    refine q_when (b := false) (et_is (et_or (a := false) (b := false) (et_is (et_not (et_B (ev_isHalf T (n := 4) (ts := sq) (by decide) sq_web (by decide) (eds_cons (eI c2) (eds_cons (ed_var (n := 0) c2 rfl kT) (eds_nil c2))) (fun N => half_bip sq_web sq_bip N)))) rfl) fun _ => et_is (et_not (et_B (ev_isShr T (n := 4) (m := 2) (ts := sq) (by decide) sq_web (by decide) (by decide) (eds_cons (eI c2) (eds_cons (ed_var (n := 0) c2 rfl kT) (eds_cons (eI c2) (eds_nil c2)))) (sn_shares sq_bip)))) rfl) rfl) (fun hb => (nomatch hb)) (fun _ H3 e3 => ?_)
    have t3 := t2.up e3
    have c3 := c2.trans e3
    have e03 := e02.trans e3
    -- first
    refine q_half (by decide) sq_web (by decide) (eds_cons (eI c3) (eds_cons (ed_var (n := 0) c3 rfl kT) (eds_nil c3))) fun N xa dx la B5 H5 fr => ?_
    have hev := half_bip sq_web sq_bip N
    have hsh := shows_half sq_web N
    obtain ⟨a, ha⟩ : ∃ a, a = halfA 4 sq := ⟨_, rfl⟩
    rw [← ha] at fr hev hsh
    cases a with
    | odd cs => cases hev
    | even cs =>
    have hcs := even_near ha.symm N
    have hxa : H5 xa = some (.ins A.Even dx [("colours", .ref la)]) := fr.get0
    have hla : H5 la = some (.lst (cs.map V.int)) := fr.get1
    have nla : H3 la = none := (fr.own _ (List.mem_cons_of_mem _ List.mem_cons_self)).1
    have nxa : H3 xa = none := (fr.own _ List.mem_cons_self).1
    have xl : xa ≠ la := fun z => by rw [z, hla] at hxa; cases hxa
    obtain ⟨eb3, nb3, xs, hxs3, kxs⟩ := t3
    have tl : la ≠ lt := fun z => by rw [z, hxs3] at nla; cases nla
    have tx : xa ≠ lt := fun z => by rw [z, hxs3] at nxa; cases nxa
    have hxs : H5 lt = some (.lst xs) := fr.ex0 _ _ hxs3
    have eb5 : Ex B3 H5 := eb3.trans fr.ex0
    have e05 := e03.trans fr.ex0
    have nla0 : H la = none := base_none e03 nla
    have bla : B3 la = none := base_none eb3 nla
    have lx : xs.length = 4 := kxs.len
    clear fr kT c1 c2 c3
    -- the tie changed
    refine q_setD (B := B3) (m := 1) hxs (tie eb5 0 2) (fun H1 => ev_var (i := 0) rfl) (fun H1 => ev_c) (by rw [lx]; decide) fun v B6 H6 g6 kv => ?_
    have t6 : TiesAt B6 (upd H6 lt (.lst (xs.set 1 v))) lt sqt := TiesAt.set hxs kxs nb3 g6 kv
    have hla6 : upd H6 lt (.lst (xs.set 1 v)) la = some (.lst (cs.map V.int)) := by rw [upd_ne tl]; exact g6.hh _ _ hla
    have hxa6 : upd H6 lt (.lst (xs.set 1 v)) xa = some (.ins A.Even dx [("colours", .ref la)]) := by rw [upd_ne tx]; exact g6.hh _ _ hxa
    have e06 : Ex H (upd H6 lt (.lst (xs.set 1 v))) := fun a o h => by
      have z : a ≠ lt := fun z => by rw [z, n0] at h; cases h
      rw [upd_ne z]; exact g6.hh _ _ (e05 a o h)
    have bla6 : B6 la = none := g6.old la (by rw [hla]; exact fun z => by cases z) bla
    have e36 := g6.bb
    generalize upd H6 lt (.lst (xs.set 1 v)) = H7 at t6 hla6 hxa6 e06
    obtain ⟨C1, c1, c2, kT⟩ := t6.asB
    refine q_when (b := false) (et_is (et_or (a := false) (b := false) (et_is (et_not (et_B (ev_isRgS T (n := 4) (m := 2) (ts := sqt) (by decide) sqt_web (by decide) (by decide) (eds_cons (eI c2) (eds_cons (ed_var (n := 0) c2 rfl kT) (eds_cons (eI c2) (eds_nil c2)))) (sn_ring (tri_in (by decide) (by decide) (by decide)))))) rfl) fun _ => et_is (et_test (ev_neI (ev_lenS (K := K) (k := 4) (near_em (n := 4) (ts := sqt) (by decide) sqt_web (by decide) (eds_cons (eI c2) (eds_cons (ed_var (n := 0) c2 rfl kT) (eds_nil c2)))).toS ?_) ev_c)) rfl) rfl) (fun hb => (nomatch hb)) (fun _ H8 e8 => ?_)
    · rintro d ⟨ds, rfl, N2, rfl⟩
      exact ⟨_, rfl, by rw [List.length_map]; exact N2.len⟩
    have t8 := t6.up e8
    have hla8 := e8 _ _ hla6
    have hxa8 := e8 _ _ hxa6
    have e08 := e06.trans e8
    obtain ⟨eb8, nb8, ys, hys, kys⟩ := t8
    have ly : ys.length = 4 := kys.len
    -- put back
    refine q_setD (B := B6) (m := 1) hys (tie eb8 0 3) (fun H1 => ev_var (i := 0) rfl) (fun H1 => ev_c) (by rw [ly]; decide) fun v2 B9 H9 g9 kv9 => ?_
    have t9 : TiesAt B9 (upd H9 lt (.lst (ys.set 1 v2))) lt sq := TiesAt.set hys kys nb8 g9 kv9
    have hla9 : upd H9 lt (.lst (ys.set 1 v2)) la = some (.lst (cs.map V.int)) := by rw [upd_ne tl]; exact g9.hh _ _ hla8
    have hxa9 : upd H9 lt (.lst (ys.set 1 v2)) xa = some (.ins A.Even dx [("colours", .ref la)]) := by rw [upd_ne tx]; exact g9.hh _ _ hxa8
    have e09 : Ex H (upd H9 lt (.lst (ys.set 1 v2))) := fun a o h => by
      have z : a ≠ lt := fun z => by rw [z, n0] at h; cases h
      rw [upd_ne z]; exact g9.hh _ _ (e08 a o h)
    have bla9 : B9 la = none := g9.old la (by rw [hla8]; exact fun z => by cases z) bla6
    have e39 := e36.trans g9.bb
    generalize upd H9 lt (.lst (ys.set 1 v2)) = H10 at t9 hla9 hxa9 e09
    -- one more colour
    refine q_app (K := K) hla9 (ev_fld (f := "colours") (ev_var (i := 2) rfl) ⟨⟨dx, hxa9⟩, hla9⟩ T.c_Even T.a_Even) (ev_c (v := .int 0)) (by rw [List.length_map, hcs.2]; decide) fun H11 e11 => ?_
    have hla11 : upd H11 la (.lst (cs.map V.int ++ [V.int 0])) la = some (.lst ((cs ++ [0]).map V.int)) := by rw [upd_same, List.map_append]; rfl
    have hxa11 : upd H11 la (.lst (cs.map V.int ++ [V.int 0])) xa = some (.ins A.Even dx [("colours", .ref la)]) := by rw [upd_ne xl]; exact e11 _ _ hxa9
    have e011 : Ex H (upd H11 la (.lst (cs.map V.int ++ [V.int 0]))) := fun a o h => by
      have z : a ≠ la := fun z => by rw [z, nla0] at h; cases h
      rw [upd_ne z]; exact e11 _ _ (e09 a o h)
    have t11 : TiesAt B9 (upd H11 la (.lst (cs.map V.int ++ [V.int 0]))) lt sq := by
      obtain ⟨p1, p2, p3, p4, p5⟩ := t9
      refine ⟨fun a o h => ?_, p2, p3, by rw [upd_ne tl.symm]; exact e11 _ _ p4, p5⟩
      have z : a ≠ la := fun z => by rw [z, bla9] at h; cases h
      rw [upd_ne z]; exact e11 _ _ (p1 a o h)
    generalize upd H11 la (.lst (cs.map V.int ++ [V.int 0])) = H12 at t11 hla11 hxa11 e011
    obtain ⟨C1, c1, c2, kT⟩ := t11.asB
    have hmore := shows_more hsh
    have hsw := ev_shows (E1 := E0) (E2 := E0) (B := C1) (tx := tVar 2) (σ := [some (.ref lt), some x, some (.ref xa)]) (a := .even (cs ++ [0])) (ev_var (i := 2) rfl) ⟨⟨dx, hxa11⟩, hla11⟩ (eds_cons (eI (i := 4) c2) (eds_cons (ed_var (n := 0) c2 rfl kT) (eds_nil c2))) ⟨by decide, by decide, sq_web, by decide, by show (cs ++ [0]).length ≤ 1000; rw [List.length_append, hcs.2]; decide⟩
    have hmore : showsP 4 sq (.even (cs ++ [0])) = false := hmore
    rw [hmore] at hsw
    refine s_when (b := false) (et_is (et_or (a := false) (b := false) (et_is (et_test (ev_notB hsw)) rfl) fun _ => et_is (et_test (ev_neI (ev_lenS (K := K) (k := 4) (es_halfCols T (n := 4) (ts := sq) (by decide) sq_web (by decide) c2 (eds_cons (eI c2) (eds_cons (ed_var (n := 0) c2 rfl kT) (eds_nil c2))) (fun N => half_bip sq_web sq_bip N)) ?_) ev_c)) rfl) rfl) (fun hb => (nomatch hb)) (fun _ H13 e13 => ?_)
    · rintro d ⟨cs2, h2, rfl, N2⟩
      exact ⟨_, rfl, by rw [List.length_map]; exact (even_near h2 N2).2⟩
    exact ⟨B9, _, _, e011.trans e13, rfl, e23.trans e39, t11.up e13⟩
  rintro l B2 σ' H' - ⟨B3, y1, y2, e0, rfl, e23, t⟩
  exact Evl.s_ret (ev_c (v := .bl true)) fun H2 e2 => q H2 (e0.trans e2)

end
end TW
set_option Elab.async false
set_option linter.all false
set_option maxRecDepth 100000
set_option maxHeartbeats 4000000
namespace TW
open PySem PySem.Spec PyProof.Rows L2 TM TB
open Evl (Ex Ex.refl Ex.trans Ex.new Ex.mut Ev EvT EvA ev_var ev_c ev_op rv_I0 rv_I rv_eq rv_ne et_test et_B et_and et_or et_not et_is ev_is sz_of sz_lt fresh_back)
section
variable {P : Program} {w : World} {K : PySem.W.Frag} {mg : Str → Option Value} {base : Heap} {A : Ad}
/-! ### by how much the first colour is more often -/
def far1 (l : List (Tie × Int)) (v : Int) : Int := (l.map fun p => if has p.1 v = true then (if p.2 = 0 then 1 else -1) else 0).sum
theorem far1_snoc (l : List (Tie × Int)) (t : Tie) (c v : Int) : far1 (l ++ [(t, c)]) v = far1 l v + (if has t v = true then (if c = 0 then 1 else -1) else 0) := by
  unfold far1
  rw [List.map_append, List.sum_append]; simp
theorem far_pim (v : Int) : ∀ (ts : List Tie) (cs : List Int), cs.length = ts.length → (∀ c ∈ cs, c = 0 ∨ c = 1) → far1 (ts.zip cs) v = - pim ts (cs.map some) v
  | [], [], _, _ => rfl
  | t :: ts, c :: cs, hl, hv => by
    have ih := far_pim v ts cs (by simpa using hl) fun x hx => hv x (List.mem_cons_of_mem _ hx)
    have e0 : wt (some 0) = -1 := rfl
    have e1 : wt (some 1) = 1 := rfl
    have e2 : far1 ((t :: ts).zip (c :: cs)) v = (if has t v = true then (if c = 0 then 1 else -1) else 0) + far1 (ts.zip cs) v := rfl
    have e3 : pim (t :: ts) ((c :: cs).map some) v = (if has t v = true then wt (some c) else 0) + pim ts (cs.map some) v := rfl
    rw [e2, e3, ih]
    rcases hv c List.mem_cons_self with rfl | rfl
    · rw [e0]; cases has t v <;> simp <;> omega
    · rw [e1]; cases has t v <;> simp <;> omega
  | [], _ :: _, h, _ => by simp at h
  | _ :: _, [], h, _ => by simp at h
def rowF (n : Int) (g : Int → Int) : List V := (List.range n.toNat).map fun (k : Nat) => V.int (g (k : Int))
theorem rowF_len (n : Int) (g : Int → Int) : (rowF n g).length = n.toNat := by unfold rowF; rw [List.length_map, List.length_range]
theorem rowF_at {n : Int} {k : Nat} (h : k < n.toNat) (g : Int → Int) : (rowF n g)[k]? = some (V.int (g (k : Int))) := by
  unfold rowF; rw [List.getElem?_map, List.getElem?_range h]; rfl
theorem rowF_set {n : Int} {g g' : Int → Int} {k : Nat} {x : Int} (h1 : g' (k : Int) = x) (h2 : ∀ v : Int, v ≠ (k : Int) → g' v = g v) : (rowF n g).set k (.int x) = rowF n g' := by
  unfold rowF
  apply List.ext_getElem?
  intro i
  rw [List.getElem?_set, List.getElem?_map, List.getElem?_map, List.length_map, List.length_range]
  by_cases hi : i < n.toNat
  · rw [List.getElem?_range hi]
    by_cases e : k = i
    · subst e; simp [hi, h1]
    · have e' : (i : Int) ≠ (k : Int) := fun z => e (by omega)
      simp [e, h2 _ e']
  · have : (List.range n.toNat)[i]? = none := by rw [List.getElem?_eq_none_iff, List.length_range]; omega
    rw [this]
    by_cases e : k = i
    · subst e; simp [hi]
    · simp [e]
theorem rowF_congr {n : Int} {g g' : Int → Int} (h : ∀ v, g v = g' v) : rowF n g = rowF n g' := by
  have : g = g' := funext h
  rw [this]
def sp__law_far : Sp := fun vs H Q _ => ∃ (n : Int) (ts : List Tie) (cs : List Int) (B : Hp), Ex B H ∧ DaAll B vs [.int n, tiesD ts, numsD cs] ∧ (0 ≤ n ∧ n ≤ 1000 ∧ Web n ts ∧ cs.length = ts.length ∧ (∀ c ∈ cs, c = 0 ∨ c = 1) ∧ ts.length ≤ 1000) ∧ RetN B H (((List.range n.toNat).map fun (v : Nat) => offF ts cs (v : Int)).map PyData.int) Q
theorem len__law_far {vs : List V} {H : Hp} {Q : VK} {E : XK} (h : sp__law_far vs H Q E) : vs.length = 3 := by
  obtain ⟨_, _, _, _, _, k, _⟩ := h
  exact k.len
theorem ok__law_far (T : TX K mg A) : Ok P w K mg base CX0 1 A._law_far ["_law_places", "_law_ties", "_law_colours"] sp__law_far := by
  obtain ⟨fd, F⟩ := T.F__law_far
  refine ⟨fd, ?_, F.binds (ps := ["_law_places", "_law_ties", "_law_colours"]) fun _ _ _ _ _ _ us hl => match us, hl with | [_, _, _], _ => rfl, F.kp⟩
  refine F.ok sc__law_far (fun vs H Q E h => len__law_far h) (fun cdv Ar outer s H vs Q E hr h => ?_)
  have nd := sc__law_far.nd
  have hu := hu_of hr
  obtain ⟨n, ts, cs, B, eb, k, ⟨hn0, hn1, hW, hcl, hcv, hl⟩, q⟩ := h
  match vs, k with
  | [_, v1, v2], .cons (.int _) (.cons k1 (.cons k2 .nil)) =>
  refine ⟨_, (pss_cons (ps_set (i := 3) nd rfl (by first | exact .inl rfl | exact .inr rfl) (pe_op op_rep (pe_lst (pa_cons pe_int pa_nil)) (pv 0))) (pss_cons (ps_for PassesOwn.never rfl (zipK K (by rfl) T.n_zip (pa_cons (pv 1) (pa_cons (pv 2) pa_nil))) (gtupK K rfl (pgs_cons (pg_name (i := 4) nd rfl (by first | exact .inl rfl | exact .inr rfl)) (pgs_cons (pg_name (i := 5) nd rfl (by first | exact .inl rfl | exact .inr rfl)) pgs_nil))) (pss_one (ps_for PassesOwn.never rfl (tupK K (pv 4)) (pg_name (i := 6) nd rfl (by first | exact .inl rfl | exact .inr rfl)) (pss_one (ps_asg (pe_op op_add (pe_ix (ix_listK K) (pv 3) (pv 6) (fun _ _ => rfl)) (pe_ifExp (pt_cmpR op_eq (pv 5) pe_int (by first | exact nomark _ | rfl)) pe_int (pe_un un_neg pe_int))) (pg_sub (pv 3) (pv 6) set_list)))))) (pss_one (ps_ret (pe_lc (own := [("_law_one", 7)]) (g := gName 7) (tt := tYes)  rfl nd  (listK K (pv 3)) (blkOk_by (by kernel_rfl)) (fun _ _ _ _ _ => (pg_name (i := 7) nd rfl (by first | exact .inl rfl | exact .inr rfl))) (fun _ _ _ _ _ => pts_nil) (fun _ _ _ _ _ => (pe_callB call_abs (by rfl) T.n_abs (by decide +kernel) (pa_cons (pv 7) pa_nil)))))))), ?_⟩
  have e0 : (List.replicate n.toNat [PyData.int 0]).flatten = (List.replicate n.toNat (0 : Int)).map PyData.int := by
    rw [List.map_replicate]
    induction n.toNat with
    | zero => rfl
    | succ m ih => rw [List.replicate_succ, List.flatten_cons, ih]; rfl
  have hrep := en_rep (EvN.toD (en_lst (eds_cons (edi (σ := start ["_law_places", "_law_ties", "_law_colours", "_law_found", "_law_tie", "_law_colour", "_law_place", "_law_one"] [.int n, v1, v2]) eb (ev_c (v := .int 0))) (eds_nil eb)))) (ev_var (i := 0) rfl) ⟨hn0, by omega⟩ (by simp; omega)
  rw [e0] at hrep
  refine q_asgN hrep fun lf xf B1 H1 g1 n1 nb1 h1 kf => ?_
  have hxf := kf.ints_inv
  have hrow0 : xf = rowF n fun v => far1 ((ts.zip cs).take 0) v := by
    rw [hxf]
    unfold rowF
    rw [List.map_replicate]
    apply List.ext_getElem?
    intro i
    rw [List.getElem?_replicate, List.getElem?_map]
    by_cases hi : i < n.toNat
    · rw [if_pos hi, List.getElem?_range hi]; rfl
    · rw [if_neg hi, List.getElem?_eq_none (by rw [List.length_range]; omega)]; rfl
  rw [hrow0] at h1
  have f1 := (Fr.start eb).take g1 n1 nb1 h1
  refine q_for2 (K := K) (B := B1) (d1 := fun p : Tie × Int => tieD p.1) (d2 := fun p : Tie × Int => .int p.2) (P := (· = ts.zip cs)) (ei_zip (K := K) (ed_var (n := 1) f1.bh rfl (k1.ex f1.eb)) (ed_var (n := 2) f1.bh rfl (k2.ex f1.eb)))
    (fun l B2 i σ' H' => Ex B1 B2 ∧ ∃ (y4 y5 y6 : Option V), σ' = [some (.int n), some v1, some v2, some (.ref lf), y4, y5, y6, none] ∧ Fr B H B2 H' [(lf, .lst (rowF n fun v => far1 (l.take i) v))]) ?_ ?_ ?_ ?_
  · rintro l B2 H2 rfl g2
    exact ⟨g2.bb, none, none, none, rfl, f1.gr g2⟩
  · rintro l B2 i σ' H' ⟨_, _, _, _, _, f⟩
    exact f.bh
  · rintro l B2 i ⟨t, col⟩ x y B3 σ' H' H3 rfl hi ⟨e12, y4, y5, y6, rfl, f⟩ g3 kx ky
    obtain rfl := ky.int_inv
    have eb2 := f.eb
    have f3 := f.gr g3
    have hmem := List.of_mem_zip (List.mem_of_getElem? hi)
    have ht := hW t hmem.1
    have htk : (ts.zip cs).take (i + 1) = (ts.zip cs).take i ++ [(t, col)] := by rw [List.take_add_one, hi]; rfl
    obtain ⟨s, hs⟩ : ∃ s : Int, s = if col = 0 then 1 else -1 := ⟨_, rfl⟩
    refine s_for (B := B3) (dt := PyData.int) (P := (· = [t.1, t.2])) (ei_tup (K := K) (ed_var (n := 4) f3.bh rfl kx))
      (fun l2 B4 j σ' H' => Ex B3 B4 ∧ ∃ (y6 : Option V), σ' = [some (.int n), some v1, some v2, some (.ref lf), some x, some (.int col), y6, none] ∧ Fr B H B4 H' [(lf, .lst (rowF n fun v => far1 ((ts.zip cs).take i) v + ((l2.take j).count v : Int) * s))]) ?_ ?_ ?_ ?_
    · rintro l2 B4 H4 - g4
      refine ⟨g4.bb, _, rfl, ?_⟩
      rw [rowF_congr (g' := fun v => far1 ((ts.zip cs).take i) v) fun v => by rw [List.take_zero, List.count_nil]; simp]
      exact f3.gr g4
    · rintro l2 B4 j σ' H' ⟨_, _, _, f⟩
      exact f.bh
    · rintro l2 B4 j pl z B5 σ' H' H5 rfl hj ⟨e34, y6, rfl, f⟩ g5 kz
      obtain rfl := kz.int_inv
      have f5 := f.gr g5
      have hpl : 0 ≤ pl ∧ pl < n := by
        have : pl = t.1 ∨ pl = t.2 := by simpa using List.mem_of_getElem? hj
        rcases this with e | e <;> rw [e] <;> omega
      have hT := f5.get0
      have hz : ((pl.toNat : Nat) : Int) = pl := Int.toNat_of_nonneg hpl.1
      have hv := ev_ixO (K := K) (σ := [some (.int n), some v1, some v2, some (.ref lf), some x, some (.int col), some (.int pl), none]) (ev_var (i := 3) rfl) hT (ev_var (i := 6) rfl) (v := .int (far1 ((ts.zip cs).take i) pl + (([t.1, t.2].take j).count pl : Int) * s)) (by
        have h : atI (rowF n fun v => far1 ((ts.zip cs).take i) v + (([t.1, t.2].take j).count v : Int) * s) ((pl.toNat : Nat) : Int) = _ := atI_nat (rowF_at (by omega) _)
        rw [hz] at h; exact h)
      refine Evl.s_setL (j := pl.toNat) hT (ev_I0 (g := fun i j => .int (i + j)) hv (ev_ifV (b := decide (col = 0)) (v := .int s) (et_test (ev_eqI (ev_var (i := 5) rfl) (ev_c (v := .int 0)))) (fun hb => by rw [hs, if_pos (of_decide_eq_true hb)]; exact ev_c) (fun hb => by rw [hs, if_neg (of_decide_eq_false hb)]; exact ev_neg ev_c))) (ev_var (i := 3) rfl) (by rw [hz]; exact ev_var (i := 6) rfl) (by rw [rowF_len]; omega) fun H6 e6 => ?_
      have tk2 : [t.1, t.2].take (j + 1) = [t.1, t.2].take j ++ [pl] := by rw [List.take_add_one, hj]; rfl
      refine ⟨e34, _, rfl, ?_⟩
      rw [rowF_set (g' := fun v => far1 ((ts.zip cs).take i) v + (([t.1, t.2].take (j + 1)).count v : Int) * s)]
      · exact ((f5.ev e6).set0).back f.eb g5.bb
      · rw [hz, tk2, List.count_append, List.count_singleton_self, Int.natCast_add, Int.add_mul]; omega
      · intro v hv'
        rw [hz] at hv'
        have h0 : [pl].count v = 0 := by rw [List.count_eq_zero]; simpa using hv'
        rw [tk2, List.count_append, h0, Nat.add_zero]
    · rintro l2 B4 σ' H' rfl ⟨e34, y6, rfl, f⟩
      refine ⟨e12, _, _, _, rfl, ?_⟩
      rw [List.take_length] at f
      rw [rowF_congr (g' := fun v => far1 ((ts.zip cs).take (i + 1)) v)] at f
      · exact f.back eb2 (g3.bb.trans e34)
      · intro v
        rw [htk, far1_snoc, ← hs]
        congr 1
        rw [List.count_cons, List.count_cons, List.count_nil]
        have ne : ¬ t.1 = t.2 := by omega
        by_cases h1 : t.1 = v
        · have h2 : ¬ t.2 = v := fun z => ne (h1.trans z.symm)
          have : has t v = true := has_iff.mpr (.inl h1.symm)
          simp [h1, h2, this]
        · by_cases h2 : t.2 = v
          · have : has t v = true := has_iff.mpr (.inr h2.symm)
            simp [h1, h2, this]
          · have : has t v = false := by
              cases q : has t v with
              | false => rfl
              | true => rcases has_iff.mp q with z | z
                        · exact absurd z.symm h1
                        · exact absurd z.symm h2
            simp [h1, h2, this]
  rintro l B2 σ' H' rfl ⟨e12, y4, y5, y6, rfl, f⟩
  rw [List.take_length] at f
  have fx := f.fix
  have kF : Da (upd B2 lf (.lst (rowF n fun v => far1 (ts.zip cs) v))) (.ref lf) (.list (((List.range n.toNat).map fun (k : Nat) => far1 (ts.zip cs) (k : Int)).map PyData.int)) := .lst upd_same (by
    have : rowF n (fun v => far1 (ts.zip cs) v) = ((List.range n.toNat).map fun (k : Nat) => far1 (ts.zip cs) (k : Int)).map V.int := by unfold rowF; rw [List.map_map]; rfl
    rw [this]; exact .ints)
  have h := en_lcA (dt := PyData.int) (l := (List.range n.toNat).map fun (k : Nat) => far1 (ts.zip cs) (k : Int)) (te := tCB (fun xs H Q => ∃ i, xs = [.int i] ∧ Q (.int (if i < 0 then -i else i)) H) (tCons (tVar 7) tNil)) (vs := [7]) (j := 7) (σ := [some (.int n), some v1, some v2, some (.ref lf), y4, y5, y6, none]) (fun i => .int (i.natAbs : Int)) (ei_list (K := K) (ed_var (n := 3) fx.bh rfl kF)) (by rw [List.length_map, List.length_range]; omega) fun a x B3 H3 _ e1 e2 e3 kx => by
    obtain rfl := kx.int_inv
    exact edi e3 (ev_abs (ev_var (i := 7) rfl))
  refine s_retN h fun p xs B3 H3 g n0 nb hp kd => q p xs B3 H3 (fx.toGr.trans g) (base_none fx.ex0 n0) nb hp ?_
  have e : ((List.range n.toNat).map fun (k : Nat) => far1 (ts.zip cs) (k : Int)).map (fun i => PyData.int (i.natAbs : Int)) = ((List.range n.toNat).map fun (v : Nat) => offF ts cs (v : Int)).map PyData.int := by
    rw [List.map_map, List.map_map]
    apply List.map_congr_left
    intro v _
    show PyData.int _ = PyData.int _
    congr 1
    show ((far1 (ts.zip cs) (v : Int)).natAbs : Int) = offF ts cs (v : Int)
    unfold offF
    rw [far_pim _ _ _ hcl hcv, Int.natAbs_neg]
  rw [← e]; exact kd

end
end TW
set_option Elab.async false
set_option linter.all false
set_option maxRecDepth 100000
set_option maxHeartbeats 4000000
namespace TW
open PySem PySem.Spec PyProof.Rows L2 TM TB
open Evl (Ex Ex.refl Ex.trans Ex.new Ex.mut Ev EvT EvA ev_var ev_c ev_op rv_I0 rv_I rv_eq rv_ne et_test et_B et_and et_or et_not et_is ev_is sz_of sz_lt fresh_back)
section
variable {P : Program} {w : World} {K : PySem.W.Frag} {mg : Str → Option Value} {base : Heap} {A : Ad}
/-! ### webs known on paper -/
theorem perm_eq {ms ns ks : List Int} (p : ms.Perm ns) (s : ms.Pairwise (· ≤ ·)) (p2 : ns.Perm ks) (s2 : ks.Pairwise (· ≤ ·)) : ms = ks := List.Perm.eq_of_pairwise (le := fun a b : Int => a ≤ b) (fun a b _ _ h1 h2 => Int.le_antisymm h1 h2) s s2 (p.trans p2)
def tr : List Tie := [(0, 1), (0, 2), (1, 2)]
def six : List Tie := [(0, 1), (0, 2), (1, 2), (3, 4), (3, 5), (4, 5)]
theorem tr_webN {n : Int} (h : 3 ≤ n) : Web n tr := fun t ht => by
  have : t = (0, 1) ∨ t = (0, 2) ∨ t = (1, 2) := by simpa [tr] using ht
  rcases this with e | e | e <;> rw [e] <;> simp <;> omega
theorem tr_web : Web 3 tr := tr_webN (by decide)
theorem six_web : Web 6 six := fun t ht => by
  have : t = (0, 1) ∨ t = (0, 2) ∨ t = (1, 2) ∨ t = (3, 4) ∨ t = (3, 5) ∨ t = (4, 5) := by simpa [six] using ht
  rcases this with e | e | e | e | e | e <;> rw [e] <;> decide
theorem tr_reach : ∀ x ∈ [(0 : Int), 1, 2], Reach tr 0 x := fun x hx => by
  have h : x = 0 ∨ x = 1 ∨ x = 2 := by simpa using hx
  rcases h with rfl | rfl | rfl
  · exact .refl
  · exact Reach.tie (t := (0, 1)) (by decide) (by decide) (by decide)
  · exact Reach.tie (t := (0, 2)) (by decide) (by decide) (by decide)
theorem six_reach0 : ∀ x ∈ [(0 : Int), 1, 2], Reach six 0 x := fun x hx => by
  have h : x = 0 ∨ x = 1 ∨ x = 2 := by simpa using hx
  rcases h with rfl | rfl | rfl
  · exact .refl
  · exact Reach.tie (t := (0, 1)) (by decide) (by decide) (by decide)
  · exact Reach.tie (t := (0, 2)) (by decide) (by decide) (by decide)
theorem six_reach3 : ∀ x ∈ [(3 : Int), 4, 5], Reach six 3 x := fun x hx => by
  have h : x = 3 ∨ x = 4 ∨ x = 5 := by simpa using hx
  rcases h with rfl | rfl | rfl
  · exact .refl
  · exact Reach.tie (t := (3, 4)) (by decide) (by decide) (by decide)
  · exact Reach.tie (t := (3, 5)) (by decide) (by decide) (by decide)
theorem tr_part {n v : Int} (hn : 3 ≤ n) (hv : v ∈ [(0 : Int), 1, 2]) : part n tr v = [0, 1, 2] := part_calc (by decide) (by decide) hv (fun x hx => by
  have h : x = 0 ∨ x = 1 ∨ x = 2 := by simpa using hx
  omega) fun x hx => (tr_reach v hv).symm.trans (tr_reach x hx)
theorem six_part0 {v : Int} (hv : v ∈ [(0 : Int), 1, 2]) : part 6 six v = [0, 1, 2] := part_calc (by decide) (by decide) hv (by decide) fun x hx => (six_reach0 v hv).symm.trans (six_reach0 x hx)
theorem six_part3 {v : Int} (hv : v ∈ [(3 : Int), 4, 5]) : part 6 six v = [3, 4, 5] := part_calc (by decide) (by decide) hv (by decide) fun x hx => (six_reach3 v hv).symm.trans (six_reach3 x hx)
theorem tr_odd {n : Int} (hn : 3 ≤ n) : OddAt tr 0 := (oddAt_iff (tr_webN hn) (b := 0) (by omega)).mpr (by rw [tr_part hn (by decide)]; decide)
theorem six_odd0 : OddAt six 0 := (oddAt_iff six_web (b := 0) (by decide)).mpr (by rw [six_part0 (by decide)]; decide)
theorem six_odd3 : OddAt six 3 := (oddAt_iff six_web (b := 3) (by decide)).mpr (by rw [six_part3 (by decide)]; decide)
theorem tr_bip : ¬ Bip tr := tri_in (by decide) (by decide) (by decide)
theorem off_two {n : Int} {ts : List Tie} {cs : List Int} (N : Nearly n ts cs) {v : Int} (h0 : 0 ≤ v) (h1 : v < n) (O : OddAt ts v) (L : Least ts v) : offF ts cs v = 2 := by
  unfold offF; rw [N.two v h0 h1 O L]; rfl
theorem off_nul {n : Int} {ts : List Tie} {cs : List Int} (N : Nearly n ts cs) {v : Int} (h0 : 0 ≤ v) (h1 : v < n) (hd : deg ts v % 2 = 0) (L : ¬ (OddAt ts v ∧ Least ts v)) : offF ts cs v = 0 := by
  unfold offF; rw [N.nul v h0 h1 hd L]; rfl
theorem tr_off {cs : List Int} (N : Nearly 3 tr cs) : ((List.range (3 : Int).toNat).map fun (v : Nat) => offF tr cs (v : Int)) = [2, 0, 0] := by
  have h0 : offF tr cs 0 = 2 := off_two N (by decide) (by decide) (tr_odd (n := 3) (by decide)) fun u hu => (hu.in tr_web (by decide)).1
  have h1 : offF tr cs 1 = 0 := off_nul N (by decide) (by decide) (by decide) fun z => absurd (z.2 0 (tr_reach 1 (by decide)).symm) (by decide)
  have h2 : offF tr cs 2 = 0 := off_nul N (by decide) (by decide) (by decide) fun z => absurd (z.2 0 (tr_reach 2 (by decide)).symm) (by decide)
  show [offF tr cs 0, offF tr cs 1, offF tr cs 2] = _
  rw [h0, h1, h2]
theorem six_off {cs : List Int} (N : Nearly 6 six cs) : ((List.range (6 : Int).toNat).map fun (v : Nat) => offF six cs (v : Int)) = [2, 0, 0, 2, 0, 0] := by
  have h0 : offF six cs 0 = 2 := off_two N (by decide) (by decide) six_odd0 fun u hu => (hu.in six_web (by decide)).1
  have h1 : offF six cs 1 = 0 := off_nul N (by decide) (by decide) (by decide) fun z => absurd (z.2 0 (six_reach0 1 (by decide)).symm) (by decide)
  have h2 : offF six cs 2 = 0 := off_nul N (by decide) (by decide) (by decide) fun z => absurd (z.2 0 (six_reach0 2 (by decide)).symm) (by decide)
  have h3 : offF six cs 3 = 2 := off_two N (by decide) (by decide) six_odd3 fun u hu => by
    have := reach_closed (S := [3, 4, 5]) (by decide) (by decide) hu
    have h : u = 3 ∨ u = 4 ∨ u = 5 := by simpa using this
    omega
  have h4 : offF six cs 4 = 0 := off_nul N (by decide) (by decide) (by decide) fun z => absurd (z.2 3 (six_reach3 4 (by decide)).symm) (by decide)
  have h5 : offF six cs 5 = 0 := off_nul N (by decide) (by decide) (by decide) fun z => absurd (z.2 3 (six_reach3 5 (by decide)).symm) (by decide)
  show [offF six cs 0, offF six cs 1, offF six cs 2, offF six cs 3, offF six cs 4, offF six cs 5] = _
  rw [h0, h1, h2, h3, h4, h5]
theorem two_bip : Bip two := ⟨fun v => decide (v = 0), fun t ht => by
  have : t = (0, 1) := by simpa [two] using ht
  rw [this]; decide⟩
theorem one_bip : Bip [(0, 1)] := ⟨fun v => decide (v = 0), fun t ht => by
  have : t = (0, 1) := by simpa using ht
  rw [this]; decide⟩
theorem one_webN {n : Int} (h : 2 ≤ n) : Web n [(0, 1)] := fun t ht => by
  have : t = (0, 1) := by simpa using ht
  rw [this]; simp; omega
theorem two_off {cs : List Int} (N : Nearly 2 two cs) : ((List.range (2 : Int).toNat).map fun (v : Nat) => offF two cs (v : Int)) = [0, 0] := by
  have h0 : offF two cs 0 = 0 := off_nul N (by decide) (by decide) (by decide) fun z => bip_no_odd two_web two_bip (by decide) z.1
  have h1 : offF two cs 1 = 0 := off_nul N (by decide) (by decide) (by decide) fun z => bip_no_odd two_web two_bip (by decide) z.1
  show [offF two cs 0, offF two cs 1] = _
  rw [h0, h1]
/-! the answers by hand -/
theorem odd_no {n : Int} {ts : List Tie} {sm sp : List Int} (hp : part n ts (sm.headD 0) = sp) (h : sm ≠ sp) : oddP n ts sm = false := oddP_false fun z => h (z.2.2.trans hp)
theorem odd_even {n : Int} {ts : List Tie} {sm : List Int} (h : ((sm.map (deg ts)).sum / 2 % 2 = 1) = False) : oddP n ts sm = false := by
  unfold oddP
  have : decide ((sm.map (deg ts)).sum / 2 % 2 = 1) = false := by simp [h]
  rw [this]; simp
abbrev Case := List Int × Int × List Tie × Bool
def caseD (a : Case) : PyData := .tuple [numsD a.1, .int a.2.1, tiesD a.2.2.1, .bool a.2.2.2]
def oddC : List Case := [([0, 1, 2], 3, tr, true), ([0, 1], 3, tr, false), ([0, 1, 1, 2], 3, tr, false), ([2], 3, [(0, 1)], false), ([0, 1], 2, two, false), ([], 3, tr, false), ([0, 1, 2, 3], 4, tr, false), ([0, 1, 2], 4, tr, true)]
theorem oddC_ok : ∀ a ∈ oddC, oddP a.2.1 a.2.2.1 a.1 = a.2.2.2 ∧ (a.2.1 ≤ 60 ∧ Web a.2.1 a.2.2.1 ∧ a.2.2.1.length ≤ 1000 ∧ a.1.length ≤ 1000) := fun a ha => by
  have h : a = ([0, 1, 2], 3, tr, true) ∨ a = ([0, 1], 3, tr, false) ∨ a = ([0, 1, 1, 2], 3, tr, false) ∨ a = ([2], 3, [(0, 1)], false) ∨ a = ([0, 1], 2, two, false) ∨ a = ([], 3, tr, false) ∨ a = ([0, 1, 2, 3], 4, tr, false) ∨ a = ([0, 1, 2], 4, tr, true) := by simpa [oddC] using ha
  rcases h with rfl | rfl | rfl | rfl | rfl | rfl | rfl | rfl
  · refine ⟨?_, by decide, tr_web, by decide, by decide⟩
    have := (oddP_part tr_web (b := 0) (by decide)).mpr (tr_odd (n := 3) (by decide))
    rw [tr_part (by decide) (by decide)] at this; exact this
  · exact ⟨odd_no (tr_part (v := 0) (by decide) (by decide)) (by decide), by decide, tr_web, by decide, by decide⟩
  · exact ⟨odd_no (tr_part (v := 0) (by decide) (by decide)) (by decide), by decide, tr_web, by decide, by decide⟩
  · exact ⟨odd_even (by decide), by decide, one_webN (by decide), by decide, by decide⟩
  · exact ⟨odd_even (by decide), by decide, two_web, by decide, by decide⟩
  · exact ⟨oddP_false fun z => z.1 rfl, by decide, tr_web, by decide, by decide⟩
  · exact ⟨odd_no (tr_part (v := 0) (by decide) (by decide)) (by decide), by decide, tr_webN (by decide), by decide, by decide⟩
  · refine ⟨?_, by decide, tr_webN (by decide), by decide, by decide⟩
    have := (oddP_part (tr_webN (n := 4) (by decide)) (b := 0) (by decide)).mpr (tr_odd (n := 4) (by decide))
    rw [tr_part (by decide) (by decide)] at this; exact this
def evenC : List Case := [([0, 1], 2, two, true), ([0, 0], 2, two, false), ([1], 3, [(0, 1)], true), ([2], 3, [(0, 1)], false), ([0, 1, 0], 3, tr, false), ([0], 2, two, false), ([0, 1, 1, 0], 4, sq, true), ([], 1, [], true)]
theorem even_by {n : Int} {ts : List Tie} {cs : List Int} {b : Bool} (hl : cs.length = ts.length) (hr : ∀ c ∈ cs, 0 ≤ c ∧ c < 2) (h : ((List.range n.toNat).all fun (v : Nat) => decide (cntAt ts cs (v : Int) 0 ≤ cntAt ts cs (v : Int) 1 + 1 ∧ cntAt ts cs (v : Int) 1 ≤ cntAt ts cs (v : Int) 0 + 1)) = b) : evenP n ts cs 2 = b := (even_rows hl hr).symm.trans h
theorem even_len {n m : Int} {ts : List Tie} {cs : List Int} (h : cs.length ≠ ts.length) : evenP n ts cs m = false := evenP_false fun z => h z.1
theorem even_far {n m : Int} {ts : List Tie} {cs : List Int} {c : Int} (hc : c ∈ cs) (h : ¬ (0 ≤ c ∧ c < m)) : evenP n ts cs m = false := evenP_false fun z => h (z.2.1 c hc)
theorem evenC_ok : ∀ a ∈ evenC, evenP a.2.1 a.2.2.1 a.1 2 = a.2.2.2 ∧ ((0 ≤ a.2.1 ∧ a.2.1 ≤ 60) ∧ Web a.2.1 a.2.2.1 ∧ a.2.2.1.length ≤ 1000 ∧ a.1.length ≤ 1000) := fun a ha => by
  have h : a = ([0, 1], 2, two, true) ∨ a = ([0, 0], 2, two, false) ∨ a = ([1], 3, [(0, 1)], true) ∨ a = ([2], 3, [(0, 1)], false) ∨ a = ([0, 1, 0], 3, tr, false) ∨ a = ([0], 2, two, false) ∨ a = ([0, 1, 1, 0], 4, sq, true) ∨ a = ([], 1, [], true) := by simpa [evenC] using ha
  rcases h with rfl | rfl | rfl | rfl | rfl | rfl | rfl | rfl
  · exact ⟨even_by rfl (by decide) (by decide), by decide, two_web, by decide, by decide⟩
  · exact ⟨even_by rfl (by decide) (by decide), by decide, two_web, by decide, by decide⟩
  · exact ⟨even_by rfl (by decide) (by decide), by decide, one_webN (by decide), by decide, by decide⟩
  · exact ⟨even_far (c := 2) (by decide) (by decide), by decide, one_webN (by decide), by decide, by decide⟩
  · exact ⟨even_by rfl (by decide) (by decide), by decide, tr_web, by decide, by decide⟩
  · exact ⟨even_len (by decide), by decide, two_web, by decide, by decide⟩
  · exact ⟨even_by rfl (by decide) (by decide), by decide, sq_web, by decide, by decide⟩
  · exact ⟨even_by rfl (by decide) (by decide), by decide, nil_web 1, by decide, by decide⟩
abbrev RCase := List Int × Bool
def ringC : List RCase := [([0, 2, 1], true), ([2, 1, 0], true), ([1, 0, 2], true), ([0, 1, 1], false), ([0], false), ([0, 2], false), ([0, 1, 2, 0], false), ([], false)]
theorem ringC_ok : ∀ a ∈ ringC, ringP tr a.1 = a.2 ∧ a.1.length ≤ 1000 := by decide
theorem one_cols {n m x : Int} (h0 : 0 ≤ x) (h1 : x < m) : evenP n [(0, 1)] [x] m = true := evenP_true.mpr ⟨rfl, fun c hc => by
  obtain rfl := List.mem_singleton.mp hc
  exact ⟨h0, h1⟩, fun v _ _ c d _ _ _ _ => by
  have : cntAt [(0, 1)] [x] v c ≤ 1 := by
    rw [cntAt_cons]
    have e : cntAt [] [] v c = 0 := rfl
    rw [e]; split <;> omega
  omega⟩
theorem two_cols {m x y : Int} (hx : 0 ≤ x ∧ x < m) (hy : 0 ≤ y ∧ y < m) (ne : x ≠ y) : evenP 2 two [x, y] m = true := evenP_true.mpr ⟨rfl, fun c hc => by
  have : c = x ∨ c = y := by simpa using hc
  rcases this with rfl | rfl
  · exact hx
  · exact hy, fun v _ _ c d _ _ _ _ => by
  have : cntAt two [x, y] v c ≤ 1 := by
    unfold two
    rw [cntAt_cons, cntAt_cons]
    have e : cntAt [] [] v c = 0 := rfl
    rw [e]
    by_cases h : x = c
    · have h2 : ¬ y = c := fun z => ne (h.trans z.symm)
      cases has (0, 1) v <;> simp [h, h2]
    · cases has (0, 1) v <;> by_cases h2 : y = c <;> simp [h, h2]
  omega⟩
theorem two_one : evenP 2 two [0, 0] 1 = true := evenP_true.mpr ⟨rfl, by decide, fun v _ _ c d c0 c1 d0 d1 => by
  have : c = d := by omega
  rw [this]; omega⟩
theorem two_same : evenP 2 two [3, 3] 9 = false := evenP_false fun z => by
  have := z.2.2 0 (by decide) (by decide) 3 0 (by decide) (by decide) (by decide) (by decide)
  revert this; decide

end
end TW
set_option Elab.async false
set_option linter.all false
set_option maxRecDepth 100000
set_option maxHeartbeats 4000000
namespace TW
open PySem PySem.Spec PyProof.Rows L2 TM TB
open Evl (Ex Ex.refl Ex.trans Ex.new Ex.mut Ev EvT EvA ev_var ev_c ev_op rv_I0 rv_I rv_eq rv_ne et_test et_B et_and et_or et_not et_is ev_is sz_of sz_lt fresh_back)
section
variable {P : Program} {w : World} {K : PySem.W.Frag} {mg : Str → Option Value} {base : Heap} {A : Ad}
/-! ### more that is promised -/
def tInts : List Int → TA
  | [] => tNil
  | i :: l => tCons (tC (.int i)) (tInts l)
def tTies : List Tie → TA
  | [] => tNil
  | t :: l => tCons (tTup (tCons (tC (.int t.1)) (tCons (tC (.int t.2)) tNil))) (tTies l)
section
variable {σ : L2.St} {B H : Hp}
theorem eds_ints (e : Ex B H) : ∀ l : List Int, EvDs (tInts l) σ B H (l.map PyData.int)
  | [] => eds_nil e
  | i :: l => eds_cons (eI e) (eds_ints e l)
theorem eds_ties (e : Ex B H) : ∀ l : List Tie, EvDs (tTies l) σ B H (l.map tieD)
  | [] => eds_nil e
  | t :: l => eds_cons (eT2 e (eI e) (eI e)) (eds_ties e l)
theorem eInts (e : Ex B H) (l : List Int) (hl : l.length ≤ 1000 := by decide) : EvD (tLst (tInts l)) σ B H (numsD l) := EvN.toD (en_lst (eds_ints e l) (by rw [List.length_map]; omega))
theorem eTies (e : Ex B H) (l : List Tie) (hl : l.length ≤ 1000 := by decide) : EvD (tLst (tTies l)) σ B H (tiesD l) := EvN.toD (en_lst (eds_ties e l) (by rw [List.length_map]; omega))
theorem es_far {t2 : TE} {E E2 : XK} {n : Int} {ts : List Tie} (hn : 1 ≤ n ∧ n ≤ 40) (w : Web n ts) (hl : ts.length ≤ 120) (eb : Ex B H) (h2 : EvD t2 σ B H (tiesD ts)) :
    EvS (tCall sp__law_far [] E (tCons (tC (.int n)) (tCons t2 (tCons (tCall (sp_nearly A) [] E2 (tCons (tC (.int n)) (tCons t2 tNil))) tNil)))) σ B H (fun d => ∃ ns : List Int, (∃ cs, Nearly n ts cs ∧ ns = (List.range n.toNat).map fun (v : Nat) => offF ts cs (v : Int)) ∧ d = numsD ns) := fun H1 e Q q => by
  refine h2 H1 e _ fun v2 B2 H2 g2 k2 => ?_
  refine near_em (A := A) hn w hl (eds_cons (eI eb) (eds_cons h2 (eds_nil eb))) H2 (e.trans g2.hh) _ fun ds p xs B3 H3 pd g3 n3 nb3 h3 k3 => ?_
  obtain ⟨N, rfl⟩ := pd
  obtain ⟨g', u1, u2⟩ := g2.un (fixD g3 n3 nb3 h3)
  have kC : Da (upd B3 p (.lst xs)) (.ref p) (numsD (nearF n ts)) := .lst upd_same (k3.ex (Ex.new nb3))
  show sp__law_far ([.int n, v2, .ref p] ++ []) H3 Q E
  exact ⟨n, ts, nearF n ts, _, g'.bh, .cons (.int _) (.cons (k2.ex u1) (.cons (kC.ex u2) .nil)), ⟨by omega, by omega, w, N.len, N.val, by omega⟩, fun p2 xs2 B4 H4 g4 n4 nb4 h4 k4 => q _ (.ref p2) (upd B4 p2 (.lst xs2)) H4 ⟨_, ⟨_, N, rfl⟩, rfl⟩ (g'.trans (fixD g4 n4 nb4 h4)) (.lst upd_same (k4.ex (Ex.new nb4)))⟩
theorem ask_ring {ta : TE} {t : TA} {E1 E2 : XK} {n : Int} {ts : List Tie} {many : Int} {rs : List Int} {b : Bool} (e : Ex B H) (h : EvD ta σ B H (numsD rs)) (ht : ∀ H1, Ex H H1 → EvDs t σ B H1 [.int n, tiesD ts, .int many]) (hl : ts.length ≤ 1000) (hr : rs.length ≤ 1000) (hb : ringP ts rs = b) :
    Ev (tMeth A.Ring "shows" (sp_Ring_shows A) [] E2 (tMake A.Ring (SpInit A.Ring "ring") [] E1 (tCons ta tNil)) t) σ H (.bl b) :=
  ev_madeAsk (C := A.Ring) (f := "ring") (m := "shows") e h ht rfl fun x l B5 H5 vs Q5 E5 o e5 k5 q5 => by
    match vs, k5 with
    | [w1, w2, w3], k5 =>
      rw [← hb] at q5
      exact ⟨x, l, _, w1, w2, w3, _, _, _, B5, rfl, o, e5, k5, ⟨hl, hr⟩, q5⟩
theorem ask_odd {ta : TE} {t : TA} {E1 E2 : XK} {n : Int} {ts : List Tie} {rs : List Int} {b : Bool} (e : Ex B H) (h : EvD ta σ B H (numsD rs)) (ht : ∀ H1, Ex H H1 → EvDs t σ B H1 [.int n, tiesD ts]) (hc : n ≤ 60 ∧ Web n ts ∧ ts.length ≤ 1000 ∧ rs.length ≤ 1000) (hb : oddP n ts rs = b) :
    Ev (tMeth A.Odd "shows" (sp_Odd_shows A) [] E2 (tMake A.Odd (SpInit A.Odd "some") [] E1 (tCons ta tNil)) t) σ H (.bl b) :=
  ev_madeAsk (C := A.Odd) (f := "some") (m := "shows") e h ht rfl fun x l B5 H5 vs Q5 E5 o e5 k5 q5 => by
    match vs, k5 with
    | [w1, w2], k5 =>
      rw [← hb] at q5
      exact ⟨x, l, _, w1, w2, _, _, B5, rfl, o, e5, k5, hc, q5⟩
theorem ask_even {ta : TE} {t : TA} {E1 E2 : XK} {n : Int} {ts : List Tie} {rs : List Int} {b : Bool} (e : Ex B H) (h : EvD ta σ B H (numsD rs)) (ht : ∀ H1, Ex H H1 → EvDs t σ B H1 [.int n, tiesD ts]) (hc : (0 ≤ n ∧ n ≤ 60) ∧ Web n ts ∧ ts.length ≤ 1000 ∧ rs.length ≤ 1000) (hb : evenP n ts rs 2 = b) :
    Ev (tMeth A.Even "shows" (sp_Even_shows A) [] E2 (tMake A.Even (SpInit A.Even "colours") [] E1 (tCons ta tNil)) t) σ H (.bl b) :=
  ev_madeAsk (C := A.Even) (f := "colours") (m := "shows") e h ht rfl fun x l B5 H5 vs Q5 E5 o e5 k5 q5 => by
    match vs, k5 with
    | [w1, w2], k5 =>
      rw [← hb] at q5
      exact ⟨x, l, _, w1, w2, _, _, B5, rfl, o, e5, k5, ⟨hc.1.1, by omega, hc.2.1, hc.2.2.1, hc.2.2.2⟩, q5⟩
theorem ask_shr {ta : TE} {t : TA} {E1 E2 : XK} {n many : Int} {ts : List Tie} {rs : List Int} {b : Bool} (e : Ex B H) (h : EvD ta σ B H (numsD rs)) (ht : ∀ H1, Ex H H1 → EvDs t σ B H1 [.int n, tiesD ts, .int many]) (hc : (0 ≤ n ∧ n ≤ 60) ∧ Web n ts ∧ ts.length ≤ 1000 ∧ rs.length ≤ 1000) (hb : evenP n ts rs many = b) :
    Ev (tMeth A.Shares "shows" (sp_Shares_shows A) [] E2 (tMake A.Shares (SpInit A.Shares "colours") [] E1 (tCons ta tNil)) t) σ H (.bl b) :=
  ev_madeAsk (C := A.Shares) (f := "colours") (m := "shows") e h ht rfl fun x l B5 H5 vs Q5 E5 o e5 k5 q5 => by
    match vs, k5 with
    | [w1, w2, w3], k5 =>
      rw [← hb] at q5
      exact ⟨x, l, _, w1, w2, w3, _, _, _, B5, rfl, o, e5, k5, ⟨hc.1.1, by omega, hc.2.1, hc.2.2.1, hc.2.2.2⟩, q5⟩
end
theorem da_five {B : Hp} {vs : List V} {d1 d2 d3 d4 d5 : PyData} (k : DaAll B vs [d1, d2, d3, d4, d5]) : ∃ w1 w2 w3 w4 w5, vs = [w1, w2, w3, w4, w5] ∧ Da B w1 d1 ∧ Da B w2 d2 ∧ Da B w3 d3 ∧ Da B w4 d4 ∧ Da B w5 d5 := by
  cases k with
  | cons a k => cases k with
    | cons b k => cases k with
      | cons c k => cases k with
        | cons d k => cases k with
          | cons e k => cases k with
            | nil => exact ⟨_, _, _, _, _, rfl, a, b, c, d, e⟩
def sp__law_more_promises : Sp := fun vs H Q _ => ∃ (B : Hp) (gr : Int), Ex B H ∧ DaAll B vs [tiesD tr, tiesD two, tiesD [(0, 1)], tiesD sq, .int gr] ∧ 5 < gr ∧ RetV H (.bl true) Q
theorem len__law_more_promises {vs : List V} {H : Hp} {Q : VK} {E : XK} (h : sp__law_more_promises vs H Q E) : vs.length = 5 := by
  obtain ⟨_, _, _, k, _⟩ := h
  exact k.len
theorem ok__law_more_promises (T : TX K mg A) : Ok P w K mg base CX0 5 A._law_more_promises ["_law_three", "_law_two", "_law_lone", "_law_square", "_law_great"] sp__law_more_promises := by
  obtain ⟨fd, F⟩ := T.F__law_more_promises
  obtain ⟨fd_nearly, G_nearly, B_nearly, K_nearly⟩ := ok_nearly (P := P) (w := w) (base := base) T
  obtain ⟨fd_shared, G_shared, B_shared, K_shared⟩ := ok_shared (P := P) (w := w) (base := base) T
  obtain ⟨fd__law_far, G__law_far, B__law_far, K__law_far⟩ := ok__law_far (P := P) (w := w) (base := base) T
  obtain ⟨fd_Ring___init__, G_Ring___init__, B_Ring___init__, K_Ring___init__⟩ := ok_Ring___init__ (P := P) (w := w) (base := base) T
  obtain ⟨fd_Shares___init__, G_Shares___init__, B_Shares___init__, K_Shares___init__⟩ := ok_Shares___init__ (P := P) (w := w) (base := base) T
  obtain ⟨fd_Ring_shows, G_Ring_shows, B_Ring_shows, K_Ring_shows⟩ := ok_Ring_shows (P := P) (w := w) (base := base) T
  obtain ⟨fd_Shares_shows, G_Shares_shows, B_Shares_shows, K_Shares_shows⟩ := ok_Shares_shows (P := P) (w := w) (base := base) T
  refine ⟨fd, ?_, F.binds (ps := ["_law_three", "_law_two", "_law_lone", "_law_square", "_law_great"]) fun _ _ _ _ _ _ us hl => match us, hl with | [_, _, _, _, _], _ => rfl, F.kp⟩
  refine F.ok sc__law_more_promises (fun vs H Q E h => len__law_more_promises h) (fun cdv Ar outer s H vs Q E hr h => ?_)
  have nd := sc__law_more_promises.nd
  have hu := hu_of hr
  obtain ⟨B, gr, eb, k, h5, q⟩ := h
  obtain ⟨v0, v1, v2, v3, v4, rfl, k0, k1, k2, k3, k4⟩ := da_five k
  obtain rfl := k4.int_inv
  refine ⟨_, (pss_cons (ps_set (i := 5) nd rfl (by first | exact .inl rfl | exact .inr rfl) (pe_op op_cat (pv 0) (pe_lst (pa_cons (pe_tup (pa_cons pe_int (pa_cons pe_int pa_nil))) (pa_cons (pe_tup (pa_cons pe_int (pa_cons pe_int pa_nil))) (pa_cons (pe_tup (pa_cons pe_int (pa_cons pe_int pa_nil))) pa_nil)))))) (pss_cons (ps_if (pt_cmpR (neDK K hr.units) (pe_callB (sortedK K) (by rfl) T.n_sorted (by decide +kernel) (pa_cons (pe_call G__law_far (hr.mono (by decide)) (by rfl) T.g__law_far K__law_far B__law_far .nil pass0 (pa_cons pe_int (pa_cons (pv 5) (pa_cons (pe_call G_nearly (hr.mono (by decide)) (by rfl) T.g_nearly K_nearly B_nearly .nil passN (pa_cons pe_int (pa_cons (pv 5) pa_nil))) pa_nil)))) pa_nil)) (pe_lst (pa_cons pe_int (pa_cons pe_int (pa_cons pe_int (pa_cons pe_int (pa_cons pe_int (pa_cons pe_int pa_nil))))))) (by first | exact nomark _ | rfl)) (pss_one (ps_ret pe_bl)) pss_nil) (pss_cons (ps_set (i := 6) nd rfl (by first | exact .inl rfl | exact .inr rfl) (pe_lst (pa_cons (pe_tup (pa_cons (pe_lst (pa_cons pe_int (pa_cons pe_int (pa_cons pe_int pa_nil)))) (pa_cons pe_bl pa_nil))) (pa_cons (pe_tup (pa_cons (pe_lst (pa_cons pe_int (pa_cons pe_int (pa_cons pe_int pa_nil)))) (pa_cons pe_bl pa_nil))) (pa_cons (pe_tup (pa_cons (pe_lst (pa_cons pe_int (pa_cons pe_int (pa_cons pe_int pa_nil)))) (pa_cons pe_bl pa_nil))) (pa_cons (pe_tup (pa_cons (pe_lst (pa_cons pe_int (pa_cons pe_int (pa_cons pe_int pa_nil)))) (pa_cons pe_bl pa_nil))) pa_nil)))))) (pss_cons (ps_set (i := 6) nd rfl (by first | exact .inl rfl | exact .inr rfl) (pe_op op_cat (pv 6) (pe_lst (pa_cons (pe_tup (pa_cons (pe_lst (pa_cons pe_int pa_nil)) (pa_cons pe_bl pa_nil))) (pa_cons (pe_tup (pa_cons (pe_lst (pa_cons pe_int (pa_cons pe_int pa_nil))) (pa_cons pe_bl pa_nil))) (pa_cons (pe_tup (pa_cons (pe_lst (pa_cons pe_int (pa_cons pe_int (pa_cons pe_int (pa_cons pe_int pa_nil))))) (pa_cons pe_bl pa_nil))) (pa_cons (pe_tup (pa_cons (pe_lst pa_nil) (pa_cons pe_bl pa_nil))) pa_nil))))))) (pss_cons (ps_for PassesOwn.never rfl (listK K (pv 6)) (gtupK K rfl (pgs_cons (pg_name (i := 7) nd rfl (by first | exact .inl rfl | exact .inr rfl)) (pgs_cons (pg_name (i := 8) nd rfl (by first | exact .inl rfl | exact .inr rfl)) pgs_nil))) (pss_one (ps_if (pt_cmpR op_ne (pe_meth (pe_make T.m_Ring G_Ring___init__ (hr.mono (by decide)) (by rfl) T.g_Ring B_Ring___init__ .nil pass0 (pa_cons (pv 7) pa_nil)) T.c_Ring T.m_Ring_shows G_Ring_shows (hr.mono (by decide)) B_Ring_shows .nil pass0 (pa_cons pe_int (pa_cons (pv 0) (pa_cons pe_int pa_nil)))) (pv 8) (by first | exact nomark _ | rfl)) (pss_one (ps_ret pe_bl)) pss_nil))) (pss_cons (ps_if (PW.pt (pw_or (pt_not (pt_val (pe_callB (isiK K) (by rfl) T.n_isinstance (by decide +kernel) (pa_cons (pe_call G_shared (hr.mono (by decide)) (by rfl) T.g_shared K_shared B_shared .nil passN (pa_cons pe_int (pa_cons (pv 0) (pa_cons pe_int pa_nil)))) (pa_cons (pe_glob (v := .ref A.Ring) rfl T.g_Ring rfl) pa_nil))))) (pw_or1 (pt_not (pt_val (pe_callB (isiK K) (by rfl) T.n_isinstance (by decide +kernel) (pa_cons (pe_call G_shared (hr.mono (by decide)) (by rfl) T.g_shared K_shared B_shared .nil passN (pa_cons pe_int (pa_cons (pv 3) (pa_cons pe_int pa_nil)))) (pa_cons (pe_glob (v := .ref A.Shares) rfl T.g_Shares rfl) pa_nil)))))))) (pss_one (ps_ret pe_bl)) pss_nil) (pss_cons (ps_if (pt_not (pt_val (pe_callB (isiK K) (by rfl) T.n_isinstance (by decide +kernel) (pa_cons (pe_call G_shared (hr.mono (by decide)) (by rfl) T.g_shared K_shared B_shared .nil passN (pa_cons pe_int (pa_cons (pv 2) (pa_cons (pv 4) pa_nil)))) (pa_cons (pe_glob (v := .ref A.Shares) rfl T.g_Shares rfl) pa_nil))))) (pss_one (ps_ret pe_bl)) pss_nil) (pss_cons (ps_if (PW.pt (pw_or (pt_not (pt_val (pe_meth (pe_make T.m_Shares G_Shares___init__ (hr.mono (by decide)) (by rfl) T.g_Shares B_Shares___init__ .nil pass0 (pa_cons (pe_lst (pa_cons pe_int pa_nil)) pa_nil)) T.c_Shares T.m_Shares_shows G_Shares_shows (hr.mono (by decide)) B_Shares_shows .nil pass0 (pa_cons pe_int (pa_cons (pv 2) (pa_cons (pv 4) pa_nil)))))) (pw_or1 (pt_val (pe_meth (pe_make T.m_Shares G_Shares___init__ (hr.mono (by decide)) (by rfl) T.g_Shares B_Shares___init__ .nil pass0 (pa_cons (pe_lst (pa_cons (pv 4) pa_nil)) pa_nil)) T.c_Shares T.m_Shares_shows G_Shares_shows (hr.mono (by decide)) B_Shares_shows .nil pass0 (pa_cons pe_int (pa_cons (pv 2) (pa_cons (pv 4) pa_nil)))))))) (pss_one (ps_ret pe_bl)) pss_nil) (pss_cons (ps_if (PW.pt (pw_or (pt_val (pe_meth (pe_make T.m_Shares G_Shares___init__ (hr.mono (by decide)) (by rfl) T.g_Shares B_Shares___init__ .nil pass0 (pa_cons (pe_lst (pa_cons (pe_un un_neg pe_int) pa_nil)) pa_nil)) T.c_Shares T.m_Shares_shows G_Shares_shows (hr.mono (by decide)) B_Shares_shows .nil pass0 (pa_cons pe_int (pa_cons (pv 2) (pa_cons (pv 4) pa_nil))))) (pw_or1 (pt_val (pe_meth (pe_make T.m_Shares G_Shares___init__ (hr.mono (by decide)) (by rfl) T.g_Shares B_Shares___init__ .nil pass0 (pa_cons (pe_lst pa_nil) pa_nil)) T.c_Shares T.m_Shares_shows G_Shares_shows (hr.mono (by decide)) B_Shares_shows .nil pass0 (pa_cons pe_int (pa_cons (pv 2) (pa_cons (pv 4) pa_nil)))))))) (pss_one (ps_ret pe_bl)) pss_nil) (pss_one (ps_ret (pe_and (pe_meth (pe_make T.m_Shares G_Shares___init__ (hr.mono (by decide)) (by rfl) T.g_Shares B_Shares___init__ .nil pass0 (pa_cons (pe_lst (pa_cons pe_int (pa_cons pe_int pa_nil))) pa_nil)) T.c_Shares T.m_Shares_shows G_Shares_shows (hr.mono (by decide)) B_Shares_shows .nil pass0 (pa_cons pe_int (pa_cons (pv 1) (pa_cons pe_int pa_nil)))) (pe_and (pe_not (pe_meth (pe_make T.m_Shares G_Shares___init__ (hr.mono (by decide)) (by rfl) T.g_Shares B_Shares___init__ .nil pass0 (pa_cons (pe_lst (pa_cons pe_int (pa_cons pe_int pa_nil))) pa_nil)) T.c_Shares T.m_Shares_shows G_Shares_shows (hr.mono (by decide)) B_Shares_shows .nil pass0 (pa_cons pe_int (pa_cons (pv 1) (pa_cons pe_int pa_nil))))) (pe_one (pe_meth (pe_make T.m_Shares G_Shares___init__ (hr.mono (by decide)) (by rfl) T.g_Shares B_Shares___init__ .nil pass0 (pa_cons (pe_lst (pa_cons pe_int (pa_cons pe_int pa_nil))) pa_nil)) T.c_Shares T.m_Shares_shows G_Shares_shows (hr.mono (by decide)) B_Shares_shows .nil pass0 (pa_cons pe_int (pa_cons (pv 1) (pa_cons pe_int pa_nil)))))))))))))))))), ?_⟩
  refine q_asgN (B := B) (ds := six.map tieD) (en_cat (ds := tr.map tieD) (es := [(3, 4), (3, 5), (4, 5)].map tieD) (ed_var (n := 0) eb rfl k0) (eTies eb [(3, 4), (3, 5), (4, 5)]) (by decide)) fun lp xp B1 H1 g1 n1 nb1 h1 kp => ?_
  have gx := fixD g1 n1 nb1 h1
  have kP : Da (upd B1 lp (.lst xp)) (.ref lp) (tiesD six) := .lst upd_same (kp.ex (Ex.new nb1))
  have k0 := k0.ex gx.bb
  have k1 := k1.ex gx.bb
  have k2 := k2.ex gx.bb
  have k3 := k3.ex gx.bb
  have e1 := gx.hh
  have eb := gx.bh
  generalize upd B1 lp (.lst xp) = B2 at kP k0 k1 k2 k3 eb
  clear gx g1 n1 nb1 h1 kp
  refine q_when (b := false) (et_is (et_test (ev_neS (K := K) (b := true) (es_sorted (K := K) (es_far (A := A) (n := 6) (ts := six) (by decide) six_web (by decide) eb (ed_var (n := 5) eb rfl kP))) (eInts eb [0, 0, 0, 0, 2, 2]) ?_ (sh_nums _).ok)) rfl) (fun hb => (nomatch hb)) (fun _ H3 e3 => ?_)
  · rintro d ⟨ms, ns, ⟨cs, N, rfl⟩, pm, sm, rfl⟩
    have := perm_eq pm sm (ks := [0, 0, 0, 0, 2, 2]) (by rw [six_off N]; decide) (by decide)
    subst this
    exact ⟨(sh_nums _).ok, by rw [eqv_nums]; decide⟩
  have eb3 := eb.trans e3
  have e03 := e1.trans e3
  refine q_asgN (B := B2) (ds := (ringC.take 4).map fun a : RCase => .tuple [numsD a.1, .bool a.2]) (en_lst (hl := Nat.le_of_ble_eq_true rfl) (eds_cons (eT2 eb3 (eInts eb3 [0, 2, 1]) (eB eb3)) (eds_cons (eT2 eb3 (eInts eb3 [2, 1, 0]) (eB eb3)) (eds_cons (eT2 eb3 (eInts eb3 [1, 0, 2]) (eB eb3)) (eds_cons (eT2 eb3 (eInts eb3 [0, 1, 1]) (eB eb3)) (eds_nil eb3)))))) fun lc xc B4 H4 g4 n4 nb4 h4 kc => ?_
  have gx := fixD g4 n4 nb4 h4
  have kC : Da (upd B4 lc (.lst xc)) (.ref lc) (.list ((ringC.take 4).map fun a : RCase => .tuple [numsD a.1, .bool a.2])) := .lst upd_same (kc.ex (Ex.new nb4))
  have k0 := k0.ex gx.bb
  have k1 := k1.ex gx.bb
  have k2 := k2.ex gx.bb
  have k3 := k3.ex gx.bb
  have e04 := e03.trans gx.hh
  have eb4 := gx.bh
  generalize upd B4 lc (.lst xc) = B5 at kC k0 k1 k2 k3 eb4
  clear gx g4 n4 nb4 h4 kc
  refine q_asgN (B := B5) (ds := ringC.map fun a : RCase => .tuple [numsD a.1, .bool a.2]) (en_cat (ds := (ringC.take 4).map fun a : RCase => .tuple [numsD a.1, .bool a.2]) (es := (ringC.drop 4).map fun a : RCase => .tuple [numsD a.1, .bool a.2]) (ed_var (n := 6) eb4 rfl kC) (EvN.toD (en_lst (hl := Nat.le_of_ble_eq_true rfl) (eds_cons (eT2 eb4 (eInts eb4 [0]) (eB eb4)) (eds_cons (eT2 eb4 (eInts eb4 [0, 2]) (eB eb4)) (eds_cons (eT2 eb4 (eInts eb4 [0, 1, 2, 0]) (eB eb4)) (eds_cons (eT2 eb4 (eInts eb4 []) (eB eb4)) (eds_nil eb4))))))) (Nat.le_of_ble_eq_true rfl)) fun lc xc B6 H6 g6 n6 nb6 h6 kc => ?_
  have gx := fixD g6 n6 nb6 h6
  have kC : Da (upd B6 lc (.lst xc)) (.ref lc) (.list (ringC.map fun a : RCase => .tuple [numsD a.1, .bool a.2])) := .lst upd_same (kc.ex (Ex.new nb6))
  have k0 := k0.ex gx.bb
  have k1 := k1.ex gx.bb
  have k2 := k2.ex gx.bb
  have k3 := k3.ex gx.bb
  have e06 := e04.trans gx.hh
  have eb6 := gx.bh
  generalize upd B6 lc (.lst xc) = B7 at kC k0 k1 k2 k3 eb6
  clear gx g6 n6 nb6 h6 kc
  refine q_for2 (K := K) (B := B7) (d1 := fun a : RCase => numsD a.1) (d2 := fun a : RCase => .bool a.2) (P := (· = ringC)) (ei_list (K := K) (ed_var (n := 6) eb6 rfl kC))
    (fun l B8 i σ' H' => Ex H H' ∧ Ex B7 B8 ∧ Ex B8 H' ∧ ∃ (y7 y8 : Option V), σ' = [some v0, some v1, some v2, some v3, some (.int gr), some (.ref lp), some (.ref lc), y7, y8]) ?_ ?_ ?_ ?_
  · rintro l B8 H8 - g8
    exact ⟨e06.trans g8.hh, g8.bb, g8.bh, none, none, rfl⟩
  · rintro l B8 i σ' H' ⟨_, _, e, _⟩
    exact e
  · rintro l B8 i a x y B9 σ' H' H9 rfl hi ⟨e0, e78, e8, y7, y8, rfl⟩ g9 kx ky
    obtain ⟨ha, hlen⟩ := ringC_ok a (List.mem_of_getElem? hi)
    obtain rfl := ky.bl_inv
    have eb9 := g9.bh
    have k0 := k0.ex (e78.trans g9.bb)
    refine s_when (b := false) (et_is (et_test (ev_ne (ask_ring (n := 3) (many := 2) eb9 (ed_var (n := 7) eb9 rfl kx) (fun H1 e => eds_cons (eI (eb9.trans e)) (eds_cons (ed_var (n := 0) (eb9.trans e) rfl k0) (eds_cons (eI (eb9.trans e)) (eds_nil (eb9.trans e))))) (by decide) hlen ha) (ev_var (i := 8) rfl) rfl)) (by simp)) (fun hb => (nomatch hb)) (fun _ H10 e10 => ?_)
    exact ⟨(e0.trans g9.hh).trans e10, e78, (g9.bb.trans eb9).trans e10, _, _, rfl⟩
  rintro l B8 σ' H8 - ⟨e08, e78, eb8, y7, y8, rfl⟩
  have k0 := k0.ex e78
  have k1 := k1.ex e78
  have k2 := k2.ex e78
  have k3 := k3.ex e78
  refine q_when (b := false) (et_is (et_or (a := false) (b := false) (et_is (et_not (et_B (ev_isRgS T (n := 3) (m := 5) (ts := tr) (b := false) (by decide) tr_web (by decide) (by decide) (eds_cons (eI eb8) (eds_cons (ed_var (n := 0) eb8 rfl k0) (eds_cons (eI eb8) (eds_nil eb8)))) (sn_ring tr_bip)))) rfl) fun _ => et_is (et_not (et_B (ev_isShr T (n := 4) (m := 2) (ts := sq) (b := true) (by decide) sq_web (by decide) (by decide) (eds_cons (eI eb8) (eds_cons (ed_var (n := 3) eb8 rfl k3) (eds_cons (eI eb8) (eds_nil eb8)))) (sn_shares sq_bip)))) rfl) rfl) (fun hb => (nomatch hb)) (fun _ H9 e9 => ?_)
  have eb9 := eb8.trans e9
  have args : ∀ {H1 : Hp}, Ex H9 H1 → EvDs (tCons (tC (.int 2)) (tCons (tVar 2) (tCons (tVar 4) tNil))) [some v0, some v1, some v2, some v3, some (.int gr), some (.ref lp), some (.ref lc), y7, y8] B8 H1 [.int 2, tiesD [(0, 1)], .int gr] := fun e => eds_cons (eI (eb9.trans e)) (eds_cons (ed_var (n := 2) (eb9.trans e) rfl k2) (eds_cons (edi (eb9.trans e) (ev_var (i := 4) rfl)) (eds_nil (eb9.trans e))))
  have argt : ∀ {H1 : Hp} (m : Int), Ex H9 H1 → EvDs (tCons (tC (.int 2)) (tCons (tVar 1) (tCons (tC (.int m)) tNil))) [some v0, some v1, some v2, some v3, some (.int gr), some (.ref lp), some (.ref lc), y7, y8] B8 H1 [.int 2, tiesD two, .int m] := fun m e => eds_cons (eI (eb9.trans e)) (eds_cons (ed_var (n := 1) (eb9.trans e) rfl k1) (eds_cons (eI (eb9.trans e)) (eds_nil (eb9.trans e))))
  refine q_when (b := false) (et_is (et_not (et_B (ev_isShr T (n := 2) (m := gr) (ts := [(0, 1)]) (b := true) (by decide) one_web (by decide) (by omega) (args (Ex.refl _)) (sn_shares one_bip)))) rfl) (fun hb => (nomatch hb)) (fun _ H10 e10 => ?_)
  have eb10 := eb9.trans e10
  have ok1 : ∀ {rs : List Int}, rs.length ≤ 1000 → ((0 : Int) ≤ 2 ∧ (2 : Int) ≤ 60) ∧ Web 2 [(0, 1)] ∧ ([(0, 1)] : List Tie).length ≤ 1000 ∧ rs.length ≤ 1000 := fun h => ⟨by decide, one_web, by decide, h⟩
  have ok2 : ∀ {rs : List Int}, rs.length ≤ 1000 → ((0 : Int) ≤ 2 ∧ (2 : Int) ≤ 60) ∧ Web 2 two ∧ two.length ≤ 1000 ∧ rs.length ≤ 1000 := fun h => ⟨by decide, two_web, by decide, h⟩
  refine q_when (b := false) (et_is (et_or (a := false) (b := false) (et_is (et_not (et_B (ask_shr (rs := [5]) eb10 (eInts eb10 [5]) (fun H1 e => args (e10.trans e)) (ok1 (by decide)) (one_cols (by decide) h5)))) rfl) fun _ => et_is (et_B (ask_shr (rs := [gr]) eb10 (EvN.toD (en_lst (eds_cons (edi eb10 (ev_var (i := 4) rfl)) (eds_nil eb10)))) (fun H1 e => args (e10.trans e)) (ok1 (Nat.le_of_ble_eq_true rfl)) (even_far (c := gr) List.mem_cons_self fun z => absurd z.2 (Int.lt_irrefl _)))) rfl) rfl) (fun hb => (nomatch hb)) (fun _ H11 e11 => ?_)
  have eb11 := eb10.trans e11
  have e911 := e10.trans e11
  refine q_when (b := false) (et_is (et_or (a := false) (b := false) (et_is (et_B (ask_shr (rs := [-1]) eb11 (EvN.toD (en_lst (eds_cons (edi eb11 (ev_neg ev_c)) (eds_nil eb11)))) (fun H1 e => args (e911.trans e)) (ok1 (by decide)) (even_far (c := -1) List.mem_cons_self fun z => absurd z.1 (by decide)))) rfl) fun _ => et_is (et_B (ask_shr (rs := []) eb11 (eInts eb11 []) (fun H1 e => args (e911.trans e)) (ok1 (by decide)) (even_len (by decide)))) rfl) rfl) (fun hb => (nomatch hb)) (fun _ H12 e12 => ?_)
  have eb12 := eb11.trans e12
  have e912 := e911.trans e12
  refine Evl.s_ret (v := .bl true) (ev_is (Evl.ev_andV (a := true) (b := true) (ask_shr (rs := [0, 0]) eb12 (eInts eb12 [0, 0]) (fun H1 e => argt 1 (e912.trans e)) (ok2 (by decide)) two_one) fun _ => ev_is (Evl.ev_andV (a := true) (b := true) (ev_is (Evl.ev_notV (ask_shr (rs := [3, 3]) eb12 (eInts eb12 [3, 3]) (fun H1 e => argt 9 (e912.trans e)) (ok2 (by decide)) two_same)) rfl) fun _ => ask_shr (rs := [3, 8]) eb12 (eInts eb12 [3, 8]) (fun H1 e => argt 9 (e912.trans e)) (ok2 (by decide)) (two_cols (by decide) (by decide) (by decide))) rfl) rfl) fun H13 e13 => q H13 (e08.trans (e9.trans (e912.trans e13)))

end
end TW
set_option Elab.async false
set_option linter.all false
set_option maxRecDepth 100000
set_option maxHeartbeats 4000000
namespace TW
open PySem PySem.Spec PyProof.Rows L2 TM TB
open Evl (Ex Ex.refl Ex.trans Ex.new Ex.mut Ev EvT EvA ev_var ev_c ev_op rv_I0 rv_I rv_eq rv_ne et_test et_B et_and et_or et_not et_is ev_is sz_of sz_lt fresh_back)
section
variable {P : Program} {w : World} {K : PySem.W.Frag} {mg : Str → Option Value} {base : Heap} {A : Ad}
/-! ### what is promised -/
theorem da_three3 {B : Hp} {vs : List V} {d1 d2 d3 : PyData} (k : DaAll B vs [d1, d2, d3]) : ∃ w1 w2 w3, vs = [w1, w2, w3] ∧ Da B w1 d1 ∧ Da B w2 d2 ∧ Da B w3 d3 := by
  cases k with
  | cons a k => cases k with
    | cons b k => cases k with
      | cons c k => cases k with
        | nil => exact ⟨_, _, _, rfl, a, b, c⟩
theorem da_twoL {B : Hp} {vs : List V} {d1 d2 : PyData} (k : DaAll B vs [d1, d2]) : ∃ w1 w2, vs = [w1, w2] ∧ Da B w1 d1 ∧ Da B w2 d2 := by
  cases k with
  | cons a k => cases k with
    | cons b k => cases k with
      | nil => exact ⟨_, _, rfl, a, b⟩
theorem da_four {B : Hp} {v : V} {d1 d2 d3 d4 : PyData} (k : Da B v (.tuple [d1, d2, d3, d4])) : ∃ T w1 w2 w3 w4, v = .ref T ∧ B T = some (.tup [w1, w2, w3, w4]) ∧ Da B w1 d1 ∧ Da B w2 d2 ∧ Da B w3 d3 ∧ Da B w4 d4 := by
  cases k with
  | tup h k => cases k with
    | cons a k => cases k with
      | cons b k => cases k with
        | cons c k => cases k with
          | cons d k => cases k with
            | nil => exact ⟨_, _, _, _, _, rfl, h, a, b, c, d⟩
section
variable {σ : L2.St} {B H : Hp} {ta : TA} {tz : TS} {Dn : Ends} {d1 d2 d3 : PyData} {i j l : Nat}
theorem q_par3D (h : EvDs ta σ B H [d1, d2, d3]) (k : ∀ u v w B' H', Gr B H B' H' → Da B' u d1 → Da B' v d2 → Da B' w d3 → tz Dn (((σ.set i (some u)).set j (some v)).set l (some w)) H') : tSeq (tPar3 i j l ta) tz Dn σ H :=
  h H (Ex.refl H) _ fun vs B1 H1 g kd => by
    obtain ⟨u, v, w, rfl, k0, k1, k2⟩ := da_three3 kd
    exact ⟨u, v, w, rfl, k u v w B1 H1 g k0 k1 k2⟩
theorem q_par2D (h : EvDs ta σ B H [d1, d2]) (k : ∀ u v B' H', Gr B H B' H' → Da B' u d1 → Da B' v d2 → tz Dn ((σ.set i (some u)).set j (some v)) H') : tSeq (tPar i j ta) tz Dn σ H :=
  h H (Ex.refl H) _ fun vs B1 H1 g kd => by
    obtain ⟨u, v, rfl, k0, k1⟩ := da_twoL kd
    exact ⟨u, v, rfl, k u v B1 H1 g k0 k1⟩
/-- for a, b, c, d in .. -/
theorem s_for4 {α : Type} {e1 e2 e3 e4 : α → PyData} {P : List α → Prop} {wi : TI} {i1 i2 i3 i4 : Nat} {tu : TS} (h : EvI wi σ B H (fun a => .tuple [e1 a, e2 a, e3 a, e4 a]) P) (Pv : List α → Hp → Nat → L2.St → Hp → Prop) (h0 : ∀ l B2 H2, P l → Gr B H B2 H2 → Pv l B2 0 σ H2)
    (hb : ∀ l B2 i σ' H', Pv l B2 i σ' H' → Ex B2 H')
    (hs : ∀ l B2 i a x y z u B3 σ' H' H'', P l → l[i]? = some a → Pv l B2 i σ' H' → Gr B2 H' B3 H'' → Da B3 x (e1 a) → Da B3 y (e2 a) → Da B3 z (e3 a) → Da B3 u (e4 a) → tu { Dn with nx := Pv l B2 (i + 1), ct := Pv l B2 (i + 1), bk := Dn.nx } ((((σ'.set i1 (some x)).set i2 (some y)).set i3 (some z)).set i4 (some u)) H'')
    (hd : ∀ l B2 σ' H', P l → Pv l B2 l.length σ' H' → Dn.nx σ' H') : tFor wi (gTup K 4 (gCons (gName i1) (gCons (gName i2) (gCons (gName i3) (gCons (gName i4) gNil))))) tu Dn σ H :=
  h H (Ex.refl H) _ fun l J B2 H2 pl g ⟨G, Y, w, hG, hY⟩ => for_it w (Pv l B2) (h0 l B2 H2 pl g) (fun i σ' H' _ p => hG H' (hb l B2 i σ' H' p)) (fun i x σ' H' H'' hi p y => by
    obtain ⟨a, ha⟩ : ∃ a, l[i]? = some a := ⟨l[i], List.getElem?_eq_getElem hi⟩
    obtain ⟨B3, g3, q⟩ := hY i a x B2 H' H'' ha (Ex.refl B2) (hb l B2 i σ' H' p) y
    obtain ⟨T, w1, w2, w3, w4, rfl, hT, q1, q2, q3, q4⟩ := da_four q
    exact ⟨T, [w1, w2, w3, w4], rfl, SqT.of (g3.bh _ _ hT), rfl, w1, [w2, w3, w4], rfl, w2, [w3, w4], rfl, w3, [w4], rfl, w4, [], rfl, rfl, hs l B2 i a w1 w2 w3 w4 B3 σ' H' H'' pl ha p g3 q1 q2 q3 q4⟩) (fun σ' H' p => hd l B2 σ' H' pl p)
theorem q_for4 {α : Type} {e1 e2 e3 e4 : α → PyData} {P : List α → Prop} {wi : TI} {i1 i2 i3 i4 : Nat} {tu : TS} (h : EvI wi σ B H (fun a => .tuple [e1 a, e2 a, e3 a, e4 a]) P) (Pv : List α → Hp → Nat → L2.St → Hp → Prop) (h0 : ∀ l B2 H2, P l → Gr B H B2 H2 → Pv l B2 0 σ H2)
    (hb : ∀ l B2 i σ' H', Pv l B2 i σ' H' → Ex B2 H')
    (hs : ∀ l B2 i a x y z u B3 σ' H' H'', P l → l[i]? = some a → Pv l B2 i σ' H' → Gr B2 H' B3 H'' → Da B3 x (e1 a) → Da B3 y (e2 a) → Da B3 z (e3 a) → Da B3 u (e4 a) → tu { Dn with nx := Pv l B2 (i + 1), ct := Pv l B2 (i + 1), bk := tz Dn } ((((σ'.set i1 (some x)).set i2 (some y)).set i3 (some z)).set i4 (some u)) H'')
    (hd : ∀ l B2 σ' H', P l → Pv l B2 l.length σ' H' → tz Dn σ' H') : tSeq (tFor wi (gTup K 4 (gCons (gName i1) (gCons (gName i2) (gCons (gName i3) (gCons (gName i4) gNil))))) tu) tz Dn σ H := s_for4 (Dn := { Dn with nx := tz Dn }) h Pv h0 hb hs hd
end
theorem edC {σ : L2.St} {B H : Hp} {t1 t2 t3 t4 : TE} {a : Case} (h1 : EvD t1 σ B H (numsD a.1)) (h2 : EvD t2 σ B H (.int a.2.1)) (h3 : EvD t3 σ B H (tiesD a.2.2.1)) (h4 : EvD t4 σ B H (.bool a.2.2.2)) (e : Ex B H) : EvD (tTup (tCons t1 (tCons t2 (tCons t3 (tCons t4 tNil))))) σ B H (caseD a) := ed_tup (eds_cons h1 (eds_cons h2 (eds_cons h3 (eds_cons h4 (eds_nil e)))))
def sp__law_promises_right : Sp := fun vs H Q _ => vs = [] ∧ RetV H (.bl true) Q
theorem len__law_promises_right {vs : List V} {H : Hp} {Q : VK} {E : XK} (h : sp__law_promises_right vs H Q E) : vs.length = 0 := by rw [h.1]; rfl
theorem ok__law_promises_right (T : TX K mg A) : Ok P w K mg base CX0 6 A._law_promises_right [] sp__law_promises_right := by
  obtain ⟨fd, F⟩ := T.F__law_promises_right
  obtain ⟨fd_halved, G_halved, B_halved, K_halved⟩ := ok_halved (P := P) (w := w) (base := base) T
  obtain ⟨fd_nearly, G_nearly, B_nearly, K_nearly⟩ := ok_nearly (P := P) (w := w) (base := base) T
  obtain ⟨fd__law_far, G__law_far, B__law_far, K__law_far⟩ := ok__law_far (P := P) (w := w) (base := base) T
  obtain ⟨fd__law_more_promises, G__law_more_promises, B__law_more_promises, K__law_more_promises⟩ := ok__law_more_promises (P := P) (w := w) (base := base) T
  obtain ⟨fd_Odd___init__, G_Odd___init__, B_Odd___init__, K_Odd___init__⟩ := ok_Odd___init__ (P := P) (w := w) (base := base) T
  obtain ⟨fd_Even___init__, G_Even___init__, B_Even___init__, K_Even___init__⟩ := ok_Even___init__ (P := P) (w := w) (base := base) T
  obtain ⟨fd_Odd_shows, G_Odd_shows, B_Odd_shows, K_Odd_shows⟩ := ok_Odd_shows (P := P) (w := w) (base := base) T
  obtain ⟨fd_Even_shows, G_Even_shows, B_Even_shows, K_Even_shows⟩ := ok_Even_shows (P := P) (w := w) (base := base) T
  refine ⟨fd, ?_, F.binds (ps := []) fun _ _ _ _ _ _ us hl => match us, hl with | [], _ => rfl, F.kp⟩
  refine F.ok sc__law_promises_right (fun vs H Q E h => len__law_promises_right h) (fun cdv Ar outer s H vs Q E hr h => ?_)
  have nd := sc__law_promises_right.nd
  have hu := hu_of hr
  obtain ⟨rfl, q⟩ := h
  refine ⟨_, (pss_cons (ps_par3 (i := 0) (j := 1) (l := 2) (by rfl) nd rfl rfl rfl (by decide) (by decide) (by decide) rfl rfl rfl (pa_cons (pe_lst (pa_cons (pe_tup (pa_cons pe_int (pa_cons pe_int pa_nil))) (pa_cons (pe_tup (pa_cons pe_int (pa_cons pe_int pa_nil))) (pa_cons (pe_tup (pa_cons pe_int (pa_cons pe_int pa_nil))) pa_nil)))) (pa_cons (pe_lst (pa_cons (pe_tup (pa_cons pe_int (pa_cons pe_int pa_nil))) (pa_cons (pe_tup (pa_cons pe_int (pa_cons pe_int pa_nil))) pa_nil))) (pa_cons (pe_lst (pa_cons (pe_tup (pa_cons pe_int (pa_cons pe_int pa_nil))) pa_nil)) pa_nil))) (by rfl)) (pss_cons (ps_par (i := 3) (j := 4) (by rfl) nd rfl rfl (by decide) rfl rfl (pa_cons (pe_lst (pa_cons (pe_tup (pa_cons pe_int (pa_cons pe_int pa_nil))) (pa_cons (pe_tup (pa_cons pe_int (pa_cons pe_int pa_nil))) (pa_cons (pe_tup (pa_cons pe_int (pa_cons pe_int pa_nil))) (pa_cons (pe_tup (pa_cons pe_int (pa_cons pe_int pa_nil))) pa_nil))))) (pa_cons (pe_op op_pow pe_int pe_int) pa_nil)) (by rfl)) (pss_cons (ps_if (PW.pt (pw_or (pt_not (pt_val (pe_callB (isiK K) (by rfl) T.n_isinstance (by decide +kernel) (pa_cons (pe_call G_halved (hr.mono (by decide)) (by rfl) T.g_halved K_halved B_halved .nil passN (pa_cons pe_int (pa_cons (pv 0) pa_nil))) (pa_cons (pe_glob (v := .ref A.Odd) rfl T.g_Odd rfl) pa_nil))))) (pw_or1 (pt_not (pt_val (pe_callB (isiK K) (by rfl) T.n_isinstance (by decide +kernel) (pa_cons (pe_call G_halved (hr.mono (by decide)) (by rfl) T.g_halved K_halved B_halved .nil passN (pa_cons pe_int (pa_cons (pv 1) pa_nil))) (pa_cons (pe_glob (v := .ref A.Even) rfl T.g_Even rfl) pa_nil)))))))) (pss_one (ps_ret pe_bl)) pss_nil) (pss_cons (ps_if (pt_not (pt_val (pe_callB (isiK K) (by rfl) T.n_isinstance (by decide +kernel) (pa_cons (pe_call G_halved (hr.mono (by decide)) (by rfl) T.g_halved K_halved B_halved .nil passN (pa_cons pe_int (pa_cons (pv 2) pa_nil))) (pa_cons (pe_glob (v := .ref A.Even) rfl T.g_Even rfl) pa_nil))))) (pss_one (ps_ret pe_bl)) pss_nil) (pss_cons (ps_set (i := 5) nd rfl (by first | exact .inl rfl | exact .inr rfl) (pe_lst (pa_cons (pe_tup (pa_cons (pe_lst (pa_cons pe_int (pa_cons pe_int (pa_cons pe_int pa_nil)))) (pa_cons pe_int (pa_cons (pv 0) (pa_cons pe_bl pa_nil))))) (pa_cons (pe_tup (pa_cons (pe_lst (pa_cons pe_int (pa_cons pe_int pa_nil))) (pa_cons pe_int (pa_cons (pv 0) (pa_cons pe_bl pa_nil))))) (pa_cons (pe_tup (pa_cons (pe_lst (pa_cons pe_int (pa_cons pe_int (pa_cons pe_int (pa_cons pe_int pa_nil))))) (pa_cons pe_int (pa_cons (pv 0) (pa_cons pe_bl pa_nil))))) pa_nil))))) (pss_cons (ps_set (i := 5) nd rfl (by first | exact .inl rfl | exact .inr rfl) (pe_op op_cat (pv 5) (pe_lst (pa_cons (pe_tup (pa_cons (pe_lst (pa_cons pe_int pa_nil)) (pa_cons pe_int (pa_cons (pv 2) (pa_cons pe_bl pa_nil))))) (pa_cons (pe_tup (pa_cons (pe_lst (pa_cons pe_int (pa_cons pe_int pa_nil))) (pa_cons pe_int (pa_cons (pv 1) (pa_cons pe_bl pa_nil))))) (pa_cons (pe_tup (pa_cons (pe_lst pa_nil) (pa_cons pe_int (pa_cons (pv 0) (pa_cons pe_bl pa_nil))))) pa_nil)))))) (pss_cons (ps_set (i := 5) nd rfl (by first | exact .inl rfl | exact .inr rfl) (pe_op op_cat (pv 5) (pe_lst (pa_cons (pe_tup (pa_cons (pe_lst (pa_cons pe_int (pa_cons pe_int (pa_cons pe_int (pa_cons pe_int pa_nil))))) (pa_cons pe_int (pa_cons (pv 0) (pa_cons pe_bl pa_nil))))) (pa_cons (pe_tup (pa_cons (pe_lst (pa_cons pe_int (pa_cons pe_int (pa_cons pe_int pa_nil)))) (pa_cons pe_int (pa_cons (pv 0) (pa_cons pe_bl pa_nil))))) pa_nil))))) (pss_cons (ps_for PassesOwn.never rfl (listK K (pv 5)) (gtupK K rfl (pgs_cons (pg_name (i := 6) nd rfl (by first | exact .inl rfl | exact .inr rfl)) (pgs_cons (pg_name (i := 7) nd rfl (by first | exact .inl rfl | exact .inr rfl)) (pgs_cons (pg_name (i := 8) nd rfl (by first | exact .inl rfl | exact .inr rfl)) (pgs_cons (pg_name (i := 9) nd rfl (by first | exact .inl rfl | exact .inr rfl)) pgs_nil))))) (pss_one (ps_if (pt_cmpR op_ne (pe_meth (pe_make T.m_Odd G_Odd___init__ (hr.mono (by decide)) (by rfl) T.g_Odd B_Odd___init__ .nil pass0 (pa_cons (pv 6) pa_nil)) T.c_Odd T.m_Odd_shows G_Odd_shows (hr.mono (by decide)) B_Odd_shows .nil pass0 (pa_cons (pv 7) (pa_cons (pv 8) pa_nil))) (pv 9) (by first | exact nomark _ | rfl)) (pss_one (ps_ret pe_bl)) pss_nil))) (pss_cons (ps_set (i := 5) nd rfl (by first | exact .inl rfl | exact .inr rfl) (pe_lst (pa_cons (pe_tup (pa_cons (pe_lst (pa_cons pe_int (pa_cons pe_int pa_nil))) (pa_cons pe_int (pa_cons (pv 1) (pa_cons pe_bl pa_nil))))) (pa_cons (pe_tup (pa_cons (pe_lst (pa_cons pe_int (pa_cons pe_int pa_nil))) (pa_cons pe_int (pa_cons (pv 1) (pa_cons pe_bl pa_nil))))) (pa_cons (pe_tup (pa_cons (pe_lst (pa_cons pe_int pa_nil)) (pa_cons pe_int (pa_cons (pv 2) (pa_cons pe_bl pa_nil))))) pa_nil))))) (pss_cons (ps_set (i := 5) nd rfl (by first | exact .inl rfl | exact .inr rfl) (pe_op op_cat (pv 5) (pe_lst (pa_cons (pe_tup (pa_cons (pe_lst (pa_cons pe_int pa_nil)) (pa_cons pe_int (pa_cons (pv 2) (pa_cons pe_bl pa_nil))))) (pa_cons (pe_tup (pa_cons (pe_lst (pa_cons pe_int (pa_cons pe_int (pa_cons pe_int pa_nil)))) (pa_cons pe_int (pa_cons (pv 0) (pa_cons pe_bl pa_nil))))) (pa_cons (pe_tup (pa_cons (pe_lst (pa_cons pe_int pa_nil)) (pa_cons pe_int (pa_cons (pv 1) (pa_cons pe_bl pa_nil))))) pa_nil)))))) (pss_cons (ps_set (i := 5) nd rfl (by first | exact .inl rfl | exact .inr rfl) (pe_op op_cat (pv 5) (pe_lst (pa_cons (pe_tup (pa_cons (pe_lst (pa_cons pe_int (pa_cons pe_int (pa_cons pe_int (pa_cons pe_int pa_nil))))) (pa_cons pe_int (pa_cons (pv 3) (pa_cons pe_bl pa_nil))))) (pa_cons (pe_tup (pa_cons (pe_lst pa_nil) (pa_cons pe_int (pa_cons (pe_lst pa_nil) (pa_cons pe_bl pa_nil))))) pa_nil))))) (pss_cons (ps_for PassesOwn.never rfl (listK K (pv 5)) (gtupK K rfl (pgs_cons (pg_name (i := 10) nd rfl (by first | exact .inl rfl | exact .inr rfl)) (pgs_cons (pg_name (i := 7) nd rfl (by first | exact .inl rfl | exact .inr rfl)) (pgs_cons (pg_name (i := 8) nd rfl (by first | exact .inl rfl | exact .inr rfl)) (pgs_cons (pg_name (i := 9) nd rfl (by first | exact .inl rfl | exact .inr rfl)) pgs_nil))))) (pss_one (ps_if (pt_cmpR op_ne (pe_meth (pe_make T.m_Even G_Even___init__ (hr.mono (by decide)) (by rfl) T.g_Even B_Even___init__ .nil pass0 (pa_cons (pv 10) pa_nil)) T.c_Even T.m_Even_shows G_Even_shows (hr.mono (by decide)) B_Even_shows .nil pass0 (pa_cons (pv 7) (pa_cons (pv 8) pa_nil))) (pv 9) (by first | exact nomark _ | rfl)) (pss_one (ps_ret pe_bl)) pss_nil))) (pss_cons (ps_if (PW.pt (pw_or (pt_cmpR (neDK K hr.units) (pe_callB (sortedK K) (by rfl) T.n_sorted (by decide +kernel) (pa_cons (pe_call G__law_far (hr.mono (by decide)) (by rfl) T.g__law_far K__law_far B__law_far .nil pass0 (pa_cons pe_int (pa_cons (pv 0) (pa_cons (pe_call G_nearly (hr.mono (by decide)) (by rfl) T.g_nearly K_nearly B_nearly .nil passN (pa_cons pe_int (pa_cons (pv 0) pa_nil))) pa_nil)))) pa_nil)) (pe_lst (pa_cons pe_int (pa_cons pe_int (pa_cons pe_int pa_nil)))) (by first | exact nomark _ | rfl)) (pw_or1 (pt_cmpR (neDK K hr.units) (pe_call G__law_far (hr.mono (by decide)) (by rfl) T.g__law_far K__law_far B__law_far .nil pass0 (pa_cons pe_int (pa_cons (pv 1) (pa_cons (pe_call G_nearly (hr.mono (by decide)) (by rfl) T.g_nearly K_nearly B_nearly .nil passN (pa_cons pe_int (pa_cons (pv 1) pa_nil))) pa_nil)))) (pe_lst (pa_cons pe_int (pa_cons pe_int pa_nil))) (by first | exact nomark _ | rfl))))) (pss_one (ps_ret pe_bl)) pss_nil) (pss_cons (ps_if (pt_cmpR (neDK K hr.units) (pe_call G_nearly (hr.mono (by decide)) (by rfl) T.g_nearly K_nearly B_nearly .nil passN (pa_cons pe_int (pa_cons (pe_lst pa_nil) pa_nil))) (pe_lst pa_nil) (by first | exact nomark _ | rfl)) (pss_one (ps_ret pe_bl)) pss_nil) (pss_one (ps_ret (pe_call G__law_more_promises (hr.mono (by decide)) (by rfl) T.g__law_more_promises K__law_more_promises B__law_more_promises .nil pass0 (pa_cons (pv 0) (pa_cons (pv 1) (pa_cons (pv 2) (pa_cons (pv 3) (pa_cons (pv 4) pa_nil)))))))))))))))))))))), ?_⟩
  have eb : Ex (fun _ => none) H := fun a o h => (nomatch h)
  refine q_par3D (B := fun _ => none) (eds_cons (eTies eb tr) (eds_cons (eTies eb two) (eds_cons (eTies eb [(0, 1)]) (eds_nil eb)))) fun v0 v1 v2 B1 H1 g1 k0 k1 k2 => ?_
  have eb := g1.bh
  have e1 := g1.hh
  obtain ⟨gr, hgr, h5⟩ : ∃ gr : Int, (10 : Int) ^ (30 : Int).toNat = gr ∧ 5 < gr := ⟨_, rfl, by decide⟩
  have hp : ∀ {σ : L2.St} {H : Hp}, Ev (tOp (rI (fun i j => 0 ≤ j ∧ j ≤ 1000000 ∧ i.natAbs < 2 ^ 64) fun i j => .int (i ^ j.toNat)) (tC (.int 10)) (tC (.int 30))) σ H (.int gr) := fun {σ H} => by
    have h := ev_I (σ := σ) (H := H) (ev_c (v := .int 10)) (ev_c (v := .int 30)) (C := fun i j => 0 ≤ j ∧ j ≤ 1000000 ∧ i.natAbs < 2 ^ 64) (g := fun i j => .int (i ^ j.toNat)) ⟨by decide, by decide, by decide⟩
    rw [hgr] at h; exact h
  clear hgr
  refine q_par2D (eds_cons (eTies eb sq) (eds_cons (edi eb hp) (eds_nil eb))) fun v3 v4 B2 H2 g2 k3 k4 => ?_
  obtain rfl := k4.int_inv
  have k0 := k0.ex g2.bb
  have k1 := k1.ex g2.bb
  have k2 := k2.ex g2.bb
  have eb := g2.bh
  have e02 := e1.trans g2.hh
  refine q_when (b := false) (et_is (et_or (a := false) (b := false) (et_is (et_not (et_B (ev_isOddH T (n := 3) (ts := tr) (b := false) (by decide) tr_web (by decide) (eds_cons (eI eb) (eds_cons (ed_var (n := 0) eb rfl k0) (eds_nil eb))) (fun N => half_odd tr_web (by decide) (tr_odd (n := 3) (by decide)) N)))) rfl) fun _ => et_is (et_not (et_B (ev_isHalf T (n := 2) (ts := two) (b := true) (by decide) two_web (by decide) (eds_cons (eI eb) (eds_cons (ed_var (n := 1) eb rfl k1) (eds_nil eb))) (fun N => half_bip two_web two_bip N)))) rfl) rfl) (fun hb => (nomatch hb)) (fun _ H3 e3 => ?_)
  have eb := eb.trans e3
  have e03 := e02.trans e3
  refine q_when (b := false) (et_is (et_not (et_B (ev_isHalf T (n := 3) (ts := [(0, 1)]) (b := true) (by decide) (one_webN (by decide)) (by decide) (eds_cons (eI eb) (eds_cons (ed_var (n := 2) eb rfl k2) (eds_nil eb))) (fun N => half_bip (one_webN (by decide)) one_bip N)))) rfl) (fun hb => (nomatch hb)) (fun _ H4 e4 => ?_)
  have eb := eb.trans e4
  have e04 := e03.trans e4
  -- the parts
  refine q_asgN (B := B2) (ds := (oddC.take 3).map caseD) (en_lst (hl := Nat.le_of_ble_eq_true rfl) (eds_cons (edC (a := ([0, 1, 2], 3, tr, true)) (eInts eb [0, 1, 2]) (eI eb) (ed_var (n := 0) eb rfl k0) (eB eb) eb) (eds_cons (edC (a := ([0, 1], 3, tr, false)) (eInts eb [0, 1]) (eI eb) (ed_var (n := 0) eb rfl k0) (eB eb) eb) (eds_cons (edC (a := ([0, 1, 1, 2], 3, tr, false)) (eInts eb [0, 1, 1, 2]) (eI eb) (ed_var (n := 0) eb rfl k0) (eB eb) eb) (eds_nil eb))))) fun lc xc B5 H5 g5 n5 nb5 h5' kc => ?_
  have gx := fixD g5 n5 nb5 h5'
  have kC : Da (upd B5 lc (.lst xc)) (.ref lc) (.list ((oddC.take 3).map caseD)) := .lst upd_same (kc.ex (Ex.new nb5))
  have k0 := k0.ex gx.bb
  have k1 := k1.ex gx.bb
  have k2 := k2.ex gx.bb
  have k3 := k3.ex gx.bb
  have e05 := e04.trans gx.hh
  have eb := gx.bh
  generalize upd B5 lc (.lst xc) = C5 at kC k0 k1 k2 k3 eb
  clear gx g5 n5 nb5 h5' kc
  refine q_asgN (B := C5) (ds := (oddC.take 6).map caseD) (en_cat (ds := (oddC.take 3).map caseD) (es := ((oddC.take 6).drop 3).map caseD) (ed_var (n := 5) eb rfl kC) (EvN.toD (en_lst (hl := Nat.le_of_ble_eq_true rfl) (eds_cons (edC (a := ([2], 3, [(0, 1)], false)) (eInts eb [2]) (eI eb) (ed_var (n := 2) eb rfl k2) (eB eb) eb) (eds_cons (edC (a := ([0, 1], 2, two, false)) (eInts eb [0, 1]) (eI eb) (ed_var (n := 1) eb rfl k1) (eB eb) eb) (eds_cons (edC (a := ([], 3, tr, false)) (eInts eb []) (eI eb) (ed_var (n := 0) eb rfl k0) (eB eb) eb) (eds_nil eb)))))) (Nat.le_of_ble_eq_true rfl)) fun lc xc B6 H6 g6 n6 nb6 h6' kc => ?_
  have gx := fixD g6 n6 nb6 h6'
  have kC : Da (upd B6 lc (.lst xc)) (.ref lc) (.list ((oddC.take 6).map caseD)) := .lst upd_same (kc.ex (Ex.new nb6))
  have k0 := k0.ex gx.bb
  have k1 := k1.ex gx.bb
  have k2 := k2.ex gx.bb
  have k3 := k3.ex gx.bb
  have e06 := e05.trans gx.hh
  have eb := gx.bh
  generalize upd B6 lc (.lst xc) = C6 at kC k0 k1 k2 k3 eb
  clear gx g6 n6 nb6 h6' kc
  refine q_asgN (B := C6) (ds := oddC.map caseD) (en_cat (ds := (oddC.take 6).map caseD) (es := (oddC.drop 6).map caseD) (ed_var (n := 5) eb rfl kC) (EvN.toD (en_lst (hl := Nat.le_of_ble_eq_true rfl) (eds_cons (edC (a := ([0, 1, 2, 3], 4, tr, false)) (eInts eb [0, 1, 2, 3]) (eI eb) (ed_var (n := 0) eb rfl k0) (eB eb) eb) (eds_cons (edC (a := ([0, 1, 2], 4, tr, true)) (eInts eb [0, 1, 2]) (eI eb) (ed_var (n := 0) eb rfl k0) (eB eb) eb) (eds_nil eb))))) (Nat.le_of_ble_eq_true rfl)) fun lc xc B7 H7 g7 n7 nb7 h7' kc => ?_
  have gx := fixD g7 n7 nb7 h7'
  have kC : Da (upd B7 lc (.lst xc)) (.ref lc) (.list (oddC.map caseD)) := .lst upd_same (kc.ex (Ex.new nb7))
  have k0 := k0.ex gx.bb
  have k1 := k1.ex gx.bb
  have k2 := k2.ex gx.bb
  have k3 := k3.ex gx.bb
  have e07 := e06.trans gx.hh
  have eb := gx.bh
  generalize upd B7 lc (.lst xc) = C7 at kC k0 k1 k2 k3 eb
  clear gx g7 n7 nb7 h7' kc
  refine q_for4 (K := K) (B := C7) (e1 := fun a : Case => numsD a.1) (e2 := fun a : Case => .int a.2.1) (e3 := fun a : Case => tiesD a.2.2.1) (e4 := fun a : Case => .bool a.2.2.2) (P := (· = oddC)) (ei_list (K := K) (dt := caseD) (ed_var (n := 5) eb rfl kC))
    (fun l B8 i σ' H' => Ex H H' ∧ Ex C7 B8 ∧ Ex B8 H' ∧ ∃ (y6 y7 y8 y9 : Option V), σ' = [some v0, some v1, some v2, some v3, some (.int gr), some (.ref lc), y6, y7, y8, y9, none]) ?_ ?_ ?_ ?_
  · rintro l B8 H8 - g8
    exact ⟨e07.trans g8.hh, g8.bb, g8.bh, none, none, none, none, rfl⟩
  · rintro l B8 i σ' H' ⟨_, _, e, _⟩
    exact e
  · rintro l B8 i a x y z u B9 σ' H' H9 rfl hi ⟨e0, e78, e8, y6, y7, y8, y9, rfl⟩ g9 kx ky kz ku
    obtain ⟨ha, hc⟩ := oddC_ok a (List.mem_of_getElem? hi)
    obtain rfl := ku.bl_inv
    obtain rfl := ky.int_inv
    have eb9 := g9.bh
    refine s_when (b := false) (et_is (et_test (ev_ne (ask_odd eb9 (ed_var (n := 6) eb9 rfl kx) (fun H1 e => eds_cons (edi (eb9.trans e) (ev_var (i := 7) rfl)) (eds_cons (ed_var (n := 8) (eb9.trans e) rfl kz) (eds_nil (eb9.trans e)))) hc ha) (ev_var (i := 9) rfl) rfl)) (by simp)) (fun hb => (nomatch hb)) (fun _ H10 e10 => ?_)
    exact ⟨(e0.trans g9.hh).trans e10, e78, (g9.bb.trans eb9).trans e10, _, _, _, _, rfl⟩
  rintro l B8 σ' H8 - ⟨e08, e78, eb, y6, y7, y8, y9, rfl⟩
  have k0 := k0.ex e78
  have k1 := k1.ex e78
  have k2 := k2.ex e78
  have k3 := k3.ex e78
  clear kC
  -- the colours
  refine q_asgN (B := B8) (ds := (evenC.take 3).map caseD) (en_lst (hl := Nat.le_of_ble_eq_true rfl) (eds_cons (edC (a := ([0, 1], 2, two, true)) (eInts eb [0, 1]) (eI eb) (ed_var (n := 1) eb rfl k1) (eB eb) eb) (eds_cons (edC (a := ([0, 0], 2, two, false)) (eInts eb [0, 0]) (eI eb) (ed_var (n := 1) eb rfl k1) (eB eb) eb) (eds_cons (edC (a := ([1], 3, [(0, 1)], true)) (eInts eb [1]) (eI eb) (ed_var (n := 2) eb rfl k2) (eB eb) eb) (eds_nil eb))))) fun lc xc B5 H5 g5 n5 nb5 h5' kc => ?_
  have gx := fixD g5 n5 nb5 h5'
  have kC : Da (upd B5 lc (.lst xc)) (.ref lc) (.list ((evenC.take 3).map caseD)) := .lst upd_same (kc.ex (Ex.new nb5))
  have k0 := k0.ex gx.bb
  have k1 := k1.ex gx.bb
  have k2 := k2.ex gx.bb
  have k3 := k3.ex gx.bb
  have e15 := e08.trans gx.hh
  have eb := gx.bh
  generalize upd B5 lc (.lst xc) = D5 at kC k0 k1 k2 k3 eb
  clear gx g5 n5 nb5 h5' kc
  refine q_asgN (B := D5) (ds := (evenC.take 6).map caseD) (en_cat (ds := (evenC.take 3).map caseD) (es := ((evenC.take 6).drop 3).map caseD) (ed_var (n := 5) eb rfl kC) (EvN.toD (en_lst (hl := Nat.le_of_ble_eq_true rfl) (eds_cons (edC (a := ([2], 3, [(0, 1)], false)) (eInts eb [2]) (eI eb) (ed_var (n := 2) eb rfl k2) (eB eb) eb) (eds_cons (edC (a := ([0, 1, 0], 3, tr, false)) (eInts eb [0, 1, 0]) (eI eb) (ed_var (n := 0) eb rfl k0) (eB eb) eb) (eds_cons (edC (a := ([0], 2, two, false)) (eInts eb [0]) (eI eb) (ed_var (n := 1) eb rfl k1) (eB eb) eb) (eds_nil eb)))))) (Nat.le_of_ble_eq_true rfl)) fun lc xc B6 H6 g6 n6 nb6 h6' kc => ?_
  have gx := fixD g6 n6 nb6 h6'
  have kC : Da (upd B6 lc (.lst xc)) (.ref lc) (.list ((evenC.take 6).map caseD)) := .lst upd_same (kc.ex (Ex.new nb6))
  have k0 := k0.ex gx.bb
  have k1 := k1.ex gx.bb
  have k2 := k2.ex gx.bb
  have k3 := k3.ex gx.bb
  have e16 := e15.trans gx.hh
  have eb := gx.bh
  generalize upd B6 lc (.lst xc) = D6 at kC k0 k1 k2 k3 eb
  clear gx g6 n6 nb6 h6' kc
  refine q_asgN (B := D6) (ds := evenC.map caseD) (en_cat (ds := (evenC.take 6).map caseD) (es := (evenC.drop 6).map caseD) (ed_var (n := 5) eb rfl kC) (EvN.toD (en_lst (hl := Nat.le_of_ble_eq_true rfl) (eds_cons (edC (a := ([0, 1, 1, 0], 4, sq, true)) (eInts eb [0, 1, 1, 0]) (eI eb) (ed_var (n := 3) eb rfl k3) (eB eb) eb) (eds_cons (edC (a := ([], 1, [], true)) (eInts eb []) (eI eb) (eTies eb []) (eB eb) eb) (eds_nil eb))))) (Nat.le_of_ble_eq_true rfl)) fun lc xc B7 H7 g7 n7 nb7 h7' kc => ?_
  have gx := fixD g7 n7 nb7 h7'
  have kC : Da (upd B7 lc (.lst xc)) (.ref lc) (.list (evenC.map caseD)) := .lst upd_same (kc.ex (Ex.new nb7))
  have k0 := k0.ex gx.bb
  have k1 := k1.ex gx.bb
  have k2 := k2.ex gx.bb
  have k3 := k3.ex gx.bb
  have e17 := e16.trans gx.hh
  have eb := gx.bh
  generalize upd B7 lc (.lst xc) = D7 at kC k0 k1 k2 k3 eb
  clear gx g7 n7 nb7 h7' kc
  refine q_for4 (K := K) (B := D7) (e1 := fun a : Case => numsD a.1) (e2 := fun a : Case => .int a.2.1) (e3 := fun a : Case => tiesD a.2.2.1) (e4 := fun a : Case => .bool a.2.2.2) (P := (· = evenC)) (ei_list (K := K) (dt := caseD) (ed_var (n := 5) eb rfl kC))
    (fun l B9 i σ' H' => Ex H H' ∧ Ex D7 B9 ∧ Ex B9 H' ∧ ∃ (z7 z8 z9 z10 : Option V), σ' = [some v0, some v1, some v2, some v3, some (.int gr), some (.ref lc), y6, z7, z8, z9, z10]) ?_ ?_ ?_ ?_
  · rintro l B9 H9 - g9
    exact ⟨e17.trans g9.hh, g9.bb, g9.bh, _, _, _, _, rfl⟩
  · rintro l B9 i σ' H' ⟨_, _, e, _⟩
    exact e
  · rintro l B9 i a x y z u B10 σ' H' H10 rfl hi ⟨e0, e79, e9, z7, z8, z9, z10, rfl⟩ g10 kx ky kz ku
    obtain ⟨ha, hc⟩ := evenC_ok a (List.mem_of_getElem? hi)
    obtain rfl := ku.bl_inv
    obtain rfl := ky.int_inv
    have eb9 := g10.bh
    refine s_when (b := false) (et_is (et_test (ev_ne (ask_even eb9 (ed_var (n := 10) eb9 rfl kx) (fun H1 e => eds_cons (edi (eb9.trans e) (ev_var (i := 7) rfl)) (eds_cons (ed_var (n := 8) (eb9.trans e) rfl kz) (eds_nil (eb9.trans e)))) hc ha) (ev_var (i := 9) rfl) rfl)) (by simp)) (fun hb => (nomatch hb)) (fun _ H11 e11 => ?_)
    exact ⟨(e0.trans g10.hh).trans e11, e79, (g10.bb.trans eb9).trans e11, _, _, _, _, rfl⟩
  rintro l B9 σ' H9 - ⟨e09, e79, eb, z7, z8, z9, z10, rfl⟩
  have k0 := k0.ex e79
  have k1 := k1.ex e79
  have k2 := k2.ex e79
  have k3 := k3.ex e79
  -- nearly
  refine q_when (b := false) (et_is (et_or (a := false) (b := false) (et_is (et_test (ev_neS (K := K) (b := true) (es_sorted (K := K) (es_far (A := A) (n := 3) (ts := tr) (by decide) tr_web (by decide) eb (ed_var (n := 0) eb rfl k0))) (eInts eb [0, 0, 2]) ?_ (sh_nums _).ok)) rfl) fun _ => et_is (et_test (ev_neS (K := K) (b := true) (es_far (A := A) (n := 2) (ts := two) (by decide) two_web (by decide) eb (ed_var (n := 1) eb rfl k1)) (eInts eb [0, 0]) ?_ (sh_nums _).ok)) rfl) rfl) (fun hb => (nomatch hb)) (fun _ H10 e10 => ?_)
  · rintro d ⟨ms, ns, ⟨cs, N, rfl⟩, pm, sm, rfl⟩
    have := perm_eq pm sm (ks := [0, 0, 2]) (by rw [tr_off N]; decide) (by decide)
    subst this
    exact ⟨(sh_nums _).ok, by rw [eqv_nums]; decide⟩
  · rintro d ⟨ns, ⟨cs, N, rfl⟩, rfl⟩
    rw [two_off N]
    exact ⟨(sh_nums _).ok, by rw [eqv_nums]; decide⟩
  have eb := eb.trans e10
  refine q_when (b := false) (et_is (et_test (ev_neS (K := K) (b := true) (near_em (A := A) (n := 5) (ts := []) (by decide) (nil_web 5) (by decide) (eds_cons (eI eb) (eds_cons (eTies eb []) (eds_nil eb)))).toS (eInts eb []) ?_ (sh_nums _).ok)) rfl) (fun hb => (nomatch hb)) (fun _ H11 e11 => ?_)
  · rintro d ⟨ds, rfl, N, rfl⟩
    have : nearF 5 [] = [] := List.eq_nil_of_length_eq_zero N.len
    rw [this]
    exact ⟨(sh_nums []).ok, by show PyData.eqv (numsD []) (numsD []) = true; rw [eqv_nums]; decide⟩
  have eb := eb.trans e11
  have e011 := (e09.trans e10).trans e11
  exact s_retCall (eds_cons (ed_var (n := 0) eb rfl k0) (eds_cons (ed_var (n := 1) eb rfl k1) (eds_cons (ed_var (n := 2) eb rfl k2) (eds_cons (ed_var (n := 3) eb rfl k3) (eds_cons (edi eb (ev_var (i := 4) rfl)) (eds_nil eb)))))) fun vs B12 H12 g k => ⟨B12, gr, g.bh, k, h5, fun H13 e13 => q H13 (e011.trans (g.hh.trans e13))⟩

end
end TW
set_option Elab.async false
set_option linter.all false
set_option maxRecDepth 100000
set_option maxHeartbeats 4000000
namespace TW
open PySem PySem.Spec PyProof.Rows L2 TM TB
open Evl (Ex Ex.refl Ex.trans Ex.new Ex.mut Ev EvT EvA ev_var ev_c ev_op rv_I0 rv_I rv_eq rv_ne et_test et_B et_and et_or et_not et_is ev_is sz_of sz_lt fresh_back)
section
variable {P : Program} {w : World} {K : PySem.W.Frag} {mg : Str → Option Value} {base : Heap} {A : Ad}
/-! ### full webs known on paper; what they need -/
def rNotInT (K : PySem.W.Frag) : R2 := fun x y H Q => ∃ d ds, Dp K H x d ∧ Dp K H y (.tuple ds) ∧ SeqAt.shaped d = true ∧ SeqAt.shaped (.tuple ds) = true ∧ Q (.bl (!ds.any fun z => PyData.eqv z d)) H
theorem op_notInT {X : Cx} (hu : X.A.units + 65 < cLine) : OpR X (compareOp .NotIn) (rNotInT X.K) := by
  intro pins s σ H x y v u Q I rx ry h
  obtain ⟨d, ds, hd, he, sd, se, q⟩ := h
  obtain ⟨as, r1⟩ := Dp.reads I d x v hd rx
  obtain ⟨bs, r2⟩ := Dp.reads I (.tuple ds) y u he ry
  exact SeqAt.notIn_tuple_reads r2 r1 (SeqAt.canLay_of_shaped se) (SeqAt.canLay_of_shaped sd) (room_in_shaped sd hu) ⟨.bl _, H, I, rfl, q⟩
theorem notInTK (K : PySem.W.Frag) {X : Cx} (hu : X.A.units + 65 < cLine) (hK : X.K = K := by rfl) : OpR X (compareOp .NotIn) (rNotInT K) := by subst hK; exact op_notInT hu
section
variable {σ : L2.St} {B H : Hp} {ta tb : TE} {P : PyData → Prop} {ds : List PyData} {b : Bool}
theorem ev_niS (ha : EvS ta σ B H P) (hb : EvD tb σ B H (.tuple ds)) (h1 : ∀ d, P d → SeqAt.shaped d = true ∧ (ds.any fun z => PyData.eqv z d) = b) (h2 : SeqAt.shaped (.tuple ds) = true) : Ev (tOp (rNotInT K) ta tb) σ H (.bl (!b)) := fun H1 e Q q =>
  ha H1 e _ fun d v B1 H2 pd g k => hb H2 (e.trans g.hh) _ fun w B2 H3 g2 k2 => by
    obtain ⟨g3, u1, u2⟩ := g.un g2
    obtain ⟨s1, s2⟩ := h1 d pd
    exact ⟨d, ds, ((k.ex u1).ex g3.bh).dp (SeqAt.canLay_of_shaped s1), ((k2.ex u2).ex g3.bh).dp (SeqAt.canLay_of_shaped h2), s1, h2, by rw [s2]; exact q H3 g3.hh⟩
theorem ei_rg2 (eb : Ex B H) {lo n : Int} (hl : Ev ta σ H (.int lo)) (h : ∀ H1, Ex H H1 → Ev tb σ H1 (.int n)) (hn : 0 ≤ lo ∧ lo ≤ n ∧ n ≤ 100000) : EvI (iRng2 (tCons ta (tCons tb tNil))) σ B H (fun (k : Nat) => PyData.int (lo + (k : Int))) (· = List.range (n - lo).toNat) := fun H1 e R q => hl H1 e _ fun H2 e2 => h H2 (e.trans e2) H2 (Ex.refl _) _ fun H3 e3 => by
  refine ⟨lo, n, rfl, ⟨by omega, by omega, by omega, by omega⟩, q _ _ B H3 rfl (Gr.same (eb.trans e) (e2.trans e3)) ⟨_, _, by have w := walk_range (lo := lo) (n := (n - lo).toNat); rw [List.length_range]; exact w, fun _ _ => trivial, fun i b x Bc H' H'' hi e1 e2 y => ?_⟩⟩
  obtain ⟨rfl, rfl⟩ := y
  have hb := List.getElem?_eq_some_iff.mp hi
  obtain ⟨h1, h2⟩ := hb
  rw [List.getElem_range] at h2
  subst h2
  exact ⟨Bc, Gr.refl e2, .int _⟩
theorem da_perm {B : Hp} {xs ys : List V} (p : ys.Perm xs) : ∀ {ts : List Tie}, DaAll B xs (ts.map tieD) → ∃ us : List Tie, us.Perm ts ∧ DaAll B ys (us.map tieD) := by
  induction p with
  | nil =>
    intro ts k
    cases ts with
    | nil => exact ⟨[], .nil, .nil⟩
    | cons t ts => cases k
  | cons x p ih =>
    intro ts k
    cases ts with
    | nil => cases k
    | cons t ts =>
      cases k with
      | cons a r =>
        obtain ⟨us, pu, ku⟩ := ih r
        exact ⟨t :: us, pu.cons t, .cons a ku⟩
  | swap x y l =>
    intro ts k
    cases ts with
    | nil => cases k
    | cons t ts =>
      cases k with
      | cons a r =>
        cases ts with
        | nil => cases r
        | cons u ts =>
          cases r with
          | cons b r => exact ⟨u :: t :: ts, List.Perm.swap _ _ _, .cons b (.cons a r)⟩
  | trans _ _ ih1 ih2 =>
    intro ts k
    obtain ⟨us, pu, ku⟩ := ih2 k
    obtain ⟨ws, pw, kw⟩ := ih1 ku
    exact ⟨ws, pw.trans pu, kw⟩
theorem es_sortedP {ts : List Tie} (h : EvD ta σ B H (tiesD ts)) : EvS (tCB (rSortedP K) (tCons ta tNil)) σ B H (fun d => ∃ us : List Tie, us.Perm ts ∧ d = tiesD us) := fun H1 e Q q => h H1 e _ fun v B1 H2 g k => by
  obtain ⟨a, xs, rfl, q1, q2⟩ := k.lst_inv
  refine ⟨a, xs, rfl, SqL.of (g.bh _ _ q1), fun x hx => ?_, fun ys p pm hp => ?_⟩
  · obtain ⟨i, hi⟩ := List.mem_iff_getElem?.mp hx
    obtain ⟨d, hd, kd⟩ := q2.at hi
    obtain ⟨t, ht, rfl⟩ := List.mem_map.mp (List.mem_of_getElem? hd)
    obtain ⟨T, x1, x2, rfl, hT, k1, k2⟩ := da_two (d1 := .int t.1) (d2 := .int t.2) kd
    obtain rfl := k1.int_inv
    obtain rfl := k2.int_inv
    exact ⟨T, t.1, t.2, rfl, g.bh _ _ hT⟩
  · obtain ⟨us, pu, ku⟩ := da_perm pm q2
    exact q (tiesD us) (.ref p) (upd B1 p (.lst ys)) _ ⟨us, pu, rfl⟩ (g.trans (Gr.new g.bh hp)) (.lst upd_same (ku.ex (Ex.new (base_none g.bh hp))))
theorem es_rep3 {R : List Tie → Prop} (h : EvS ta σ B H (fun d => ∃ us : List Tie, R us ∧ d = tiesD us)) (hl : ∀ us, R us → us.length ≤ 1000) : EvS (tOp rRep ta (tC (.int 3))) σ B H (fun d => ∃ us : List Tie, R us ∧ d = tiesD (us ++ us ++ us)) := fun H1 e Q q => h H1 e _ fun d v B1 H2 pd g k => by
  obtain ⟨us, hR, rfl⟩ := pd
  have hu := hl us hR
  have z := EvN.toD (en_rep (σ := σ) (B := B1) (H := H2) (ta := tC v) (tb := tC (.int 3)) (ds := us.map tieD) (ed_ev g.bh ev_c k) ev_c ⟨by decide, by decide⟩ (by rw [List.length_map]; show us.length * 3 ≤ 100000; omega))
  refine z H2 (Ex.refl _) Q fun w B2 H3 g2 k2 => q _ w B2 H3 ⟨us, hR, ?_⟩ (g.trans g2) k2
  show PyData.list (List.replicate 3 (us.map tieD)).flatten = .list ((us ++ us ++ us).map tieD)
  rw [List.map_append, List.map_append]
  simp [List.replicate_succ]
theorem q_par2S {t1 t2 : TE} {d1 : PyData} {tz : TS} {Dn : Ends} {i j : Nat} (h1 : EvD t1 σ B H d1) (h2 : EvS t2 σ B H P) (k : ∀ d u v B' H', P d → Gr B H B' H' → Da B' u d1 → Da B' v d → tz Dn ((σ.set i (some u)).set j (some v)) H') : tSeq (tPar i j (tCons t1 (tCons t2 tNil))) tz Dn σ H :=
  h1 H (Ex.refl H) _ fun u B1 H1 g1 k1 => h2 H1 g1.hh _ fun d v B2 H2 pd g2 k2 => by
    obtain ⟨g3, u1, u2⟩ := g1.un g2
    exact ⟨u, v, rfl, k d u v _ H2 pd g3 (k1.ex u1) (k2.ex u2)⟩
end
def alikeT : List Tie := List.replicate 120 (0, 1)
def sidesT : List Tie := (List.range 120).map fun (i : Nat) => ((i : Int) % 10, 10 + (i : Int) / 10)
def ringT : List Tie := (List.range 39).map (fun (i : Nat) => ((i : Int), (i : Int) + 1)) ++ [(0, 39)]
def starT : List Tie := (List.range 39).map fun (i : Nat) => (0, 1 + (i : Int))
theorem alike_in {t : Tie} (h : t ∈ alikeT) : t = (0, 1) := (List.mem_replicate.mp h).2
theorem alike_web : Web 2 alikeT := fun t ht => by rw [alike_in ht]; decide
theorem alike_bip : Bip alikeT := ⟨fun v => decide (v = 0), fun t ht => by rw [alike_in ht]; decide⟩
theorem sides_web : Web 22 sidesT := fun t ht => by
  obtain ⟨i, hi, rfl⟩ := List.mem_map.mp ht
  have := List.mem_range.mp hi
  simp only []
  omega
theorem sides_bip : Bip sidesT := ⟨fun v => decide (v < 10), fun t ht => by
  obtain ⟨i, hi, rfl⟩ := List.mem_map.mp ht
  have h1 : decide ((i : Int) % 10 < 10) = true := decide_eq_true (by omega)
  have h2 : decide (10 + (i : Int) / 10 < 10) = false := decide_eq_false (by omega)
  simp only [h1, h2]; decide⟩
theorem ring_in {t : Tie} (h : t ∈ ringT) : (0 ≤ t.1 ∧ t.1 < t.2 ∧ t.2 < 40) ∧ t.1 % 2 ≠ t.2 % 2 := by
  unfold ringT at h
  rcases List.mem_append.mp h with h | h
  · obtain ⟨i, hi, rfl⟩ := List.mem_map.mp h
    have := List.mem_range.mp hi
    simp only []
    omega
  · rw [List.mem_singleton.mp h]; decide
theorem ring3_in {us : List Tie} (p : us.Perm ringT) {t : Tie} (h : t ∈ us ++ us ++ us) : t ∈ ringT := by
  have : t ∈ us := by simpa using h
  exact p.subset this
theorem ring_web {us : List Tie} (p : us.Perm ringT) : Web 40 (us ++ us ++ us) := fun t ht => (ring_in (ring3_in p ht)).1
theorem ring_bip {us : List Tie} (p : us.Perm ringT) : Bip (us ++ us ++ us) := ⟨fun v => decide (v % 2 = 0), fun t ht => by
  have := (ring_in (ring3_in p ht)).2
  by_cases h1 : t.1 % 2 = 0
  · have h2 : ¬ t.2 % 2 = 0 := by omega
    simp [h1, h2]
  · have h2 : t.2 % 2 = 0 := by omega
    simp [h1, h2]⟩
theorem ring_len {us : List Tie} (p : us.Perm ringT) : us.length = 40 := by rw [p.length_eq]; unfold ringT; simp
theorem star_in {t : Tie} (h : t ∈ starT) : t.1 = 0 ∧ 1 ≤ t.2 ∧ t.2 < 40 := by
  obtain ⟨i, hi, rfl⟩ := List.mem_map.mp h
  have := List.mem_range.mp hi
  exact ⟨rfl, by show 1 ≤ 1 + (i : Int); omega, by show 1 + (i : Int) < 40; omega⟩
theorem star_web : Web 40 starT := fun t ht => by have := star_in ht; omega
theorem star_bip : Bip starT := ⟨fun v => decide (v = 0), fun t ht => by
  have h := star_in ht
  have h2 : ¬ t.2 = 0 := by omega
  simp [h.1, h2]⟩
theorem star_len : starT.length = 39 := by unfold starT; simp
theorem cnt_all {v : Int} (c : Int) : ∀ {ts : List Tie} {cs : List Int}, cs.length = ts.length → (∀ t ∈ ts, has t v = true) → cntAt ts cs v c = cs.count c
  | [], [], _, _ => rfl
  | t :: ts, x :: cs, hl, h => by
    rw [cntAt_cons, h t List.mem_cons_self, List.count_cons, cnt_all c (by simpa using hl) fun u hu => h u (List.mem_cons_of_mem _ hu)]
    simp
  | [], _ :: _, h, _ => by simp at h
  | _ :: _, [], h, _ => by simp at h
theorem star_kinds {cs : List Int} {m : Int} (hm : 39 < m) (E : EvenCols 40 starT cs m) : (kinds cs).length = 39 := by
  have hl := E.1
  rw [star_len] at hl
  have cnt : ∀ c, cntAt starT cs 0 c = cs.count c := fun c => cnt_all c E.1 fun t ht => has_iff.mpr (.inl (star_in ht).1.symm)
  obtain ⟨d, d0, d1, hd⟩ : ∃ d, 0 ≤ d ∧ d < m ∧ d ∉ cs := by
    rcases full E.2.1 with h | h | h
    · have := kinds_le cs; omega
    · exact h
    · omega
  have nd : cs.Nodup := List.nodup_iff_count.mpr fun c => by
    by_cases hc : c ∈ cs
    · have hr := E.2.1 c hc
      have := E.2.2 0 (by decide) (by decide) c d hr.1 hr.2 d0 d1
      rw [cnt, cnt, List.count_eq_zero.mpr hd] at this
      exact this
    · rw [List.count_eq_zero.mpr hc]; omega
  rw [← kinds_len nd fun _ => Iff.rfl]; exact hl
theorem tr_ring {rs ms : List Int} (h : ringP tr rs = true) (p : ms.Perm rs) (s : ms.Pairwise (· ≤ ·)) : ms = [0, 1, 2] := by
  have hl := ringP_le h
  have h3 : tr.length = 3 := rfl
  obtain ⟨ho, hr, _⟩ := ringP_true.mp h
  have e : rs.length = 3 := by
    by_cases e : rs.length = 1
    · obtain ⟨i, rfl⟩ := List.length_eq_one_iff.mp e
      rw [ring_one tr_web] at h; cases h
    · omega
  exact sorted_pm (m := 3) p s (ringP_nodup h) e fun i hi => by have := hr i hi; rw [h3] at this; exact this
theorem two_half {cs ms : List Int} (N : Nearly 2 two cs) (p : ms.Perm cs) (s : ms.Pairwise (· ≤ ·)) : ms = [0, 1] := by
  have h0 : pim two (cs.map some) 0 = 0 := N.nul 0 (by decide) (by decide) (by decide) fun z => bip_no_odd two_web two_bip (by decide) z.1
  have hl := N.len
  have hv := N.val
  match cs, hl with
  | [a, b], _ =>
    have e : pim two ([a, b].map some) 0 = wt (some a) + (wt (some b) + 0) := rfl
    rw [e] at h0
    have w0 : wt (some 0) = -1 := rfl
    have w1 : wt (some 1) = 1 := rfl
    rcases hv a (by simp) with rfl | rfl <;> rcases hv b (by simp) with rfl | rfl
    · rw [w0] at h0; exact absurd h0 (by decide)
    · exact perm_eq p s (by decide) (by decide)
    · exact perm_eq p s (by decide) (by decide)
    · rw [w1] at h0; exact absurd h0 (by decide)
theorem alike_one {cs : List Int} (E : EvenCols 2 alikeT cs 1) : cs = List.replicate 120 0 := List.eq_replicate_iff.mpr ⟨E.1.trans (by unfold alikeT; simp), fun c hc => by have := E.2.1 c hc; omega⟩

end
end TW
set_option Elab.async false
set_option linter.all false
set_option maxRecDepth 100000
set_option maxHeartbeats 4000000
namespace TW
open PySem PySem.Spec PyProof.Rows L2 TM TB
open Evl (Ex Ex.refl Ex.trans Ex.new Ex.mut Ev EvT EvA ev_var ev_c ev_op rv_I0 rv_I rv_eq rv_ne et_test et_B et_and et_or et_not et_is ev_is sz_of sz_lt fresh_back)
section
variable {P : Program} {w : World} {K : PySem.W.Frag} {mg : Str → Option Value} {base : Heap} {A : Ad}
/-! ### known on paper -/
theorem flat1 {α : Type} (a : α) : ∀ n : Nat, (List.replicate n [a]).flatten = List.replicate n a
  | 0 => rfl
  | n + 1 => by rw [List.replicate_succ, List.flatten_cons, flat1 a n]; rfl
theorem tr_half (N : Nearly 3 tr (nearF 3 tr)) : halfA 3 tr = .odd [0, 1, 2] := by
  have h := half_odd tr_web (v := 0) (by decide) (tr_odd (n := 3) (by decide)) N
  unfold halfA at h ⊢
  cases e : farF 3 tr with
  | none => rw [e] at h; cases h
  | some v =>
    obtain ⟨h1, _⟩ := farF_inv e
    have hv : v ∈ [(0 : Int), 1, 2] := by
      have : v = 0 ∨ v = 1 ∨ v = 2 := by omega
      simpa using this
    simp only [tr_part (n := 3) (by decide) hv]
theorem six_half (N : Nearly 6 six (nearF 6 six)) : halfA 6 six = .odd [0, 1, 2] ∨ halfA 6 six = .odd [3, 4, 5] := by
  have h := half_odd six_web (v := 0) (by decide) six_odd0 N
  unfold halfA at h ⊢
  cases e : farF 6 six with
  | none => rw [e] at h; cases h
  | some v =>
    obtain ⟨h1, _⟩ := farF_inv e
    have hv : v ∈ [(0 : Int), 1, 2] ∨ v ∈ [(3 : Int), 4, 5] := by
      have : (v = 0 ∨ v = 1 ∨ v = 2) ∨ (v = 3 ∨ v = 4 ∨ v = 5) := by omega
      simpa using this
    rcases hv with hv | hv
    · exact .inl (by simp only [six_part0 hv])
    · exact .inr (by simp only [six_part3 hv])
theorem nil_bip : Bip [] := ⟨fun _ => true, fun t ht => nomatch ht⟩
theorem nil_half {n : Int} (N : Nearly n [] (nearF n [])) : halfA n [] = .even [] := by
  have h := half_bip (nil_web n) nil_bip N
  cases e : halfA n [] with
  | odd cs => rw [e] at h; cases h
  | even cs =>
    have := (even_near e N).2
    rw [List.eq_nil_of_length_eq_zero this]
section
variable {σ : L2.St} {B H : Hp} {ar : TA} {E : XK} {n m : Int} {ts : List Tie} {b : Bool} {t2 : TE} {d2 : PyData} {tz : TS} {Dn : Ends} {i j : Nat}
theorem ev_two (h : EvDs ar σ B H [.int n, tiesD ts, .bool b]) (hc : (1 ≤ n ∧ n ≤ 40) ∧ Web n ts ∧ ts.length ≤ 120 ∧ ((b = true ∧ Bip ts) ∨ (b = false ∧ ∃ v, (0 ≤ v ∧ v < n) ∧ OddAt ts v))) : Ev (tCall sp__law_two_right [] E ar) σ H (.bl true) :=
  ev_call h fun B1 H1 vs Q E e k q => ⟨n, ts, b, B1, e, k, hc, q⟩
theorem ev_evn (h : EvDs ar σ B H [.int n, tiesD ts, .int m]) (hc : (1 ≤ n ∧ n ≤ 40) ∧ Web n ts ∧ ts.length ≤ 120 ∧ 1 ≤ m ∧ m ≤ 1000 ∧ Bip ts) : Ev (tCall sp__law_even_right [] E ar) σ H (.bl true) :=
  ev_call h fun B1 H1 vs Q E e k q => ⟨n, ts, m, B1, e, k, hc, q⟩
theorem q_parH (eb : Ex B H) (hn : 1 ≤ n ∧ n ≤ 40) (w : Web n ts) (hl : ts.length ≤ 120) (h : EvDs ar σ B H [.int n, tiesD ts]) (h2 : EvD t2 σ B H d2)
    (k : Nearly n ts (nearF n ts) → ∀ x l v B' H', Ex H H' → Ex B B' → Ex B' H' → Da B' (.ref l) (numsD (halfA n ts).ns) → ObA A H' x l (halfA n ts) → Da B' v d2 → tz Dn ((σ.set i (some (.ref x))).set j (some v)) H') :
    tSeq (tPar i j (tCons (tCall (sp_halved A) [] E ar) (tCons t2 tNil))) tz Dn σ H :=
  half_call hn w hl h (Ex.refl H) fun N x dx l B1 H1 fr => h2 H1 fr.ex0 _ fun v B2 H2 g2 k2 => by
    have fa := fr.all eb
    have kS : Da (newB B H H1) (.ref l) (numsD (halfA n ts).ns) := .lst (fr.allO (q := (l, .lst ((halfA n ts).ns.map V.int))) (by simp)) .ints
    obtain ⟨g3, u1, u2⟩ := fa.toGr.un g2
    exact ⟨_, _, rfl, k N x l v _ H2 (fr.ex0.trans g2.hh) (fa.eb.trans u1) g3.bh (kS.ex u1) ((obA_of fr).ex g2.hh) (k2.ex u2)⟩
end
def sp__law_known_right : Sp := fun vs H Q _ => ∃ m : Int, vs = [.int m] ∧ RetV H (.bl true) Q
theorem len__law_known_right {vs : List V} {H : Hp} {Q : VK} {E : XK} (h : sp__law_known_right vs H Q E) : vs.length = 1 := by
  obtain ⟨_, rfl, _⟩ := h
  rfl
theorem ok__law_known_right (T : TX K mg A) : Ok P w K mg base CX0 6 A._law_known_right ["_law_many"] sp__law_known_right := by
  obtain ⟨fd, F⟩ := T.F__law_known_right
  obtain ⟨fd_halved, G_halved, B_halved, K_halved⟩ := ok_halved (P := P) (w := w) (base := base) T
  obtain ⟨fd_nearly, G_nearly, B_nearly, K_nearly⟩ := ok_nearly (P := P) (w := w) (base := base) T
  obtain ⟨fd_shared, G_shared, B_shared, K_shared⟩ := ok_shared (P := P) (w := w) (base := base) T
  obtain ⟨fd__law_two_right, G__law_two_right, B__law_two_right, K__law_two_right⟩ := ok__law_two_right (P := P) (w := w) (base := base) T
  obtain ⟨fd__law_even_right, G__law_even_right, B__law_even_right, K__law_even_right⟩ := ok__law_even_right (P := P) (w := w) (base := base) T
  obtain ⟨fd_Ring_shows, G_Ring_shows, B_Ring_shows, K_Ring_shows⟩ := ok_Ring_shows (P := P) (w := w) (base := base) T
  obtain ⟨fd_Shares_shows, G_Shares_shows, B_Shares_shows, K_Shares_shows⟩ := ok_Shares_shows (P := P) (w := w) (base := base) T
  refine ⟨fd, ?_, F.binds (ps := ["_law_many"]) fun _ _ _ _ _ _ us hl => match us, hl with | [_], _ => rfl, F.kp⟩
  refine F.ok sc__law_known_right (fun vs H Q E h => len__law_known_right h) (fun cdv Ar outer s H vs Q E hr h => ?_)
  have nd := sc__law_known_right.nd
  have hu := hu_of hr
  obtain ⟨m, rfl, q⟩ := h
  refine ⟨_, (pss_cons (ps_par (i := 1) (j := 2) (by rfl) nd rfl rfl (by decide) rfl rfl (pa_cons (pe_op op_rep (pe_lst (pa_cons (pe_tup (pa_cons pe_int (pa_cons pe_int pa_nil))) pa_nil)) pe_int) (pa_cons (pe_op op_rep (pe_callB (sortedPK K) (by rfl) T.n_sorted (by decide +kernel) (pa_cons (pe_op op_cat (pe_lc (own := [("_law_at", 12)]) (g := gName 12) (tt := tYes)  rfl nd  (pi_range1 rfl T.n_range (pa_cons pe_int pa_nil)) (blkOk_by (by kernel_rfl)) (fun _ _ _ _ _ => (pg_name (i := 12) nd rfl (by first | exact .inl rfl | exact .inr rfl))) (fun _ _ _ _ _ => pts_nil) (fun _ _ _ _ _ => (pe_tup (pa_cons (pv 12) (pa_cons (pe_op op_add (pv 12) pe_int) pa_nil))))) (pe_lst (pa_cons (pe_tup (pa_cons pe_int (pa_cons pe_int pa_nil))) pa_nil))) pa_nil)) pe_int) pa_nil)) (by rfl)) (pss_cons (ps_setLc (i := 3) (own := [("_law_at", 12)]) (g := gName 12) (tt := tYes)  rfl nd rfl rfl (sw_true rfl rfl rfl (by decide +kernel))  (pi_range1 rfl T.n_range (pa_cons pe_int pa_nil)) (blkOk_by (by kernel_rfl)) (fun _ _ _ _ _ => (pg_name (i := 12) nd rfl (by first | exact .inl rfl | exact .inr rfl))) (fun _ _ _ _ _ => pts_nil) (fun _ _ _ _ _ => (pe_tup (pa_cons (pe_op op_mod (pv 12) pe_int) (pa_cons (pe_op op_add pe_int (pe_op op_fdiv (pv 12) pe_int)) pa_nil))))) (pss_cons (ps_par (i := 4) (j := 5) (by rfl) nd rfl rfl (by decide) rfl rfl (pa_cons (pe_lc (own := [("_law_at", 12)]) (g := gName 12) (tt := tYes)  rfl nd  (pi_range2 (by rfl) T.n_range (pa_cons pe_int (pa_cons pe_int pa_nil))) (blkOk_by (by kernel_rfl)) (fun _ _ _ _ _ => (pg_name (i := 12) nd rfl (by first | exact .inl rfl | exact .inr rfl))) (fun _ _ _ _ _ => pts_nil) (fun _ _ _ _ _ => (pe_tup (pa_cons pe_int (pa_cons (pv 12) pa_nil))))) (pa_cons (pe_lst (pa_cons (pe_tup (pa_cons pe_int (pa_cons pe_int pa_nil))) (pa_cons (pe_tup (pa_cons pe_int (pa_cons pe_int pa_nil))) (pa_cons (pe_tup (pa_cons pe_int (pa_cons pe_int pa_nil))) pa_nil)))) pa_nil)) (by rfl)) (pss_cons (ps_if (PW.pt (pw_or (pt_not (pt_val (pe_call G__law_two_right (hr.mono (by decide)) (by rfl) T.g__law_two_right K__law_two_right B__law_two_right .nil pass0 (pa_cons pe_int (pa_cons (pv 1) (pa_cons pe_bl pa_nil)))))) (pw_or1 (pt_not (pt_val (pe_call G__law_two_right (hr.mono (by decide)) (by rfl) T.g__law_two_right K__law_two_right B__law_two_right .nil pass0 (pa_cons pe_int (pa_cons (pv 3) (pa_cons pe_bl pa_nil))))))))) (pss_one (ps_ret pe_bl)) pss_nil) (pss_cons (ps_if (pt_not (pt_val (pe_call G__law_two_right (hr.mono (by decide)) (by rfl) T.g__law_two_right K__law_two_right B__law_two_right .nil pass0 (pa_cons pe_int (pa_cons (pv 2) (pa_cons pe_bl pa_nil)))))) (pss_one (ps_ret pe_bl)) pss_nil) (pss_cons (ps_if (PW.pt (pw_or (pt_not (pt_val (pe_call G__law_even_right (hr.mono (by decide)) (by rfl) T.g__law_even_right K__law_even_right B__law_even_right .nil pass0 (pa_cons pe_int (pa_cons (pv 1) (pa_cons (pe_op op_add pe_int (pe_op op_mod (pv 0) pe_int)) pa_nil)))))) (pw_or1 (pt_not (pt_val (pe_call G__law_even_right (hr.mono (by decide)) (by rfl) T.g__law_even_right K__law_even_right B__law_even_right .nil pass0 (pa_cons pe_int (pa_cons (pv 3) (pa_cons pe_int pa_nil))))))))) (pss_one (ps_ret pe_bl)) pss_nil) (pss_cons (ps_if (pt_not (pt_val (pe_call G__law_even_right (hr.mono (by decide)) (by rfl) T.g__law_even_right K__law_even_right B__law_even_right .nil pass0 (pa_cons pe_int (pa_cons (pv 2) (pa_cons pe_int pa_nil)))))) (pss_one (ps_ret pe_bl)) pss_nil) (pss_cons (ps_set (i := 6) nd rfl (by first | exact .inl rfl | exact .inr rfl) (pe_call G_shared (hr.mono (by decide)) (by rfl) T.g_shared K_shared B_shared .nil passN (pa_cons pe_int (pa_cons (pv 4) (pa_cons (pe_op op_pow pe_int pe_int) pa_nil))))) (pss_cons (ps_if (PW.pt (pw_or (pt_not (pt_val (pe_callB (isiK K) (by rfl) T.n_isinstance (by decide +kernel) (pa_cons (pv 6) (pa_cons (pe_glob (v := .ref A.Shares) rfl T.g_Shares rfl) pa_nil))))) (pw_or (pt_cmpR op_ne (lenSetK K (by rfl) T.n_len (by rfl) T.n_set (fldK K (pv 6) rfl)) pe_int (by first | exact nomark _ | rfl)) (pw_or1 (pt_not (pt_val (pe_call G__law_two_right (hr.mono (by decide)) (by rfl) T.g__law_two_right K__law_two_right B__law_two_right .nil pass0 (pa_cons pe_int (pa_cons (pv 5) (pa_cons pe_bl pa_nil)))))))))) (pss_one (ps_ret pe_bl)) pss_nil) (pss_cons (ps_par (i := 7) (j := 8) (by rfl) nd rfl rfl (by decide) rfl rfl (pa_cons (pe_call G_halved (hr.mono (by decide)) (by rfl) T.g_halved K_halved B_halved .nil passN (pa_cons pe_int (pa_cons (pv 5) pa_nil))) (pa_cons (pe_op op_cat (pv 5) (pe_lst (pa_cons (pe_tup (pa_cons pe_int (pa_cons pe_int pa_nil))) (pa_cons (pe_tup (pa_cons pe_int (pa_cons pe_int pa_nil))) (pa_cons (pe_tup (pa_cons pe_int (pa_cons pe_int pa_nil))) pa_nil))))) pa_nil)) (by rfl)) (pss_cons (ps_if (PW.pt (pw_or (pt_cmpR (neDK K hr.units) (fldK K (pv 7) rfl) (pe_lst (pa_cons pe_int (pa_cons pe_int (pa_cons pe_int pa_nil)))) (by first | exact nomark _ | rfl)) (pw_or1 (pt_not (pt_val (pe_call G__law_two_right (hr.mono (by decide)) (by rfl) T.g__law_two_right K__law_two_right B__law_two_right .nil pass0 (pa_cons pe_int (pa_cons (pv 8) (pa_cons pe_bl pa_nil))))))))) (pss_one (ps_ret pe_bl)) pss_nil) (pss_cons (ps_if (pt_cmpR (notInTK K (room65 hr)) (fldK K (pe_call G_halved (hr.mono (by decide)) (by rfl) T.g_halved K_halved B_halved .nil passN (pa_cons pe_int (pa_cons (pv 8) pa_nil))) rfl) (pe_tup (pa_cons (pe_lst (pa_cons pe_int (pa_cons pe_int (pa_cons pe_int pa_nil)))) (pa_cons (pe_lst (pa_cons pe_int (pa_cons pe_int (pa_cons pe_int pa_nil)))) pa_nil))) (by first | exact nomark _ | rfl)) (pss_one (ps_ret pe_bl)) pss_nil) (pss_cons (ps_for PassesOwn.never rfl (listK K (pe_lst (pa_cons pe_int (pa_cons pe_int (pa_cons (pe_op op_pow pe_int pe_int) pa_nil))))) (pg_name (i := 9) nd rfl (by first | exact .inl rfl | exact .inr rfl)) (pss_cons (ps_set (i := 10) nd rfl (by first | exact .inl rfl | exact .inr rfl) (pe_call G_shared (hr.mono (by decide)) (by rfl) T.g_shared K_shared B_shared .nil passN (pa_cons pe_int (pa_cons (pv 5) (pa_cons (pv 9) pa_nil))))) (pss_one (ps_if (PW.pt (pw_or (pt_not (pt_val (pe_callB (isiK K) (by rfl) T.n_isinstance (by decide +kernel) (pa_cons (pv 10) (pa_cons (pe_glob (v := .ref A.Ring) rfl T.g_Ring rfl) pa_nil))))) (pw_or (pt_cmpR (neDK K hr.units) (pe_callB (sortedK K) (by rfl) T.n_sorted (by decide +kernel) (pa_cons (fldK K (pv 10) rfl) pa_nil)) (pe_lst (pa_cons pe_int (pa_cons pe_int (pa_cons pe_int pa_nil)))) (by first | exact nomark _ | rfl)) (pw_or1 (pt_not (pt_val (pe_either (pe_meth (pv 10) T.c_Shares T.m_Shares_shows G_Shares_shows (hr.mono (by decide)) B_Shares_shows .nil pass0 (pa_cons pe_int (pa_cons (pv 5) (pa_cons (pv 9) pa_nil)))) (pe_meth (pv 10) T.c_Ring T.m_Ring_shows G_Ring_shows (hr.mono (by decide)) B_Ring_shows .nil pass0 (pa_cons pe_int (pa_cons (pv 5) (pa_cons (pv 9) pa_nil))))))))))) (pss_one (ps_ret pe_bl)) pss_nil)))) (pss_cons (ps_set (i := 11) nd rfl (by first | exact .inl rfl | exact .inr rfl) (pe_call G_halved (hr.mono (by decide)) (by rfl) T.g_halved K_halved B_halved .nil passN (pa_cons pe_int (pa_cons (pe_lst pa_nil) pa_nil)))) (pss_cons (ps_if (PW.pt (pw_or (pt_not (pt_val (pe_callB (isiK K) (by rfl) T.n_isinstance (by decide +kernel) (pa_cons (pv 11) (pa_cons (pe_glob (v := .ref A.Even) rfl T.g_Even rfl) pa_nil))))) (pw_or (pt_cmpR (neDK K hr.units) (fldK K (pv 11) rfl) (pe_lst pa_nil) (by first | exact nomark _ | rfl)) (pw_or (pt_cmpR (neDK K hr.units) (pe_call G_nearly (hr.mono (by decide)) (by rfl) T.g_nearly K_nearly B_nearly .nil passN (pa_cons pe_int (pa_cons (pe_lst pa_nil) pa_nil))) (pe_lst pa_nil) (by first | exact nomark _ | rfl)) (pw_or1 (pt_cmpR (neDK K hr.units) (fldK K (pe_call G_shared (hr.mono (by decide)) (by rfl) T.g_shared K_shared B_shared .nil passN (pa_cons pe_int (pa_cons (pe_lst pa_nil) (pa_cons pe_int pa_nil)))) rfl) (pe_lst pa_nil) (by first | exact nomark _ | rfl))))))) (pss_one (ps_ret pe_bl)) pss_nil) (pss_one (ps_ret (pe_and (pe_cmpR (eqDK K hr.units) (pe_callB (sortedK K) (by rfl) T.n_sorted (by decide +kernel) (pa_cons (fldK K (pe_call G_halved (hr.mono (by decide)) (by rfl) T.g_halved K_halved B_halved .nil passN (pa_cons pe_int (pa_cons (pe_op op_rep (pe_lst (pa_cons (pe_tup (pa_cons pe_int (pa_cons pe_int pa_nil))) pa_nil)) pe_int) pa_nil))) rfl) pa_nil)) (pe_lst (pa_cons pe_int (pa_cons pe_int pa_nil))) (by first | exact nomark _ | rfl)) (pe_one (pe_cmpR (eqDK K hr.units) (fldK K (pe_call G_shared (hr.mono (by decide)) (by rfl) T.g_shared K_shared B_shared .nil passN (pa_cons pe_int (pa_cons (pv 1) (pa_cons pe_int pa_nil)))) rfl) (pe_op op_rep (pe_lst (pa_cons pe_int pa_nil)) pe_int) (by first | exact nomark _ | rfl))))))))))))))))))))), ?_⟩
  have eb : Ex (fun _ => none) H := fun a o h => (nomatch h)
  have halike := EvN.toD (en_rep (eTies (σ := start ["_law_many", "_law_alike", "_law_ring", "_law_sides", "_law_star", "_law_three", "_law_lone", "_law_odd", "_law_six", "_law_colours", "_law_told", "_law_none", "_law_at"] [.int m]) eb [(0, 1)]) (ev_c (v := .int 120)) ⟨by decide, by decide⟩ (Nat.le_of_ble_eq_true rfl))
  have ea : (List.replicate (120 : Int).toNat ([(0, 1)].map tieD)).flatten = alikeT.map tieD := by
    unfold alikeT
    rw [List.map_replicate]
    exact flat1 _ _
  rw [ea] at halike
  have hring := EvN.toD (en_cat (ds := ((List.range 39).map fun (i : Nat) => ((i : Int), (i : Int) + 1)).map tieD) (es := [(0, 39)].map tieD) (EvN.toD (by
    have h := en_lcA (dt := fun (k : Nat) => PyData.int (k : Int)) (l := List.range (39 : Int).toNat) (te := tTup (tCons (tVar 12) (tCons (tOp (rI0 fun i j => .int (i + j)) (tVar 12) (tC (.int 1))) tNil))) (vs := [12]) (j := 12) (σ := start ["_law_many", "_law_alike", "_law_ring", "_law_sides", "_law_star", "_law_three", "_law_lone", "_law_odd", "_law_six", "_law_colours", "_law_told", "_law_none", "_law_at"] [.int m]) (fun (i : Nat) => .tuple [.int (i : Int), .int ((i : Int) + 1)]) (ei_rg1 eb ev_c (by decide)) (by decide) fun a x B3 H3 _ e1 e2 e3 kx => by
      obtain rfl := kx.int_inv
      exact eT2 e3 (edi e3 (ev_var (i := 12) rfl)) (edi e3 (ev_I0 (g := fun i j => .int (i + j)) (ev_var (i := 12) rfl) ev_c))
    rw [List.map_map]
    exact h)) (eTies eb [(0, 39)]) (by simp))
  have er : ((List.range 39).map fun (i : Nat) => ((i : Int), (i : Int) + 1)).map tieD ++ [(0, 39)].map tieD = ringT.map tieD := by unfold ringT; rw [List.map_append]
  rw [er] at hring
  refine q_par2S (B := fun _ => none) (d1 := tiesD alikeT) halike (es_rep3 (es_sortedP hring) fun us pu => by rw [ring_len pu]; decide) fun d v1 v2 B1 H1 pd g1 k1 k2 => ?_
  obtain ⟨us, pu, rfl⟩ := pd
  have rw3 := ring_web pu
  have rb3 := ring_bip pu
  have rl3 : (us ++ us ++ us).length = 120 := by rw [List.length_append, List.length_append, ring_len pu]
  generalize us ++ us ++ us = rt at k2 rw3 rb3 rl3
  clear halike hring ea er
  have e01 := g1.hh
  have eb := g1.bh
  -- two sides
  refine q_asgN (B := B1) (ds := sidesT.map tieD) (by
    have h := en_lcA (B := B1) (H := H1) (dt := fun (k : Nat) => PyData.int (k : Int)) (l := List.range (120 : Int).toNat) (te := tTup (tCons (tOp (rI (fun _ j => 0 < j) fun i j => .int (i % j)) (tVar 12) (tC (.int 10))) (tCons (tOp (rI0 fun i j => .int (i + j)) (tC (.int 10)) (tOp (rI CDiv fun i j => .int (i / j)) (tVar 12) (tC (.int 10)))) tNil))) (vs := [12]) (j := 12) (σ := [some (.int m), some v1, some v2, none, none, none, none, none, none, none, none, none, none]) (fun (i : Nat) => .tuple [.int ((i : Int) % 10), .int (10 + (i : Int) / 10)]) (ei_rg1 eb ev_c (by decide)) (by decide) fun a x B3 H3 _ e1 e2 e3 kx => by
      obtain rfl := kx.int_inv
      exact eT2 e3 (edi e3 (ev_I (ev_var (i := 12) rfl) ev_c (C := fun _ j => 0 < j) (g := fun i j => .int (i % j)) (by decide))) (edi e3 (ev_I0 (g := fun i j => .int (i + j)) ev_c (ev_I (ev_var (i := 12) rfl) (ev_c (v := .int 10)) (C := CDiv) (g := fun i j => .int (i / j)) (by constructor <;> decide))))
    have e : sidesT.map tieD = (List.range (120 : Int).toNat).map fun (i : Nat) => PyData.tuple [.int ((i : Int) % 10), .int (10 + (i : Int) / 10)] := by
      unfold sidesT
      rw [List.map_map]; rfl
    rw [e]; exact h) fun ls xs B2 H2 g2 n2 nb2 h2 ks => ?_
  have gx := fixD g2 n2 nb2 h2
  have k3 : Da (upd B2 ls (.lst xs)) (.ref ls) (tiesD sidesT) := .lst upd_same (ks.ex (Ex.new nb2))
  have k1 := k1.ex gx.bb
  have k2 := k2.ex gx.bb
  have e02 := e01.trans gx.hh
  have eb := gx.bh
  generalize upd B2 ls (.lst xs) = B3 at k1 k2 k3 eb
  clear gx g2 n2 nb2 h2 ks
  -- a star, a triangle
  have hstar : EvD (tLc (iRng2 (tCons (tC (.int 1)) (tCons (tC (.int 40)) tNil))) (gName 12) tYes (tTup (tCons (tC (.int 0)) (tCons (tVar 12) tNil))) [12]) [some (.int m), some v1, some v2, some (.ref ls), none, none, none, none, none, none, none, none, none] B3 H2 (tiesD starT) := by
    have h := en_lcA (B := B3) (H := H2) (dt := fun (k : Nat) => PyData.int (1 + (k : Int))) (l := List.range ((40 : Int) - 1).toNat) (te := tTup (tCons (tC (.int 0)) (tCons (tVar 12) tNil))) (vs := [12]) (j := 12) (σ := [some (.int m), some v1, some v2, some (.ref ls), none, none, none, none, none, none, none, none, none]) (fun (i : Nat) => .tuple [.int 0, .int (1 + (i : Int))]) (ei_rg2 (lo := 1) (n := 40) eb ev_c (fun H1 _ => ev_c) (by decide)) (by decide) fun a x B3 H3 _ e1 e2 e3 kx => by
      obtain rfl := kx.int_inv
      exact eT2 e3 (eI e3) (edi e3 (ev_var (i := 12) rfl))
    have e : starT.map tieD = (List.range ((40 : Int) - 1).toNat).map fun (i : Nat) => PyData.tuple [.int 0, .int (1 + (i : Int))] := by
      unfold starT
      rw [List.map_map]; rfl
    show EvD _ _ _ _ (.list (starT.map tieD))
    rw [e]; exact h.toD
  refine q_par2D (eds_cons hstar (eds_cons (eTies eb tr) (eds_nil eb))) fun v4 v5 B4 H4 g4 k4 k5 => ?_
  have k1 := k1.ex g4.bb
  have k2 := k2.ex g4.bb
  have k3 := k3.ex g4.bb
  have e04 := e02.trans g4.hh
  have eb := g4.bh
  clear hstar
  have al : alikeT.length ≤ 120 := by unfold alikeT; simp
  have sl : sidesT.length ≤ 120 := by unfold sidesT; simp
  refine q_when (b := false) (et_is (et_or (a := false) (b := false) (et_is (et_not (et_B (ev_two (n := 2) (ts := alikeT) (b := true) (eds_cons (eI eb) (eds_cons (ed_var (n := 1) eb rfl k1) (eds_cons (eB eb) (eds_nil eb)))) ⟨by decide, alike_web, al, .inl ⟨rfl, alike_bip⟩⟩))) rfl) fun _ => et_is (et_not (et_B (ev_two (n := 22) (ts := sidesT) (b := true) (eds_cons (eI eb) (eds_cons (ed_var (n := 3) eb rfl k3) (eds_cons (eB eb) (eds_nil eb)))) ⟨by decide, sides_web, sl, .inl ⟨rfl, sides_bip⟩⟩))) rfl) rfl) (fun hb => (nomatch hb)) (fun _ H5 e5 => ?_)
  have eb := eb.trans e5
  have e05 := e04.trans e5
  refine q_when (b := false) (et_is (et_not (et_B (ev_two (n := 40) (ts := rt) (b := true) (eds_cons (eI eb) (eds_cons (ed_var (n := 2) eb rfl k2) (eds_cons (eB eb) (eds_nil eb)))) ⟨by decide, rw3, by omega, .inl ⟨rfl, rb3⟩⟩))) rfl) (fun hb => (nomatch hb)) (fun _ H6 e6 => ?_)
  have eb := eb.trans e6
  have e06 := e05.trans e6
  have m0 := Int.emod_nonneg m (b := 9) (by decide)
  have m1 := Int.emod_lt_of_pos m (b := 9) (by decide)
  refine q_when (b := false) (et_is (et_or (a := false) (b := false) (et_is (et_not (et_B (ev_evn (n := 2) (ts := alikeT) (m := 1 + m % 9) (eds_cons (eI eb) (eds_cons (ed_var (n := 1) eb rfl k1) (eds_cons (edi eb (ev_I0 (g := fun i j => .int (i + j)) ev_c (ev_I (ev_var (i := 0) rfl) ev_c (C := fun _ j => 0 < j) (g := fun i j => .int (i % j)) (by decide)))) (eds_nil eb)))) ⟨by decide, alike_web, al, by omega, by omega, alike_bip⟩))) rfl) fun _ => et_is (et_not (et_B (ev_evn (n := 22) (ts := sidesT) (m := 5) (eds_cons (eI eb) (eds_cons (ed_var (n := 3) eb rfl k3) (eds_cons (eI eb) (eds_nil eb)))) ⟨by decide, sides_web, sl, by decide, by decide, sides_bip⟩))) rfl) rfl) (fun hb => (nomatch hb)) (fun _ H7 e7 => ?_)
  have eb := eb.trans e7
  have e07 := e06.trans e7
  refine q_when (b := false) (et_is (et_not (et_B (ev_evn (n := 40) (ts := rt) (m := 2) (eds_cons (eI eb) (eds_cons (ed_var (n := 2) eb rfl k2) (eds_cons (eI eb) (eds_nil eb)))) ⟨by decide, rw3, by omega, by decide, by decide, rb3⟩))) rfl) (fun hb => (nomatch hb)) (fun _ H8 e8 => ?_)
  have eb := eb.trans e8
  have e08 := e07.trans e8
  clear k2 rw3 rb3 rl3
  obtain ⟨gr, hgr, h5⟩ : ∃ gr : Int, (10 : Int) ^ (30 : Int).toNat = gr ∧ 39 < gr := ⟨_, rfl, by decide⟩
  have hp : ∀ {σ : L2.St} {H : Hp}, Ev (tOp (rI (fun i j => 0 ≤ j ∧ j ≤ 1000000 ∧ i.natAbs < 2 ^ 64) fun i j => .int (i ^ j.toNat)) (tC (.int 10)) (tC (.int 30))) σ H (.int gr) := fun {σ H} => by
    have h := ev_I (σ := σ) (H := H) (ev_c (v := .int 10)) (ev_c (v := .int 30)) (C := fun i j => 0 ≤ j ∧ j ≤ 1000000 ∧ i.natAbs < 2 ^ 64) (g := fun i j => .int (i ^ j.toNat)) ⟨by decide, by decide, by decide⟩
    rw [hgr] at h; exact h
  clear hgr
  -- the star
  refine q_shared (n := 40) (ts := starT) (many := gr) (by decide) star_web (by rw [star_len]; decide) (by omega) (eds_cons (eI eb) (eds_cons (ed_var (n := 4) eb rfl k4) (eds_cons (edi eb hp) (eds_nil eb)))) fun a ha x6 d6 l6 B9 H9 fr => ?_
  cases a with
  | ring rs => exact absurd star_bip ha.1
  | shares cs =>
  have o6 := obS_of fr
  have fa := fr.all eb
  have kS : Da (newB B4 H8 H9) (.ref l6) (numsD cs) := .lst (fr.allO (q := (l6, .lst (cs.map V.int))) (by simp [Sn.ns])) .ints
  have k1 := k1.ex fa.eb
  have k5 := k5.ex fa.eb
  have e09 := e08.trans fr.ex0
  have eb := fa.bh
  generalize newB B4 H8 H9 = C9 at kS k1 k5 eb
  clear fa fr
  have hk := star_kinds h5 ha.2
  have hcl : cs.length ≤ 4000 := by have := ha.2.1; rw [star_len] at this; omega
  refine q_when (b := false) (et_is (et_or (a := false) (b := false) (et_is (et_not (et_B (ev_isShares T (ev_var (i := 6) rfl) o6))) rfl) fun _ => et_is (et_or (a := false) (b := false) (et_is (et_test (ev_neI (ev_lenSet (K := K) (ed_ev eb (ev_fld (ev_var (i := 6) rfl) o6 T.c_Shares T.a_Shares) kS) hcl) (ev_c (v := .int 39)))) (by rw [hk]; rfl)) fun _ => et_is (et_not (et_B (ev_two (n := 3) (ts := tr) (b := false) (eds_cons (eI eb) (eds_cons (ed_var (n := 5) eb rfl k5) (eds_cons (eB eb) (eds_nil eb)))) ⟨by decide, tr_web, by decide, .inr ⟨rfl, 0, by decide, tr_odd (n := 3) (by decide)⟩⟩))) rfl) rfl) rfl) (fun hb => (nomatch hb)) (fun _ H10 e10 => ?_)
  have eb := eb.trans e10
  have e010 := e09.trans e10
  clear kS hk hcl ha o6
  -- a triangle, two
  refine q_parH (d2 := tiesD six) eb (n := 3) (ts := tr) (by decide) tr_web (by decide) (eds_cons (eI eb) (eds_cons (ed_var (n := 5) eb rfl k5) (eds_nil eb))) (EvN.toD (en_cat (ds := tr.map tieD) (es := [(3, 4), (3, 5), (4, 5)].map tieD) (ed_var (n := 5) eb rfl k5) (eTies eb [(3, 4), (3, 5), (4, 5)]) (by decide))) fun N x7 l7 v8 B11 H11 e11 b11 eb11 kO oO k8 => ?_
  rw [tr_half N] at kO oO
  have kO : Da B11 (.ref l7) (numsD [0, 1, 2]) := kO
  have k1 := k1.ex b11
  have k5 := k5.ex b11
  have eb := eb11
  have e011 := e010.trans e11
  refine q_when (b := false) (et_is (et_or (a := false) (b := false) (et_is (et_test (ev_neD (K := K) (ed_ev eb (ev_fld (ev_var (i := 7) rfl) oO T.c_Odd T.a_Odd) kO) (eInts eb [0, 1, 2]) (sh_nums _).ok (sh_nums _).ok)) (by rw [eqv_nums]; decide)) fun _ => et_is (et_not (et_B (ev_two (n := 6) (ts := six) (b := false) (eds_cons (eI eb) (eds_cons (ed_var (n := 8) eb rfl k8) (eds_cons (eB eb) (eds_nil eb)))) ⟨by decide, six_web, by decide, .inr ⟨rfl, 0, by decide, six_odd0⟩⟩))) rfl) rfl) (fun hb => (nomatch hb)) (fun _ H12 e12 => ?_)
  have eb := eb.trans e12
  have e012 := e011.trans e12
  refine q_when (b := false) (et_is (et_test (ev_niS (K := K) (b := true) (es_halfSome T (n := 6) (ts := six) (by decide) six_web (by decide) eb (eds_cons (eI eb) (eds_cons (ed_var (n := 8) eb rfl k8) (eds_nil eb))) (fun N => half_odd six_web (v := 0) (by decide) six_odd0 N)) (ed_tup (eds_cons (eInts eb [0, 1, 2]) (eds_cons (eInts eb [3, 4, 5]) (eds_nil eb)))) ?_ rfl)) rfl) (fun hb => (nomatch hb)) (fun _ H13 e13 => ?_)
  · rintro d ⟨cs2, hcs, rfl, N2⟩
    rcases six_half N2 with h | h
    · rw [hcs] at h; cases h
      exact ⟨(sh_nums _).ok, by simp [eqv_nums]⟩
    · rw [hcs] at h; cases h
      exact ⟨(sh_nums _).ok, by simp [eqv_nums]⟩
  have eb := eb.trans e13
  have e013 := e012.trans e13
  clear kO oO k8 N
  -- rings
  refine q_for (B := B11) (dt := PyData.int) (P := (· = [1, 2, gr])) (ei_list (K := K) (EvN.toD (en_lst (eds_cons (eI eb) (eds_cons (eI eb) (eds_cons (edi eb hp) (eds_nil eb)))))))
    (fun l B2 i σ' H' => Ex H H' ∧ Ex B11 B2 ∧ Ex B2 H' ∧ ∃ (y9 y10 : Option V), σ' = [some (.int m), some v1, some v2, some (.ref ls), some v4, some v5, some (.ref x6), some (.ref x7), some v8, y9, y10, none, none]) ?_ ?_ ?_ ?_
  · rintro l B2 H2 - g2
    exact ⟨e013.trans g2.hh, g2.bb, g2.bh, none, none, rfl⟩
  · rintro l B2 i σ' H' ⟨_, _, e, _⟩
    exact e
  · rintro l B2 i c x B3 σ' H' H2 rfl hi ⟨e0, e12', e2, y9, y10, rfl⟩ g2 kx
    obtain rfl := kx.int_inv
    have hc : 1 ≤ c := by
      have : c = 1 ∨ c = 2 ∨ c = gr := by simpa using List.mem_of_getElem? hi
      omega
    have k5 := k5.ex (e12'.trans g2.bb)
    have eb := g2.bh
    refine q_shared (n := 3) (ts := tr) (many := c) (by decide) tr_web (by decide) hc (eds_cons (eI eb) (eds_cons (ed_var (n := 5) eb rfl k5) (eds_cons (edi eb (ev_var (i := 9) rfl)) (eds_nil eb)))) fun a ha xr dr lr Br Hr fr => ?_
    cases a with
    | shares cs => exact absurd ha.1 tr_bip
    | ring rs =>
    have o := obS_of fr
    have fa := fr.all eb
    have kR : Da (newB B3 H2 Hr) (.ref lr) (numsD rs) := .lst (fr.allO (q := (lr, .lst (rs.map V.int))) (by simp [Sn.ns])) .ints
    have k5 := k5.ex fa.eb
    have e0r := (e0.trans g2.hh).trans fr.ex0
    have b3r := fa.eb
    have ebr := fa.bh
    generalize newB B3 H2 Hr = Cr at kR k5 ebr b3r
    clear fa fr
    have hfld : EvS (tFld K (tVar 10) "ring") [some (.int m), some v1, some v2, some (.ref ls), some v4, some v5, some (.ref x6), some (.ref x7), some v8, some (.int c), some (.ref xr), none, none] Cr Hr (fun d => ∃ ns : List Int, ns = rs ∧ d = numsD ns) := fun H1 e Q q => ed_ev ebr (ev_fld (ev_var (i := 10) rfl) o T.c_Ring T.a_Ring) kR H1 e Q fun v B' H2 g k => q _ v B' H2 ⟨rs, rfl, rfl⟩ g k
    have hsw := ev_showsS (E1 := E0) (E2 := E0) (B := Cr) (tx := tVar 10) (σ := [some (.int m), some v1, some v2, some (.ref ls), some v4, some v5, some (.ref x6), some (.ref x7), some v8, some (.int c), some (.ref xr), none, none]) (a := .ring rs) (ev_var (i := 10) rfl) o (eds_cons (eI (i := 3) ebr) (eds_cons (ed_var (n := 5) ebr rfl k5) (eds_cons (edi ebr (ev_var (i := 9) rfl)) (eds_nil ebr)))) ⟨by decide, by decide, tr_web, by decide, by have := sn_len ha; show rs.length ≤ 1000; have h3 : tr.length = 3 := rfl; have : rs.length ≤ tr.length := this; omega⟩
    rw [shows_ok ha] at hsw
    refine s_when (b := false) (et_is (et_or (a := false) (b := false) (et_is (et_not (et_B (ev_isRing T (ev_var (i := 10) rfl) o))) rfl) fun _ => et_is (et_or (a := false) (b := false) (et_is (et_test (ev_neS (K := K) (b := true) (es_sorted (K := K) hfld) (eInts ebr [0, 1, 2]) ?_ (sh_nums _).ok)) rfl) fun _ => et_is (et_not (et_B hsw)) rfl) rfl) rfl) (fun hb => (nomatch hb)) (fun _ H14 e14 => ?_)
    · rintro d ⟨ms, ns, rfl, pm, sm, rfl⟩
      have := tr_ring ha.2 pm sm
      subst this
      exact ⟨(sh_nums _).ok, by rw [eqv_nums]; decide⟩
    exact ⟨e0r.trans e14, e12', ((g2.bb.trans b3r).trans ebr).trans e14, _, _, rfl⟩
  rintro l B2 σ' H14 - ⟨e014, e12', eb, y9, y10, rfl⟩
  have k1 := k1.ex e12'
  -- nothing
  refine q_half (n := 1) (ts := []) (by decide) (nil_web 1) (by decide) (eds_cons (eI eb) (eds_cons (eTies eb []) (eds_nil eb))) fun N xn dn ln Bn Hn fr => ?_
  rw [nil_half N] at fr
  have on := obA_of fr
  have fa := fr.all eb
  have kN : Da (newB B2 H14 Hn) (.ref ln) (numsD []) := .lst (fr.allO (q := (ln, .lst (([] : List Int).map V.int))) (by simp [An.ns])) .ints
  have k1 := k1.ex fa.eb
  have e0n := e014.trans fr.ex0
  have eb := fa.bh
  generalize newB B2 H14 Hn = Cn at kN k1 eb
  clear fa fr
  refine q_when (b := false) (et_is (et_or (a := false) (b := false) (et_is (et_not (et_B (ev_isEven T (ev_var (i := 11) rfl) on))) rfl) fun _ => et_is (et_or (a := false) (b := false) (et_is (et_test (ev_neD (K := K) (ed_ev eb (ev_fld (ev_var (i := 11) rfl) on T.c_Even T.a_Even) kN) (eInts eb []) (sh_nums _).ok (sh_nums _).ok)) (by rw [eqv_nums]; decide)) fun _ => et_is (et_or (a := false) (b := false) (et_is (et_test (ev_neS (K := K) (b := true) (near_em (A := A) (n := 1) (ts := []) (by decide) (nil_web 1) (by decide) (eds_cons (eI eb) (eds_cons (eTies eb []) (eds_nil eb)))).toS (eInts eb []) ?_ (sh_nums _).ok)) rfl)
    fun _ => et_is (et_test (ev_neS (K := K) (b := true) (es_shrCols T (n := 1) (m := 3) (ts := []) (by decide) (nil_web 1) (by decide) (by decide) eb nil_bip (eds_cons (eI eb) (eds_cons (eTies eb []) (eds_cons (eI eb) (eds_nil eb))))) (eInts eb []) ?_ (sh_nums _).ok)) rfl) rfl) rfl) rfl) (fun hb => (nomatch hb)) (fun _ H15 e15 => ?_)
  · rintro d ⟨ds, rfl, N2, rfl⟩
    have : nearF 1 [] = [] := List.eq_nil_of_length_eq_zero N2.len
    rw [this]
    exact ⟨(sh_nums []).ok, by show PyData.eqv (numsD []) (numsD []) = true; rw [eqv_nums]; decide⟩
  · rintro d ⟨cs, E, rfl⟩
    have : cs = [] := List.eq_nil_of_length_eq_zero E.1
    subst this
    exact ⟨(sh_nums _).ok, by rw [eqv_nums]; decide⟩
  have eb := eb.trans e15
  have hz : EvD (tOp rRep (tLst (tCons (tC (.int 0)) tNil)) (tC (.int 120))) [some (.int m), some v1, some v2, some (.ref ls), some v4, some v5, some (.ref x6), some (.ref x7), some v8, y9, y10, some (.ref xn), none] Cn H15 (numsD (List.replicate 120 0)) := by
    have h := EvN.toD (en_rep (eInts (σ := [some (.int m), some v1, some v2, some (.ref ls), some v4, some v5, some (.ref x6), some (.ref x7), some v8, y9, y10, some (.ref xn), none]) eb [0]) (ev_c (v := .int 120)) ⟨by decide, by decide⟩ (Nat.le_of_ble_eq_true rfl))
    have e : (List.replicate (120 : Int).toNat ([0].map PyData.int)).flatten = (List.replicate 120 (0 : Int)).map PyData.int := by
      rw [List.map_replicate]
      exact flat1 _ _
    rw [e] at h
    exact h
  have h2 : EvD (tOp rRep (tLst (tCons (tTup (tCons (tC (.int 0)) (tCons (tC (.int 1)) tNil))) tNil)) (tC (.int 2))) [some (.int m), some v1, some v2, some (.ref ls), some v4, some v5, some (.ref x6), some (.ref x7), some v8, y9, y10, some (.ref xn), none] Cn H15 (tiesD two) := EvN.toD (en_rep (eTies eb [(0, 1)]) (ev_c (v := .int 2)) ⟨by decide, by decide⟩ (Nat.le_of_ble_eq_true rfl))
  have hc2 : EvS (tFld K (tCall (sp_halved A) [] E0 (tCons (tC (.int 2)) (tCons (tOp rRep (tLst (tCons (tTup (tCons (tC (.int 0)) (tCons (tC (.int 1)) tNil))) tNil)) (tC (.int 2))) tNil))) "colours") [some (.int m), some v1, some v2, some (.ref ls), some v4, some v5, some (.ref x6), some (.ref x7), some v8, y9, y10, some (.ref xn), none] Cn H15 (fun d => ∃ ns : List Int, Nearly 2 two ns ∧ d = numsD ns) := fun H1 e Q q => es_halfCols T (n := 2) (ts := two) (by decide) two_web (by decide) eb (eds_cons (eI eb) (eds_cons h2 (eds_nil eb))) (fun N => half_bip two_web two_bip N) H1 e Q fun d v B' H2 pd g k => by
    obtain ⟨cs, hcs, rfl, N⟩ := pd
    exact q _ v B' H2 ⟨cs, by rw [(even_near hcs N).1]; exact N, rfl⟩ g k
  refine Evl.s_ret (v := .bl true) (ev_is (Evl.ev_andV (a := true) (b := true) (ev_eqS (K := K) (b := true) (es_sorted (K := K) hc2) (eInts eb [0, 1]) ?_ (sh_nums _).ok) fun _ => ev_eqS (K := K) (b := true) (es_shrCols T (n := 2) (m := 1) (ts := alikeT) (by decide) alike_web al (by decide) eb alike_bip (eds_cons (eI eb) (eds_cons (ed_var (n := 1) eb rfl k1) (eds_cons (eI eb) (eds_nil eb))))) hz ?_ (sh_nums _).ok) rfl) fun H16 e16 => q H16 (e0n.trans (e15.trans e16))
  · rintro d ⟨ms, ns, N2, pm, sm, rfl⟩
    have := two_half N2 pm sm
    subst this
    exact ⟨(sh_nums _).ok, by rw [eqv_nums]; decide⟩
  · rintro d ⟨cs, E, rfl⟩
    rw [alike_one E]
    exact ⟨(sh_nums _).ok, by rw [eqv_nums]; simp⟩

end
end TW
set_option Elab.async false
set_option linter.all false
set_option maxRecDepth 100000
set_option maxHeartbeats 4000000
namespace TW
open PySem PySem.Spec PyProof.Rows L2 TM TB
open Evl (Ex Ex.refl Ex.trans Ex.new Ex.mut Ev EvT EvA ev_var ev_c ev_op rv_I0 rv_I rv_eq rv_ne et_test et_B et_and et_or et_not et_is ev_is sz_of sz_lt fresh_back)
section
variable {P : Program} {w : World} {K : PySem.W.Frag} {mg : Str → Option Value} {base : Heap} {A : Ad}
/-! ### the law -/
def sp_law (K : PySem.W.Frag) (Pb : Addr) : Sp := fun vs H Q _ => ∃ (a : Addr) (ns : List Int), vs = [.ref a] ∧ SqL K H a (ns.map V.int) ∧ LamX.TabS H Pb q_bad ∧ ∀ H', Q (.bl true) H'
theorem len_law {K : PySem.W.Frag} {Pb : Addr} {vs : List V} {H : Hp} {Q : VK} {E : XK} (h : sp_law K Pb vs H Q E) : vs.length = 1 := by
  obtain ⟨_, _, rfl, _⟩ := h
  rfl
theorem ok_law (T : TX K mg A) (tb : LamX.TabB base mg A.c_bad A.P_bad) {fd : FuncData} (F : Fun K "law" "law" s_law A.law fd) : FnOk P w K mg base CX0 8 A.law fd ["_law_script"] (sp_law K A.P_bad) := by
  obtain ⟨fd__law_bad_right, G__law_bad_right, B__law_bad_right, K__law_bad_right⟩ := ok__law_bad_right (P := P) (w := w) (base := base) T tb
  obtain ⟨fd__law_promises_right, G__law_promises_right, B__law_promises_right, K__law_promises_right⟩ := ok__law_promises_right (P := P) (w := w) (base := base) T
  obtain ⟨fd__law_known_right, G__law_known_right, B__law_known_right, K__law_known_right⟩ := ok__law_known_right (P := P) (w := w) (base := base) T
  obtain ⟨fd__law_changed_right, G__law_changed_right, B__law_changed_right, K__law_changed_right⟩ := ok__law_changed_right (P := P) (w := w) (base := base) T
  refine F.ok sc_law (fun vs H Q E h => len_law h) (fun cdv Ar outer s H vs Q E hr h => ?_)
  have nd := sc_law.nd
  have hu := hu_of hr
  obtain ⟨sa, ns, rfl, hS, tabs, q⟩ := h
  refine ⟨_, (pss_cons (ps_if (pt_not (pt_val (pe_call0 G__law_promises_right (hr.mono (by decide)) (by rfl) T.g__law_promises_right K__law_promises_right B__law_promises_right .nil pass0))) (pss_one (ps_ret pe_bl)) pss_nil) (pss_cons (ps_set (i := 1) nd rfl (by first | exact .inl rfl | exact .inr rfl) (pe_callB call_abs (by rfl) T.n_abs (by decide +kernel) (pa_cons (pe_callB (sumK K rfl) (by rfl) T.n_sum (by decide +kernel) (pa_cons (pe_slice (sl_listK K) (pv 0) po_none (po_some pe_int)) pa_nil)) pa_nil))) (pss_cons (ps_if (PW.pt (pw_or (pt_not (pt_val (pe_call G__law_known_right (hr.mono (by decide)) (by rfl) T.g__law_known_right K__law_known_right B__law_known_right .nil pass0 (pa_cons (pv 1) pa_nil)))) (pw_or1 (pt_not (pt_val (pe_call0 G__law_changed_right (hr.mono (by decide)) (by rfl) T.g__law_changed_right K__law_changed_right B__law_changed_right .nil pass0)))))) (pss_one (ps_ret pe_bl)) pss_nil) (pss_one (ps_ret (pe_call G__law_bad_right (hr.mono (by decide)) (by rfl) T.g__law_bad_right K__law_bad_right B__law_bad_right .nil pass0 (pa_cons (pv 1) pa_nil))))))), ?_⟩
  have eb : Ex (fun _ => none) H := fun a o h => (nomatch h)
  refine q_when (b := false) (et_is (et_not (et_B (ev_call (v := .bl true) (eds_nil eb) fun B1 H1 vs Q E e k q => ⟨by cases k; rfl, q⟩))) rfl) (fun hb => (nomatch hb)) (fun _ H1 e1 => ?_)
  have eb1 := eb.trans e1
  have h1 := en_slS (K := K) (te := tVar 0) (σ := [some (.ref sa), none]) (m := 63) eb1 (ev_var (i := 0) rfl) (Evl.ex_l e1 hS)
  have h2 := ev_abs (ev_sum (K := K) h1.toD)
  refine q_asgV h2 fun H2 e2 => ?_
  clear h1 h2
  generalize (((ns.take 63).sum).natAbs : Int) = W
  have eb2 := eb1.trans e2
  refine q_when (b := false) (et_is (et_or (a := false) (b := false) (et_is (et_not (et_B (ev_call (v := .bl true) (eds_cons (edi (i := W) eb2 (ev_var (i := 1) rfl)) (eds_nil eb2)) fun B1 H1 vs Q E e k q => by
    match vs, k with
    | [_], .cons (.int _) .nil => exact ⟨W, rfl, q⟩))) rfl) fun _ => et_is (et_not (et_B (ev_call (v := .bl true) (eds_nil eb2) fun B1 H1 vs Q E e k q => ⟨by cases k; rfl, q⟩))) rfl) rfl) (fun hb => (nomatch hb)) (fun _ H3 e3 => ?_)
  have eb3 := eb2.trans e3
  exact s_retCall (eds_cons (edi (i := W) eb3 (ev_var (i := 1) rfl)) (eds_nil eb3)) fun vs B4 H4 g k => by
    match vs, k with
    | [_], .cons (.int _) .nil => exact ⟨W, rfl, (((tabs.ext e1).ext e2).ext e3).ext g.hh, q⟩
theorem law_at {l : PySem.W.OpenLaw} {w : World} {K : PySem.W.Frag} {mg : Str → Option Value} {fa : Addr} {h : Heap} {c Pb : Addr} (hh : PySem.W.CodeHd h c Pb ∧ h.get? Pb = some { cls := .none, data := .fields #[] }) (nT : K.lookup Pb = none)
    (F : ∃ fd : FuncData, (∀ (s : Shared) (u : Value), BindsTo s fd ⟨[u], []⟩ [("_law_script", u)]) ∧ ∀ base : Heap, K.In base → base.Ns mainGlobals mg → LamX.TabB base mg c Pb → FnOk l.prog w K mg base CX0 8 fa fd ["_law_script"] (sp_law K Pb)) : LamX.LawAtS l w K CX0 8 63 "_law_script" mg fa h := by
  obtain ⟨fd, hb, hF⟩ := F
  refine ⟨fd, [(c, Pb)], sp_law K Pb, fun p hp => ?_, fun p hp => ?_, fun p hp => ?_, hb, fun H a ns _ _ ht hS => ⟨a, ns, rfl, hS, LamX.TabS.nil (ht (c, Pb) List.mem_cons_self), fun _ => rfl⟩, fun base k1 k2 k3 => hF base k1 k2 (k3 (c, Pb) List.mem_cons_self)⟩
  · rw [List.mem_singleton.mp hp]; exact hh.2
  · rw [List.mem_singleton.mp hp]; exact nT
  · rw [List.mem_singleton.mp hp]; exact hh.1
theorem law_at2 {l : PySem.W.OpenLaw} {w : World} {K : PySem.W.Frag} {mg : Str → Option Value} {fa : Addr} {h : Heap} {pq : Program} {f c Pb : Addr} {o : Obj} {fd : FuncData} {cl : Value} {dd : Option Addr} {us : Array Value} {sl : Array (Option Value)} (KX : K.In h) (G : h.Ns mainGlobals mg)
    (tabs : ∀ (y : Str) (f c P : Addr) (o : Obj) (fd : FuncData) (cls : Value) (dd : Option Addr) (vs : Array Value) (sl : Array (Option Value)), ((recsOf pq).any fun e => e.name == y) = true → mg y = some (.ref f) → K.lookup f = some o → o.data = .func fd → fd.code = .ref c → K.lookup c = some ⟨cls, dd, .fields vs, sl⟩ → vs[11]? = some (.ref P) →
        PySem.W.CodeHd h c P ∧ h.get? P = some { cls := .none, data := .fields #[] })
    (rec : ((recsOf pq).any fun e => e.name == "_law_bad_right") = true) (nsb : PySem.W.nsIn K mainGlobals "_law_bad_right" = some (some (.ref f))) (lkb : K.lookup f = some o) (db : o.data = .func fd) (cb : fd.code = .ref c) (lkc : K.lookup c = some ⟨cl, dd, .fields us, sl⟩) (vb : us[11]? = some (.ref Pb)) (nT : K.lookup Pb = none)
    (F : ∃ fd : FuncData, (∀ (s : Shared) (u : Value), BindsTo s fd ⟨[u], []⟩ [("_law_script", u)]) ∧ ∀ base : Heap, K.In base → base.Ns mainGlobals mg → LamX.TabB base mg c Pb → FnOk l.prog w K mg base CX0 8 fa fd ["_law_script"] (sp_law K Pb)) : LamX.LawAtS l w K CX0 8 63 "_law_script" mg fa h :=
  law_at (tabs "_law_bad_right" f c Pb o fd cl dd us sl rec (PySem.W.mg_of KX G nsb) lkb db cb lkc vb) nT F

end
end TW
set_option Elab.async false
set_option linter.all false
set_option maxRecDepth 100000
set_option maxHeartbeats 4000000
namespace TW
open PySem PySem.Spec PyProof.Rows L2 TM TB
open Evl (Ex Ex.refl Ex.trans Ex.new Ex.mut Ev EvT EvA ev_var ev_c ev_op rv_I0 rv_I rv_eq rv_ne et_test et_B et_and et_or et_not et_is ev_is sz_of sz_lt fresh_back)
section
variable {P : Program} {w : World} {K : PySem.W.Frag} {mg : Str → Option Value} {base : Heap} {A : Ad}
theorem all_mk {P : Program} {w : World} {K : PySem.W.Frag} {h : Heap} {mg : Str → Option Value} {fa : Addr} (X : K.In h) (G : h.Ns mainGlobals mg) (hfa : mg "law" = some (.ref fa))
    {a_is_number a_is_tie a_asked_web a_counts a_part_of a_is_odd_part a_are_even a_Even___init__ a_Even_shows a_Odd___init__ a_Odd_shows a_Shares___init__ a_Shares_shows a_Ring___init__ a_Ring_shows a_circuit a_nearly_of a_nearly a_halved_of a_halved a_odd_ring a_way_up a_closed a_spread a_is_uneven a_shared a__law_refused a__law_plain a__law_truths a__law_counts a__law_even_right a__law_two_right a__law_known_right a__law_changed_right a__law_bad_right a__law_far a__law_promises_right a__law_more_promises a_law a_TieError a_BadPlaces a_BadTies a_BadMany a_Even a_Odd a_Shares a_Ring a_c_bad a_P_bad : Addr}
    {oc_is_number kV_is_number dc_is_number pm_is_number cd_is_number ct_is_number : Value}
    {od_is_number an_is_number : Option Addr}
    {sl_is_number : Array (Option Value)}
    {oc_is_tie kV_is_tie dc_is_tie pm_is_tie cd_is_tie ct_is_tie : Value}
    {od_is_tie an_is_tie : Option Addr}
    {sl_is_tie : Array (Option Value)}
    {oc_asked_web kV_asked_web dc_asked_web pm_asked_web cd_asked_web ct_asked_web : Value}
    {od_asked_web an_asked_web : Option Addr}
    {sl_asked_web : Array (Option Value)}
    {oc_counts kV_counts dc_counts pm_counts cd_counts ct_counts : Value}
    {od_counts an_counts : Option Addr}
    {sl_counts : Array (Option Value)}
    {oc_part_of kV_part_of dc_part_of pm_part_of cd_part_of ct_part_of : Value}
    {od_part_of an_part_of : Option Addr}
    {sl_part_of : Array (Option Value)}
    {oc_is_odd_part kV_is_odd_part dc_is_odd_part pm_is_odd_part cd_is_odd_part ct_is_odd_part : Value}
    {od_is_odd_part an_is_odd_part : Option Addr}
    {sl_is_odd_part : Array (Option Value)}
    {oc_are_even kV_are_even dc_are_even pm_are_even cd_are_even ct_are_even : Value}
    {od_are_even an_are_even : Option Addr}
    {sl_are_even : Array (Option Value)}
    {oc_Even___init__ kV_Even___init__ dc_Even___init__ pm_Even___init__ cd_Even___init__ ct_Even___init__ : Value}
    {od_Even___init__ an_Even___init__ : Option Addr}
    {sl_Even___init__ : Array (Option Value)}
    {oc_Even_shows kV_Even_shows dc_Even_shows pm_Even_shows cd_Even_shows ct_Even_shows : Value}
    {od_Even_shows an_Even_shows : Option Addr}
    {sl_Even_shows : Array (Option Value)}
    {oc_Odd___init__ kV_Odd___init__ dc_Odd___init__ pm_Odd___init__ cd_Odd___init__ ct_Odd___init__ : Value}
    {od_Odd___init__ an_Odd___init__ : Option Addr}
    {sl_Odd___init__ : Array (Option Value)}
    {oc_Odd_shows kV_Odd_shows dc_Odd_shows pm_Odd_shows cd_Odd_shows ct_Odd_shows : Value}
    {od_Odd_shows an_Odd_shows : Option Addr}
    {sl_Odd_shows : Array (Option Value)}
    {oc_Shares___init__ kV_Shares___init__ dc_Shares___init__ pm_Shares___init__ cd_Shares___init__ ct_Shares___init__ : Value}
    {od_Shares___init__ an_Shares___init__ : Option Addr}
    {sl_Shares___init__ : Array (Option Value)}
    {oc_Shares_shows kV_Shares_shows dc_Shares_shows pm_Shares_shows cd_Shares_shows ct_Shares_shows : Value}
    {od_Shares_shows an_Shares_shows : Option Addr}
    {sl_Shares_shows : Array (Option Value)}
    {oc_Ring___init__ kV_Ring___init__ dc_Ring___init__ pm_Ring___init__ cd_Ring___init__ ct_Ring___init__ : Value}
    {od_Ring___init__ an_Ring___init__ : Option Addr}
    {sl_Ring___init__ : Array (Option Value)}
    {oc_Ring_shows kV_Ring_shows dc_Ring_shows pm_Ring_shows cd_Ring_shows ct_Ring_shows : Value}
    {od_Ring_shows an_Ring_shows : Option Addr}
    {sl_Ring_shows : Array (Option Value)}
    {oc_circuit kV_circuit dc_circuit pm_circuit cd_circuit ct_circuit : Value}
    {od_circuit an_circuit : Option Addr}
    {sl_circuit : Array (Option Value)}
    {oc_nearly_of kV_nearly_of dc_nearly_of pm_nearly_of cd_nearly_of ct_nearly_of : Value}
    {od_nearly_of an_nearly_of : Option Addr}
    {sl_nearly_of : Array (Option Value)}
    {oc_nearly kV_nearly dc_nearly pm_nearly cd_nearly ct_nearly : Value}
    {od_nearly an_nearly : Option Addr}
    {sl_nearly : Array (Option Value)}
    {oc_halved_of kV_halved_of dc_halved_of pm_halved_of cd_halved_of ct_halved_of : Value}
    {od_halved_of an_halved_of : Option Addr}
    {sl_halved_of : Array (Option Value)}
    {oc_halved kV_halved dc_halved pm_halved cd_halved ct_halved : Value}
    {od_halved an_halved : Option Addr}
    {sl_halved : Array (Option Value)}
    {oc_odd_ring kV_odd_ring dc_odd_ring pm_odd_ring cd_odd_ring ct_odd_ring : Value}
    {od_odd_ring an_odd_ring : Option Addr}
    {sl_odd_ring : Array (Option Value)}
    {oc_way_up kV_way_up dc_way_up pm_way_up cd_way_up ct_way_up : Value}
    {od_way_up an_way_up : Option Addr}
    {sl_way_up : Array (Option Value)}
    {oc_closed kV_closed dc_closed pm_closed cd_closed ct_closed : Value}
    {od_closed an_closed : Option Addr}
    {sl_closed : Array (Option Value)}
    {oc_spread kV_spread dc_spread pm_spread cd_spread ct_spread : Value}
    {od_spread an_spread : Option Addr}
    {sl_spread : Array (Option Value)}
    {oc_is_uneven kV_is_uneven dc_is_uneven pm_is_uneven cd_is_uneven ct_is_uneven : Value}
    {od_is_uneven an_is_uneven : Option Addr}
    {sl_is_uneven : Array (Option Value)}
    {oc_shared kV_shared dc_shared pm_shared cd_shared ct_shared : Value}
    {od_shared an_shared : Option Addr}
    {sl_shared : Array (Option Value)}
    {oc__law_refused kV__law_refused dc__law_refused pm__law_refused cd__law_refused ct__law_refused : Value}
    {od__law_refused an__law_refused : Option Addr}
    {sl__law_refused : Array (Option Value)}
    {oc__law_plain kV__law_plain dc__law_plain pm__law_plain cd__law_plain ct__law_plain : Value}
    {od__law_plain an__law_plain : Option Addr}
    {sl__law_plain : Array (Option Value)}
    {oc__law_truths kV__law_truths dc__law_truths pm__law_truths cd__law_truths ct__law_truths : Value}
    {od__law_truths an__law_truths : Option Addr}
    {sl__law_truths : Array (Option Value)}
    {oc__law_counts kV__law_counts dc__law_counts pm__law_counts cd__law_counts ct__law_counts : Value}
    {od__law_counts an__law_counts : Option Addr}
    {sl__law_counts : Array (Option Value)}
    {oc__law_even_right kV__law_even_right dc__law_even_right pm__law_even_right cd__law_even_right ct__law_even_right : Value}
    {od__law_even_right an__law_even_right : Option Addr}
    {sl__law_even_right : Array (Option Value)}
    {oc__law_two_right kV__law_two_right dc__law_two_right pm__law_two_right cd__law_two_right ct__law_two_right : Value}
    {od__law_two_right an__law_two_right : Option Addr}
    {sl__law_two_right : Array (Option Value)}
    {oc__law_known_right kV__law_known_right dc__law_known_right pm__law_known_right cd__law_known_right ct__law_known_right : Value}
    {od__law_known_right an__law_known_right : Option Addr}
    {sl__law_known_right : Array (Option Value)}
    {oc__law_changed_right kV__law_changed_right dc__law_changed_right pm__law_changed_right cd__law_changed_right ct__law_changed_right : Value}
    {od__law_changed_right an__law_changed_right : Option Addr}
    {sl__law_changed_right : Array (Option Value)}
    {oc__law_bad_right kV__law_bad_right dc__law_bad_right pm__law_bad_right ct__law_bad_right : Value}
    {od__law_bad_right an__law_bad_right : Option Addr}
    {sl__law_bad_right : Array (Option Value)}
    {oc__law_far kV__law_far dc__law_far pm__law_far cd__law_far ct__law_far : Value}
    {od__law_far an__law_far : Option Addr}
    {sl__law_far : Array (Option Value)}
    {oc__law_promises_right kV__law_promises_right dc__law_promises_right pm__law_promises_right cd__law_promises_right ct__law_promises_right : Value}
    {od__law_promises_right an__law_promises_right : Option Addr}
    {sl__law_promises_right : Array (Option Value)}
    {oc__law_more_promises kV__law_more_promises dc__law_more_promises pm__law_more_promises cd__law_more_promises ct__law_more_promises : Value}
    {od__law_more_promises an__law_more_promises : Option Addr}
    {sl__law_more_promises : Array (Option Value)}
    {oc_law kV_law dc_law pm_law cd_law ct_law : Value}
    {od_law an_law : Option Addr}
    {sl_law : Array (Option Value)}
    (ns_TieError : PySem.W.nsIn K mainGlobals "TieError" = some (some (.ref a_TieError)))
    (ns_BadPlaces : PySem.W.nsIn K mainGlobals "BadPlaces" = some (some (.ref a_BadPlaces)))
    (ns_BadTies : PySem.W.nsIn K mainGlobals "BadTies" = some (some (.ref a_BadTies)))
    (ns_BadMany : PySem.W.nsIn K mainGlobals "BadMany" = some (some (.ref a_BadMany)))
    (ns_Even : PySem.W.nsIn K mainGlobals "Even" = some (some (.ref a_Even)))
    (ns_Odd : PySem.W.nsIn K mainGlobals "Odd" = some (some (.ref a_Odd)))
    (ns_Shares : PySem.W.nsIn K mainGlobals "Shares" = some (some (.ref a_Shares)))
    (ns_Ring : PySem.W.nsIn K mainGlobals "Ring" = some (some (.ref a_Ring)))
    (ns_is_number : PySem.W.nsIn K mainGlobals "is_number" = some (some (.ref a_is_number)))
    (ns_is_tie : PySem.W.nsIn K mainGlobals "is_tie" = some (some (.ref a_is_tie)))
    (ns_asked_web : PySem.W.nsIn K mainGlobals "asked_web" = some (some (.ref a_asked_web)))
    (ns_counts : PySem.W.nsIn K mainGlobals "counts" = some (some (.ref a_counts)))
    (ns_part_of : PySem.W.nsIn K mainGlobals "part_of" = some (some (.ref a_part_of)))
    (ns_is_odd_part : PySem.W.nsIn K mainGlobals "is_odd_part" = some (some (.ref a_is_odd_part)))
    (ns_are_even : PySem.W.nsIn K mainGlobals "are_even" = some (some (.ref a_are_even)))
    (ns_circuit : PySem.W.nsIn K mainGlobals "circuit" = some (some (.ref a_circuit)))
    (ns_nearly_of : PySem.W.nsIn K mainGlobals "nearly_of" = some (some (.ref a_nearly_of)))
    (ns_nearly : PySem.W.nsIn K mainGlobals "nearly" = some (some (.ref a_nearly)))
    (ns_halved_of : PySem.W.nsIn K mainGlobals "halved_of" = some (some (.ref a_halved_of)))
    (ns_halved : PySem.W.nsIn K mainGlobals "halved" = some (some (.ref a_halved)))
    (ns_odd_ring : PySem.W.nsIn K mainGlobals "odd_ring" = some (some (.ref a_odd_ring)))
    (ns_way_up : PySem.W.nsIn K mainGlobals "way_up" = some (some (.ref a_way_up)))
    (ns_closed : PySem.W.nsIn K mainGlobals "closed" = some (some (.ref a_closed)))
    (ns_spread : PySem.W.nsIn K mainGlobals "spread" = some (some (.ref a_spread)))
    (ns_is_uneven : PySem.W.nsIn K mainGlobals "is_uneven" = some (some (.ref a_is_uneven)))
    (ns_shared : PySem.W.nsIn K mainGlobals "shared" = some (some (.ref a_shared)))
    (ns__law_refused : PySem.W.nsIn K mainGlobals "_law_refused" = some (some (.ref a__law_refused)))
    (ns__law_plain : PySem.W.nsIn K mainGlobals "_law_plain" = some (some (.ref a__law_plain)))
    (ns__law_truths : PySem.W.nsIn K mainGlobals "_law_truths" = some (some (.ref a__law_truths)))
    (ns__law_counts : PySem.W.nsIn K mainGlobals "_law_counts" = some (some (.ref a__law_counts)))
    (ns__law_even_right : PySem.W.nsIn K mainGlobals "_law_even_right" = some (some (.ref a__law_even_right)))
    (ns__law_two_right : PySem.W.nsIn K mainGlobals "_law_two_right" = some (some (.ref a__law_two_right)))
    (ns__law_known_right : PySem.W.nsIn K mainGlobals "_law_known_right" = some (some (.ref a__law_known_right)))
    (ns__law_changed_right : PySem.W.nsIn K mainGlobals "_law_changed_right" = some (some (.ref a__law_changed_right)))
    (ns__law_bad_right : PySem.W.nsIn K mainGlobals "_law_bad_right" = some (some (.ref a__law_bad_right)))
    (ns__law_far : PySem.W.nsIn K mainGlobals "_law_far" = some (some (.ref a__law_far)))
    (ns__law_promises_right : PySem.W.nsIn K mainGlobals "_law_promises_right" = some (some (.ref a__law_promises_right)))
    (ns__law_more_promises : PySem.W.nsIn K mainGlobals "_law_more_promises" = some (some (.ref a__law_more_promises)))
    (ns_law : PySem.W.nsIn K mainGlobals "law" = some (some (.ref a_law)))
    (ns_MOST : ∃ t, PySem.W.nsIn K mainGlobals "MOST" = some (some (.int 40 t)))
    (ns_MOST_TIES : ∃ t, PySem.W.nsIn K mainGlobals "MOST_TIES" = some (some (.int 120 t)))
    (at_Even___init__ : PySem.W.findIn K (.ref a_Even) "__init__" = some (some (.ref a_Even___init__)))
    (at_Even_shows : PySem.W.findIn K (.ref a_Even) "shows" = some (some (.ref a_Even_shows)))
    (at_Odd___init__ : PySem.W.findIn K (.ref a_Odd) "__init__" = some (some (.ref a_Odd___init__)))
    (at_Odd_shows : PySem.W.findIn K (.ref a_Odd) "shows" = some (some (.ref a_Odd_shows)))
    (at_Shares___init__ : PySem.W.findIn K (.ref a_Shares) "__init__" = some (some (.ref a_Shares___init__)))
    (at_Shares_shows : PySem.W.findIn K (.ref a_Shares) "shows" = some (some (.ref a_Shares_shows)))
    (at_Ring___init__ : PySem.W.findIn K (.ref a_Ring) "__init__" = some (some (.ref a_Ring___init__)))
    (at_Ring_shows : PySem.W.findIn K (.ref a_Ring) "shows" = some (some (.ref a_Ring_shows)))
    (gs_ : PySem.W.specialIn K (.builtin "object.__class__") "__get__" = some (some (.builtin "getset_descriptor.__get__")))
    (cc_Even : PySem.W.isClsIn K a_Even = true)
    (ct_Even : PySem.W.typeIn K (.ref a_Even) = some (.type "type"))
    (cc_Odd : PySem.W.isClsIn K a_Odd = true)
    (ct_Odd : PySem.W.typeIn K (.ref a_Odd) = some (.type "type"))
    (cc_Shares : PySem.W.isClsIn K a_Shares = true)
    (ct_Shares : PySem.W.typeIn K (.ref a_Shares) = some (.type "type"))
    (cc_Ring : PySem.W.isClsIn K a_Ring = true)
    (ct_Ring : PySem.W.typeIn K (.ref a_Ring) = some (.type "type"))
    (tk_ : PySem.W.takesIn K (.builtin "object.__class__") = some true)
    (gsE_ : PySem.W.specialIn K (.builtin "object.__class__") "__get__" = some (some (.builtin "getset_descriptor.__get__")))
    (tkE_ : PySem.W.takesIn K (.builtin "object.__class__") = some true)
    (tbT_ : PySem.W.subIn K (.ref a_TieError) (.type "BaseException") = some true)
    (tdT_ : PySem.W.hasDictIn K a_TieError = true)
    (ttT_ : PySem.W.typeIn K (.ref a_TieError) = some (.type "type"))
    (ga_BadPlaces : PySem.W.findIn K (.ref a_BadPlaces) "__getattribute__" = some (some (.builtin "BaseException.__getattribute__")))
    (gg_BadPlaces : PySem.W.findIn K (.ref a_BadPlaces) "__getattr__" = some none)
    (gd_BadPlaces : PySem.W.hasDictIn K a_BadPlaces = true)
    (gc_BadPlaces : PySem.W.findIn K (.ref a_BadPlaces) "__class__" = some (some (.builtin "object.__class__")))
    (go_BadPlaces : PySem.W.mroIn K a_BadPlaces (.type "object") = some true)
    (st_BadPlaces : PySem.W.subIn K (.ref a_BadPlaces) (.ref a_TieError) = some true)
    (sv_BadPlaces : PySem.W.subIn K (.ref a_BadPlaces) (.type "ValueError") = some true)
    (ic_BadPlaces : PySem.W.isClsIn K a_BadPlaces = true)
    (sj_BadPlaces_BadPlaces : PySem.W.subIn K (.ref a_BadPlaces) (.ref a_BadPlaces) = some true)
    (sj_BadPlaces_BadTies : PySem.W.subIn K (.ref a_BadPlaces) (.ref a_BadTies) = some false)
    (sj_BadPlaces_BadMany : PySem.W.subIn K (.ref a_BadPlaces) (.ref a_BadMany) = some false)
    (ga_BadTies : PySem.W.findIn K (.ref a_BadTies) "__getattribute__" = some (some (.builtin "BaseException.__getattribute__")))
    (gg_BadTies : PySem.W.findIn K (.ref a_BadTies) "__getattr__" = some none)
    (gd_BadTies : PySem.W.hasDictIn K a_BadTies = true)
    (gc_BadTies : PySem.W.findIn K (.ref a_BadTies) "__class__" = some (some (.builtin "object.__class__")))
    (go_BadTies : PySem.W.mroIn K a_BadTies (.type "object") = some true)
    (st_BadTies : PySem.W.subIn K (.ref a_BadTies) (.ref a_TieError) = some true)
    (sv_BadTies : PySem.W.subIn K (.ref a_BadTies) (.type "ValueError") = some true)
    (ic_BadTies : PySem.W.isClsIn K a_BadTies = true)
    (sj_BadTies_BadPlaces : PySem.W.subIn K (.ref a_BadTies) (.ref a_BadPlaces) = some false)
    (sj_BadTies_BadTies : PySem.W.subIn K (.ref a_BadTies) (.ref a_BadTies) = some true)
    (sj_BadTies_BadMany : PySem.W.subIn K (.ref a_BadTies) (.ref a_BadMany) = some false)
    (ga_BadMany : PySem.W.findIn K (.ref a_BadMany) "__getattribute__" = some (some (.builtin "BaseException.__getattribute__")))
    (gg_BadMany : PySem.W.findIn K (.ref a_BadMany) "__getattr__" = some none)
    (gd_BadMany : PySem.W.hasDictIn K a_BadMany = true)
    (gc_BadMany : PySem.W.findIn K (.ref a_BadMany) "__class__" = some (some (.builtin "object.__class__")))
    (go_BadMany : PySem.W.mroIn K a_BadMany (.type "object") = some true)
    (st_BadMany : PySem.W.subIn K (.ref a_BadMany) (.ref a_TieError) = some true)
    (sv_BadMany : PySem.W.subIn K (.ref a_BadMany) (.type "ValueError") = some true)
    (ic_BadMany : PySem.W.isClsIn K a_BadMany = true)
    (sj_BadMany_BadPlaces : PySem.W.subIn K (.ref a_BadMany) (.ref a_BadPlaces) = some false)
    (sj_BadMany_BadTies : PySem.W.subIn K (.ref a_BadMany) (.ref a_BadTies) = some false)
    (sj_BadMany_BadMany : PySem.W.subIn K (.ref a_BadMany) (.ref a_BadMany) = some true)
    (pg_Even : PySem.W.plainGet K a_Even Str.empty = true)
    (hd_Even : PySem.W.hasDictIn K a_Even = true)
    (po_Even : PySem.W.plainOver K a_Even = true)
    (sa_Even : PySem.W.findIn K (.ref a_Even) "__setattr__" = some (some (.builtin "object.__setattr__")))
    (mk_Even : PySem.W.makesIn K a_Even = true)
    (kc_Even : PySem.W.keepIn K (.ref a_Even) = true)
    (na_Even : PySem.W.findIn K (.ref a_Even) "colours" = some none)
    (hc_Even : PySem.W.findIn K (.ref a_Even) "__class__" = some (some (.builtin "object.__class__")))
    (mr_Even : PySem.W.mroIn K a_Even (.type "object") = some true)
    (sb_Even_Even : PySem.W.subIn K (.ref a_Even) (.ref a_Even) = some true)
    (sb_Even_Odd : PySem.W.subIn K (.ref a_Even) (.ref a_Odd) = some false)
    (sb_Even_Shares : PySem.W.subIn K (.ref a_Even) (.ref a_Shares) = some false)
    (sb_Even_Ring : PySem.W.subIn K (.ref a_Even) (.ref a_Ring) = some false)
    (ss_Even : PySem.W.subIn K (.ref a_Even) (.ref a_Even) = some true)
    (pg_Odd : PySem.W.plainGet K a_Odd Str.empty = true)
    (hd_Odd : PySem.W.hasDictIn K a_Odd = true)
    (po_Odd : PySem.W.plainOver K a_Odd = true)
    (sa_Odd : PySem.W.findIn K (.ref a_Odd) "__setattr__" = some (some (.builtin "object.__setattr__")))
    (mk_Odd : PySem.W.makesIn K a_Odd = true)
    (kc_Odd : PySem.W.keepIn K (.ref a_Odd) = true)
    (na_Odd : PySem.W.findIn K (.ref a_Odd) "some" = some none)
    (hc_Odd : PySem.W.findIn K (.ref a_Odd) "__class__" = some (some (.builtin "object.__class__")))
    (mr_Odd : PySem.W.mroIn K a_Odd (.type "object") = some true)
    (sb_Odd_Even : PySem.W.subIn K (.ref a_Odd) (.ref a_Even) = some false)
    (sb_Odd_Odd : PySem.W.subIn K (.ref a_Odd) (.ref a_Odd) = some true)
    (sb_Odd_Shares : PySem.W.subIn K (.ref a_Odd) (.ref a_Shares) = some false)
    (sb_Odd_Ring : PySem.W.subIn K (.ref a_Odd) (.ref a_Ring) = some false)
    (ss_Odd : PySem.W.subIn K (.ref a_Odd) (.ref a_Odd) = some true)
    (pg_Shares : PySem.W.plainGet K a_Shares Str.empty = true)
    (hd_Shares : PySem.W.hasDictIn K a_Shares = true)
    (po_Shares : PySem.W.plainOver K a_Shares = true)
    (sa_Shares : PySem.W.findIn K (.ref a_Shares) "__setattr__" = some (some (.builtin "object.__setattr__")))
    (mk_Shares : PySem.W.makesIn K a_Shares = true)
    (kc_Shares : PySem.W.keepIn K (.ref a_Shares) = true)
    (na_Shares : PySem.W.findIn K (.ref a_Shares) "colours" = some none)
    (hc_Shares : PySem.W.findIn K (.ref a_Shares) "__class__" = some (some (.builtin "object.__class__")))
    (mr_Shares : PySem.W.mroIn K a_Shares (.type "object") = some true)
    (sb_Shares_Even : PySem.W.subIn K (.ref a_Shares) (.ref a_Even) = some false)
    (sb_Shares_Odd : PySem.W.subIn K (.ref a_Shares) (.ref a_Odd) = some false)
    (sb_Shares_Shares : PySem.W.subIn K (.ref a_Shares) (.ref a_Shares) = some true)
    (sb_Shares_Ring : PySem.W.subIn K (.ref a_Shares) (.ref a_Ring) = some false)
    (ss_Shares : PySem.W.subIn K (.ref a_Shares) (.ref a_Shares) = some true)
    (pg_Ring : PySem.W.plainGet K a_Ring Str.empty = true)
    (hd_Ring : PySem.W.hasDictIn K a_Ring = true)
    (po_Ring : PySem.W.plainOver K a_Ring = true)
    (sa_Ring : PySem.W.findIn K (.ref a_Ring) "__setattr__" = some (some (.builtin "object.__setattr__")))
    (mk_Ring : PySem.W.makesIn K a_Ring = true)
    (kc_Ring : PySem.W.keepIn K (.ref a_Ring) = true)
    (na_Ring : PySem.W.findIn K (.ref a_Ring) "ring" = some none)
    (hc_Ring : PySem.W.findIn K (.ref a_Ring) "__class__" = some (some (.builtin "object.__class__")))
    (mr_Ring : PySem.W.mroIn K a_Ring (.type "object") = some true)
    (sb_Ring_Even : PySem.W.subIn K (.ref a_Ring) (.ref a_Even) = some false)
    (sb_Ring_Odd : PySem.W.subIn K (.ref a_Ring) (.ref a_Odd) = some false)
    (sb_Ring_Shares : PySem.W.subIn K (.ref a_Ring) (.ref a_Shares) = some false)
    (sb_Ring_Ring : PySem.W.subIn K (.ref a_Ring) (.ref a_Ring) = some true)
    (ss_Ring : PySem.W.subIn K (.ref a_Ring) (.ref a_Ring) = some true)
    (lo_is_number : K.lookup a_is_number = some ⟨oc_is_number, od_is_number, .func (PySem.W.fnOf "is_number" "is_number" (defArgs s_is_number) (defBody s_is_number) (defScope s_is_number) .none kV_is_number dc_is_number pm_is_number an_is_number cd_is_number ct_is_number), sl_is_number⟩)
    (cd_ok_is_number : PySem.W.codeIn K cd_is_number "is_number" = true)
    (kp_is_number : PySem.W.keepIn K (.ref a_is_number) = true)
    (lo_is_tie : K.lookup a_is_tie = some ⟨oc_is_tie, od_is_tie, .func (PySem.W.fnOf "is_tie" "is_tie" (defArgs s_is_tie) (defBody s_is_tie) (defScope s_is_tie) .none kV_is_tie dc_is_tie pm_is_tie an_is_tie cd_is_tie ct_is_tie), sl_is_tie⟩)
    (cd_ok_is_tie : PySem.W.codeIn K cd_is_tie "is_tie" = true)
    (kp_is_tie : PySem.W.keepIn K (.ref a_is_tie) = true)
    (lo_asked_web : K.lookup a_asked_web = some ⟨oc_asked_web, od_asked_web, .func (PySem.W.fnOf "asked_web" "asked_web" (defArgs s_asked_web) (defBody s_asked_web) (defScope s_asked_web) .none kV_asked_web dc_asked_web pm_asked_web an_asked_web cd_asked_web ct_asked_web), sl_asked_web⟩)
    (cd_ok_asked_web : PySem.W.codeIn K cd_asked_web "asked_web" = true)
    (kp_asked_web : PySem.W.keepIn K (.ref a_asked_web) = true)
    (lo_counts : K.lookup a_counts = some ⟨oc_counts, od_counts, .func (PySem.W.fnOf "counts" "counts" (defArgs s_counts) (defBody s_counts) (defScope s_counts) .none kV_counts dc_counts pm_counts an_counts cd_counts ct_counts), sl_counts⟩)
    (cd_ok_counts : PySem.W.codeIn K cd_counts "counts" = true)
    (kp_counts : PySem.W.keepIn K (.ref a_counts) = true)
    (lo_part_of : K.lookup a_part_of = some ⟨oc_part_of, od_part_of, .func (PySem.W.fnOf "part_of" "part_of" (defArgs s_part_of) (defBody s_part_of) (defScope s_part_of) .none kV_part_of dc_part_of pm_part_of an_part_of cd_part_of ct_part_of), sl_part_of⟩)
    (cd_ok_part_of : PySem.W.codeIn K cd_part_of "part_of" = true)
    (kp_part_of : PySem.W.keepIn K (.ref a_part_of) = true)
    (lo_is_odd_part : K.lookup a_is_odd_part = some ⟨oc_is_odd_part, od_is_odd_part, .func (PySem.W.fnOf "is_odd_part" "is_odd_part" (defArgs s_is_odd_part) (defBody s_is_odd_part) (defScope s_is_odd_part) .none kV_is_odd_part dc_is_odd_part pm_is_odd_part an_is_odd_part cd_is_odd_part ct_is_odd_part), sl_is_odd_part⟩)
    (cd_ok_is_odd_part : PySem.W.codeIn K cd_is_odd_part "is_odd_part" = true)
    (kp_is_odd_part : PySem.W.keepIn K (.ref a_is_odd_part) = true)
    (lo_are_even : K.lookup a_are_even = some ⟨oc_are_even, od_are_even, .func (PySem.W.fnOf "are_even" "are_even" (defArgs s_are_even) (defBody s_are_even) (defScope s_are_even) .none kV_are_even dc_are_even pm_are_even an_are_even cd_are_even ct_are_even), sl_are_even⟩)
    (cd_ok_are_even : PySem.W.codeIn K cd_are_even "are_even" = true)
    (kp_are_even : PySem.W.keepIn K (.ref a_are_even) = true)
    (fn_Even___init__ : PySem.W.isFn K (.ref a_Even___init__) = true)
    (lo_Even___init__ : K.lookup a_Even___init__ = some ⟨oc_Even___init__, od_Even___init__, .func (PySem.W.fnOf "__init__" "Even.__init__" (defArgs s_Even___init__) (defBody s_Even___init__) (defScope s_Even___init__) .none kV_Even___init__ dc_Even___init__ pm_Even___init__ an_Even___init__ cd_Even___init__ ct_Even___init__), sl_Even___init__⟩)
    (cd_ok_Even___init__ : PySem.W.codeIn K cd_Even___init__ "Even.__init__" = true)
    (kp_Even___init__ : PySem.W.keepIn K (.ref a_Even___init__) = true)
    (fn_Even_shows : PySem.W.isFn K (.ref a_Even_shows) = true)
    (lo_Even_shows : K.lookup a_Even_shows = some ⟨oc_Even_shows, od_Even_shows, .func (PySem.W.fnOf "shows" "Even.shows" (defArgs s_Even_shows) (defBody s_Even_shows) (defScope s_Even_shows) .none kV_Even_shows dc_Even_shows pm_Even_shows an_Even_shows cd_Even_shows ct_Even_shows), sl_Even_shows⟩)
    (cd_ok_Even_shows : PySem.W.codeIn K cd_Even_shows "Even.shows" = true)
    (kp_Even_shows : PySem.W.keepIn K (.ref a_Even_shows) = true)
    (fn_Odd___init__ : PySem.W.isFn K (.ref a_Odd___init__) = true)
    (lo_Odd___init__ : K.lookup a_Odd___init__ = some ⟨oc_Odd___init__, od_Odd___init__, .func (PySem.W.fnOf "__init__" "Odd.__init__" (defArgs s_Odd___init__) (defBody s_Odd___init__) (defScope s_Odd___init__) .none kV_Odd___init__ dc_Odd___init__ pm_Odd___init__ an_Odd___init__ cd_Odd___init__ ct_Odd___init__), sl_Odd___init__⟩)
    (cd_ok_Odd___init__ : PySem.W.codeIn K cd_Odd___init__ "Odd.__init__" = true)
    (kp_Odd___init__ : PySem.W.keepIn K (.ref a_Odd___init__) = true)
    (fn_Odd_shows : PySem.W.isFn K (.ref a_Odd_shows) = true)
    (lo_Odd_shows : K.lookup a_Odd_shows = some ⟨oc_Odd_shows, od_Odd_shows, .func (PySem.W.fnOf "shows" "Odd.shows" (defArgs s_Odd_shows) (defBody s_Odd_shows) (defScope s_Odd_shows) .none kV_Odd_shows dc_Odd_shows pm_Odd_shows an_Odd_shows cd_Odd_shows ct_Odd_shows), sl_Odd_shows⟩)
    (cd_ok_Odd_shows : PySem.W.codeIn K cd_Odd_shows "Odd.shows" = true)
    (kp_Odd_shows : PySem.W.keepIn K (.ref a_Odd_shows) = true)
    (fn_Shares___init__ : PySem.W.isFn K (.ref a_Shares___init__) = true)
    (lo_Shares___init__ : K.lookup a_Shares___init__ = some ⟨oc_Shares___init__, od_Shares___init__, .func (PySem.W.fnOf "__init__" "Shares.__init__" (defArgs s_Shares___init__) (defBody s_Shares___init__) (defScope s_Shares___init__) .none kV_Shares___init__ dc_Shares___init__ pm_Shares___init__ an_Shares___init__ cd_Shares___init__ ct_Shares___init__), sl_Shares___init__⟩)
    (cd_ok_Shares___init__ : PySem.W.codeIn K cd_Shares___init__ "Shares.__init__" = true)
    (kp_Shares___init__ : PySem.W.keepIn K (.ref a_Shares___init__) = true)
    (fn_Shares_shows : PySem.W.isFn K (.ref a_Shares_shows) = true)
    (lo_Shares_shows : K.lookup a_Shares_shows = some ⟨oc_Shares_shows, od_Shares_shows, .func (PySem.W.fnOf "shows" "Shares.shows" (defArgs s_Shares_shows) (defBody s_Shares_shows) (defScope s_Shares_shows) .none kV_Shares_shows dc_Shares_shows pm_Shares_shows an_Shares_shows cd_Shares_shows ct_Shares_shows), sl_Shares_shows⟩)
    (cd_ok_Shares_shows : PySem.W.codeIn K cd_Shares_shows "Shares.shows" = true)
    (kp_Shares_shows : PySem.W.keepIn K (.ref a_Shares_shows) = true)
    (fn_Ring___init__ : PySem.W.isFn K (.ref a_Ring___init__) = true)
    (lo_Ring___init__ : K.lookup a_Ring___init__ = some ⟨oc_Ring___init__, od_Ring___init__, .func (PySem.W.fnOf "__init__" "Ring.__init__" (defArgs s_Ring___init__) (defBody s_Ring___init__) (defScope s_Ring___init__) .none kV_Ring___init__ dc_Ring___init__ pm_Ring___init__ an_Ring___init__ cd_Ring___init__ ct_Ring___init__), sl_Ring___init__⟩)
    (cd_ok_Ring___init__ : PySem.W.codeIn K cd_Ring___init__ "Ring.__init__" = true)
    (kp_Ring___init__ : PySem.W.keepIn K (.ref a_Ring___init__) = true)
    (fn_Ring_shows : PySem.W.isFn K (.ref a_Ring_shows) = true)
    (lo_Ring_shows : K.lookup a_Ring_shows = some ⟨oc_Ring_shows, od_Ring_shows, .func (PySem.W.fnOf "shows" "Ring.shows" (defArgs s_Ring_shows) (defBody s_Ring_shows) (defScope s_Ring_shows) .none kV_Ring_shows dc_Ring_shows pm_Ring_shows an_Ring_shows cd_Ring_shows ct_Ring_shows), sl_Ring_shows⟩)
    (cd_ok_Ring_shows : PySem.W.codeIn K cd_Ring_shows "Ring.shows" = true)
    (kp_Ring_shows : PySem.W.keepIn K (.ref a_Ring_shows) = true)
    (lo_circuit : K.lookup a_circuit = some ⟨oc_circuit, od_circuit, .func (PySem.W.fnOf "circuit" "circuit" (defArgs s_circuit) (defBody s_circuit) (defScope s_circuit) .none kV_circuit dc_circuit pm_circuit an_circuit cd_circuit ct_circuit), sl_circuit⟩)
    (cd_ok_circuit : PySem.W.codeIn K cd_circuit "circuit" = true)
    (kp_circuit : PySem.W.keepIn K (.ref a_circuit) = true)
    (lo_nearly_of : K.lookup a_nearly_of = some ⟨oc_nearly_of, od_nearly_of, .func (PySem.W.fnOf "nearly_of" "nearly_of" (defArgs s_nearly_of) (defBody s_nearly_of) (defScope s_nearly_of) .none kV_nearly_of dc_nearly_of pm_nearly_of an_nearly_of cd_nearly_of ct_nearly_of), sl_nearly_of⟩)
    (cd_ok_nearly_of : PySem.W.codeIn K cd_nearly_of "nearly_of" = true)
    (kp_nearly_of : PySem.W.keepIn K (.ref a_nearly_of) = true)
    (lo_nearly : K.lookup a_nearly = some ⟨oc_nearly, od_nearly, .func (PySem.W.fnOf "nearly" "nearly" (defArgs s_nearly) (defBody s_nearly) (defScope s_nearly) .none kV_nearly dc_nearly pm_nearly an_nearly cd_nearly ct_nearly), sl_nearly⟩)
    (cd_ok_nearly : PySem.W.codeIn K cd_nearly "nearly" = true)
    (kp_nearly : PySem.W.keepIn K (.ref a_nearly) = true)
    (lo_halved_of : K.lookup a_halved_of = some ⟨oc_halved_of, od_halved_of, .func (PySem.W.fnOf "halved_of" "halved_of" (defArgs s_halved_of) (defBody s_halved_of) (defScope s_halved_of) .none kV_halved_of dc_halved_of pm_halved_of an_halved_of cd_halved_of ct_halved_of), sl_halved_of⟩)
    (cd_ok_halved_of : PySem.W.codeIn K cd_halved_of "halved_of" = true)
    (kp_halved_of : PySem.W.keepIn K (.ref a_halved_of) = true)
    (lo_halved : K.lookup a_halved = some ⟨oc_halved, od_halved, .func (PySem.W.fnOf "halved" "halved" (defArgs s_halved) (defBody s_halved) (defScope s_halved) .none kV_halved dc_halved pm_halved an_halved cd_halved ct_halved), sl_halved⟩)
    (cd_ok_halved : PySem.W.codeIn K cd_halved "halved" = true)
    (kp_halved : PySem.W.keepIn K (.ref a_halved) = true)
    (lo_odd_ring : K.lookup a_odd_ring = some ⟨oc_odd_ring, od_odd_ring, .func (PySem.W.fnOf "odd_ring" "odd_ring" (defArgs s_odd_ring) (defBody s_odd_ring) (defScope s_odd_ring) .none kV_odd_ring dc_odd_ring pm_odd_ring an_odd_ring cd_odd_ring ct_odd_ring), sl_odd_ring⟩)
    (cd_ok_odd_ring : PySem.W.codeIn K cd_odd_ring "odd_ring" = true)
    (kp_odd_ring : PySem.W.keepIn K (.ref a_odd_ring) = true)
    (lo_way_up : K.lookup a_way_up = some ⟨oc_way_up, od_way_up, .func (PySem.W.fnOf "way_up" "way_up" (defArgs s_way_up) (defBody s_way_up) (defScope s_way_up) .none kV_way_up dc_way_up pm_way_up an_way_up cd_way_up ct_way_up), sl_way_up⟩)
    (cd_ok_way_up : PySem.W.codeIn K cd_way_up "way_up" = true)
    (kp_way_up : PySem.W.keepIn K (.ref a_way_up) = true)
    (lo_closed : K.lookup a_closed = some ⟨oc_closed, od_closed, .func (PySem.W.fnOf "closed" "closed" (defArgs s_closed) (defBody s_closed) (defScope s_closed) .none kV_closed dc_closed pm_closed an_closed cd_closed ct_closed), sl_closed⟩)
    (cd_ok_closed : PySem.W.codeIn K cd_closed "closed" = true)
    (kp_closed : PySem.W.keepIn K (.ref a_closed) = true)
    (lo_spread : K.lookup a_spread = some ⟨oc_spread, od_spread, .func (PySem.W.fnOf "spread" "spread" (defArgs s_spread) (defBody s_spread) (defScope s_spread) .none kV_spread dc_spread pm_spread an_spread cd_spread ct_spread), sl_spread⟩)
    (cd_ok_spread : PySem.W.codeIn K cd_spread "spread" = true)
    (kp_spread : PySem.W.keepIn K (.ref a_spread) = true)
    (lo_is_uneven : K.lookup a_is_uneven = some ⟨oc_is_uneven, od_is_uneven, .func (PySem.W.fnOf "is_uneven" "is_uneven" (defArgs s_is_uneven) (defBody s_is_uneven) (defScope s_is_uneven) .none kV_is_uneven dc_is_uneven pm_is_uneven an_is_uneven cd_is_uneven ct_is_uneven), sl_is_uneven⟩)
    (cd_ok_is_uneven : PySem.W.codeIn K cd_is_uneven "is_uneven" = true)
    (kp_is_uneven : PySem.W.keepIn K (.ref a_is_uneven) = true)
    (lo_shared : K.lookup a_shared = some ⟨oc_shared, od_shared, .func (PySem.W.fnOf "shared" "shared" (defArgs s_shared) (defBody s_shared) (defScope s_shared) .none kV_shared dc_shared pm_shared an_shared cd_shared ct_shared), sl_shared⟩)
    (cd_ok_shared : PySem.W.codeIn K cd_shared "shared" = true)
    (kp_shared : PySem.W.keepIn K (.ref a_shared) = true)
    (lo__law_refused : K.lookup a__law_refused = some ⟨oc__law_refused, od__law_refused, .func (PySem.W.fnOf "_law_refused" "_law_refused" (defArgs s__law_refused) (defBody s__law_refused) (defScope s__law_refused) .none kV__law_refused dc__law_refused pm__law_refused an__law_refused cd__law_refused ct__law_refused), sl__law_refused⟩)
    (cd_ok__law_refused : PySem.W.codeIn K cd__law_refused "_law_refused" = true)
    (kp__law_refused : PySem.W.keepIn K (.ref a__law_refused) = true)
    (lo__law_plain : K.lookup a__law_plain = some ⟨oc__law_plain, od__law_plain, .func (PySem.W.fnOf "_law_plain" "_law_plain" (defArgs s__law_plain) (defBody s__law_plain) (defScope s__law_plain) .none kV__law_plain dc__law_plain pm__law_plain an__law_plain cd__law_plain ct__law_plain), sl__law_plain⟩)
    (cd_ok__law_plain : PySem.W.codeIn K cd__law_plain "_law_plain" = true)
    (kp__law_plain : PySem.W.keepIn K (.ref a__law_plain) = true)
    (lo__law_truths : K.lookup a__law_truths = some ⟨oc__law_truths, od__law_truths, .func (PySem.W.fnOf "_law_truths" "_law_truths" (defArgs s__law_truths) (defBody s__law_truths) (defScope s__law_truths) .none kV__law_truths dc__law_truths pm__law_truths an__law_truths cd__law_truths ct__law_truths), sl__law_truths⟩)
    (cd_ok__law_truths : PySem.W.codeIn K cd__law_truths "_law_truths" = true)
    (kp__law_truths : PySem.W.keepIn K (.ref a__law_truths) = true)
    (lo__law_counts : K.lookup a__law_counts = some ⟨oc__law_counts, od__law_counts, .func (PySem.W.fnOf "_law_counts" "_law_counts" (defArgs s__law_counts) (defBody s__law_counts) (defScope s__law_counts) .none kV__law_counts dc__law_counts pm__law_counts an__law_counts cd__law_counts ct__law_counts), sl__law_counts⟩)
    (cd_ok__law_counts : PySem.W.codeIn K cd__law_counts "_law_counts" = true)
    (kp__law_counts : PySem.W.keepIn K (.ref a__law_counts) = true)
    (lo__law_even_right : K.lookup a__law_even_right = some ⟨oc__law_even_right, od__law_even_right, .func (PySem.W.fnOf "_law_even_right" "_law_even_right" (defArgs s__law_even_right) (defBody s__law_even_right) (defScope s__law_even_right) .none kV__law_even_right dc__law_even_right pm__law_even_right an__law_even_right cd__law_even_right ct__law_even_right), sl__law_even_right⟩)
    (cd_ok__law_even_right : PySem.W.codeIn K cd__law_even_right "_law_even_right" = true)
    (kp__law_even_right : PySem.W.keepIn K (.ref a__law_even_right) = true)
    (lo__law_two_right : K.lookup a__law_two_right = some ⟨oc__law_two_right, od__law_two_right, .func (PySem.W.fnOf "_law_two_right" "_law_two_right" (defArgs s__law_two_right) (defBody s__law_two_right) (defScope s__law_two_right) .none kV__law_two_right dc__law_two_right pm__law_two_right an__law_two_right cd__law_two_right ct__law_two_right), sl__law_two_right⟩)
    (cd_ok__law_two_right : PySem.W.codeIn K cd__law_two_right "_law_two_right" = true)
    (kp__law_two_right : PySem.W.keepIn K (.ref a__law_two_right) = true)
    (lo__law_known_right : K.lookup a__law_known_right = some ⟨oc__law_known_right, od__law_known_right, .func (PySem.W.fnOf "_law_known_right" "_law_known_right" (defArgs s__law_known_right) (defBody s__law_known_right) (defScope s__law_known_right) .none kV__law_known_right dc__law_known_right pm__law_known_right an__law_known_right cd__law_known_right ct__law_known_right), sl__law_known_right⟩)
    (cd_ok__law_known_right : PySem.W.codeIn K cd__law_known_right "_law_known_right" = true)
    (kp__law_known_right : PySem.W.keepIn K (.ref a__law_known_right) = true)
    (lo__law_changed_right : K.lookup a__law_changed_right = some ⟨oc__law_changed_right, od__law_changed_right, .func (PySem.W.fnOf "_law_changed_right" "_law_changed_right" (defArgs s__law_changed_right) (defBody s__law_changed_right) (defScope s__law_changed_right) .none kV__law_changed_right dc__law_changed_right pm__law_changed_right an__law_changed_right cd__law_changed_right ct__law_changed_right), sl__law_changed_right⟩)
    (cd_ok__law_changed_right : PySem.W.codeIn K cd__law_changed_right "_law_changed_right" = true)
    (kp__law_changed_right : PySem.W.keepIn K (.ref a__law_changed_right) = true)
    (lo__law_bad_right : K.lookup a__law_bad_right = some ⟨oc__law_bad_right, od__law_bad_right, .func (PySem.W.fnOf "_law_bad_right" "_law_bad_right" (defArgs s__law_bad_right) (defBody s__law_bad_right) (defScope s__law_bad_right) .none kV__law_bad_right dc__law_bad_right pm__law_bad_right an__law_bad_right (.ref a_c_bad) ct__law_bad_right), sl__law_bad_right⟩)
    (cd_ok__law_bad_right : PySem.W.codeIn K (.ref a_c_bad) "_law_bad_right" = true)
    (kp__law_bad_right : PySem.W.keepIn K (.ref a__law_bad_right) = true)
    (lo__law_far : K.lookup a__law_far = some ⟨oc__law_far, od__law_far, .func (PySem.W.fnOf "_law_far" "_law_far" (defArgs s__law_far) (defBody s__law_far) (defScope s__law_far) .none kV__law_far dc__law_far pm__law_far an__law_far cd__law_far ct__law_far), sl__law_far⟩)
    (cd_ok__law_far : PySem.W.codeIn K cd__law_far "_law_far" = true)
    (kp__law_far : PySem.W.keepIn K (.ref a__law_far) = true)
    (lo__law_promises_right : K.lookup a__law_promises_right = some ⟨oc__law_promises_right, od__law_promises_right, .func (PySem.W.fnOf "_law_promises_right" "_law_promises_right" (defArgs s__law_promises_right) (defBody s__law_promises_right) (defScope s__law_promises_right) .none kV__law_promises_right dc__law_promises_right pm__law_promises_right an__law_promises_right cd__law_promises_right ct__law_promises_right), sl__law_promises_right⟩)
    (cd_ok__law_promises_right : PySem.W.codeIn K cd__law_promises_right "_law_promises_right" = true)
    (kp__law_promises_right : PySem.W.keepIn K (.ref a__law_promises_right) = true)
    (lo__law_more_promises : K.lookup a__law_more_promises = some ⟨oc__law_more_promises, od__law_more_promises, .func (PySem.W.fnOf "_law_more_promises" "_law_more_promises" (defArgs s__law_more_promises) (defBody s__law_more_promises) (defScope s__law_more_promises) .none kV__law_more_promises dc__law_more_promises pm__law_more_promises an__law_more_promises cd__law_more_promises ct__law_more_promises), sl__law_more_promises⟩)
    (cd_ok__law_more_promises : PySem.W.codeIn K cd__law_more_promises "_law_more_promises" = true)
    (kp__law_more_promises : PySem.W.keepIn K (.ref a__law_more_promises) = true)
    (lo_law : K.lookup a_law = some ⟨oc_law, od_law, .func (PySem.W.fnOf "law" "law" (defArgs s_law) (defBody s_law) (defScope s_law) .none kV_law dc_law pm_law an_law cd_law ct_law), sl_law⟩)
    (cd_ok_law : PySem.W.codeIn K cd_law "law" = true)
    (kp_law : PySem.W.keepIn K (.ref a_law) = true)
    (nn_ValueError : PySem.W.nsIn K mainGlobals "ValueError" = some none)
    (nn_len : PySem.W.nsIn K mainGlobals "len" = some none)
    (nn_abs : PySem.W.nsIn K mainGlobals "abs" = some none)
    (nn_sum : PySem.W.nsIn K mainGlobals "sum" = some none)
    (nn_all : PySem.W.nsIn K mainGlobals "all" = some none)
    (nn_any : PySem.W.nsIn K mainGlobals "any" = some none)
    (nn_min : PySem.W.nsIn K mainGlobals "min" = some none)
    (nn_max : PySem.W.nsIn K mainGlobals "max" = some none)
    (nn_sorted : PySem.W.nsIn K mainGlobals "sorted" = some none)
    (nn_list : PySem.W.nsIn K mainGlobals "list" = some none)
    (nn_set : PySem.W.nsIn K mainGlobals "set" = some none)
    (nn_range : PySem.W.nsIn K mainGlobals "range" = some none)
    (nn_enumerate : PySem.W.nsIn K mainGlobals "enumerate" = some none)
    (nn_zip : PySem.W.nsIn K mainGlobals "zip" = some none)
    (nn_isinstance : PySem.W.nsIn K mainGlobals "isinstance" = some none)
    (nn_int : PySem.W.nsIn K mainGlobals "int" = some none)
    (nn_bool : PySem.W.nsIn K mainGlobals "bool" = some none)
    (nn_tuple : PySem.W.nsIn K mainGlobals "tuple" = some none)
    (nn_str : PySem.W.nsIn K mainGlobals "str" = some none)
    (xx_BadPlaces : PySem.W.excIn K a_BadPlaces [.type "ValueError", .type "Exception", .type "BaseException", .type "object"] "ValueError.__new__" = true)
    (xk_BadPlaces : PySem.W.keepIn K (.ref a_BadPlaces) = true)
    (xb_BadPlaces : PySem.W.subIn K (.ref a_BadPlaces) (.type "BaseException") = some true)
    (xt_BadPlaces : PySem.W.typeIn K (.ref a_BadPlaces) = some (.type "type"))
    (xx_BadTies : PySem.W.excIn K a_BadTies [.type "ValueError", .type "Exception", .type "BaseException", .type "object"] "ValueError.__new__" = true)
    (xk_BadTies : PySem.W.keepIn K (.ref a_BadTies) = true)
    (xb_BadTies : PySem.W.subIn K (.ref a_BadTies) (.type "BaseException") = some true)
    (xt_BadTies : PySem.W.typeIn K (.ref a_BadTies) = some (.type "type"))
    (xx_BadMany : PySem.W.excIn K a_BadMany [.type "ValueError", .type "Exception", .type "BaseException", .type "object"] "ValueError.__new__" = true)
    (xk_BadMany : PySem.W.keepIn K (.ref a_BadMany) = true)
    (xb_BadMany : PySem.W.subIn K (.ref a_BadMany) (.type "BaseException") = some true)
    (xt_BadMany : PySem.W.typeIn K (.ref a_BadMany) = some (.type "type"))
    : ∃ fd : FuncData, (∀ (s : Shared) (u : Value), BindsTo s fd ⟨[u], []⟩ [("_law_script", u)]) ∧ ∀ base : Heap, K.In base → base.Ns mainGlobals mg → LamX.TabB base mg a_c_bad a_P_bad → FnOk P w K mg base CX0 8 fa fd ["_law_script"] (sp_law K a_P_bad) := by
  have e := hfa.symm.trans (PySem.W.mg_of X G ns_law)
  cases e
  have T : TX K mg ⟨a_is_number, a_is_tie, a_asked_web, a_counts, a_part_of, a_is_odd_part, a_are_even, a_Even___init__, a_Even_shows, a_Odd___init__, a_Odd_shows, a_Shares___init__, a_Shares_shows, a_Ring___init__, a_Ring_shows, a_circuit, a_nearly_of, a_nearly, a_halved_of, a_halved, a_odd_ring, a_way_up, a_closed, a_spread, a_is_uneven, a_shared, a__law_refused, a__law_plain, a__law_truths, a__law_counts, a__law_even_right, a__law_two_right, a__law_known_right, a__law_changed_right, a__law_bad_right, a__law_far, a__law_promises_right, a__law_more_promises, fa, a_TieError, a_BadPlaces, a_BadTies, a_BadMany, a_Even, a_Odd, a_Shares, a_Ring, a_c_bad, a_P_bad⟩ := { g_TieError := PySem.W.mg_of X G ns_TieError, g_BadPlaces := PySem.W.mg_of X G ns_BadPlaces, g_BadTies := PySem.W.mg_of X G ns_BadTies, g_BadMany := PySem.W.mg_of X G ns_BadMany, e_BadPlaces := ⟨ga_BadPlaces, gg_BadPlaces, xb_BadPlaces, gd_BadPlaces, gc_BadPlaces, gsE_, tkE_, go_BadPlaces⟩, h_BadPlaces := PySem.W.exm_ref tbT_ tdT_ ttT_ st_BadPlaces, v_BadPlaces := kit_val sv_BadPlaces, j_BadPlaces_BadPlaces := kit_own sj_BadPlaces_BadPlaces sj_BadPlaces_BadPlaces ic_BadPlaces xt_BadPlaces, j_BadPlaces_BadTies := kit_own sj_BadPlaces_BadTies sj_BadPlaces_BadPlaces ic_BadTies xt_BadTies, j_BadPlaces_BadMany := kit_own sj_BadPlaces_BadMany sj_BadPlaces_BadPlaces ic_BadMany xt_BadMany, e_BadTies := ⟨ga_BadTies, gg_BadTies, xb_BadTies, gd_BadTies, gc_BadTies, gsE_, tkE_, go_BadTies⟩, h_BadTies := PySem.W.exm_ref tbT_ tdT_ ttT_ st_BadTies, v_BadTies := kit_val sv_BadTies, j_BadTies_BadPlaces := kit_own sj_BadTies_BadPlaces sj_BadTies_BadTies ic_BadPlaces xt_BadPlaces, j_BadTies_BadTies := kit_own sj_BadTies_BadTies sj_BadTies_BadTies ic_BadTies xt_BadTies, j_BadTies_BadMany := kit_own sj_BadTies_BadMany sj_BadTies_BadTies ic_BadMany xt_BadMany, e_BadMany := ⟨ga_BadMany, gg_BadMany, xb_BadMany, gd_BadMany, gc_BadMany, gsE_, tkE_, go_BadMany⟩, h_BadMany := PySem.W.exm_ref tbT_ tdT_ ttT_ st_BadMany, v_BadMany := kit_val sv_BadMany, j_BadMany_BadPlaces := kit_own sj_BadMany_BadPlaces sj_BadMany_BadMany ic_BadPlaces xt_BadPlaces, j_BadMany_BadTies := kit_own sj_BadMany_BadTies sj_BadMany_BadMany ic_BadTies xt_BadTies, j_BadMany_BadMany := kit_own sj_BadMany_BadMany sj_BadMany_BadMany ic_BadMany xt_BadMany, g_Even := PySem.W.mg_of X G ns_Even, c_Even := ⟨pg_Even, hd_Even, po_Even, sa_Even⟩, a_Even := na_Even, y_Even := fun H a dx fs h => .base (.ins h ⟨pg_Even, hd_Even, po_Even, sa_Even⟩ hc_Even gs_ tk_ mr_Even), i_Even_Even := kit_own sb_Even_Even ss_Even cc_Even ct_Even, i_Even_Odd := kit_own sb_Even_Odd ss_Even cc_Odd ct_Odd, i_Even_Shares := kit_own sb_Even_Shares ss_Even cc_Shares ct_Shares, i_Even_Ring := kit_own sb_Even_Ring ss_Even cc_Ring ct_Ring, g_Odd := PySem.W.mg_of X G ns_Odd, c_Odd := ⟨pg_Odd, hd_Odd, po_Odd, sa_Odd⟩, a_Odd := na_Odd, y_Odd := fun H a dx fs h => .base (.ins h ⟨pg_Odd, hd_Odd, po_Odd, sa_Odd⟩ hc_Odd gs_ tk_ mr_Odd), i_Odd_Even := kit_own sb_Odd_Even ss_Odd cc_Even ct_Even, i_Odd_Odd := kit_own sb_Odd_Odd ss_Odd cc_Odd ct_Odd, i_Odd_Shares := kit_own sb_Odd_Shares ss_Odd cc_Shares ct_Shares, i_Odd_Ring := kit_own sb_Odd_Ring ss_Odd cc_Ring ct_Ring, g_Shares := PySem.W.mg_of X G ns_Shares, c_Shares := ⟨pg_Shares, hd_Shares, po_Shares, sa_Shares⟩, a_Shares := na_Shares, y_Shares := fun H a dx fs h => .base (.ins h ⟨pg_Shares, hd_Shares, po_Shares, sa_Shares⟩ hc_Shares gs_ tk_ mr_Shares), i_Shares_Even := kit_own sb_Shares_Even ss_Shares cc_Even ct_Even, i_Shares_Odd := kit_own sb_Shares_Odd ss_Shares cc_Odd ct_Odd, i_Shares_Shares := kit_own sb_Shares_Shares ss_Shares cc_Shares ct_Shares, i_Shares_Ring := kit_own sb_Shares_Ring ss_Shares cc_Ring ct_Ring, g_Ring := PySem.W.mg_of X G ns_Ring, c_Ring := ⟨pg_Ring, hd_Ring, po_Ring, sa_Ring⟩, a_Ring := na_Ring, y_Ring := fun H a dx fs h => .base (.ins h ⟨pg_Ring, hd_Ring, po_Ring, sa_Ring⟩ hc_Ring gs_ tk_ mr_Ring), i_Ring_Even := kit_own sb_Ring_Even ss_Ring cc_Even ct_Even, i_Ring_Odd := kit_own sb_Ring_Odd ss_Ring cc_Odd ct_Odd, i_Ring_Shares := kit_own sb_Ring_Shares ss_Ring cc_Shares ct_Shares, i_Ring_Ring := kit_own sb_Ring_Ring ss_Ring cc_Ring ct_Ring, g_is_number := PySem.W.mg_of X G ns_is_number, F_is_number := ⟨_, fun_mk (st := s_is_number) lo_is_number cd_ok_is_number kp_is_number⟩, g_is_tie := PySem.W.mg_of X G ns_is_tie, F_is_tie := ⟨_, fun_mk (st := s_is_tie) lo_is_tie cd_ok_is_tie kp_is_tie⟩, g_asked_web := PySem.W.mg_of X G ns_asked_web, F_asked_web := ⟨_, fun_mk (st := s_asked_web) lo_asked_web cd_ok_asked_web kp_asked_web⟩, g_counts := PySem.W.mg_of X G ns_counts, F_counts := ⟨_, fun_mk (st := s_counts) lo_counts cd_ok_counts kp_counts⟩, g_part_of := PySem.W.mg_of X G ns_part_of, F_part_of := ⟨_, fun_mk (st := s_part_of) lo_part_of cd_ok_part_of kp_part_of⟩, g_is_odd_part := PySem.W.mg_of X G ns_is_odd_part, F_is_odd_part := ⟨_, fun_mk (st := s_is_odd_part) lo_is_odd_part cd_ok_is_odd_part kp_is_odd_part⟩, g_are_even := PySem.W.mg_of X G ns_are_even, F_are_even := ⟨_, fun_mk (st := s_are_even) lo_are_even cd_ok_are_even kp_are_even⟩, F_Even___init__ := ⟨_, fun_mk (st := s_Even___init__) lo_Even___init__ cd_ok_Even___init__ kp_Even___init__⟩, F_Even_shows := ⟨_, fun_mk (st := s_Even_shows) lo_Even_shows cd_ok_Even_shows kp_Even_shows⟩, F_Odd___init__ := ⟨_, fun_mk (st := s_Odd___init__) lo_Odd___init__ cd_ok_Odd___init__ kp_Odd___init__⟩, F_Odd_shows := ⟨_, fun_mk (st := s_Odd_shows) lo_Odd_shows cd_ok_Odd_shows kp_Odd_shows⟩, F_Shares___init__ := ⟨_, fun_mk (st := s_Shares___init__) lo_Shares___init__ cd_ok_Shares___init__ kp_Shares___init__⟩, F_Shares_shows := ⟨_, fun_mk (st := s_Shares_shows) lo_Shares_shows cd_ok_Shares_shows kp_Shares_shows⟩, F_Ring___init__ := ⟨_, fun_mk (st := s_Ring___init__) lo_Ring___init__ cd_ok_Ring___init__ kp_Ring___init__⟩, F_Ring_shows := ⟨_, fun_mk (st := s_Ring_shows) lo_Ring_shows cd_ok_Ring_shows kp_Ring_shows⟩, g_circuit := PySem.W.mg_of X G ns_circuit, F_circuit := ⟨_, fun_mk (st := s_circuit) lo_circuit cd_ok_circuit kp_circuit⟩, g_nearly_of := PySem.W.mg_of X G ns_nearly_of, F_nearly_of := ⟨_, fun_mk (st := s_nearly_of) lo_nearly_of cd_ok_nearly_of kp_nearly_of⟩, g_nearly := PySem.W.mg_of X G ns_nearly, F_nearly := ⟨_, fun_mk (st := s_nearly) lo_nearly cd_ok_nearly kp_nearly⟩, g_halved_of := PySem.W.mg_of X G ns_halved_of, F_halved_of := ⟨_, fun_mk (st := s_halved_of) lo_halved_of cd_ok_halved_of kp_halved_of⟩, g_halved := PySem.W.mg_of X G ns_halved, F_halved := ⟨_, fun_mk (st := s_halved) lo_halved cd_ok_halved kp_halved⟩, g_odd_ring := PySem.W.mg_of X G ns_odd_ring, F_odd_ring := ⟨_, fun_mk (st := s_odd_ring) lo_odd_ring cd_ok_odd_ring kp_odd_ring⟩, g_way_up := PySem.W.mg_of X G ns_way_up, F_way_up := ⟨_, fun_mk (st := s_way_up) lo_way_up cd_ok_way_up kp_way_up⟩, g_closed := PySem.W.mg_of X G ns_closed, F_closed := ⟨_, fun_mk (st := s_closed) lo_closed cd_ok_closed kp_closed⟩, g_spread := PySem.W.mg_of X G ns_spread, F_spread := ⟨_, fun_mk (st := s_spread) lo_spread cd_ok_spread kp_spread⟩, g_is_uneven := PySem.W.mg_of X G ns_is_uneven, F_is_uneven := ⟨_, fun_mk (st := s_is_uneven) lo_is_uneven cd_ok_is_uneven kp_is_uneven⟩, g_shared := PySem.W.mg_of X G ns_shared, F_shared := ⟨_, fun_mk (st := s_shared) lo_shared cd_ok_shared kp_shared⟩, g__law_refused := PySem.W.mg_of X G ns__law_refused, F__law_refused := ⟨_, fun_mk (st := s__law_refused) lo__law_refused cd_ok__law_refused kp__law_refused⟩, g__law_plain := PySem.W.mg_of X G ns__law_plain, F__law_plain := ⟨_, fun_mk (st := s__law_plain) lo__law_plain cd_ok__law_plain kp__law_plain⟩, g__law_truths := PySem.W.mg_of X G ns__law_truths, F__law_truths := ⟨_, fun_mk (st := s__law_truths) lo__law_truths cd_ok__law_truths kp__law_truths⟩, g__law_counts := PySem.W.mg_of X G ns__law_counts, F__law_counts := ⟨_, fun_mk (st := s__law_counts) lo__law_counts cd_ok__law_counts kp__law_counts⟩, g__law_even_right := PySem.W.mg_of X G ns__law_even_right, F__law_even_right := ⟨_, fun_mk (st := s__law_even_right) lo__law_even_right cd_ok__law_even_right kp__law_even_right⟩, g__law_two_right := PySem.W.mg_of X G ns__law_two_right, F__law_two_right := ⟨_, fun_mk (st := s__law_two_right) lo__law_two_right cd_ok__law_two_right kp__law_two_right⟩, g__law_known_right := PySem.W.mg_of X G ns__law_known_right, F__law_known_right := ⟨_, fun_mk (st := s__law_known_right) lo__law_known_right cd_ok__law_known_right kp__law_known_right⟩, g__law_changed_right := PySem.W.mg_of X G ns__law_changed_right, F__law_changed_right := ⟨_, fun_mk (st := s__law_changed_right) lo__law_changed_right cd_ok__law_changed_right kp__law_changed_right⟩, g__law_bad_right := PySem.W.mg_of X G ns__law_bad_right, C__law_bad_right := ⟨_, ⟨⟨_, _, _, _, _, _, _, _, rfl, lo__law_bad_right, cd_ok__law_bad_right⟩⟩, fun_mk (st := s__law_bad_right) lo__law_bad_right cd_ok__law_bad_right kp__law_bad_right⟩, g__law_far := PySem.W.mg_of X G ns__law_far, F__law_far := ⟨_, fun_mk (st := s__law_far) lo__law_far cd_ok__law_far kp__law_far⟩, g__law_promises_right := PySem.W.mg_of X G ns__law_promises_right, F__law_promises_right := ⟨_, fun_mk (st := s__law_promises_right) lo__law_promises_right cd_ok__law_promises_right kp__law_promises_right⟩, g__law_more_promises := PySem.W.mg_of X G ns__law_more_promises, F__law_more_promises := ⟨_, fun_mk (st := s__law_more_promises) lo__law_more_promises cd_ok__law_more_promises kp__law_more_promises⟩, g_law := PySem.W.mg_of X G ns_law, F_law := ⟨_, fun_mk (st := s_law) lo_law cd_ok_law kp_law⟩, m_Even := ⟨mk_Even, at_Even___init__, fn_Even___init__, kc_Even⟩, m_Even_shows := ⟨at_Even_shows, fn_Even_shows, kp_Even_shows⟩, m_Odd := ⟨mk_Odd, at_Odd___init__, fn_Odd___init__, kc_Odd⟩, m_Odd_shows := ⟨at_Odd_shows, fn_Odd_shows, kp_Odd_shows⟩, m_Shares := ⟨mk_Shares, at_Shares___init__, fn_Shares___init__, kc_Shares⟩, m_Shares_shows := ⟨at_Shares_shows, fn_Shares_shows, kp_Shares_shows⟩, m_Ring := ⟨mk_Ring, at_Ring___init__, fn_Ring___init__, kc_Ring⟩, m_Ring_shows := ⟨at_Ring_shows, fn_Ring_shows, kp_Ring_shows⟩, n_ValueError := PySem.W.mg_none_of X G nn_ValueError, n_len := PySem.W.mg_none_of X G nn_len, n_abs := PySem.W.mg_none_of X G nn_abs, n_sum := PySem.W.mg_none_of X G nn_sum, n_all := PySem.W.mg_none_of X G nn_all, n_any := PySem.W.mg_none_of X G nn_any, n_min := PySem.W.mg_none_of X G nn_min, n_max := PySem.W.mg_none_of X G nn_max, n_sorted := PySem.W.mg_none_of X G nn_sorted, n_list := PySem.W.mg_none_of X G nn_list, n_set := PySem.W.mg_none_of X G nn_set, n_range := PySem.W.mg_none_of X G nn_range, n_enumerate := PySem.W.mg_none_of X G nn_enumerate, n_zip := PySem.W.mg_none_of X G nn_zip, n_isinstance := PySem.W.mg_none_of X G nn_isinstance, n_int := PySem.W.mg_none_of X G nn_int, n_bool := PySem.W.mg_none_of X G nn_bool, n_tuple := PySem.W.mg_none_of X G nn_tuple, n_str := PySem.W.mg_none_of X G nn_str, g_MOST := (ns_MOST).elim fun t h => ⟨t, PySem.W.mg_of X G h⟩, g_MOST_TIES := (ns_MOST_TIES).elim fun t h => ⟨t, PySem.W.mg_of X G h⟩, x_BadPlaces := xx_BadPlaces, k_BadPlaces := xk_BadPlaces, b_BadPlaces := xb_BadPlaces, t_BadPlaces := xt_BadPlaces, x_BadTies := xx_BadTies, k_BadTies := xk_BadTies, b_BadTies := xb_BadTies, t_BadTies := xt_BadTies, x_BadMany := xx_BadMany, k_BadMany := xk_BadMany, b_BadMany := xb_BadMany, t_BadMany := xt_BadMany }
  exact ⟨PySem.W.fnOf "law" "law" (defArgs s_law) (defBody s_law) (defScope s_law) .none kV_law dc_law pm_law an_law cd_law ct_law, fun s v => .of_eq rfl, fun base _ _ tb => ok_law T tb (fun_mk (st := s_law) lo_law cd_ok_law kp_law)⟩


end
end TW
open PySem PySem.W PyProof.Rows
set_option maxHeartbeats 0 in
theorem PySem.Challenge.cw_tiehalves_k06_whole_known_holds : PySem.Challenge.rw_tiehalves_k06_whole_known.Holds := by
  w_on; o_law; k_head; (case hw => w_witness2)
  k_fill
  refine TB.walk_tab (l := PySem.Challenge.rw_tiehalves_k06_whole_known) (n := 63) (k := 8) (x := "_law_script") rfl (by decide) rfl ⟨rfl, by decide, by decide⟩ (fun w h Y => PySem.W.km_in_of Y) ?F
  case F =>
    intro w mg fa h KX G hmg tabs
    refine' TW.law_at2 KX G tabs ?rec ?nsb ?lkb ?db ?cb ?lkc ?vb ?nT ?all
    (case nsb => k_is)
    (case lkb => k_is)
    (case db => exact rfl)
    (case cb => exact rfl)
    (case lkc => k_is)
    (case vb => exact rfl)
    (case nT => kernel_rfl)
    (case rec => kernel_rfl)
    case all =>
    refine' TW.all_mk KX G hmg ?ns_TieError ?ns_BadPlaces ?ns_BadTies ?ns_BadMany ?ns_Even ?ns_Odd ?ns_Shares ?ns_Ring ?ns_is_number ?ns_is_tie ?ns_asked_web ?ns_counts ?ns_part_of ?ns_is_odd_part ?ns_are_even ?ns_circuit ?ns_nearly_of ?ns_nearly ?ns_halved_of ?ns_halved ?ns_odd_ring ?ns_way_up ?ns_closed ?ns_spread ?ns_is_uneven ?ns_shared ?ns__law_refused ?ns__law_plain ?ns__law_truths ?ns__law_counts ?ns__law_even_right ?ns__law_two_right ?ns__law_known_right ?ns__law_changed_right ?ns__law_bad_right ?ns__law_far ?ns__law_promises_right ?ns__law_more_promises ?ns_law ?ns_MOST ?ns_MOST_TIES ?at_Even___init__ ?at_Even_shows ?at_Odd___init__ ?at_Odd_shows ?at_Shares___init__ ?at_Shares_shows ?at_Ring___init__ ?at_Ring_shows ?gs_ ?cc_Even ?ct_Even ?cc_Odd ?ct_Odd ?cc_Shares ?ct_Shares ?cc_Ring ?ct_Ring ?tk_ ?gsE_ ?tkE_ ?tbT_ ?tdT_ ?ttT_ ?ga_BadPlaces ?gg_BadPlaces ?gd_BadPlaces ?gc_BadPlaces ?go_BadPlaces ?st_BadPlaces ?sv_BadPlaces ?ic_BadPlaces ?sj_BadPlaces_BadPlaces ?sj_BadPlaces_BadTies ?sj_BadPlaces_BadMany ?ga_BadTies ?gg_BadTies ?gd_BadTies ?gc_BadTies ?go_BadTies ?st_BadTies ?sv_BadTies ?ic_BadTies ?sj_BadTies_BadPlaces ?sj_BadTies_BadTies ?sj_BadTies_BadMany ?ga_BadMany ?gg_BadMany ?gd_BadMany ?gc_BadMany ?go_BadMany ?st_BadMany ?sv_BadMany ?ic_BadMany ?sj_BadMany_BadPlaces ?sj_BadMany_BadTies ?sj_BadMany_BadMany ?pg_Even ?hd_Even ?po_Even ?sa_Even ?mk_Even ?kc_Even ?na_Even ?hc_Even ?mr_Even ?sb_Even_Even ?sb_Even_Odd ?sb_Even_Shares ?sb_Even_Ring ?ss_Even ?pg_Odd ?hd_Odd ?po_Odd ?sa_Odd ?mk_Odd ?kc_Odd ?na_Odd ?hc_Odd ?mr_Odd ?sb_Odd_Even ?sb_Odd_Odd ?sb_Odd_Shares ?sb_Odd_Ring ?ss_Odd ?pg_Shares ?hd_Shares ?po_Shares ?sa_Shares ?mk_Shares ?kc_Shares ?na_Shares ?hc_Shares ?mr_Shares ?sb_Shares_Even ?sb_Shares_Odd ?sb_Shares_Shares ?sb_Shares_Ring ?ss_Shares ?pg_Ring ?hd_Ring ?po_Ring ?sa_Ring ?mk_Ring ?kc_Ring ?na_Ring ?hc_Ring ?mr_Ring ?sb_Ring_Even ?sb_Ring_Odd ?sb_Ring_Shares ?sb_Ring_Ring ?ss_Ring ?lo_is_number ?cd_ok_is_number ?kp_is_number ?lo_is_tie ?cd_ok_is_tie ?kp_is_tie ?lo_asked_web ?cd_ok_asked_web ?kp_asked_web ?lo_counts ?cd_ok_counts ?kp_counts ?lo_part_of ?cd_ok_part_of ?kp_part_of ?lo_is_odd_part ?cd_ok_is_odd_part ?kp_is_odd_part ?lo_are_even ?cd_ok_are_even ?kp_are_even ?fn_Even___init__ ?lo_Even___init__ ?cd_ok_Even___init__ ?kp_Even___init__ ?fn_Even_shows ?lo_Even_shows ?cd_ok_Even_shows ?kp_Even_shows ?fn_Odd___init__ ?lo_Odd___init__ ?cd_ok_Odd___init__ ?kp_Odd___init__ ?fn_Odd_shows ?lo_Odd_shows ?cd_ok_Odd_shows ?kp_Odd_shows ?fn_Shares___init__ ?lo_Shares___init__ ?cd_ok_Shares___init__ ?kp_Shares___init__ ?fn_Shares_shows ?lo_Shares_shows ?cd_ok_Shares_shows ?kp_Shares_shows ?fn_Ring___init__ ?lo_Ring___init__ ?cd_ok_Ring___init__ ?kp_Ring___init__ ?fn_Ring_shows ?lo_Ring_shows ?cd_ok_Ring_shows ?kp_Ring_shows ?lo_circuit ?cd_ok_circuit ?kp_circuit ?lo_nearly_of ?cd_ok_nearly_of ?kp_nearly_of ?lo_nearly ?cd_ok_nearly ?kp_nearly ?lo_halved_of ?cd_ok_halved_of ?kp_halved_of ?lo_halved ?cd_ok_halved ?kp_halved ?lo_odd_ring ?cd_ok_odd_ring ?kp_odd_ring ?lo_way_up ?cd_ok_way_up ?kp_way_up ?lo_closed ?cd_ok_closed ?kp_closed ?lo_spread ?cd_ok_spread ?kp_spread ?lo_is_uneven ?cd_ok_is_uneven ?kp_is_uneven ?lo_shared ?cd_ok_shared ?kp_shared ?lo__law_refused ?cd_ok__law_refused ?kp__law_refused ?lo__law_plain ?cd_ok__law_plain ?kp__law_plain ?lo__law_truths ?cd_ok__law_truths ?kp__law_truths ?lo__law_counts ?cd_ok__law_counts ?kp__law_counts ?lo__law_even_right ?cd_ok__law_even_right ?kp__law_even_right ?lo__law_two_right ?cd_ok__law_two_right ?kp__law_two_right ?lo__law_known_right ?cd_ok__law_known_right ?kp__law_known_right ?lo__law_changed_right ?cd_ok__law_changed_right ?kp__law_changed_right ?lo__law_bad_right ?cd_ok__law_bad_right ?kp__law_bad_right ?lo__law_far ?cd_ok__law_far ?kp__law_far ?lo__law_promises_right ?cd_ok__law_promises_right ?kp__law_promises_right ?lo__law_more_promises ?cd_ok__law_more_promises ?kp__law_more_promises ?lo_law ?cd_ok_law ?kp_law ?nn_ValueError ?nn_len ?nn_abs ?nn_sum ?nn_all ?nn_any ?nn_min ?nn_max ?nn_sorted ?nn_list ?nn_set ?nn_range ?nn_enumerate ?nn_zip ?nn_isinstance ?nn_int ?nn_bool ?nn_tuple ?nn_str ?xx_BadPlaces ?xk_BadPlaces ?xb_BadPlaces ?xt_BadPlaces ?xx_BadTies ?xk_BadTies ?xb_BadTies ?xt_BadTies ?xx_BadMany ?xk_BadMany ?xb_BadMany ?xt_BadMany
    (case ns_TieError => k_is)
    (case ns_BadPlaces => k_is)
    (case ns_BadTies => k_is)
    (case ns_BadMany => k_is)
    (case ns_Even => k_is)
    (case ns_Odd => k_is)
    (case ns_Shares => k_is)
    (case ns_Ring => k_is)
    (case ns_is_number => k_is)
    (case ns_is_tie => k_is)
    (case ns_asked_web => k_is)
    (case ns_counts => k_is)
    (case ns_part_of => k_is)
    (case ns_is_odd_part => k_is)
    (case ns_are_even => k_is)
    (case ns_circuit => k_is)
    (case ns_nearly_of => k_is)
    (case ns_nearly => k_is)
    (case ns_halved_of => k_is)
    (case ns_halved => k_is)
    (case ns_odd_ring => k_is)
    (case ns_way_up => k_is)
    (case ns_closed => k_is)
    (case ns_spread => k_is)
    (case ns_is_uneven => k_is)
    (case ns_shared => k_is)
    (case ns__law_refused => k_is)
    (case ns__law_plain => k_is)
    (case ns__law_truths => k_is)
    (case ns__law_counts => k_is)
    (case ns__law_even_right => k_is)
    (case ns__law_two_right => k_is)
    (case ns__law_known_right => k_is)
    (case ns__law_changed_right => k_is)
    (case ns__law_bad_right => k_is)
    (case ns__law_far => k_is)
    (case ns__law_promises_right => k_is)
    (case ns__law_more_promises => k_is)
    (case ns_law => k_is)
    (case ns_MOST => exact ⟨_, by k_is⟩)
    (case ns_MOST_TIES => exact ⟨_, by k_is⟩)
    (case at_Even___init__ => k_is)
    (case at_Even_shows => k_is)
    (case at_Odd___init__ => k_is)
    (case at_Odd_shows => k_is)
    (case at_Shares___init__ => k_is)
    (case at_Shares_shows => k_is)
    (case at_Ring___init__ => k_is)
    (case at_Ring_shows => k_is)
    (case gs_ => k_is)
    (case cc_Even => k_is)
    (case ct_Even => k_is)
    (case cc_Odd => k_is)
    (case ct_Odd => k_is)
    (case cc_Shares => k_is)
    (case ct_Shares => k_is)
    (case cc_Ring => k_is)
    (case ct_Ring => k_is)
    (case tk_ => k_is)
    (case gsE_ => k_is)
    (case tkE_ => k_is)
    (case tbT_ => k_is)
    (case tdT_ => k_is)
    (case ttT_ => k_is)
    (case ga_BadPlaces => k_is)
    (case gg_BadPlaces => k_is)
    (case gd_BadPlaces => k_is)
    (case gc_BadPlaces => k_is)
    (case go_BadPlaces => k_is)
    (case st_BadPlaces => k_is)
    (case sv_BadPlaces => k_is)
    (case ic_BadPlaces => k_is)
    (case sj_BadPlaces_BadPlaces => k_is)
    (case sj_BadPlaces_BadTies => k_is)
    (case sj_BadPlaces_BadMany => k_is)
    (case ga_BadTies => k_is)
    (case gg_BadTies => k_is)
    (case gd_BadTies => k_is)
    (case gc_BadTies => k_is)
    (case go_BadTies => k_is)
    (case st_BadTies => k_is)
    (case sv_BadTies => k_is)
    (case ic_BadTies => k_is)
    (case sj_BadTies_BadPlaces => k_is)
    (case sj_BadTies_BadTies => k_is)
    (case sj_BadTies_BadMany => k_is)
    (case ga_BadMany => k_is)
    (case gg_BadMany => k_is)
    (case gd_BadMany => k_is)
    (case gc_BadMany => k_is)
    (case go_BadMany => k_is)
    (case st_BadMany => k_is)
    (case sv_BadMany => k_is)
    (case ic_BadMany => k_is)
    (case sj_BadMany_BadPlaces => k_is)
    (case sj_BadMany_BadTies => k_is)
    (case sj_BadMany_BadMany => k_is)
    (case pg_Even => k_is)
    (case hd_Even => k_is)
    (case po_Even => k_is)
    (case sa_Even => k_is)
    (case mk_Even => k_is)
    (case kc_Even => k_is)
    (case na_Even => k_is)
    (case hc_Even => k_is)
    (case mr_Even => k_is)
    (case sb_Even_Even => k_is)
    (case sb_Even_Odd => k_is)
    (case sb_Even_Shares => k_is)
    (case sb_Even_Ring => k_is)
    (case ss_Even => k_is)
    (case pg_Odd => k_is)
    (case hd_Odd => k_is)
    (case po_Odd => k_is)
    (case sa_Odd => k_is)
    (case mk_Odd => k_is)
    (case kc_Odd => k_is)
    (case na_Odd => k_is)
    (case hc_Odd => k_is)
    (case mr_Odd => k_is)
    (case sb_Odd_Even => k_is)
    (case sb_Odd_Odd => k_is)
    (case sb_Odd_Shares => k_is)
    (case sb_Odd_Ring => k_is)
    (case ss_Odd => k_is)
    (case pg_Shares => k_is)
    (case hd_Shares => k_is)
    (case po_Shares => k_is)
    (case sa_Shares => k_is)
    (case mk_Shares => k_is)
    (case kc_Shares => k_is)
    (case na_Shares => k_is)
    (case hc_Shares => k_is)
    (case mr_Shares => k_is)
    (case sb_Shares_Even => k_is)
    (case sb_Shares_Odd => k_is)
    (case sb_Shares_Shares => k_is)
    (case sb_Shares_Ring => k_is)
    (case ss_Shares => k_is)
    (case pg_Ring => k_is)
    (case hd_Ring => k_is)
    (case po_Ring => k_is)
    (case sa_Ring => k_is)
    (case mk_Ring => k_is)
    (case kc_Ring => k_is)
    (case na_Ring => k_is)
    (case hc_Ring => k_is)
    (case mr_Ring => k_is)
    (case sb_Ring_Even => k_is)
    (case sb_Ring_Odd => k_is)
    (case sb_Ring_Shares => k_is)
    (case sb_Ring_Ring => k_is)
    (case ss_Ring => k_is)
    (case lo_is_number => k_is)
    (case cd_ok_is_number => k_is)
    (case kp_is_number => k_is)
    (case lo_is_tie => k_is)
    (case cd_ok_is_tie => k_is)
    (case kp_is_tie => k_is)
    (case lo_asked_web => k_is)
    (case cd_ok_asked_web => k_is)
    (case kp_asked_web => k_is)
    (case lo_counts => k_is)
    (case cd_ok_counts => k_is)
    (case kp_counts => k_is)
    (case lo_part_of => k_is)
    (case cd_ok_part_of => k_is)
    (case kp_part_of => k_is)
    (case lo_is_odd_part => k_is)
    (case cd_ok_is_odd_part => k_is)
    (case kp_is_odd_part => k_is)
    (case lo_are_even => k_is)
    (case cd_ok_are_even => k_is)
    (case kp_are_even => k_is)
    (case fn_Even___init__ => k_is)
    (case lo_Even___init__ => k_is)
    (case cd_ok_Even___init__ => k_is)
    (case kp_Even___init__ => k_is)
    (case fn_Even_shows => k_is)
    (case lo_Even_shows => k_is)
    (case cd_ok_Even_shows => k_is)
    (case kp_Even_shows => k_is)
    (case fn_Odd___init__ => k_is)
    (case lo_Odd___init__ => k_is)
    (case cd_ok_Odd___init__ => k_is)
    (case kp_Odd___init__ => k_is)
    (case fn_Odd_shows => k_is)
    (case lo_Odd_shows => k_is)
    (case cd_ok_Odd_shows => k_is)
    (case kp_Odd_shows => k_is)
    (case fn_Shares___init__ => k_is)
    (case lo_Shares___init__ => k_is)
    (case cd_ok_Shares___init__ => k_is)
    (case kp_Shares___init__ => k_is)
    (case fn_Shares_shows => k_is)
    (case lo_Shares_shows => k_is)
    (case cd_ok_Shares_shows => k_is)
    (case kp_Shares_shows => k_is)
    (case fn_Ring___init__ => k_is)
    (case lo_Ring___init__ => k_is)
    (case cd_ok_Ring___init__ => k_is)
    (case kp_Ring___init__ => k_is)
    (case fn_Ring_shows => k_is)
    (case lo_Ring_shows => k_is)
    (case cd_ok_Ring_shows => k_is)
    (case kp_Ring_shows => k_is)
    (case lo_circuit => k_is)
    (case cd_ok_circuit => k_is)
    (case kp_circuit => k_is)
    (case lo_nearly_of => k_is)
    (case cd_ok_nearly_of => k_is)
    (case kp_nearly_of => k_is)
    (case lo_nearly => k_is)
    (case cd_ok_nearly => k_is)
    (case kp_nearly => k_is)
    (case lo_halved_of => k_is)
    (case cd_ok_halved_of => k_is)
    (case kp_halved_of => k_is)
    (case lo_halved => k_is)
    (case cd_ok_halved => k_is)
    (case kp_halved => k_is)
    (case lo_odd_ring => k_is)
    (case cd_ok_odd_ring => k_is)
    (case kp_odd_ring => k_is)
    (case lo_way_up => k_is)
    (case cd_ok_way_up => k_is)
    (case kp_way_up => k_is)
    (case lo_closed => k_is)
    (case cd_ok_closed => k_is)
    (case kp_closed => k_is)
    (case lo_spread => k_is)
    (case cd_ok_spread => k_is)
    (case kp_spread => k_is)
    (case lo_is_uneven => k_is)
    (case cd_ok_is_uneven => k_is)
    (case kp_is_uneven => k_is)
    (case lo_shared => k_is)
    (case cd_ok_shared => k_is)
    (case kp_shared => k_is)
    (case lo__law_refused => k_is)
    (case cd_ok__law_refused => k_is)
    (case kp__law_refused => k_is)
    (case lo__law_plain => k_is)
    (case cd_ok__law_plain => k_is)
    (case kp__law_plain => k_is)
    (case lo__law_truths => k_is)
    (case cd_ok__law_truths => k_is)
    (case kp__law_truths => k_is)
    (case lo__law_counts => k_is)
    (case cd_ok__law_counts => k_is)
    (case kp__law_counts => k_is)
    (case lo__law_even_right => k_is)
    (case cd_ok__law_even_right => k_is)
    (case kp__law_even_right => k_is)
    (case lo__law_two_right => k_is)
    (case cd_ok__law_two_right => k_is)
    (case kp__law_two_right => k_is)
    (case lo__law_known_right => k_is)
    (case cd_ok__law_known_right => k_is)
    (case kp__law_known_right => k_is)
    (case lo__law_changed_right => k_is)
    (case cd_ok__law_changed_right => k_is)
    (case kp__law_changed_right => k_is)
    (case lo__law_bad_right => k_is)
    (case cd_ok__law_bad_right => k_is)
    (case kp__law_bad_right => k_is)
    (case lo__law_far => k_is)
    (case cd_ok__law_far => k_is)
    (case kp__law_far => k_is)
    (case lo__law_promises_right => k_is)
    (case cd_ok__law_promises_right => k_is)
    (case kp__law_promises_right => k_is)
    (case lo__law_more_promises => k_is)
    (case cd_ok__law_more_promises => k_is)
    (case kp__law_more_promises => k_is)
    (case lo_law => k_is)
    (case cd_ok_law => k_is)
    (case kp_law => k_is)
    (case nn_ValueError => k_is)
    (case nn_len => k_is)
    (case nn_abs => k_is)
    (case nn_sum => k_is)
    (case nn_all => k_is)
    (case nn_any => k_is)
    (case nn_min => k_is)
    (case nn_max => k_is)
    (case nn_sorted => k_is)
    (case nn_list => k_is)
    (case nn_set => k_is)
    (case nn_range => k_is)
    (case nn_enumerate => k_is)
    (case nn_zip => k_is)
    (case nn_isinstance => k_is)
    (case nn_int => k_is)
    (case nn_bool => k_is)
    (case nn_tuple => k_is)
    (case nn_str => k_is)
    (case xx_BadPlaces => k_exc)
    (case xk_BadPlaces => k_is)
    (case xb_BadPlaces => k_is)
    (case xt_BadPlaces => k_is)
    (case xx_BadTies => k_exc)
    (case xk_BadTies => k_is)
    (case xb_BadTies => k_is)
    (case xt_BadTies => k_is)
    (case xx_BadMany => k_exc)
    (case xk_BadMany => k_is)
    (case xb_BadMany => k_is)
    (case xt_BadMany => k_is)
